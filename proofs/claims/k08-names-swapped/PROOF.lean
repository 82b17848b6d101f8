import PyProof.Rows.All
import Wide.All
import OpenK.AllK
import Wide.FinOn
import HandS.ForMost
import HandS.IsInst
import HandS.TupAny
import HandS.Small
import HandS.Conv
import HandS.Finally
import HandS.DeepEq
import HandS.TupLen
import HandS.Codes
import PySem.Challenge.RW_asknest_k08_names_swapped
set_option Elab.async false
set_option linter.all false
set_option maxRecDepth 100000
set_option maxHeartbeats 4000000
/-! AN: own kit over HandS: calls bundled, general rules, data in tuples, heaps that grow. -/
namespace AN
open PySem PySem.Spec PyProof.Rows L2

/-- marks the written part in a context -/
structure Kk (K : PySem.W.Frag) : Prop where
  ok : True
/-! ### calls -/
structure Cal (P : Program) (w : World) (K : PySem.W.Frag) (mg : Str → Option Value) (base : Heap) (CX : CXT) (k : Nat) (x : Str) (ps : List Str) (sp : Sp) : Prop where
  ex : ∃ f fd, FnOk P w K mg base CX k f fd ps sp ∧ mg x = some (.ref f) ∧ PySem.W.keepIn K (.ref f) = true ∧ ∀ us : List Value, us.length = ps.length → bindArgs fd ⟨us, []⟩ = pure (ps.zip us)
section
variable {X : Cx} {CX : CXT} {k : Nat} {x : Str} {ps : List Str} {sp : Sp} {E : XK} {p pos : Pos} {e : Expr} {es : List Expr} {t : TA}
theorem pe_cal (C : Cal X.prog X.w X.K X.mg X.base CX k x ps sp) (hr : Room k X.A) (hg : Gl X x) (hx : Passes CX X E)
    (ha : PA X (e :: es) t) (hdb : (x == ("__debug__" : Str)) = false := by decide) (he : starEach (e :: es) X.env = (false, eval e X.env) :: starEach es X.env := by rfl) (hpl : (backTo pos (starEach es X.env)).any (·.1) = false := by rfl) :
    PE X (.Call (.Name x p) (e :: es) [] pos) (tCall sp [] E t) := by
  obtain ⟨f, fd, F, m, kp, b⟩ := C.ex
  exact pe_call F hr hg m kp (.all b) .nil hx ha hdb he hpl
theorem pe_cal0 (C : Cal X.prog X.w X.K X.mg X.base CX k x ps sp) (hr : Room k X.A) (hg : Gl X x) (hx : Passes CX X E)
    (hdb : (x == ("__debug__" : Str)) = false := by decide) : PE X (.Call (.Name x p) [] [] pos) (tCall sp [] E tNil) := by
  obtain ⟨f, fd, F, m, kp, b⟩ := C.ex
  exact pe_call0 F hr hg m kp (.all b) .nil hx hdb
theorem Cal.mono {P : Program} {w : World} {K : PySem.W.Frag} {mg : Str → Option Value} {base : Heap} {j : Nat} (C : Cal P w K mg base CX j x ps sp) (h : j ≤ k) : Cal P w K mg base CX k x ps sp := by
  obtain ⟨f, fd, F, m⟩ := C.ex
  exact ⟨f, fd, F.mono h, m⟩
theorem Cal.imp {P : Program} {w : World} {K : PySem.W.Frag} {mg : Str → Option Value} {base : Heap} {sp' : Sp} (C : Cal P w K mg base CX k x ps sp) (h : ∀ vs H Q E, sp' vs H Q E → sp vs H Q E) : Cal P w K mg base CX k x ps sp' := by
  obtain ⟨f, fd, F, m⟩ := C.ex
  exact ⟨f, fd, F.imp h, m⟩
/-- a def as the top leaves it -/
def Def (K : PySem.W.Frag) (mg : Str → Option Value) (x : Str) (st : Stmt) (ps : List Str) : Prop :=
  ∃ f fd, Fun K x x st f fd ∧ mg x = some (.ref f) ∧ ∀ us : List Value, us.length = ps.length → bindArgs fd ⟨us, []⟩ = pure (ps.zip us)
theorem Def.cal {P : Program} {w : World} {K : PySem.W.Frag} {mg : Str → Option Value} {base : Heap} {st : Stmt} {N : List Str} (D : Def K mg x st ps) (S : FnScope N ps (defScope st)) (z : List (Option V)) (hz : List.replicate (N.length - ps.length) none = z) (len : ∀ vs H Q E, sp vs H Q E → vs.length = ps.length)
    (hbody : ∀ (f : Addr) (cdv : Value) (A : Around) (outer : List Env) (s : Shared) (H : Hp) (vs : List V) (Q : VK) (E : XK), Kk K → Room k (A.deeper (envOfC x (defScope st) s.heap.objs.size f cdv)) → sp vs H Q E →
      ∃ t, PSs (cxOf CX0 P w K mg base N x (defScope st) f cdv A outer s H E).nox (defBody st) t ∧ t ⟨fun _ H' => Q .non H', Q, fun _ _ => False, fun _ _ => False⟩ (vs.map some ++ z) H) : Cal P w K mg base CX0 (k + 1) x ps sp := by
  obtain ⟨f, fd, F, m, b⟩ := D
  refine ⟨f, fd, F.ok S len (fun cdv A outer s H vs Q E hr h => ?_), m, F.kp, b⟩
  obtain ⟨t, h1, h2⟩ := hbody f cdv A outer s H vs Q E ⟨trivial⟩ hr h
  refine ⟨t, h1, ?_⟩
  have e : L2.start N vs = vs.map some ++ z := by
    unfold L2.start
    rw [len _ _ _ _ h, hz]
  rw [e]
  exact h2
end

section
theorem fun_ok {P : Program} {w : World} {K : PySem.W.Frag} {mg : Str → Option Value} {base : Heap} {x : Str} {st : Stmt} {f : Addr} {fd : FuncData} {N ps : List Str} {k : Nat} {sp : Sp} (F : Fun K x x st f fd) (S : FnScope N ps (defScope st)) (z : List (Option V)) (hz : List.replicate (N.length - ps.length) none = z) (len : ∀ vs H Q E, sp vs H Q E → vs.length = ps.length)
    (hbody : ∀ (f : Addr) (cdv : Value) (A : Around) (outer : List Env) (s : Shared) (H : Hp) (vs : List V) (Q : VK) (E : XK), Kk K → Room k (A.deeper (envOfC x (defScope st) s.heap.objs.size f cdv)) → sp vs H Q E →
      ∃ t, PSs (cxOf CX0 P w K mg base N x (defScope st) f cdv A outer s H E).nox (defBody st) t ∧ t ⟨fun _ H' => Q .non H', Q, fun _ _ => False, fun _ _ => False⟩ (vs.map some ++ z) H) : FnOk P w K mg base CX0 (k + 1) f fd ps sp := by
  refine F.ok S len (fun cdv A outer s H vs Q E hr h => ?_)
  obtain ⟨t, h1, h2⟩ := hbody f cdv A outer s H vs Q E ⟨trivial⟩ hr h
  refine ⟨t, h1, ?_⟩
  have e : L2.start N vs = vs.map some ++ z := by
    unfold L2.start
    rw [len _ _ _ _ h, hz]
  rw [e]
  exact h2
end
/-! ### general rules -/
section
variable {X : Cx}
theorem PSet.or {r r' : TSet} (h : PSet X r) (h' : PSet X r') : PSet X (fun o i v H Q => r o i v H Q ∨ r' o i v H Q) := by
  intro pins s σ H o i v ov iv u Q I ro ri rv q
  rcases q with q | q
  · exact h pins s σ H o i v ov iv u Q I ro ri rv q
  · exact h' pins s σ H o i v ov iv u Q I ro ri rv q
theorem set_G (hu : X.A.units + 1 < cLine) : PSet X (fun o i v H Q => rSetL o i v H Q ∨ rSetD o i v H Q) := PSet.or set_list (set_dict hu)
theorem PI.or {tg e : Expr} {r r' : TI} (h : PI X tg e r) (h' : PI X tg e r') : PI X tg e (fun σ H R => r σ H R ∨ r' σ H R) := by
  refine ⟨fun pins s σ H R I q => ?_⟩
  rcases q with q | q
  · exact h.run pins s σ H R I q
  · exact h'.run pins s σ H R I q
theorem pi_seq {tg e : Expr} {te : TE} (h : PE X e te) : PI X tg e (fun σ H R => iList X.K te σ H R ∨ iTup X.K te σ H R) := PI.or (pi_list h) (pi_tup h)
/-- subscripts: a list, a tuple, a text, a dict -/
def rIxDict : R2 := fun x y H Q => ∃ a v, x = .ref a ∧ DGet H a y (some v) ∧ Q v H
theorem ix_dict (hu : X.A.units + 1 < cLine) : IxR X rIxDict := by
  intro value slice pins s σ H x y v u Q I rx ry h hs
  obtain ⟨a, z, rfl, g, q⟩ := h
  obtain rfl : v = Value.ref a := rx
  unfold subscriptTail
  refine wpAny_bind ?_
  have hT := dict_typeIs I g
  rw [getitemInPython_of_ne hT.not_modules]
  refine wpAny_bind (wpAny_specialOf hT PySem.F.slot_dict_getitem.lookup ?_)
  have h₂ : wpAny (model X.prog X.w) X.A (getItem (.ref a) u) (EP X pins σ Q) X.xe s := d_getItem hu I g ry fun w' s3 I3 rw' => ⟨z, H, I3, rw', q⟩
  have fin : wpAny (model X.prog X.w) X.A (subscripted slice false (.ref a) u) (fun r s₃ => wpAny (model X.prog X.w) X.A (letTemporaryGo value (.ref a) r >>= fun _ => pure r) (EP X pins σ Q) X.xe s₃) X.xe s := by
    rw [hs]
    exact wpAny_operating (wpAny_mono h₂ (fun r s₃ h₃ => wpAny_bind (wpAny_letTemporaryGo (wpAny_pure h₃))) fun _ _ x => x)
  first
    | exact wpAny_pure (wpAny_bind fin)
    | exact wpAny_bind (wpAny_pure (wpAny_bind fin))
    | exact wpAny_bind fin
def rIxG (K : PySem.W.Frag) : R2 := fun x y H Q => rIxT K x y H Q ∨ rIxL K x y H Q ∨ rIxDict x y H Q ∨ rIxS x y H Q
theorem ix_G (hu : X.A.units + 1 < cLine) : IxR X (rIxG X.K) := ix_tup.or (ix_list.or ((ix_dict hu).or ix_str))
/-- == and != -/
def sameOk (v : V) : Prop := flatB v = true ∨ ∃ a, v = .ref a
theorem hits_same {κ : Type} [DecidableEq κ] {A : Around} {s : Shared} {kvs : List (κ × V)} {vb : List (κ × Value)} (rb : KV kvs vb) {ks : List (κ × V)} {va : List (κ × Value)} (ra : KV ks va) :
    (∀ p ∈ ks, valV kvs p.1 = some p.2 ∧ sameOk p.2) → PySem.W.KeqHits A s vb va true := by
  unfold KV at ra
  induction ra with
  | nil => intro _; exact .nil
  | @cons p q ps qs h t k =>
    intro hp
    obtain ⟨h1, h2⟩ := h
    obtain ⟨e, f⟩ := hp p List.mem_cons_self
    have rr : RelO (some p.2) (valueAt vb p.1) := by rw [← e]; exact rb.val p.1
    obtain ⟨y, hy, ry⟩ := rr.some_of
    obtain ⟨key, v⟩ := q
    have h1' : p.1 = key := h1
    rw [h1'] at hy
    show PySem.W.KeqHits A s vb ((key, v) :: qs) (true && true)
    refine .hit hy ?_ (k fun p' hm => hp p' (List.mem_cons_of_mem _ hm))
    rcases f with f | ⟨a, f⟩
    · exact eqAt_same h2 ry f
    · rw [f] at h2 ry
      cases (show v = Value.ref a from h2)
      cases (show y = Value.ref a from ry)
      exact SeqAt.EqAt.same _
/-- two dicts of the very same pairs -/
def rSameD (k : Bool) : R2 := fun x y H Q => ∃ a b kvs, x = .ref a ∧ y = .ref b ∧ H a = some (.dK kvs) ∧ H b = some (.dK kvs) ∧ (∀ p ∈ kvs, valV kvs p.1 = some p.2 ∧ sameOk p.2) ∧ Q (.bl k) H
theorem op_eqSame (hu : X.A.units < cLine) : OpR X (compareOp .Eq) (rSameD true) := by
  intro pins s σ H x y v u Q I rx ry h
  obtain ⟨a, b, kvs, rfl, rfl, ea, eb, hp, q⟩ := h
  obtain rfl : v = Value.ref a := rx
  obtain rfl : u = Value.ref b := ry
  obtain ⟨_, ya, va, ra, da⟩ := (show ObjOk X.prog X.w H s.heap a (.dK kvs) from I.hok a _ ea)
  obtain ⟨_, yb, vb, rb, db⟩ := (show ObjOk X.prog X.w H s.heap b (.dK kvs) from I.hok b _ eb)
  have hl : va.length = vb.length := by rw [← ra.length, ← rb.length]
  exact PySem.W.keq_eq (knd := mixKind X.prog X.w) (r := true) ya yb da db hu (fun _ => hits_same rb ra hp) (fin_bl I q (by simp [hl]))
theorem op_neSame (hu : X.A.units < cLine) : OpR X (compareOp .NotEq) (rSameD false) := by
  intro pins s σ H x y v u Q I rx ry h
  obtain ⟨a, b, kvs, rfl, rfl, ea, eb, hp, q⟩ := h
  obtain rfl : v = Value.ref a := rx
  obtain rfl : u = Value.ref b := ry
  obtain ⟨_, ya, va, ra, da⟩ := (show ObjOk X.prog X.w H s.heap a (.dK kvs) from I.hok a _ ea)
  obtain ⟨_, yb, vb, rb, db⟩ := (show ObjOk X.prog X.w H s.heap b (.dK kvs) from I.hok b _ eb)
  have hl : va.length = vb.length := by rw [← ra.length, ← rb.length]
  exact PySem.W.keq_ne (knd := mixKind X.prog X.w) (r := true) ya yb da db hu (fun _ => hits_same rb ra hp) (fin_bl I q (by simp [hl]))
def rEqG (K : PySem.W.Frag) : R2 := fun x y H Q => rEq x y H Q ∨ rEqD K x y H Q ∨ rSameD true x y H Q
def rNeG (K : PySem.W.Frag) : R2 := fun x y H Q => rNe x y H Q ∨ rNeD K x y H Q ∨ rSameD false x y H Q
theorem op_eqG (hu : X.A.units + 64 < cLine) : OpR X (compareOp .Eq) (rEqG X.K) := op_eq.or ((op_eqD hu).or (op_eqSame (by omega)))
theorem op_neG (hu : X.A.units + 64 < cLine) : OpR X (compareOp .NotEq) (rNeG X.K) := op_ne.or ((op_neD hu).or (op_neSame (by omega)))
/-- in, not in: a dict, a list or tuple of flat things, a sign in a text -/
def rInDict : R2 := fun x y H Q => ∃ a o, y = .ref a ∧ DGet H a x o ∧ Q (.bl o.isSome) H
def rNotInDict : R2 := fun x y H Q => ∃ a o, y = .ref a ∧ DGet H a x o ∧ Q (.bl (!o.isSome)) H
theorem op_inDict (hu : X.A.units + 1 < cLine) : OpR X (compareOp .In) rInDict := by
  intro pins s σ H x y v u Q I rx ry h
  obtain ⟨a, o, rfl, g, q⟩ := h
  obtain rfl : u = Value.ref a := ry
  exact d_in hu I g rx fun s3 I3 => ⟨.bl o.isSome, H, I3, rfl, q⟩
theorem op_notInDict (hu : X.A.units + 1 < cLine) : OpR X (compareOp .NotIn) rNotInDict := by
  intro pins s σ H x y v u Q I rx ry h
  obtain ⟨a, o, rfl, g, q⟩ := h
  obtain rfl : u = Value.ref a := ry
  exact d_notIn hu I g rx fun s3 I3 => ⟨.bl (!o.isSome), H, I3, rfl, q⟩
def rInSign : R2 := fun x y H Q => ∃ (c : Nat) (z : Str), x = .str ⟨#[c]⟩ ∧ y = .str z ∧ Q (.bl (decide (c ∈ z.cps.toList))) H
def rNotInSign : R2 := fun x y H Q => ∃ (c : Nat) (z : Str), x = .str ⟨#[c]⟩ ∧ y = .str z ∧ Q (.bl (!decide (c ∈ z.cps.toList))) H
def rInG (K : PySem.W.Frag) : R2 := fun x y H Q => rIn K false x y H Q ∨ rInDict x y H Q ∨ rInSign x y H Q
def rNotInG (K : PySem.W.Frag) : R2 := fun x y H Q => rIn K true x y H Q ∨ rNotInDict x y H Q ∨ rNotInSign x y H Q
theorem op_inG (hu : X.A.units + 1 < cLine) : OpR X (compareOp .In) (rInG X.K) := op_in_seq.or ((op_inDict hu).or op_in_sign)
theorem op_notInG (hu : X.A.units + 1 < cLine) : OpR X (compareOp .NotIn) (rNotInG X.K) := op_notIn_seq.or ((op_notInDict hu).or op_notIn_sign)
/-- + -/
def rAddI : R2 := rI0 fun i j => .int (i + j)
def rAddS : R2 := fun x y H Q => ∃ i j, x = .str i ∧ y = .str j ∧ i.length + j.length ≤ sizeLine ∧ Q (.str (i ++ j)) H
def rAddG (K : PySem.W.Frag) : R2 := fun x y H Q => rAddI x y H Q ∨ rCatA K x y H Q ∨ rAddS x y H Q ∨ rCat x y H Q
theorem op_addG : OpR X (binaryOp .Add) (rAddG X.K) := op_add.or (op_catA.or (op_add_str.or op_cat))
/-- len -/
def rLenS : List V → Hp → VK → Prop := fun xs H Q => ∃ p ys, xs = [.ref p] ∧ H p = some (.dK ys) ∧ Q (.int ys.length) H
def rLenG (K : PySem.W.Frag) : List V → Hp → VK → Prop := fun xs H Q => (∃ x n, xs = [x] ∧ LenV K x H n ∧ Q (.int n) H) ∨ rLenS xs H Q
theorem call_lenG : CallR X (.builtin "len") (rLenG X.K) := call_len.or call_lenD
/-- list(..) -/
def rListG (K : PySem.W.Frag) : List V → Hp → VK → Prop := fun xs H Q =>
  (∃ p ys, xs = [.ref p] ∧ (SqL K H p ys ∨ SqT K H p ys) ∧ ∀ l, H l = none → Q (.ref l) (upd H l (.lst ys))) ∨
  (∃ (a : Addr) (kvs : List (Key × V)), xs = [.ref a] ∧ Rd H a (.dK kvs) ∧ ∀ p, H p = none → Q (.ref p) (upd H p (.lst (kvs.map fun kv => kV kv.1))))
theorem call_listG (hc : X.calm = true) : CallR X (.type "list") (rListG X.K) := call_list_of.or (call_listD hc)
/-- sorted(..) of texts: of a list, of a dict's keys -/
def rSortedG (K : PySem.W.Frag) : List V → Hp → VK → Prop := fun xs H Q => rSortedS K xs H Q ∨
  (∃ (a : Addr) (kvs : List (Key × V)) (ks : List Str), xs = [.ref a] ∧ Rd H a (.dK kvs) ∧ kvs.map (·.1) = ks.map Sum.inr ∧ ks.length < 64 ∧
    ∀ ys p, ys.Perm ks → sortedS ys = true → H p = none → Q (.ref p) (upd H p (.lst (ys.map V.str))))
theorem call_sortedG (hc : X.calm = true) : CallR X (.builtin "sorted") (rSortedG X.K) := cr_sortedS.or (call_sortedD hc)
/-- slices -/
def rSlG (K : PySem.W.Frag) : V → Option Int → Option Int → Hp → VK → Prop := fun x lo hi H Q => rSlA K x lo hi H Q ∨ rSlL K x lo hi H Q ∨ rSlS x lo hi H Q
theorem sl_G : SlR X (rSlG X.K) := sl_tupA.or (sl_list.or sl_str)
/-- xs[i], for xs[i] += e -/
def rGetL (K : PySem.W.Frag) : V → V → Hp → VK → Prop := fun o i H Q => ∃ p xs j v, o = .ref p ∧ i = .int (j : Nat) ∧ SqL K H p xs ∧ xs[j]? = some v ∧ Q v H
theorem get_list : PGet X (rGetL X.K) := by
  intro pins s σ H o i ov iv Q I ro ri h
  obtain ⟨p, xs, j, v, rfl, rfl, hq, he, q⟩ := h
  cases ro
  obtain ⟨t, rfl⟩ := ri
  obtain ⟨its, r, pl, hz⟩ := I.list hq
  obtain ⟨u, eu, ru⟩ := r.get he
  obtain ⟨hj, _⟩ := List.getElem?_eq_some_iff.mp he
  have hn := line63
  exact wpAny_getItem_list pl.isList (by omega) (by omega) (by simpa using eu) ⟨v, H, I, ru, q⟩
end

/-! ### data in tuples -/
mutual
def Rep (K : PySem.W.Frag) (H : Hp) : PyData → V → Prop
  | .none, v => v = .non
  | .bool b, v => v = .bl b
  | .int i, v => v = .int i
  | .str x, v => v = .str x
  | .tuple ds, v => ∃ a vs, v = .ref a ∧ SqT K H a vs ∧ Reps K H ds vs
  | .list _, _ => False
  | .dict _, _ => False
def Reps (K : PySem.W.Frag) (H : Hp) : List PyData → List V → Prop
  | [], vs => vs = []
  | d :: ds, vs => ∃ v r, vs = v :: r ∧ Rep K H d v ∧ Reps K H ds r
end
/-- the heap has grown; what stands at l may be another; tuples stay -/
structure Fr (l : List Addr) (H H' : Hp) : Prop where
  keep : ∀ b o, H b = some o → b ∉ l → H' b = some o
  tups : ∀ a xs, Rd H a (.tup xs) → Rd H' a (.tup xs)
section
variable {K : PySem.W.Frag} {H H' H1 H2 : Hp} {l l' : List Addr} {a p : Addr} {o u : HO} {d : PyData} {ds : List PyData} {v : V} {vs xs : List V}
theorem Fr.refl (l : List Addr) (H : Hp) : Fr l H H := ⟨fun _ _ h _ => h, fun _ _ h => h⟩
theorem Fr.trans (f : Fr l H H1) (g : Fr l' H1 H2) (h : ∀ b ∈ l', b ∈ l ∨ H b = none) : Fr l H H2 := by
  refine ⟨fun b o e n => ?_, fun a xs q => g.tups _ _ (f.tups _ _ q)⟩
  refine g.keep b o (f.keep b o e n) fun m => ?_
  rcases h b m with z | z
  · exact n z
  · rw [e] at z; cases z
theorem Fr.step (f : Fr l H H1) (g : Fr l H1 H2) : Fr l H H2 := f.trans g fun _ m => .inl m
theorem Fr.step0 (f : Fr l H H1) (g : Fr [] H1 H2) : Fr l H H2 := f.trans g fun _ m => by cases m
theorem Fr.mono (f : Fr l H H1) (h : ∀ b ∈ l, b ∈ l') : Fr l' H H1 := ⟨fun b o e n => f.keep b o e fun m => n (h b m), f.tups⟩
theorem Fr.of0 (f : Fr [] H H1) : Fr l H H1 := f.mono fun _ m => by cases m
theorem Fr.new (h : H p = none) : Fr [] H (upd H p o) := by
  refine ⟨fun b u e _ => ?_, fun a xs q => ?_⟩
  · rw [upd_ne (ne_of_none e h)]; exact e
  · rcases q with q | ⟨z, q⟩
    · exact .inl (by rw [upd_ne (ne_of_none q h)]; exact q)
    · exact .inr ⟨z, by rw [upd_ne (ne_of_none q h)]; exact q⟩
theorem Fr.newL (h : H p = none) : Fr l H (upd H p o) := (Fr.new h).of0
theorem Fr.set (h : H p = some u) (hu : ∀ xs, u ≠ .tup xs) (hf : ∀ z xs, u ≠ .frz z (.tup xs)) : Fr [p] H (upd H p o) := by
  refine ⟨fun b u e n => ?_, fun a xs q => ?_⟩
  · rw [upd_ne (by simpa using n)]; exact e
  · rcases q with q | ⟨z, q⟩
    · exact .inl (by rw [upd_ne (ne_of q h (hu xs).symm)]; exact q)
    · exact .inr ⟨z, by rw [upd_ne (ne_of q h (hf z xs).symm)]; exact q⟩
theorem Fr.setL (h : H p = some (.lst xs)) : Fr [p] H (upd H p o) := Fr.set h (fun _ e => by cases e) (fun _ _ e => by cases e)
theorem Fr.setD {kvs : List (Key × V)} (h : H p = some (.dK kvs)) : Fr [p] H (upd H p o) := Fr.set h (fun _ e => by cases e) (fun _ _ e => by cases e)
theorem Fr.setI {C dx : Addr} {fs : List (Str × V)} (h : H p = some (.ins C dx fs)) : Fr [p] H (upd H p o) := Fr.set h (fun _ e => by cases e) (fun _ _ e => by cases e)
theorem Fr.drop (f : Fr [p] H H1) (n : H p = none) : Fr [] H H1 := (Fr.refl [] H).trans f fun b m => .inr (by rw [List.mem_singleton.mp m]; exact n)
theorem Fr.updN (f : Fr [] H H1) (n : H p = none) (e : H1 p = some (.lst xs)) : Fr [] H (upd H1 p o) := f.trans (Fr.setL e) fun b m => .inr (by rw [List.mem_singleton.mp m]; exact n)
theorem Fr.at (f : Fr [] H H1) (h : H a = some o) : H1 a = some o := f.keep a o h (by simp)
theorem Fr.at1 (f : Fr [p] H H1) (h : H a = some o) (n : a ≠ p) : H1 a = some o := f.keep a o h (by simpa using n)
theorem Fr.free (f : Fr l H H1) (h : H1 a = none) (n : a ∉ l) : H a = none := by
  cases q : H a with
  | none => rfl
  | some z => rw [f.keep a z q n] at h; cases h
theorem at_as (h : H a = some o) : H a = some o := h
theorem fr_as (h : Fr l H H1) : Fr l H H1 := h
theorem Fr.sqT (f : Fr l H H1) (h : SqT K H a xs) : SqT K H1 a xs := by
  rcases h with h | h
  · exact .inl (f.tups _ _ h)
  · exact .inr h
theorem Fr.sqL (f : Fr l H H1) (h : SqL K H a xs) (n : a ∉ l) : SqL K H1 a xs := by
  rcases h with (h | ⟨z, h⟩) | h
  · exact .inl (.inl (f.keep _ _ h n))
  · exact .inl (.inr ⟨z, f.keep _ _ h n⟩)
  · exact .inr h
mutual
theorem Rep.fr (f : Fr l H H1) : ∀ (d : PyData) (v : V), Rep K H d v → Rep K H1 d v
  | .none, _, h => h
  | .bool _, _, h => h
  | .int _, _, h => h
  | .str _, _, h => h
  | .tuple ds, v, h => by
    unfold Rep at h ⊢
    obtain ⟨a, vs, e, q, r⟩ := h
    exact ⟨a, vs, e, f.sqT q, Reps.fr f ds vs r⟩
  | .list _, _, h => by unfold Rep at h; exact h.elim
  | .dict _, _, h => by unfold Rep at h; exact h.elim
theorem Reps.fr (f : Fr l H H1) : ∀ (ds : List PyData) (vs : List V), Reps K H ds vs → Reps K H1 ds vs
  | [], _, h => by unfold Reps at h ⊢; exact h
  | d :: ds, vs, h => by
    unfold Reps at h ⊢
    obtain ⟨v, r, e, h1, h2⟩ := h
    exact ⟨v, r, e, Rep.fr f d v h1, Reps.fr f ds r h2⟩
end
theorem Rep.up (h : Rep K H d v) (f : Fr l H H1) : Rep K H1 d v := Rep.fr f d v h
theorem Reps.up (h : Reps K H ds vs) (f : Fr l H H1) : Reps K H1 ds vs := Reps.fr f ds vs h
mutual
theorem Rep.dp : ∀ (d : PyData) (v : V), Rep K H d v → Dp K H v d
  | .none, _, h => by unfold Rep at h; subst h; exact .non
  | .bool _, _, h => by unfold Rep at h; subst h; exact .bl _
  | .int _, _, h => by unfold Rep at h; subst h; exact .int _
  | .str _, _, h => by unfold Rep at h; subst h; exact .str _
  | .tuple ds, v, h => by
    unfold Rep at h
    obtain ⟨a, vs, e, q, r⟩ := h
    subst e
    exact .tup q (Reps.dp ds vs r)
  | .list _, _, h => by unfold Rep at h; exact h.elim
  | .dict _, _, h => by unfold Rep at h; exact h.elim
theorem Reps.dp : ∀ (ds : List PyData) (vs : List V), Reps K H ds vs → DpAll K H vs ds
  | [], _, h => by unfold Reps at h; subst h; exact .nil
  | d :: ds, vs, h => by
    unfold Reps at h
    obtain ⟨v, r, e, h1, h2⟩ := h
    subst e
    exact .cons (Rep.dp d v h1) (Reps.dp ds r h2)
end
theorem rep_as (h : Rep K H d v) : Rep K H d v := h
theorem reps_as (h : Reps K H ds vs) : Reps K H ds vs := h
theorem rep_int {i : Int} : Rep K H (.int i) (.int i) := by unfold Rep; rfl
theorem rep_str {x : Str} : Rep K H (.str x) (.str x) := by unfold Rep; rfl
theorem rep_bl {b : Bool} : Rep K H (.bool b) (.bl b) := by unfold Rep; rfl
theorem rep_non : Rep K H .none .non := by unfold Rep; rfl
theorem reps_nil : Reps K H [] [] := by unfold Reps; rfl
theorem reps_cons {vs : List V} (h : Rep K H d v) (r : Reps K H ds vs) : Reps K H (d :: ds) (v :: vs) := by unfold Reps; exact ⟨v, vs, rfl, h, r⟩
theorem rep_tup {a : Addr} (q : SqT K H a vs) (r : Reps K H ds vs) : Rep K H (.tuple ds) (.ref a) := by unfold Rep; exact ⟨a, vs, rfl, q, r⟩
theorem Rep.tup_iff : Rep K H (.tuple ds) v ↔ ∃ a vs, v = .ref a ∧ SqT K H a vs ∧ Reps K H ds vs := by unfold Rep; exact Iff.rfl
theorem Reps.cons_iff : Reps K H (d :: ds) vs ↔ ∃ v r, vs = v :: r ∧ Rep K H d v ∧ Reps K H ds r := by
  constructor
  · intro h; unfold Reps at h; exact h
  · intro h; unfold Reps; exact h
theorem Reps.length : ∀ {ds : List PyData} {vs : List V}, Reps K H ds vs → vs.length = ds.length
  | [], _, h => by unfold Reps at h; subst h; rfl
  | d :: ds, vs, h => by
    unfold Reps at h
    obtain ⟨v, r, e, _, h2⟩ := h
    subst e
    rw [List.length_cons, List.length_cons, Reps.length h2]
theorem Reps.get : ∀ {ds : List PyData} {vs : List V} {i : Nat} {d : PyData}, Reps K H ds vs → ds[i]? = some d → ∃ v, vs[i]? = some v ∧ Rep K H d v
  | [], _, _, _, _, e => by simp at e
  | d :: ds, vs, i, x, h, e => by
    unfold Reps at h
    obtain ⟨v, r, ev, h1, h2⟩ := h
    subst ev
    cases i with
    | zero => simp at e; subst e; exact ⟨v, rfl, h1⟩
    | succ i =>
      obtain ⟨y, e1, e2⟩ := Reps.get (i := i) h2 (by simpa using e)
      exact ⟨y, by simpa using e1, e2⟩
theorem Reps.get' : ∀ {ds : List PyData} {vs : List V} {i : Nat} {v : V}, Reps K H ds vs → vs[i]? = some v → ∃ d, ds[i]? = some d ∧ Rep K H d v
  | [], _, _, _, h, e => by unfold Reps at h; subst h; simp at e
  | d :: ds, vs, i, x, h, e => by
    unfold Reps at h
    obtain ⟨v, r, ev, h1, h2⟩ := h
    subst ev
    cases i with
    | zero => simp at e; subst e; exact ⟨d, rfl, h1⟩
    | succ i =>
      obtain ⟨y, e1, e2⟩ := Reps.get' (i := i) h2 (by simpa using e)
      exact ⟨y, by simpa using e1, e2⟩
theorem Reps.append : ∀ {ds es : List PyData} {vs us : List V}, Reps K H ds vs → Reps K H es us → Reps K H (ds ++ es) (vs ++ us)
  | [], _, _, _, h, g => by unfold Reps at h; subst h; exact g
  | d :: ds, es, vs, us, h, g => by
    unfold Reps at h
    obtain ⟨v, r, ev, h1, h2⟩ := h
    subst ev
    exact reps_cons h1 (Reps.append h2 g)
theorem Reps.take : ∀ {ds : List PyData} {vs : List V} (n : Nat), Reps K H ds vs → Reps K H (ds.take n) (vs.take n)
  | _, _, 0, _ => reps_nil
  | [], _, n + 1, h => by unfold Reps at h; subst h; exact reps_nil
  | d :: ds, vs, n + 1, h => by
    unfold Reps at h
    obtain ⟨v, r, ev, h1, h2⟩ := h
    subst ev
    exact reps_cons h1 (Reps.take n h2)
theorem Reps.drop : ∀ {ds : List PyData} {vs : List V} (n : Nat), Reps K H ds vs → Reps K H (ds.drop n) (vs.drop n)
  | _, _, 0, h => h
  | [], _, n + 1, h => by unfold Reps at h; subst h; exact reps_nil
  | d :: ds, vs, n + 1, h => by
    unfold Reps at h
    obtain ⟨v, r, ev, h1, h2⟩ := h
    subst ev
    exact Reps.drop n h2

/-! ### readings over data -/
variable {Q : VK} {i : Nat}
/-- t[i] -/
theorem ix_rep {x : V} (h : Rep K H (.tuple ds) x) (e : ds[i]? = some d) (q : ∀ v, Rep K H d v → Q v H) : rIxG K x (.int (i : Nat)) H Q := by
  obtain ⟨a, vs, rfl, hs, hr⟩ := Rep.tup_iff.mp h
  obtain ⟨v, ev, rv⟩ := hr.get e
  exact .inl ⟨a, vs, i, v, rfl, rfl, hs, atI_nat ev, q v rv⟩
theorem eqG_rep {x y : V} {e : PyData} (h1 : Rep K H d x) (h2 : Rep K H e y) (s1 : SeqAt.shaped d = true) (s2 : SeqAt.shaped e = true) (q : Q (.bl (PyData.eqv d e)) H) : rEqG K x y H Q :=
  .inr (.inl ⟨d, e, Rep.dp d x h1, Rep.dp e y h2, s1, s2, q⟩)
theorem eqv_same (s1 : SeqAt.shaped d = true) : PyData.eqv d d = true := SeqAt.eqv_refl d (SeqAt.canLay_of_shaped s1)
theorem eqG_same {x y : V} (h1 : Rep K H d x) (h2 : Rep K H d y) (s1 : SeqAt.shaped d = true) (q : Q (.bl true) H) : rEqG K x y H Q :=
  eqG_rep h1 h2 s1 s1 (by rw [eqv_same s1]; exact q)
theorem neG_same {x y : V} (h1 : Rep K H d x) (h2 : Rep K H d y) (s1 : SeqAt.shaped d = true) (q : Q (.bl false) H) : rNeG K x y H Q :=
  .inr (.inl ⟨d, d, Rep.dp d x h1, Rep.dp d y h2, s1, s1, by rw [eqv_same s1]; exact q⟩)
theorem neG_dp {x y : V} (h1 : Dp K H x d) (h2 : Dp K H y d) (s1 : SeqAt.shaped d = true) (q : Q (.bl false) H) : rNeG K x y H Q :=
  .inr (.inl ⟨d, d, h1, h2, s1, s1, by rw [eqv_same s1]; exact q⟩)
theorem eqG_str {x y : Str} (q : Q (.bl (decide (V.str x = V.str y))) H) : rEqG K (.str x) (.str y) H Q := .inl ⟨rfl, q⟩
theorem neG_str {x y : Str} (q : Q (.bl (!decide (V.str x = V.str y))) H) : rNeG K (.str x) (.str y) H Q := .inl ⟨rfl, q⟩
theorem eqG_int {x y : Int} (q : Q (.bl (decide (V.int x = V.int y))) H) : rEqG K (.int x) (.int y) H Q := .inl ⟨rfl, q⟩
theorem neG_int {x y : Int} (q : Q (.bl (!decide (V.int x = V.int y))) H) : rNeG K (.int x) (.int y) H Q := .inl ⟨rfl, q⟩
/-- x in (a, b, ..), flat things -/
theorem in_tup {x y : V} {vs : List V} (h : ∃ a, y = .ref a ∧ SqT K H a vs) (f1 : flatV x = true) (f2 : vs.all flatV = true) (q : Q (.bl (inV x vs)) H) : rInG K x y H Q := by
  obtain ⟨a, rfl, hs⟩ := h
  exact .inl ⟨a, vs, rfl, .inr hs, f1, f2, q⟩
theorem len_tup {x : V} (h : Rep K H (.tuple ds) x) (q : Q (.int ds.length) H) : rLenG K [x] H Q := by
  obtain ⟨a, vs, rfl, hs, hr⟩ := Rep.tup_iff.mp h
  rw [← hr.length] at q
  exact .inl ⟨.ref a, vs.length, rfl, .inr ⟨vs, hs, rfl⟩, q⟩
theorem len_lst {a : Addr} {xs : List V} (h : SqL K H a xs) (q : Q (.int xs.length) H) : rLenG K [.ref a] H Q :=
  .inl ⟨.ref a, xs.length, rfl, .inl ⟨xs, h, rfl⟩, q⟩
end

/-! ### steps of a reading, one a combinator -/
section
variable {K : PySem.W.Frag} {σ : L2.St} {H : Hp} {Q : VK} {QT : Bool → Hp → Prop} {QA : List V → Hp → Prop} {n b c : L2.St → Hp → Prop} {r : VK} {te ta tb : TE} {tt tu : TT} {t u : TS} {g : TG} {i : Nat} {v : V}
theorem g_seq (h : t ⟨u ⟨n, r, b, c⟩, r, b, c⟩ σ H) : tSeq t u ⟨n, r, b, c⟩ σ H := h
theorem g_next (h : n σ H) : tNext ⟨n, r, b, c⟩ σ H := h
theorem g_asg (h : te σ H fun x H1 => g x σ H1 n) : tAsg te g ⟨n, r, b, c⟩ σ H := h
theorem g_name {q : L2.St → Hp → Prop} (h : q (σ.set i (some v)) H) : gName i v σ H q := h
theorem g_var (e : σ[i]? = some (some v)) (h : Q v H) : tVar i σ H Q := ⟨v, e, h⟩
theorem g_c (h : Q v H) : tC v σ H Q := h
theorem g_op {R : R2} (h : ta σ H fun x H1 => tb σ H1 fun y H2 => R x y H2 Q) : tOp R ta tb σ H Q := h
/-- what is wanted of a new tuple, a new list -/
def NewT (xs : List V) (H : Hp) (Q : VK) : Prop := xs.length ≤ sizeLine ∧ ∀ p, H p = none → Q (.ref p) (upd H p (.tup xs))
def NewL (xs : List V) (H : Hp) (Q : VK) : Prop := xs.length ≤ sizeLine ∧ ∀ p, H p = none → Q (.ref p) (upd H p (.lst xs))
theorem g_tup {ts : TA} (h : ts σ H fun xs H1 => NewT xs H1 Q) : tTup ts σ H Q := h
theorem g_lst {ts : TA} (h : ts σ H fun xs H1 => NewL xs H1 Q) : tLst ts σ H Q := h
theorem g_nil (h : QA [] H) : tNil σ H QA := h
theorem g_cons {ts : TA} (h : te σ H fun x H1 => ts σ H1 fun xs H2 => QA (x :: xs) H2) : tCons te ts σ H QA := h
theorem g_ret (h : te σ H r) : tRet te ⟨n, r, b, c⟩ σ H := h
theorem g_retN (h : r .non H) : tRetN ⟨n, r, b, c⟩ σ H := h
theorem g_ifs (h : tt σ H fun k H1 => if k = true then t ⟨n, r, b, c⟩ σ H1 else u ⟨n, r, b, c⟩ σ H1) : tIfS tt t u ⟨n, r, b, c⟩ σ H := h
theorem g_test (h : te σ H fun x H' => ∃ k, x = .bl k ∧ QT k H') : tTest te σ H QT := h
theorem g_b (h : te σ H fun x H' => ∃ k, x = .bl k ∧ QT k H') : tB te σ H QT := h
theorem g_drop (h : te σ H fun _ H1 => n σ H1) : tDrop te ⟨n, r, b, c⟩ σ H := h
theorem g_bl {k : Bool} {q : Bool → Prop} (h : q k) : ∃ k', V.bl k = .bl k' ∧ q k' := ⟨k, rfl, h⟩
theorem g_and (h : tt σ H fun k H1 => if k = true then tu σ H1 QT else QT false H1) : tAnd tt tu σ H QT := h
theorem g_or (h : tt σ H fun k H1 => if k = true then QT true H1 else tu σ H1 QT) : tOr tt tu σ H QT := h
theorem g_not (h : tt σ H fun k H1 => QT (!k) H1) : tNot tt σ H QT := h
theorem g_andV (h : ta σ H fun x H1 => ∃ k, x = .bl k ∧ if k = true then tb σ H1 Q else Q (.bl false) H1) : tAndV ta tb σ H Q := h
theorem g_orV (h : ta σ H fun x H1 => ∃ k, x = .bl k ∧ if k = true then Q (.bl true) H1 else tb σ H1 Q) : tOrV ta tb σ H Q := h
theorem g_cb {R : List V → Hp → VK → Prop} {ts : TA} (h : ts σ H fun vs H1 => R vs H1 Q) : tCB R ts σ H Q := h
theorem g_call {sp : Sp} {E : XK} {ts : TA} (h : ts σ H fun vs H1 => sp (vs ++ []) H1 Q E) : tCall sp [] E ts σ H Q := h
theorem g_un {R : V → Hp → VK → Prop} (h : ta σ H fun x H1 => R x H1 Q) : tUn R ta σ H Q := h
theorem g_if (h : tt σ H fun k H1 => if k = true then ta σ H1 Q else tb σ H1 Q) : tIf tt ta tb σ H Q := h
theorem g_sub {q : L2.St → Hp → Prop} {ts : TSet} (h : ta σ H fun o H1 => tb σ H1 fun j H2 => ts o j v H2 fun H3 => q σ H3) : gSub ta tb ts v σ H q := h
theorem g_yes (h : QT true H) : tYes σ H QT := h
theorem g_tapp {T : String} {R : V → List V → Hp → VK → Prop} {ts : TA} (h : te σ H fun x H1 => tyV K T x H1 ∧ ts σ H1 fun xs H2 => R x xs H2 Q) : tBM K T R te ts σ H Q := h
theorem g_tapp0 {T : String} {R : V → List V → Hp → VK → Prop} (h : te σ H fun x H1 => tyV K T x H1 ∧ R x [] H1 Q) : tBM0 K T R te σ H Q := h
theorem g_sl {R : V → Option Int → Option Int → Hp → VK → Prop} {tl th : TO} (h : te σ H fun x H1 => tl σ H1 fun l H2 => th σ H2 fun z H3 => R x l z H3 Q) : tSl R te tl th σ H Q := h
theorem g_nopart {q : Option Int → Hp → Prop} (h : q none H) : tNoPart σ H q := h
theorem g_part {q : Option Int → Hp → Prop} (h : te σ H fun x H1 => ∃ j, x = .int j ∧ q (some j) H1) : tPart te σ H q := h
theorem g_int {j : Int} {q : Int → Prop} (h : q j) : ∃ k, V.int j = .int k ∧ q k := ⟨j, rfl, h⟩
/-! ### tests that are decided -/
theorem ifT {p : Prop} [Decidable p] {A B : Prop} (e : p) (h : A) : if decide p = true then A else B := by rw [if_pos (decide_eq_true e)]; exact h
theorem ifF {p : Prop} [Decidable p] {A B : Prop} (e : ¬ p) (h : B) : if decide p = true then A else B := by rw [if_neg (by simp [e])]; exact h
theorem ifD {p : Prop} [Decidable p] {A B : Prop} (h1 : p → A) (h2 : ¬ p → B) : if decide p = true then A else B := by
  by_cases e : p
  · exact ifT e (h1 e)
  · exact ifF e (h2 e)
theorem iteN1 {A B : Prop} (h : B) : if (!true) = true then A else B := by rw [if_neg (by decide)]; exact h
theorem iteN0 {A B : Prop} (h : A) : if (!false) = true then A else B := by rw [if_pos (by decide)]; exact h
theorem iteN2 {p : Prop} [Decidable p] {A B : Prop} (h1 : ¬ p → A) (h2 : p → B) : if (!decide p) = true then A else B := by
  by_cases e : p
  · rw [if_neg (by simp [e])]; exact h2 e
  · rw [if_pos (by simp [e])]; exact h1 e
theorem ifNT {p : Prop} [Decidable p] {A B : Prop} (e : ¬ p) (h : A) : if (!decide p) = true then A else B := by rw [if_pos (by simp [e])]; exact h
theorem ifNF {p : Prop} [Decidable p] {A B : Prop} (e : p) (h : B) : if (!decide p) = true then A else B := by rw [if_neg (by simp [e])]; exact h
/-! ### leaves -/
variable {ds : List PyData} {d : PyData} {x : V}
theorem ix_repS {s : Str} (h : Rep K H (.tuple ds) x) (e : ds[i]? = some (.str s)) (q : Q (.str s) H) : rIxG K x (.int (i : Nat)) H Q :=
  ix_rep h e fun v hv => by unfold Rep at hv; subst hv; exact q
theorem ix_repI {j : Int} (h : Rep K H (.tuple ds) x) (e : ds[i]? = some (.int j)) (q : Q (.int j) H) : rIxG K x (.int (i : Nat)) H Q :=
  ix_rep h e fun v hv => by unfold Rep at hv; subst hv; exact q
theorem ix_repB {j : Bool} (h : Rep K H (.tuple ds) x) (e : ds[i]? = some (.bool j)) (q : Q (.bl j) H) : rIxG K x (.int (i : Nat)) H Q :=
  ix_rep h e fun v hv => by unfold Rep at hv; subst hv; exact q
/-- what is wanted of an item that stands for d -/
def GetQ (K : PySem.W.Frag) (d : PyData) (H : Hp) (Q : VK) : Prop := ∀ v, Rep K H d v → Q v H
theorem ix_get {j : Int} (h : Rep K H (.tuple ds) x) (hj : j = ((i : Nat) : Int)) (e : ds[i]? = some d) (q : GetQ K d H Q) : rIxG K x (.int j) H Q := by
  subst hj
  exact ix_rep h e q
theorem get_str {s : Str} (q : Q (.str s) H) : GetQ K (.str s) H Q := fun v hv => by unfold Rep at hv; subst hv; exact q
theorem get_int {s : Int} (q : Q (.int s) H) : GetQ K (.int s) H Q := fun v hv => by unfold Rep at hv; subst hv; exact q
theorem get_bl {s : Bool} (q : Q (.bl s) H) : GetQ K (.bool s) H Q := fun v hv => by unfold Rep at hv; subst hv; exact q
theorem get_any (q : ∀ v, Rep K H d v → Q v H) : GetQ K d H Q := q
/-- a new tuple, by its values -/
theorem newT {vs : List V} (hl : vs.length ≤ 1000) (q : ∀ H' p, Fr [] H H' → H p = none → H' p = some (.tup vs) → Q (.ref p) H') : NewT vs H Q :=
  ⟨Nat.le_of_lt (small1000 hl), fun p hp => q _ _ (Fr.new hp) hp upd_same⟩
theorem newL {vs : List V} (hl : vs.length ≤ 1000) (q : ∀ H' p, Fr [] H H' → H p = none → H' p = some (.lst vs) → Q (.ref p) H') : NewL vs H Q :=
  ⟨Nat.le_of_lt (small1000 hl), fun p hp => q _ _ (Fr.new hp) hp upd_same⟩
theorem newR {vs : List V} (_ : Kk K) (r : Reps K H ds vs) (hl : vs.length ≤ 1000) (q : ∀ H' v, Fr [] H H' → Rep K H' (.tuple ds) v → Q v H') : NewT vs H Q :=
  newT hl fun H' p f _ e => q H' _ f (rep_tup (.of e) (r.up f))
def sv : PyData → V
  | .none => .non
  | .bool b => .bl b
  | .int i => .int i
  | .str x => .str x
  | _ => .ref 0
def isSv : PyData → Bool
  | .none => true
  | .bool _ => true
  | .int _ => true
  | .str _ => true
  | _ => false
theorem Rep.sv : ∀ {d : PyData} {v : V}, Rep K H d v → isSv d = true → v = sv d := by
  intro d v h e
  cases d <;> first | (unfold Rep at h; exact h) | cases e
theorem Reps.sv : ∀ {ds : List PyData} {vs : List V}, Reps K H ds vs → ds.all isSv = true → vs = ds.map sv
  | [], _, h, _ => by unfold Reps at h; exact h
  | d :: ds, vs, h, e => by
    unfold Reps at h
    obtain ⟨v, r, rfl, h1, h2⟩ := h
    rw [List.all_cons, Bool.and_eq_true] at e
    rw [List.map_cons, h1.sv e.1, Reps.sv h2 e.2]
theorem in_rep {y : V} {k : Bool} (h : Rep K H (.tuple ds) y) (e : ds.all isSv = true) (f1 : flatV x = true) (f2 : (ds.map sv).all flatV = true) (e2 : inV x (ds.map sv) = k) (q : Q (.bl k) H) : rInG K x y H Q := by
  obtain ⟨a, vs, rfl, hs, hr⟩ := Rep.tup_iff.mp h
  have := hr.sv e
  subst this
  subst e2
  exact .inl ⟨a, _, rfl, .inr hs, f1, f2, q⟩
theorem in_at {a : Addr} {vs : List V} {k : Bool} (h : H a = some (.tup vs)) (f1 : flatV x = true) (f2 : vs.all flatV = true) (e : inV x vs = k) (q : Q (.bl k) H) : rInG K x (.ref a) H Q := by
  subst e
  exact .inl ⟨a, vs, rfl, .inr (.of h), f1, f2, q⟩
end

/-! ### built-ins under names -/
section
variable {X : Cx}
def rTupOf (K : PySem.W.Frag) : List V → Hp → VK → Prop := fun xs H Q => ∃ p ys, xs = [.ref p] ∧ ((SqL K H p ys ∧ ∀ l, H l = none → Q (.ref l) (upd H l (.tup ys))) ∨ (SqT K H p ys ∧ Q (.ref p) H))
theorem call_tupG : CallR X (.type "tuple") (rTupOf X.K) := call_tuple_of
def rIntOf : List V → Hp → VK → Prop := fun xs H Q => (∃ i, xs = [.int i] ∧ Q (.int i) H) ∨ ∃ k, xs = [.bl k] ∧ Q (.int (if k then 1 else 0)) H
theorem call_intG : CallR X (.type "int") rIntOf := call_int1
def rAbsOf : List V → Hp → VK → Prop := fun xs H Q => ∃ i, xs = [.int i] ∧ Q (.int (if i < 0 then -i else i)) H
theorem call_absG : CallR X (.builtin "abs") rAbsOf := call_abs
def rDictOf : List V → Hp → VK → Prop := fun xs H Q => ∃ (a : Addr) (kvs : List (Key × V)), xs = [.ref a] ∧ Rd H a (.dK kvs) ∧ ∀ p, H p = none → Q (.ref p) (upd H p (.dK kvs))
theorem call_dictG : CallR X (.type "dict") rDictOf := call_dictD
end
section
variable {K : PySem.W.Frag} {σ : L2.St} {H : Hp} {Q : VK} {QT : Bool → Hp → Prop} {QA : List V → Hp → Prop} {n b c : L2.St → Hp → Prop} {r : VK} {te ta tb : TE} {tt tu : TT} {t u : TS} {g : TG} {i : Nat} {v : V}
variable {ds : List PyData} {d : PyData} {x y : V}
theorem tupOf_rep (h : Rep K H (.tuple ds) x) (q : Q x H) : rTupOf K [x] H Q := by
  obtain ⟨a, vs, rfl, hs, _⟩ := Rep.tup_iff.mp h
  exact ⟨a, vs, rfl, .inr ⟨hs, q⟩⟩
theorem tupOf_lst {a : Addr} {vs : List V} (h : H a = some (.lst vs)) (q : ∀ H' p, Fr [] H H' → H p = none → H' p = some (.tup vs) → Q (.ref p) H') : rTupOf K [.ref a] H Q :=
  ⟨a, vs, rfl, .inl ⟨.of h, fun l hl => q _ l (Fr.new hl) hl upd_same⟩⟩
theorem intOf_int {j : Int} (q : Q (.int j) H) : rIntOf [.int j] H Q := .inl ⟨j, rfl, q⟩
theorem intOf_bl {k : Bool} (q : Q (.int (if k then 1 else 0)) H) : rIntOf [.bl k] H Q := .inr ⟨k, rfl, q⟩
theorem absOf_int {j : Int} (q : Q (.int (if j < 0 then -j else j)) H) : rAbsOf [.int j] H Q := ⟨j, rfl, q⟩
/-! ints -/
theorem rI0_int {j k : Int} {f : Int → Int → V} (q : Q (f j k) H) : rI0 f (.int j) (.int k) H Q := ⟨j, k, rfl, rfl, q⟩
theorem rI_int {j k : Int} {C : Int → Int → Prop} {f : Int → Int → V} (h : C j k) (q : Q (f j k) H) : rI C f (.int j) (.int k) H Q := ⟨j, k, rfl, rfl, h, q⟩
theorem addG_int {j k : Int} (q : Q (.int (j + k)) H) : rAddG K (.int j) (.int k) H Q := .inl ⟨j, k, rfl, rfl, q⟩
theorem addG_str {j k : Str} (h : j.length + k.length ≤ sizeLine) (q : Q (.str (j ++ k)) H) : rAddG K (.str j) (.str k) H Q := .inr (.inr (.inl ⟨j, k, rfl, rfl, h, q⟩))
theorem rU_int {j : Int} {f : Int → V} (q : Q (f j) H) : rU f (.int j) H Q := ⟨j, rfl, q⟩
/-- t + u, tuples -/
theorem addG_tup {es : List PyData} (h : Rep K H (.tuple ds) x) (h' : Rep K H (.tuple es) y) (hl : ds.length + es.length ≤ 1000) (q : ∀ H' z, Fr [] H H' → Rep K H' (.tuple (ds ++ es)) z → Q z H') : rAddG K x y H Q := by
  obtain ⟨a, vs, rfl, hs, hr⟩ := Rep.tup_iff.mp h
  obtain ⟨b, us, rfl, hs', hr'⟩ := Rep.tup_iff.mp h'
  refine .inr (.inl ⟨a, b, vs, us, rfl, rfl, hs, hs', ?_, fun e => ?_, fun _ e => ?_, fun _ _ p hp => ?_⟩)
  · rw [hr.length, hr'.length]; exact Nat.le_of_lt (small1000 hl)
  · subst e
    have e2 : ds = [] := List.length_eq_zero_iff.mp (by rw [← hr.length]; rfl)
    subst e2
    exact q _ _ (Fr.refl _ _) h'
  · subst e
    have e2 : es = [] := List.length_eq_zero_iff.mp (by rw [← hr'.length]; rfl)
    subst e2
    rw [List.append_nil] at q
    exact q _ _ (Fr.refl _ _) h
  · have f : Fr [] H (upd H p (.tup (vs ++ us))) := Fr.new hp
    exact q _ _ f (rep_tup (.of upd_same) ((hr.append hr').up f))
/-! lists -/
theorem lst_ty {a : Addr} {xs : List V} {q : Prop} (h : H a = some (.lst xs)) (w : q) : tyV K "list" (.ref a) H ∧ q := ⟨.inl ⟨rfl, xs, .inl (.inl h)⟩, w⟩
theorem append_q {a : Addr} {xs : List V} (h : H a = some (.lst xs)) (hl : xs.length < sizeLine) (q : ∀ H', Fr [a] H H' → H' a = some (.lst (xs ++ [y])) → Q .non H') : rAppend (.ref a) [y] H Q :=
  ⟨a, xs, y, rfl, rfl, h, hl, q _ (Fr.setL h) upd_same⟩
theorem pop_q {a : Addr} {xs : List V} (h : H a = some (.lst (xs ++ [y]))) (q : ∀ H', Fr [a] H H' → H' a = some (.lst xs) → Q y H') : rPop (.ref a) [] H Q := by
  refine ⟨a, xs ++ [y], y, rfl, rfl, h, by simp, ?_⟩
  have e : (xs ++ [y]).dropLast = xs := by simp
  exact q _ (Fr.setL h) (by rw [upd_same, e])
theorem ixL_q {a : Addr} {xs : List V} {j : Int} (h : SqL K H a xs) (e : xs[i]? = some v) (hj : j = ((i : Nat) : Int)) (q : Q v H) : rIxG K (.ref a) (.int j) H Q := by
  subst hj
  exact .inr (.inl ⟨a, xs, i, v, rfl, rfl, h, atI_nat e, q⟩)
theorem setL_q {a : Addr} {xs : List V} {j : Int} {k : Nat} {q : Hp → Prop} (h : H a = some (.lst xs)) (hj : j = ((k : Nat) : Int)) (hk : k < xs.length) (w : ∀ H', Fr [a] H H' → H' a = some (.lst (xs.set k v)) → q H') : rSetL (.ref a) (.int j) v H q ∨ rSetD (.ref a) (.int j) v H q := by
  subst hj
  refine .inl ⟨a, xs, _, k, rfl, rfl, h, ?_, w _ (Fr.setL h) upd_same⟩
  unfold ixN
  rw [if_pos (by omega), if_pos (by omega)]
  simp
theorem setL1_q {a : Addr} {xs : List V} {j : Int} {k : Nat} {q : Hp → Prop} (h : H a = some (.lst xs)) (hj : j = ((k : Nat) : Int)) (hk : k < xs.length) (w : ∀ H', Fr [a] H H' → H' a = some (.lst (xs.set k v)) → q H') : rSetL (.ref a) (.int j) v H q := by
  subst hj
  refine ⟨a, xs, _, k, rfl, rfl, h, ?_, w _ (Fr.setL h) upd_same⟩
  unfold ixN
  rw [if_pos (by omega), if_pos (by omega)]
  simp
theorem getL_q {a : Addr} {xs : List V} {j : Int} (h : SqL K H a xs) (e : xs[i]? = some v) (hj : j = ((i : Nat) : Int)) (q : Q v H) : rGetL K (.ref a) (.int j) H Q := by
  subst hj
  exact ⟨a, xs, i, v, rfl, rfl, h, e, q⟩
theorem ipI_int {j k : Int} {f : Int → Int → Int} (q : Q (.int (f j k)) H) : ipI f (.int j) (.int k) H Q := ⟨j, k, rfl, rfl, q⟩
theorem g_augs {to ti te : TE} {tget : V → V → Hp → VK → Prop} {tip : TIp} {tset : TSet} (h : to σ H fun o H1 => ti σ H1 fun j H2 => tget o j H2 fun x H3 => te σ H3 fun y H4 => tip x y H4 fun z H5 => tset o j z H5 fun H6 => n σ H6) : tAugS to ti te tget tip tset ⟨n, r, b, c⟩ σ H := h
theorem g_aug {te : TE} {ti : TIp} (e : σ[i]? = some (some x)) (h : te σ H fun y H1 => ti x y H1 fun z H2 => n (σ.set i (some z)) H2) : tAug i te ti ⟨n, r, b, c⟩ σ H := ⟨x, e, h⟩
/-! dicts -/
theorem g_dnew (q : ∀ H' p, Fr [] H H' → H p = none → H' p = some (.dK []) → Q (.ref p) H') : tDNewK σ H Q := fun p hp => q _ p (Fr.new hp) hp upd_same
theorem setD_q {a : Addr} {kvs : List (Key × V)} {k : Key} {q : Hp → Prop} (h : H a = some (.dK kvs)) (hx : x = kV k) (hl : kvs.length < 1000) (w : ∀ H', Fr [a] H H' → H' a = some (.dK (putK kvs k v)) → q H') : rSetL (.ref a) x v H q ∨ rSetD (.ref a) x v H q := by
  subst hx
  exact .inr ⟨a, _, rfl, DPut.k h (small1000 (Nat.le_of_lt hl)), w _ (Fr.setD h) upd_same⟩
theorem inD_q {a : Addr} {kvs : List (Key × V)} {k : Key} (h : H a = some (.dK kvs)) (hx : x = kV k) (q : Q (.bl (valV kvs k).isSome) H) : rInG K x (.ref a) H Q := by
  subst hx
  exact .inr (.inl ⟨a, _, rfl, DGet.k h, q⟩)
theorem notInD_q {a : Addr} {kvs : List (Key × V)} {k : Key} (h : H a = some (.dK kvs)) (hx : x = kV k) (q : Q (.bl (!(valV kvs k).isSome)) H) : rNotInG K x (.ref a) H Q := by
  subst hx
  exact .inr (.inl ⟨a, _, rfl, DGet.k h, q⟩)
theorem ixD_q {a : Addr} {kvs : List (Key × V)} {k : Key} (h : H a = some (.dK kvs)) (hx : x = kV k) (e : valV kvs k = some v) (q : Q v H) : rIxG K (.ref a) x H Q := by
  subst hx
  exact .inr (.inr (.inl ⟨a, v, rfl, by rw [← e]; exact DGet.k h, q⟩))
theorem dictOf_q {a : Addr} {kvs : List (Key × V)} (h : H a = some (.dK kvs)) (q : ∀ H' p, Fr [] H H' → H p = none → H' p = some (.dK kvs) → Q (.ref p) H') : rDictOf [.ref a] H Q :=
  ⟨a, kvs, rfl, .inl h, fun p hp => q _ p (Fr.new hp) hp upd_same⟩
theorem listD_q {a : Addr} {kvs : List (Key × V)} (h : H a = some (.dK kvs)) (q : ∀ H' p, Fr [] H H' → H p = none → H' p = some (.lst (kvs.map fun kv => kV kv.1)) → Q (.ref p) H') : rListG K [.ref a] H Q :=
  .inr ⟨a, kvs, rfl, .inl h, fun p hp => q _ p (Fr.new hp) hp upd_same⟩
theorem listT_q (h : Rep K H (.tuple ds) x) (q : ∀ H' p vs, Fr [] H H' → H p = none → H' p = some (.lst vs) → Reps K H' ds vs → Q (.ref p) H') : rListG K [x] H Q := by
  obtain ⟨a, vs, rfl, hs, hr⟩ := Rep.tup_iff.mp h
  exact .inl ⟨a, vs, rfl, .inr hs, fun p hp => q _ p vs (Fr.new hp) hp upd_same (hr.up (Fr.new (o := .lst vs) hp))⟩
theorem listL_q {a : Addr} {xs : List V} (h : SqL K H a xs) (q : ∀ H' p, Fr [] H H' → H p = none → H' p = some (.lst xs) → Q (.ref p) H') : rListG K [.ref a] H Q :=
  .inl ⟨a, xs, rfl, .inl h, fun p hp => q _ p (Fr.new hp) hp upd_same⟩
theorem sortedD_q {a : Addr} {kvs : List (Key × V)} {ks : List Str} (h : H a = some (.dK kvs)) (e : kvs.map (·.1) = ks.map Sum.inr) (hl : ks.length < 64)
    (q : ∀ H' p ys, ys.Perm ks → sortedS ys = true → Fr [] H H' → H p = none → H' p = some (.lst (ys.map V.str)) → Q (.ref p) H') : rSortedG K [.ref a] H Q :=
  .inr ⟨a, kvs, ks, rfl, .inl h, e, hl, fun ys p h1 h2 hp => q _ p ys h1 h2 (Fr.new hp) hp upd_same⟩
theorem sortedL_q {a : Addr} {ks : List Str} (h : SqL K H a (ks.map V.str)) (hl : ks.length < 64)
    (q : ∀ H' p ys, ys.Perm ks → sortedS ys = true → Fr [] H H' → H p = none → H' p = some (.lst (ys.map V.str)) → Q (.ref p) H') : rSortedG K [.ref a] H Q :=
  .inl ⟨a, ks, rfl, h, hl, fun ys p h1 h2 hp => q _ p ys h1 h2 (Fr.new hp) hp upd_same⟩
theorem get2_q {td ty tx : TE} (h : td σ H fun x H1 => ∃ a, x = .ref a ∧ IsD H1 a ∧ ty σ H1 fun y H2 => tx σ H2 fun z H3 => ∃ o, DGet H3 a y o ∧ Q (o.getD z) H3) : tDGet2 td ty tx σ H Q := h
theorem clear_q {a : Addr} {kvs : List (Key × V)} (h : H a = some (.dK kvs)) (q : ∀ H', Fr [a] H H' → H' a = some (.dK []) → Q .non H') : rDClear (.ref a) [] H Q :=
  ⟨a, kvs, rfl, rfl, h, q _ (Fr.setD h) upd_same⟩
theorem neSame_q {a e : Addr} {kvs : List (Key × V)} (h : H a = some (.dK kvs)) (h' : H e = some (.dK kvs)) (hp : ∀ p ∈ kvs, valV kvs p.1 = some p.2 ∧ sameOk p.2) (q : Q (.bl false) H) : rNeG K (.ref a) (.ref e) H Q :=
  .inr (.inr ⟨a, e, kvs, rfl, rfl, h, h', hp, q⟩)
/-! isinstance of data -/
def tyD : PyData → String
  | .none => "NoneType" | .bool _ => "bool" | .int _ => "int" | .str _ => "str" | .tuple _ => "tuple" | .list _ => "list" | .dict _ => "dict"
theorem Rep.tyx {d : PyData} {x : V} (h : Rep K H d x) : TyX K H x (.type (tyD d)) := by
  cases d with
  | none => unfold Rep at h; subst h; exact .base .non
  | bool b => unfold Rep at h; subst h; exact .base (.bl b)
  | int b => unfold Rep at h; subst h; exact .base (.int b)
  | str b => unfold Rep at h; subst h; exact .base (.str b)
  | tuple ds =>
    obtain ⟨a, vs, rfl, hs, _⟩ := Rep.tup_iff.mp h
    rcases hs with (hs | ⟨o, hs⟩) | ⟨o, its, m, hk, hc, _⟩
    · exact .base (.tup hs)
    · exact .fTuple hs
    · exact .kTuple hk hc
  | list _ => unfold Rep at h; exact h.elim
  | dict _ => unfold Rep at h; exact h.elim
theorem isi_rep {T : String} {k : Bool} (h : Rep K H d x) (e : kitB (tyD d) T = some k) (q : Q (.bl k) H) : rIsi K [x, .ty T] H Q :=
  ⟨x, .ty T, .type (tyD d), .type T, k, rfl, .ty T, h.tyx, kit_ty e, q⟩
theorem reps_strs : ∀ (ys : List Str), Reps K H (ys.map .str) (ys.map V.str)
  | [] => reps_nil
  | y :: ys => reps_cons rep_str (reps_strs ys)
theorem reps_ints : ∀ (ys : List Int), Reps K H (ys.map .int) (ys.map V.int)
  | [] => reps_nil
  | y :: ys => reps_cons rep_int (reps_ints ys)
/-! unpacking -/
theorem gTup2_rep {d1 d2 : PyData} {j : Nat} {q : L2.St → Hp → Prop} (h : Rep K H (.tuple [d1, d2]) x) (w : ∀ v1 v2, Rep K H d1 v1 → Rep K H d2 v2 → q ((σ.set i (some v1)).set j (some v2)) H) : gTup K 2 (gCons (gName i) (gCons (gName j) gNil)) x σ H q := by
  obtain ⟨a, vs, rfl, hs, hr⟩ := Rep.tup_iff.mp h
  obtain ⟨v1, r1, rfl, h1, hr⟩ := Reps.cons_iff.mp hr
  obtain ⟨v2, r2, rfl, h2, hr⟩ := Reps.cons_iff.mp hr
  have : r2 = [] := by unfold Reps at hr; exact hr
  subst this
  exact ⟨a, _, rfl, hs, rfl, v1, _, rfl, v2, _, rfl, rfl, w v1 v2 h1 h2⟩
theorem gTup3_rep {d1 d2 d3 : PyData} {j k : Nat} {q : L2.St → Hp → Prop} (h : Rep K H (.tuple [d1, d2, d3]) x) (w : ∀ v1 v2 v3, Rep K H d1 v1 → Rep K H d2 v2 → Rep K H d3 v3 → q (((σ.set i (some v1)).set j (some v2)).set k (some v3)) H) : gTup K 3 (gCons (gName i) (gCons (gName j) (gCons (gName k) gNil))) x σ H q := by
  obtain ⟨a, vs, rfl, hs, hr⟩ := Rep.tup_iff.mp h
  obtain ⟨v1, r1, rfl, h1, hr⟩ := Reps.cons_iff.mp hr
  obtain ⟨v2, r2, rfl, h2, hr⟩ := Reps.cons_iff.mp hr
  obtain ⟨v3, r3, rfl, h3, hr⟩ := Reps.cons_iff.mp hr
  have : r3 = [] := by unfold Reps at hr; exact hr
  subst this
  exact ⟨a, _, rfl, hs, rfl, v1, _, rfl, v2, _, rfl, v3, _, rfl, rfl, w v1 v2 v3 h1 h2 h3⟩
theorem Reps.snoc (h : Reps K H (ds ++ [d]) vs) : ∃ us u, vs = us ++ [u] ∧ Reps K H ds us ∧ Rep K H d u := by
  induction ds generalizing vs with
  | nil =>
    obtain ⟨u, r, rfl, h1, h2⟩ := Reps.cons_iff.mp h
    have : r = [] := by unfold Reps at h2; exact h2
    subst this
    exact ⟨[], u, rfl, reps_nil, h1⟩
  | cons e es ih =>
    obtain ⟨u, r, rfl, h1, h2⟩ := Reps.cons_iff.mp h
    obtain ⟨us, z, rfl, h3, h4⟩ := ih h2
    exact ⟨u :: us, z, rfl, reps_cons h1 h3, h4⟩
theorem reps_one (h : Rep K H d x) : Reps K H [d] [x] := reps_cons h reps_nil
/-! slices of tuples -/
theorem cutV_from (xs : List V) (k : Nat) : cutV xs (some (k : Int)) none = xs.drop k := by
  unfold cutV
  rw [HT.sIx_nat, HT.sIx_none]
  by_cases h : k ≤ xs.length
  · rw [Nat.min_eq_left h]
    exact List.take_of_length_le (by rw [List.length_drop]; exact Nat.le_refl _)
  · rw [Nat.min_eq_right (by omega), List.drop_of_length_le (by omega), List.drop_of_length_le (by omega), List.take_nil]
theorem cutV_to (xs : List V) (k : Nat) : cutV xs none (some (k : Int)) = xs.take k := by
  unfold cutV
  rw [HT.sIx_nat, HT.sIx_none, List.drop_zero, Nat.sub_zero]
  by_cases h : k ≤ xs.length
  · rw [Nat.min_eq_left h]
  · rw [Nat.min_eq_right (by omega), List.take_of_length_le (by omega), List.take_of_length_le (by omega)]
theorem cutV_at (xs : List V) (j k : Nat) (h : j ≤ k) : cutV xs (some (j : Int)) (some (k : Int)) = (xs.take k).drop j := by
  unfold cutV
  rw [HT.sIx_nat, HT.sIx_nat, List.drop_take]
  by_cases h1 : j ≤ xs.length
  · rw [Nat.min_eq_left h1]
    by_cases h2 : k ≤ xs.length
    · rw [Nat.min_eq_left h2]
    · rw [Nat.min_eq_right (by omega), List.take_of_length_le (by rw [List.length_drop]; omega), List.take_of_length_le (by rw [List.length_drop]; omega)]
  · rw [Nat.min_eq_right (by omega), List.drop_of_length_le (by omega), List.drop_of_length_le (by omega), List.take_nil, List.take_nil]
theorem slT_gen {lo hi : Option Int} (h : Rep K H (.tuple ds) x) (es : List PyData) (he : ∀ {vs : List V} {H'}, Reps K H' ds vs → Reps K H' es (cutV vs lo hi)) (q : ∀ H' v, Fr [] H H' → Rep K H' (.tuple es) v → Q v H') : rSlG K x lo hi H Q := by
  obtain ⟨a, vs, rfl, hs, hr⟩ := Rep.tup_iff.mp h
  refine .inl ⟨a, vs, rfl, hs, fun z => q _ _ (Fr.refl _ _) (rep_tup hs ?_), fun _ p hp => ?_⟩
  · have e : cutV vs lo hi = vs := by
      unfold cutV
      rw [z.1, z.2, List.drop_zero, Nat.sub_zero, List.take_length]
    have := he hr
    rw [e] at this
    exact this
  · have f : Fr [] H (upd H p (.tup (cutV vs lo hi))) := Fr.new hp
    exact q _ _ f (rep_tup (.of upd_same) ((he hr).up f))
theorem slT_from {j : Int} {k : Nat} (h : Rep K H (.tuple ds) x) (hj : j = ((k : Nat) : Int)) (q : ∀ H' v, Fr [] H H' → Rep K H' (.tuple (ds.drop k)) v → Q v H') : rSlG K x (some j) none H Q := by
  subst hj
  exact slT_gen h (ds.drop k) (fun hr => by rw [cutV_from]; exact hr.drop k) q
theorem slT_to {j : Int} {k : Nat} (h : Rep K H (.tuple ds) x) (hj : j = ((k : Nat) : Int)) (q : ∀ H' v, Fr [] H H' → Rep K H' (.tuple (ds.take k)) v → Q v H') : rSlG K x none (some j) H Q := by
  subst hj
  exact slT_gen h (ds.take k) (fun hr => by rw [cutV_to]; exact hr.take k) q
theorem kitB_tuple : ∀ d : PyData, kitB (tyD d) "tuple" = some (tyD d == "tuple") := by
  intro d
  cases d <;> (simp only [tyD]; decide +kernel)
theorem get2D_q {a : Addr} {kvs : List (Key × V)} {k : Key} {y z : V} (h : H a = some (.dK kvs)) (hx : y = kV k) (q : Q ((valV kvs k).getD z) H) : ∃ o, DGet H a y o ∧ Q (o.getD z) H := by
  subst hx
  exact ⟨_, DGet.k h, q⟩
theorem isD_of {a : Addr} {kvs : List (Key × V)} (h : H a = some (.dK kvs)) : IsD H a := .inl ⟨kvs, .inl h⟩
/-! loops -/
/-- what is wanted of a while's body -/
def WB (W : Nat → L2.St → Hp → Prop) (m : Nat) (t : TS) (n : L2.St → Hp → Prop) (r : VK) (σ : L2.St) (H : Hp) : Prop :=
  ∃ N : L2.St → Hp → Prop, (∀ σ' H', N σ' H' → ∃ m', m' < m ∧ W m' σ' H') ∧ t ⟨N, r, n, N⟩ σ H
theorem wb_mk {W : Nat → L2.St → Hp → Prop} {m : Nat} (h : t ⟨fun σ' H' => ∃ m', m' < m ∧ W m' σ' H', r, n, fun σ' H' => ∃ m', m' < m ∧ W m' σ' H'⟩ σ H) : WB W m t n r σ H := ⟨_, fun _ _ z => z, h⟩
theorem g_while (W : Nat → L2.St → Hp → Prop) (m0 : Nat) (h0 : W m0 σ H)
    (step : ∀ m σ H, W m σ H → tt σ H fun k H1 => if k = true then WB W m t n r σ H1 else n σ H1) : tWhile tt t ⟨n, r, b, c⟩ σ H := ⟨W, ⟨m0, h0⟩, step⟩
/-- what is wanted of a for's turns -/
def ForQ (J : It) (g : TG) (t : TS) (n : L2.St → Hp → Prop) (r : VK) (σ : L2.St) (H1 : Hp) : Prop :=
  ∃ W : Nat → Nat → L2.St → Hp → Prop, (∃ m, W 0 m σ H1) ∧ ∀ i m σ H, W i m σ H →
    (J.stop i H ∧ n σ H) ∨ (J.go i H ∧ ∃ N : L2.St → Hp → Prop, (∀ σ' H', N σ' H' → ∃ m', m' < m ∧ W (i + 1) m' σ' H') ∧ ∀ x H', J.yld i H x H' → g x σ H' fun σ2 H2 => t ⟨N, r, n, N⟩ σ2 H2)
/-- one turn -/
abbrev Turn1 (g : TG) (t : TS) (n : L2.St → Hp → Prop) (r : VK) (N : L2.St → Hp → Prop) (x : V) (σ : L2.St) (H : Hp) : Prop := g x σ H fun σ2 H2 => t ⟨N, r, n, N⟩ σ2 H2
def ForT (K : PySem.W.Frag) (g : TG) (t : TS) (n : L2.St → Hp → Prop) (r : VK) (σ : L2.St) : VK := fun x H1 => ∃ a, x = .ref a ∧ (∃ xs, SqT K H1 a xs) ∧ ForQ (Itt K a) g t n r σ H1
def ForL (K : PySem.W.Frag) (g : TG) (t : TS) (n : L2.St → Hp → Prop) (r : VK) (σ : L2.St) : VK := fun x H1 => ∃ a, x = .ref a ∧ (∃ xs, SqL K H1 a xs) ∧ ForQ (Itl K a) g t n r σ H1
def ForR1 (g : TG) (t : TS) (n : L2.St → Hp → Prop) (r : VK) (σ : L2.St) : List V → Hp → Prop := fun vs H1 => ∃ j : Int, vs = [.int j] ∧ -(2 ^ 62) ≤ j ∧ j < 2 ^ 62 ∧ ForQ (Itr 0 j.toNat) g t n r σ H1
theorem g_forT (h : te σ H (ForT K g t n r σ)) : tFor (fun σ H R => iList K te σ H R ∨ iTup K te σ H R) g t ⟨n, r, b, c⟩ σ H := .inr h
theorem g_forL (h : te σ H (ForL K g t n r σ)) : tFor (fun σ H R => iList K te σ H R ∨ iTup K te σ H R) g t ⟨n, r, b, c⟩ σ H := .inl h
theorem g_forR1 {ta : TA} (h : ta σ H (ForR1 g t n r σ)) : tFor (iRng1 ta) g t ⟨n, r, b, c⟩ σ H := h
theorem forT_rep (h : Rep K H (.tuple ds) x) (Pv : Nat → L2.St → Hp → Prop) (h0 : Pv 0 σ H) (hl : ∀ i σ H', Pv i σ H' → ∃ l, Fr l H H')
    (step : ∀ i d x σ H, ds[i]? = some d → Rep K H d x → Pv i σ H → Turn1 g t n r (Pv (i + 1)) x σ H) (hd : ∀ σ H, Pv ds.length σ H → n σ H) : ForT K g t n r σ x H := by
  obtain ⟨a, vs, rfl, hs, hr⟩ := Rep.tup_iff.mp h
  refine ⟨a, rfl, ⟨vs, hs⟩, for_tup (D := ⟨n, r, fun _ _ => False, fun _ _ => False⟩) Pv h0 (fun i σ H' _ p => ?_) (fun i x σ H' e p => ?_) (fun σ H' p => hd σ H' (by rw [← hr.length]; exact p))⟩
  · obtain ⟨l, f⟩ := hl i σ H' p
    exact f.sqT hs
  · obtain ⟨l, f⟩ := hl i σ H' p
    obtain ⟨d, ed, rd⟩ := hr.get' e
    exact step i d x σ H' ed (rd.up f) p
theorem forL_q {a : Addr} {xs : List V} (hs : SqL K H a xs) (Pv : Nat → L2.St → Hp → Prop) (h0 : Pv 0 σ H) (hl : ∀ i σ H, Pv i σ H → SqL K H a xs)
    (step : ∀ i x σ H, xs[i]? = some x → Pv i σ H → Turn1 g t n r (Pv (i + 1)) x σ H) (hd : ∀ σ H, Pv xs.length σ H → n σ H) : ForL K g t n r σ (.ref a) H :=
  ⟨a, rfl, ⟨xs, hs⟩, for_list (D := ⟨n, r, fun _ _ => False, fun _ _ => False⟩) Pv h0 (fun i σ H' _ p => hl i σ H' p) (fun i x σ H' e p => step i x σ H' e p) hd⟩
theorem forR1_q {k : Nat} {j : Int} (hj : j = ((k : Nat) : Int)) (hk : k < 1000000000) (Pv : Nat → L2.St → Hp → Prop) (h0 : Pv 0 σ H)
    (step : ∀ (i : Nat) σ H, i < k → Pv i σ H → Turn1 g t n r (Pv (i + 1)) (.int i) σ H) (hd : ∀ σ H, Pv k σ H → n σ H) : ForR1 g t n r σ [.int j] H := by
  subst hj
  refine ⟨_, rfl, by omega, by omega, for_range (D := ⟨n, r, fun _ _ => False, fun _ _ => False⟩) Pv h0 (fun i σ H' e p => ?_) (fun σ H' p => hd σ H' (by simpa using p))⟩
  rw [Int.zero_add]
  exact step i σ H' (by simpa using e) p
/-! comprehensions -/
def LcQ (J : It) (g : TG) (tt : TT) (te : TE) (vs : List Nat) (σ : L2.St) (Q : VK) (H1 : Hp) : Prop :=
  ∀ D, H1 D = none → ∃ W : Nat → Nat → Hp → Prop, (∃ m, W 0 m (upd H1 D (.lst []))) ∧ ∀ i m H, W i m H →
  (J.stop i H ∧ Q (.ref D) H) ∨ (J.go i H ∧ ∃ Nx : Hp → Prop, (∀ H', Nx H' → ∃ m', m' < m ∧ W (i + 1) m' H') ∧ ∀ x H', J.yld i H x H' → g x (wipe σ vs) H' fun σ2 H2 => wipe σ2 vs = wipe σ vs ∧ tt σ2 H2 fun b H3 =>
    if b = true then te σ2 H3 fun y H4 => ∃ acc, H4 D = some (.lst acc) ∧ acc.length < sizeLine ∧ Nx (upd H4 D (.lst (acc ++ [y]))) else Nx H3)
def LcT (K : PySem.W.Frag) (g : TG) (tt : TT) (te : TE) (vs : List Nat) (σ : L2.St) (Q : VK) : VK := fun x H1 => ∃ a, x = .ref a ∧ (∃ xs, SqT K H1 a xs) ∧ LcQ (Itt K a) g tt te vs σ Q H1
def LcL (K : PySem.W.Frag) (g : TG) (tt : TT) (te : TE) (vs : List Nat) (σ : L2.St) (Q : VK) : VK := fun x H1 => ∃ a, x = .ref a ∧ (∃ xs, SqL K H1 a xs) ∧ LcQ (Itl K a) g tt te vs σ Q H1
def LcR1 (g : TG) (tt : TT) (te : TE) (vs : List Nat) (σ : L2.St) (Q : VK) : List V → Hp → Prop := fun ws H1 => ∃ j : Int, ws = [.int j] ∧ -(2 ^ 62) ≤ j ∧ j < 2 ^ 62 ∧ LcQ (Itr 0 j.toNat) g tt te vs σ Q H1
theorem g_lcT {vs : List Nat} (h : ta σ H (LcT K g tt te vs σ Q)) : tLc (fun σ H R => iList K ta σ H R ∨ iTup K ta σ H R) g tt te vs σ H Q := .inr h
theorem g_lcL {vs : List Nat} (h : ta σ H (LcL K g tt te vs σ Q)) : tLc (fun σ H R => iList K ta σ H R ∨ iTup K ta σ H R) g tt te vs σ H Q := .inl h
theorem g_lcR1 {ts : TA} {vs : List Nat} (h : ts σ H (LcR1 g tt te vs σ Q)) : tLc (iRng1 ts) g tt te vs σ H Q := h
/-- a turn of a comprehension: the item's place, the test, the new element y, the list at D -/
abbrev Elt1 (g : TG) (tt : TT) (te : TE) (vs : List Nat) (σ : L2.St) (D : Addr) (P1 : Hp → Prop) (x : V) (H : Hp) : Prop :=
  g x (wipe σ vs) H fun σ2 H2 => wipe σ2 vs = wipe σ vs ∧ tt σ2 H2 fun b H3 => if b = true then te σ2 H3 fun y H4 => ∃ acc, H4 D = some (.lst acc) ∧ acc.length < sizeLine ∧ P1 (upd H4 D (.lst (acc ++ [y]))) else P1 H3
theorem lcT_rep {vs : List Nat} (h : Rep K H (.tuple ds) x) (Pv : Addr → Nat → Hp → Prop) (h0 : ∀ D, H D = none → Pv D 0 (upd H D (.lst []))) (hl : ∀ D i H', H D = none → Pv D i H' → ∃ l, Fr l H H')
    (step : ∀ D i d x H', H D = none → ds[i]? = some d → Rep K H' d x → Pv D i H' → Elt1 g tt te vs σ D (Pv D (i + 1)) x H') (hd : ∀ D H', H D = none → Pv D ds.length H' → Q (.ref D) H') : LcT K g tt te vs σ Q x H := by
  obtain ⟨a, us, rfl, hs, hr⟩ := Rep.tup_iff.mp h
  refine ⟨a, rfl, ⟨us, hs⟩, fun D nD => lc_tup (Pv D) (h0 D nD) (fun i H' _ p => ?_) (fun i x H' e p => ?_) (fun H' p => hd D H' nD (by rw [← hr.length]; exact p))⟩
  · obtain ⟨l, f⟩ := hl D i H' nD p
    exact f.sqT hs
  · obtain ⟨l, f⟩ := hl D i H' nD p
    obtain ⟨d, ed, rd⟩ := hr.get' e
    exact step D i d x H' nD ed (rd.up f) p
theorem lcL_q {vs : List Nat} {a : Addr} {xs : List V} (hs : SqL K H a xs) (Pv : Addr → Nat → Hp → Prop) (h0 : ∀ D, H D = none → Pv D 0 (upd H D (.lst []))) (hl : ∀ D i H', H D = none → Pv D i H' → SqL K H' a xs)
    (step : ∀ D i x H', H D = none → xs[i]? = some x → Pv D i H' → Elt1 g tt te vs σ D (Pv D (i + 1)) x H') (hd : ∀ D H', H D = none → Pv D xs.length H' → Q (.ref D) H') : LcL K g tt te vs σ Q (.ref a) H :=
  ⟨a, rfl, ⟨xs, hs⟩, fun D nD => lc_list (Pv D) (h0 D nD) (fun i H' _ p => hl D i H' nD p) (fun i x H' e p => step D i x H' nD e p) (fun H' p => hd D H' nD p)⟩
theorem lcR1_q {vs : List Nat} {k : Nat} {j : Int} (hj : j = ((k : Nat) : Int)) (hk : k < 1000000000) (Pv : Addr → Nat → Hp → Prop) (h0 : ∀ D, H D = none → Pv D 0 (upd H D (.lst [])))
    (step : ∀ D (i : Nat) H', H D = none → i < k → Pv D i H' → Elt1 g tt te vs σ D (Pv D (i + 1)) (.int i) H') (hd : ∀ D H', H D = none → Pv D k H' → Q (.ref D) H') : LcR1 g tt te vs σ Q [.int j] H := by
  subst hj
  refine ⟨_, rfl, by omega, by omega, fun D nD => lc_range (lo := 0) (n := ((k : Nat) : Int).toNat) (Pv D) (h0 D nD) (fun i H' e p => ?_) (fun H' p => hd D H' nD (by simpa using p))⟩
  rw [Int.zero_add]
  exact step D i H' nD (by simpa using e) p
end

/-! ### the law's draws -/
/-- the state of the draws at a: its numbers at c -/
def DrawOk (H : Hp) (a c : Addr) : Prop := ∃ (ns : List Int) (p : Nat) (f s : Int), H a = some (.lst [.ref c, .int p, .int f, .int s, .int 3]) ∧ H c = some (.lst (ns.map V.int)) ∧ c ≠ a
def spDraw : Sp := fun vs H Q _ => ∃ (a c : Addr) (m : Nat), vs = [.ref a, .int m] ∧ DrawOk H a c ∧ 0 < m ∧ m < 1000000000 ∧ ∀ H' (k : Nat), Fr [a] H H' → DrawOk H' a c → k < m → Q (.int k) H'
def spBegin (K : PySem.W.Frag) : Sp := fun vs H Q _ => ∃ (s : Addr) (ns : List Int), vs = [.ref s] ∧ SqL K H s (ns.map V.int) ∧ ns.length ≤ 63 ∧ ∀ H' a c, Fr [] H H' → H a = none → H c = none → DrawOk H' a c → Q (.ref a) H'
def spPick (K : PySem.W.Frag) : Sp := fun vs H Q _ => ∃ (a c l : Addr) (xs : List V), vs = [.ref a, .ref l] ∧ DrawOk H a c ∧ SqL K H l xs ∧ l ≠ a ∧ 0 < xs.length ∧ xs.length < 1000000 ∧ ∀ H' (i : Nat) (v : V), Fr [a] H H' → DrawOk H' a c → xs[i]? = some v → Q v H'
theorem dok_as {H : Hp} {a c : Addr} (h : DrawOk H a c) : DrawOk H a c := h
theorem DrawOk.fr {H H' : Hp} {a c : Addr} {l : List Addr} (h : DrawOk H a c) (f : Fr l H H') (ha : a ∉ l) (hc : c ∉ l) : DrawOk H' a c := by
  obtain ⟨ns, p, f1, s, h1, h2, h3⟩ := h
  exact ⟨ns, p, f1, s, f.keep _ _ h1 ha, f.keep _ _ h2 hc, h3⟩
theorem DrawOk.fr0 {H H' : Hp} {a c : Addr} (h : DrawOk H a c) (f : Fr [] H H') : DrawOk H' a c := h.fr f (by simp) (by simp)
theorem DrawOk.fr1 {H H' : Hp} {a c d : Addr} (h : DrawOk H a c) (f : Fr [d] H H') (ha : d ≠ a) (hc : d ≠ c) : DrawOk H' a c := h.fr f (by simp [Ne.symm ha]) (by simp [Ne.symm hc])
theorem DrawOk.neL {H : Hp} {a c b : Addr} (h : DrawOk H a c) (e : H b = none) : b ≠ a := by
  obtain ⟨ns, p, f1, s, h1, _⟩ := h
  exact (ne_of_none h1 e).symm
theorem DrawOk.neC {H : Hp} {a c b : Addr} (h : DrawOk H a c) (e : H b = none) : b ≠ c := by
  obtain ⟨ns, p, f1, s, _, h1, _⟩ := h
  exact (ne_of_none h1 e).symm
theorem draw_q {H : Hp} {Q : VK} {E : XK} {a c : Addr} {j : Int} (h : DrawOk H a c) (m0 : 0 < j) (m1 : j < 1000000000) (q : ∀ H' (k : Nat), Fr [a] H H' → DrawOk H' a c → (k : Int) < j → Q (.int k) H') : spDraw [.ref a, .int j] H Q E :=
  ⟨a, c, j.toNat, by rw [Int.toNat_of_nonneg (by omega)], h, by omega, by omega, fun H' k f d e => q H' k f d (by omega)⟩
theorem pick_q {K : PySem.W.Frag} {H : Hp} {Q : VK} {E : XK} {a c l : Addr} {xs : List V} (h : DrawOk H a c) (hl : SqL K H l xs) (hne : l ≠ a) (h0 : 0 < xs.length) (h1 : xs.length < 1000000) (q : ∀ H' (i : Nat) (v : V), Fr [a] H H' → DrawOk H' a c → xs[i]? = some v → Q v H') : spPick K [.ref a, .ref l] H Q E :=
  ⟨a, c, l, xs, rfl, h, hl, hne, h0, h1, q⟩
theorem draw_mod (i : Int) (m : Nat) (h : 0 < m) : ∃ k : Nat, i % (m : Int) = (k : Int) ∧ k < m := by
  have h1 : (0 : Int) < (m : Int) := by omega
  have h2 := Int.emod_nonneg i (Int.ne_of_gt h1)
  have h3 := Int.emod_lt_of_pos i h1
  exact ⟨(i % (m : Int)).toNat, by omega, by omega⟩

/-! ### the rules with the written part named -/
section
variable {X : Cx} {K : PySem.W.Frag}
theorem ix_GK (hK : X.K = K) (hu : X.A.units + 1 < cLine) : IxR X (rIxG K) := by subst hK; exact ix_G hu
theorem op_eqGK (hK : X.K = K) (hu : X.A.units + 64 < cLine) : OpR X (compareOp .Eq) (rEqG K) := by subst hK; exact op_eqG hu
theorem op_neGK (hK : X.K = K) (hu : X.A.units + 64 < cLine) : OpR X (compareOp .NotEq) (rNeG K) := by subst hK; exact op_neG hu
theorem op_inGK (hK : X.K = K) (hu : X.A.units + 1 < cLine) : OpR X (compareOp .In) (rInG K) := by subst hK; exact op_inG hu
theorem op_notInGK (hK : X.K = K) (hu : X.A.units + 1 < cLine) : OpR X (compareOp .NotIn) (rNotInG K) := by subst hK; exact op_notInG hu
theorem op_addGK (hK : X.K = K) : OpR X (binaryOp .Add) (rAddG K) := by subst hK; exact op_addG
theorem call_lenGK (hK : X.K = K) : CallR X (.builtin "len") (rLenG K) := by subst hK; exact call_lenG
theorem call_listGK (hK : X.K = K) (hc : X.calm = true) : CallR X (.type "list") (rListG K) := by subst hK; exact call_listG hc
theorem call_sortedGK (hK : X.K = K) (hc : X.calm = true) : CallR X (.builtin "sorted") (rSortedG K) := by subst hK; exact call_sortedG hc
theorem call_tupGK (hK : X.K = K) : CallR X (.type "tuple") (rTupOf K) := by subst hK; exact call_tupG
theorem call_isiGK (hK : X.K = K) : CallR X (.builtin "isinstance") (rIsi K) := by subst hK; exact call_isi
theorem sl_GK (hK : X.K = K) : SlR X (rSlG K) := by subst hK; exact sl_G
theorem pi_seqK {tg e : Expr} {te : TE} (hK : X.K = K) (h : PE X e te) : PI X tg e (fun σ H R => iList K te σ H R ∨ iTup K te σ H R) := by subst hK; exact pi_seq h
theorem pg_tupK {es : List Expr} {k : Nat} {t : TGs} {n : Nat} {pos : Pos} (hK : X.K = K) (hc : X.calm = true) (h : PGs X es t)
    (hn : (assignEach es X.env).length = n := by rfl) (hst : (assignEach es X.env).findIdx? (·.1) = none := by rfl) : PG X (.Tuple es k pos) (gTup K n t) := by subst hK; exact pg_tup hc h hn hst
end
end AN

namespace K08
open PySem PySem.Spec PyProof.Rows L2 AN
/-! ### expressions -/
inductive Ex where
  | num (n : Int) | var (x : Str) | call (f : Str) (bs : List Str) (es : List Ex) | sum (o : Str) (l r : Ex) | lett (x : Str) (e f : Ex) | ite (c a b : Ex)
  | dop (p : Str) (e : Ex) | handle (e : Ex) (h : Str) (f : Ex) | resume (a b : Ex) | rept (n : Int) (x : Str) (e f : Ex)
mutual
def Ex.toD : Ex → PyData
  | .num n => .tuple [.str "num", .int n]
  | .var x => .tuple [.str "var", .str x]
  | .call f bs es => .tuple [.str "call", .str f, .tuple (bs.map .str), .tuple (toDs es)]
  | .sum o l r => .tuple [.str "sum", .str o, l.toD, r.toD]
  | .lett x e f => .tuple [.str "let", .str x, e.toD, f.toD]
  | .ite c a b => .tuple [.str "if", c.toD, a.toD, b.toD]
  | .dop p e => .tuple [.str "do", .str p, e.toD]
  | .handle e h f => .tuple [.str "handle", e.toD, .str h, f.toD]
  | .resume a b => .tuple [.str "resume", a.toD, b.toD]
  | .rept n x e f => .tuple [.str "repeat", .int n, .str x, e.toD, f.toD]
def toDs : List Ex → List PyData
  | [] => []
  | e :: es => e.toD :: toDs es
end
theorem toDs_eq : ∀ es : List Ex, toDs es = es.map Ex.toD
  | [] => by simp [toDs]
  | e :: es => by simp [toDs, toDs_eq es]
def Ex.parts : Ex → List Ex
  | .num _ => []
  | .var _ => []
  | .call _ _ es => es
  | .sum _ l r => [l, r]
  | .lett _ e f => [e, f]
  | .ite c a b => [c, a, b]
  | .dop _ e => [e]
  | .handle e _ f => [e, f]
  | .resume a b => [a, b]
  | .rept _ _ e f => [e, f]
/-- the expression with other parts -/
def Ex.withP : Ex → List Ex → Ex
  | .call f bs _, es => .call f bs es
  | .sum o _ _, [a, b] => .sum o a b
  | .lett x _ _, [a, b] => .lett x a b
  | .ite _ _ _, [a, b, c] => .ite a b c
  | .dop p _, [a] => .dop p a
  | .handle _ h _, [a, b] => .handle a h b
  | .resume _ _, [a, b] => .resume a b
  | .rept n x _ _, [a, b] => .rept n x a b
  | e, _ => e
/-- its own strings -/
def Ex.strs : Ex → List Str
  | .num _ => []
  | .var x => [x]
  | .call f bs _ => f :: bs
  | .sum o _ _ => [o]
  | .lett x _ _ => [x]
  | .ite _ _ _ => []
  | .dop p _ => [p]
  | .handle _ h _ => [h]
  | .resume _ _ => []
  | .rept _ x _ _ => [x]
/-- its own names: of a variable, of what binds -/
def Ex.own : Ex → List Str
  | .var x => [x]
  | .lett x _ _ => [x]
  | .rept _ x _ _ => [x]
  | _ => []
mutual
def Ex.names : Ex → List Str
  | .num _ => []
  | .var x => [x]
  | .call _ _ es => namesL es
  | .sum _ l r => l.names ++ r.names
  | .lett x e f => x :: (e.names ++ f.names)
  | .ite c a b => c.names ++ (a.names ++ b.names)
  | .dop _ e => e.names
  | .handle e _ f => e.names ++ f.names
  | .resume a b => a.names ++ b.names
  | .rept _ x e f => x :: (e.names ++ f.names)
def namesL : List Ex → List Str
  | [] => []
  | e :: es => e.names ++ namesL es
end
theorem namesL_eq : ∀ es : List Ex, namesL es = es.flatMap Ex.names
  | [] => by simp [namesL]
  | e :: es => by simp [namesL, namesL_eq es]
theorem names_eq (e : Ex) : e.names = e.own ++ e.parts.flatMap Ex.names := by
  cases e <;> simp [Ex.names, Ex.own, Ex.parts, namesL_eq]
mutual
def Ex.count : Ex → Nat
  | .num _ => 1
  | .var x => 1
  | .call _ _ es => countL es + 1
  | .sum _ l r => l.count + r.count + 1
  | .lett x e f => e.count + f.count + 1
  | .ite c a b => c.count + (a.count + b.count) + 1
  | .dop _ e => e.count + 1
  | .handle e _ f => e.count + f.count + 1
  | .resume a b => a.count + b.count + 1
  | .rept _ x e f => e.count + f.count + 1
def countL : List Ex → Nat
  | [] => 0
  | e :: es => e.count + countL es
end
theorem countL_eq : ∀ es : List Ex, countL es = (es.map Ex.count).sum
  | [] => by simp [countL]
  | e :: es => by simp [countL, countL_eq es]
theorem count_eq (e : Ex) : e.count = (e.parts.map Ex.count).sum + 1 := by
  cases e <;> simp [Ex.count, Ex.parts, countL_eq]
mutual
def Ex.swap (m : Str → Option Ex) : Ex → Ex
  | .num n => .num n
  | .var x => (m x).getD (.var x)
  | .call f bs es => .call f bs (swapL m es)
  | .sum o l r => .sum o (l.swap m) (r.swap m)
  | .lett x e f => .lett x (e.swap m) (f.swap m)
  | .ite c a b => .ite (c.swap m) (a.swap m) (b.swap m)
  | .dop p e => .dop p (e.swap m)
  | .handle e h f => .handle (e.swap m) h (f.swap m)
  | .resume a b => .resume (a.swap m) (b.swap m)
  | .rept n x e f => .rept n x (e.swap m) (f.swap m)
def swapL (m : Str → Option Ex) : List Ex → List Ex
  | [] => []
  | e :: es => e.swap m :: swapL m es
end
theorem swapL_eq (m : Str → Option Ex) : ∀ es : List Ex, swapL m es = es.map (Ex.swap m)
  | [] => by simp [swapL]
  | e :: es => by simp [swapL, swapL_eq m es]
theorem swap_eq (m : Str → Option Ex) (e : Ex) (h : ∀ x, e ≠ .var x) : e.swap m = e.withP (e.parts.map (Ex.swap m)) := by
  cases e with
  | var x => exact absurd rfl (h x)
  | _ => simp [Ex.swap, Ex.withP, Ex.parts, swapL_eq]
theorem le_sum {l : List Nat} {x : Nat} (h : x ∈ l) : x ≤ l.sum := by
  induction l with
  | nil => cases h
  | cons y r ih =>
    rw [List.sum_cons]
    rcases List.mem_cons.mp h with e | e
    · omega
    · have := ih e; omega
theorem swap_none (e : Ex) : ∀ n, e.count ≤ n → e.swap (fun _ => none) = e := by
  intro n
  induction n generalizing e with
  | zero => intro h; rw [count_eq] at h; omega
  | succ n ih =>
    intro h
    have hp : ∀ p ∈ e.parts, p.swap (fun _ => none) = p := fun p hp => ih p (by
      rw [count_eq] at h
      have : p.count ≤ (e.parts.map Ex.count).sum := le_sum (List.mem_map_of_mem hp)
      omega)
    have hm : e.parts.map (Ex.swap fun _ => none) = e.parts := (List.map_congr_left hp).trans (List.map_id _)
    cases e with
    | var x => simp [Ex.swap]
    | call f bs es => simp only [Ex.swap, swapL_eq]; simp only [Ex.parts] at hm; rw [hm]
    | _ => simp [Ex.parts] at hp; simp [Ex.swap, hp]
/-! ### preorder -/
def nd (p : List Int) (e : Ex) : PyData := .tuple [.tuple (p.map .int), e.toD]
mutual
def Ex.pre (p : List Int) : Ex → List PyData
  | .num n => [nd p (.num n)]
  | .var x => [nd p (.var x)]
  | .call f bs es => nd p (.call f bs es) :: preL p 0 es
  | .sum o l r => nd p (.sum o l r) :: (l.pre (p ++ [0]) ++ r.pre (p ++ [1]))
  | .lett x e f => nd p (.lett x e f) :: (e.pre (p ++ [0]) ++ f.pre (p ++ [1]))
  | .ite c a b => nd p (.ite c a b) :: (c.pre (p ++ [0]) ++ (a.pre (p ++ [1]) ++ b.pre (p ++ [2])))
  | .dop q e => nd p (.dop q e) :: e.pre (p ++ [0])
  | .handle e h f => nd p (.handle e h f) :: (e.pre (p ++ [0]) ++ f.pre (p ++ [1]))
  | .resume a b => nd p (.resume a b) :: (a.pre (p ++ [0]) ++ b.pre (p ++ [1]))
  | .rept n x e f => nd p (.rept n x e f) :: (e.pre (p ++ [0]) ++ f.pre (p ++ [1]))
def preL (p : List Int) (i : Nat) : List Ex → List PyData
  | [] => []
  | e :: es => e.pre (p ++ [(i : Int)]) ++ preL p (i + 1) es
end
theorem pre_eq (p : List Int) (e : Ex) : e.pre p = nd p e :: preL p 0 e.parts := by
  cases e <;> simp [Ex.pre, Ex.parts, preL]
/-- the parts with their paths -/
def kids (p : List Int) (i : Nat) : List Ex → List (List Int × Ex)
  | [] => []
  | e :: es => (p ++ [(i : Int)], e) :: kids p (i + 1) es
theorem preL_kids (p : List Int) : ∀ (es : List Ex) (i : Nat), preL p i es = (kids p i es).flatMap fun k => k.2.pre k.1
  | [], _ => by simp [preL, kids]
  | e :: es, i => by simp [preL, kids, preL_kids p es (i + 1)]
theorem kids_len (p : List Int) : ∀ (es : List Ex) (i : Nat), (kids p i es).length = es.length
  | [], _ => rfl
  | e :: es, i => by simp [kids, kids_len p es (i + 1)]
theorem kids_get (p : List Int) : ∀ (es : List Ex) (i j : Nat) (e : Ex), es[j]? = some e → (kids p i es)[j]? = some (p ++ [((i + j : Nat) : Int)], e)
  | [], _, _, _, h => by simp at h
  | x :: es, i, 0, e, h => by simp at h; simp [kids, h]
  | x :: es, i, j + 1, e, h => by
    have := kids_get p es (i + 1) j e (by simpa using h)
    simp only [kids, List.getElem?_cons_succ, this]
    rw [show i + 1 + j = i + (j + 1) by omega]
theorem kids_mem {p : List Int} : ∀ {es : List Ex} {i : Nat} {k : List Int × Ex}, k ∈ kids p i es → k.1.length = p.length + 1 ∧ k.2 ∈ es
  | [], _, _, h => by simp [kids] at h
  | e :: es, i, k, h => by
    simp only [kids, List.mem_cons] at h
    rcases h with h | h
    · subst h; simp
    · have := kids_mem h
      exact ⟨this.1, List.mem_cons_of_mem _ this.2⟩
theorem kids_count (p : List Int) : ∀ (es : List Ex) (i : Nat), ((kids p i es).map fun k => k.2.count).sum = (es.map Ex.count).sum
  | [], _ => rfl
  | e :: es, i => by simp [kids, kids_count p es (i + 1)]
/-- a stack's items as data -/
def stD (S : List (List Int × Ex)) : List PyData := S.map fun k => nd k.1 k.2
def stC (S : List (List Int × Ex)) : Nat := (S.map fun k => k.2.count).sum
def stO (S : List (List Int × Ex)) : List PyData := S.reverse.flatMap fun k => k.2.pre k.1
theorem stO_snoc (S : List (List Int × Ex)) (k : List Int × Ex) : stO (S ++ [k]) = nd k.1 k.2 :: stO (S ++ (kids k.1 0 k.2.parts).reverse) := by
  unfold stO
  rw [List.reverse_append, List.reverse_append, List.reverse_reverse, List.reverse_singleton, List.singleton_append, List.flatMap_cons, List.flatMap_append, pre_eq, preL_kids]
  rfl
theorem sum_reverse' (l : List Nat) : l.reverse.sum = l.sum := by
  induction l with
  | nil => rfl
  | cons x r ih => rw [List.reverse_cons, List.sum_append, ih, List.sum_cons]; simp; omega
theorem stC_kids (S : List (List Int × Ex)) (k : List Int × Ex) : stC (S ++ (kids k.1 0 k.2.parts).reverse) + 1 = stC (S ++ [k]) := by
  unfold stC
  rw [List.map_append, List.sum_append, List.map_append, List.sum_append, List.map_reverse, sum_reverse', kids_count]
  simp only [List.map_cons, List.map_nil, List.sum_cons, List.sum_nil]
  rw [count_eq k.2]
  omega
theorem stD_le (S : List (List Int × Ex)) : (stD S).length ≤ stC S := by
  unfold stD stC
  rw [List.length_map]
  induction S with
  | nil => simp
  | cons q r ih => simp only [List.map_cons, List.sum_cons, List.length_cons]; have := count_eq q.2; omega
/-! ### what is drawn -/
def LN : List Str := ["x", "y", "k0", "left", "aa", "b2", "z9z", "k_k", "aaaaaaaaaaa8", "n", "get"]
def LO : List Str := ["+", "-", "*", "==", "<"]
def Ex.ok : Nat → Ex → Prop
  | 0, _ => False
  | n + 1, e => (∀ s ∈ e.strs, s ∈ LN ++ LO) ∧ (∀ s ∈ e.own, s ∈ LN) ∧ e.parts.length ≤ 3 ∧ ∀ p ∈ e.parts, Ex.ok n p
theorem Ex.ok.up : ∀ {n : Nat} {e : Ex}, e.ok n → e.ok (n + 1)
  | 0, _, h => h.elim
  | n + 1, e, h => ⟨h.1, h.2.1, h.2.2.1, fun p hp => (h.2.2.2 p hp).up⟩
theorem Ex.ok.le {n m : Nat} {e : Ex} (h : e.ok n) (l : n ≤ m) : e.ok m := by
  induction m with
  | zero => have : n = 0 := by omega
            subst this; exact h
  | succ m ih =>
    by_cases e1 : n = m + 1
    · subst e1; exact h
    · exact (ih (by omega)).up
theorem Ex.ok.namesLN : ∀ {n : Nat} {e : Ex}, e.ok n → ∀ s ∈ e.names, s ∈ LN
  | 0, _, h => h.elim
  | n + 1, e, h => by
    intro s hs
    rw [names_eq, List.mem_append, List.mem_flatMap] at hs
    rcases hs with hs | ⟨p, hp, hs⟩
    · exact h.2.1 s hs
    · exact (h.2.2.2 p hp).namesLN s hs
theorem sum_le_mul {l : List Nat} {k : Nat} (h : ∀ x ∈ l, x ≤ k) : l.sum ≤ l.length * k := by
  induction l with
  | nil => simp
  | cons x r ih =>
    rw [List.sum_cons, List.length_cons, Nat.succ_mul]
    have := h x List.mem_cons_self
    have := ih fun y hy => h y (List.mem_cons_of_mem _ hy)
    omega
theorem Ex.ok.count_le : ∀ {n : Nat} {e : Ex}, e.ok n → e.count + 1 ≤ 3 ^ (n + 1)
  | 0, _, h => h.elim
  | n + 1, e, h => by
    have h1 : (e.parts.map Ex.count).sum ≤ (e.parts.map Ex.count).length * (3 ^ (n + 1) - 1) := sum_le_mul fun x hx => by
      obtain ⟨p, hp, rfl⟩ := List.mem_map.mp hx
      have := (h.2.2.2 p hp).count_le
      omega
    rw [List.length_map] at h1
    have h2 : e.parts.length * (3 ^ (n + 1) - 1) ≤ 3 * (3 ^ (n + 1) - 1) := Nat.mul_le_mul_right _ h.2.2.1
    rw [count_eq]
    have h3 : 3 ^ (n + 1 + 1) = 3 * 3 ^ (n + 1) := by rw [Nat.pow_succ, Nat.mul_comm]
    have h4 : 3 ≤ 3 ^ (n + 1) := by
      calc 3 = 3 ^ 1 := rfl
        _ ≤ 3 ^ (n + 1) := Nat.pow_le_pow_right (by decide) (by omega)
    omega

theorem Ex.ok.withP {n : Nat} {e : Ex} {es : List Ex} (h : e.ok (n + 1)) (hl : es.length = e.parts.length) (hp : ∀ p ∈ es, p.ok n) : (e.withP es).ok (n + 1) := by
  obtain ⟨h1, h2, h3, _⟩ := h
  rw [← hl] at h3
  cases e with
  | num n => exact ⟨h1, h2, Nat.zero_le _, fun p hp => by cases hp⟩
  | var n => exact ⟨h1, h2, Nat.zero_le _, fun p hp => by cases hp⟩
  | call f bs es0 => exact ⟨h1, h2, h3, hp⟩
  | ite c a b => match es, hl with | [x, y, z], _ => exact ⟨h1, h2, h3, hp⟩
  | dop p e => match es, hl with | [x], _ => exact ⟨h1, h2, h3, hp⟩
  | _ => match es, hl with | [x, y], _ => exact ⟨h1, h2, h3, hp⟩
theorem Ex.ok.swap {m : Str → Option Ex} {k : Nat} (hm : ∀ x e, m x = some e → e.ok (k + 1)) : ∀ {n : Nat} {e : Ex}, e.ok n → (e.swap m).ok (n + k)
  | 0, _, h => h.elim
  | n + 1, e, h => by
    by_cases hv : ∃ x, e = .var x
    · obtain ⟨x, rfl⟩ := hv
      simp only [Ex.swap]
      cases q : m x with
      | none => exact h.le (by omega)
      | some e' => exact (hm x e' q).le (by omega)
    · rw [swap_eq m e fun x hx => hv ⟨x, hx⟩]
      have h' : e.ok (n + k + 1) := h.le (by omega)
      rw [show n + 1 + k = n + k + 1 by omega]
      refine h'.withP (by simp) fun p hp => ?_
      obtain ⟨p0, hp0, rfl⟩ := List.mem_map.mp hp
      exact (h.2.2.2 p0 hp0).swap hm
/-! ### the forms as data -/
theorem canAll_mem : ∀ {ds : List PyData}, (∀ d ∈ ds, d.canLay0 = true) → PyData.canLayAll0 ds = true
  | [], _ => by simp [PyData.canLayAll0]
  | d :: ds, h => by
    simp only [PyData.canLayAll0, Bool.and_eq_true]
    exact ⟨h d List.mem_cons_self, canAll_mem fun x hx => h x (List.mem_cons_of_mem _ hx)⟩
theorem depthAll_le {n : Nat} : ∀ {ds : List PyData}, (∀ d ∈ ds, d.depth ≤ n) → PyData.depthAll ds ≤ n
  | [], _ => by simp [PyData.depthAll]
  | d :: ds, h => by
    simp only [PyData.depthAll]
    have := h d List.mem_cons_self
    have := depthAll_le fun x hx => h x (List.mem_cons_of_mem _ hx)
    omega
theorem strOkL : ∀ s ∈ LN ++ LO, PyData.strOk s = true := by decide +kernel
theorem lit_ok (s : Str) (h : PyData.strOk s = true) : (PyData.str s).canLay0 = true := by simpa [PyData.canLay0] using h
theorem Ex.ok.can : ∀ {n : Nat} {e : Ex}, e.ok n → e.toD.canLay0 = true ∧ e.toD.depth ≤ 2 * n
  | 0, _, h => h.elim
  | n + 1, e, h => by
    obtain ⟨h1, h2, h3, h4⟩ := h
    have ih : ∀ p ∈ e.parts, p.toD.canLay0 = true ∧ p.toD.depth ≤ 2 * n := fun p hp => (h4 p hp).can
    have hs : ∀ s ∈ e.strs, (PyData.str s).canLay0 = true := fun s hs => lit_ok s (strOkL s (h1 s hs))
    have k1 : (PyData.str "num").canLay0 = true := by decide +kernel
    have k2 : (PyData.str "var").canLay0 = true := by decide +kernel
    have k3 : (PyData.str "call").canLay0 = true := by decide +kernel
    have k4 : (PyData.str "sum").canLay0 = true := by decide +kernel
    have k5 : (PyData.str "let").canLay0 = true := by decide +kernel
    have k6 : (PyData.str "if").canLay0 = true := by decide +kernel
    have k7 : (PyData.str "do").canLay0 = true := by decide +kernel
    have k8 : (PyData.str "handle").canLay0 = true := by decide +kernel
    have k9 : (PyData.str "resume").canLay0 = true := by decide +kernel
    have k10 : (PyData.str "repeat").canLay0 = true := by decide +kernel
    cases e with
    | call f bs es =>
      have a1 : PyData.canLayAll0 (bs.map .str) = true := canAll_mem fun d hd => by
        obtain ⟨b, hb, rfl⟩ := List.mem_map.mp hd
        exact hs b (by simp [Ex.strs, hb])
      have a2 : PyData.canLayAll0 (toDs es) = true := canAll_mem fun d hd => by
        rw [toDs_eq] at hd
        obtain ⟨p, hp, rfl⟩ := List.mem_map.mp hd
        exact (ih p hp).1
      have b1 : PyData.depthAll (bs.map .str) ≤ 0 := depthAll_le fun d hd => by
        obtain ⟨b, hb, rfl⟩ := List.mem_map.mp hd
        simp [PyData.depth]
      have b2 : PyData.depthAll (toDs es) ≤ 2 * n := depthAll_le fun d hd => by
        rw [toDs_eq] at hd
        obtain ⟨p, hp, rfl⟩ := List.mem_map.mp hd
        exact (ih p hp).2
      have a3 := hs f (by simp [Ex.strs])
      constructor
      · simp only [Ex.toD, PyData.canLay0, PyData.canLayAll0, a1, a2, Bool.and_true]
        simp only [PyData.canLay0] at k3 a3
        simp [k3, a3]
      · simp only [Ex.toD, PyData.depth, PyData.depthAll]
        omega
    | _ =>
      simp only [Ex.strs, Ex.parts, List.mem_cons, List.not_mem_nil, or_false, forall_eq_or_imp, forall_eq, false_imp_iff, implies_true] at hs ih
      constructor
      · simp only [Ex.toD, PyData.canLay0, PyData.canLayAll0, Bool.and_true, Bool.and_eq_true] at *
        simp_all
      · simp only [Ex.toD, PyData.depth, PyData.depthAll]
        omega
theorem Ex.ok.shaped {n : Nat} {e : Ex} (h : e.ok n) (hn : n ≤ 30) : SeqAt.shaped e.toD = true := by
  have := h.can
  unfold SeqAt.shaped
  rw [Bool.and_eq_true]
  exact ⟨this.1, decide_eq_true (by omega)⟩
/-! ### sorted names -/
theorem pair_of_rising : ∀ (r : List Str) (p : Str), risingS p r = true → (p :: r).Pairwise (fun a b => a.cps.toList ≤ b.cps.toList)
  | [], p, _ => by simp
  | x :: r, p, h => by
    simp only [risingS, Bool.and_eq_true, Bool.not_eq_true', ltCps_eq, decide_eq_false_iff_not] at h
    have ih := pair_of_rising r x h.2
    refine List.pairwise_cons.mpr ⟨fun y hy => ?_, ih⟩
    rcases List.mem_cons.mp hy with e | e
    · subst e; exact h.1
    · exact List.le_trans h.1 ((List.pairwise_cons.mp ih).1 y e)
theorem pair_of_sorted {l : List Str} (h : sortedS l = true) : l.Pairwise (fun a b => a.cps.toList ≤ b.cps.toList) := by
  cases l with
  | nil => exact .nil
  | cons x r => exact pair_of_rising r x h
theorem sorted_eq {l l' : List Str} (h : l.Pairwise (fun a b => a.cps.toList ≤ b.cps.toList)) (h' : l'.Pairwise (fun a b => a.cps.toList ≤ b.cps.toList)) (p : l.Perm l') : l = l' := by
  refine List.Perm.eq_of_pairwise (fun a b _ _ h1 h2 => ?_) h h' p
  have e := List.le_antisymm h1 h2
  cases a with | mk a => cases b with | mk b => exact congrArg Str.mk (Array.toList_inj.mp e)
/-- the names of a set, ascending: two ways -/
theorem ascend {ns ys zs : List Str} (nd : ns.Nodup) (hs : ∀ n ∈ ns, n ∈ LN) (p1 : ys.Perm ns) (s1 : sortedS ys = true) (p2 : zs.Perm LN) (s2 : sortedS zs = true) : ys = zs.filter (fun z => decide (z ∈ ns)) := by
  refine sorted_eq (pair_of_sorted s1) ((pair_of_sorted s2).filter _) (p1.trans ?_)
  have ndL : LN.Nodup := by decide +kernel
  refine (List.perm_ext_iff_of_nodup nd ((p2.nodup_iff.mpr ndL).filter _)).mpr fun a => ?_
  rw [List.mem_filter, decide_eq_true_iff, p2.mem_iff]
  exact ⟨fun h => ⟨hs a h, h⟩, fun h => h.2⟩
/-- the set of names met so far, in order -/
def addN (ns : List Str) (n : Str) : List Str := if n ∈ ns then ns else ns ++ [n]
def addAll (ns : List Str) (l : List Str) : List Str := l.foldl addN ns
theorem addN_nodup {ns : List Str} (n : Str) (h : ns.Nodup) : (addN ns n).Nodup := by
  unfold addN
  split
  · exact h
  · rename_i hn
    exact List.nodup_append.mpr ⟨h, by simp, fun a ha b hb => by simp at hb; subst hb; exact fun e => hn (e ▸ ha)⟩
theorem addN_sub {ns : List Str} {n : Str} (h : ∀ x ∈ ns, x ∈ LN) (hn : n ∈ LN) : ∀ x ∈ addN ns n, x ∈ LN := by
  unfold addN
  split
  · exact h
  · intro x hx
    rcases List.mem_append.mp hx with e | e
    · exact h x e
    · simp at e; subst e; exact hn
theorem addAll_ok : ∀ {l ns : List Str}, ns.Nodup → (∀ x ∈ ns, x ∈ LN) → (∀ x ∈ l, x ∈ LN) → (addAll ns l).Nodup ∧ ∀ x ∈ addAll ns l, x ∈ LN
  | [], ns, h1, h2, _ => ⟨h1, h2⟩
  | n :: l, ns, h1, h2, h3 => addAll_ok (l := l) (addN_nodup n h1) (addN_sub h2 (h3 n List.mem_cons_self)) fun x hx => h3 x (List.mem_cons_of_mem _ hx)
theorem nodup_len : ∀ {ns l : List Str}, ns.Nodup → (∀ x ∈ ns, x ∈ l) → ns.length ≤ l.length
  | [], _, _, _ => Nat.zero_le _
  | n :: ns, l, h1, h2 => by
    have hn := h2 n List.mem_cons_self
    have h3 := List.nodup_cons.mp h1
    have := nodup_len (ns := ns) (l := l.erase n) h3.2 fun x hx => (List.mem_erase_of_ne (fun (e : x = n) => h3.1 (e ▸ hx))).mpr (h2 x (List.mem_cons_of_mem _ hx))
    rw [List.length_erase_of_mem hn] at this
    have := List.length_pos_of_mem hn
    rw [List.length_cons]
    omega
theorem len_LN {ns : List Str} (h1 : ns.Nodup) (h2 : ∀ x ∈ ns, x ∈ LN) : ns.length ≤ 11 := by
  exact nodup_len h1 h2
/-- as a dict -/
def kvN (ns : List Str) : List (Key × V) := ns.map fun n => (Sum.inr n, V.bl true)
theorem kvN_has (ns : List Str) (n : Str) : (valV (kvN ns) (Sum.inr n)).isSome = decide (n ∈ ns) := by
  induction ns with
  | nil => simp [kvN, valV]
  | cons x r ih =>
    unfold kvN at *
    rw [List.map_cons]
    by_cases e : x = n
    · subst e
      rw [valV_pos (p := (Sum.inr x, V.bl true)) rfl]
      simp
    · rw [valV_neg (p := (Sum.inr x, V.bl true)) (fun z => e (Sum.inr.inj z)), ih]
      simp [Ne.symm e]
theorem kvN_put (ns : List Str) (n : Str) : putK (kvN ns) (Sum.inr n) (V.bl true) = kvN (addN ns n) := by
  unfold putK addN
  rw [valV_any, kvN_has]
  by_cases h : n ∈ ns
  · rw [if_pos (by simp [h]), if_pos h]
    unfold kvN
    rw [List.map_map]
    refine List.map_congr_left fun x _ => ?_
    simp
  · rw [if_neg (by simp [h]), if_neg h]
    simp [kvN]
theorem kvN_keys (ns : List Str) : (kvN ns).map (·.1) = ns.map Sum.inr := by simp [kvN]


theorem pre_nodes : ∀ (n : Nat) (e : Ex) (p : List Int), e.count ≤ n → ∃ ks : List (List Int × Ex), e.pre p = ks.map (fun k => nd k.1 k.2) ∧ e.names = ks.flatMap (fun k => k.2.own)
  | 0, e, p, h => by rw [count_eq] at h; omega
  | n + 1, e, p, h => by
    have hl : ∀ (es : List Ex) (i : Nat), (es.map Ex.count).sum ≤ n → ∃ ks : List (List Int × Ex), preL p i es = ks.map (fun k => nd k.1 k.2) ∧ es.flatMap Ex.names = ks.flatMap (fun k => k.2.own) := by
      intro es
      induction es with
      | nil => intro i _; exact ⟨[], rfl, rfl⟩
      | cons x r ih =>
        intro i hs
        rw [List.map_cons, List.sum_cons] at hs
        obtain ⟨k1, a1, b1⟩ := pre_nodes n x (p ++ [(i : Int)]) (by omega)
        obtain ⟨k2, a2, b2⟩ := ih (i + 1) (by omega)
        refine ⟨k1 ++ k2, ?_, ?_⟩
        · simp only [preL, a1, a2, List.map_append]
        · rw [List.flatMap_cons, List.flatMap_append, b1, b2]
    rw [count_eq] at h
    obtain ⟨ks, a, b⟩ := hl e.parts 0 (by omega)
    exact ⟨(p, e) :: ks, by rw [pre_eq, a]; rfl, by rw [names_eq, b]; rfl⟩
theorem addAll_append (ns a b : List Str) : addAll ns (a ++ b) = addAll (addAll ns a) b := by unfold addAll; exact List.foldl_append
theorem kvN_len {ns : List Str} (h1 : ns.Nodup) (h2 : ∀ x ∈ ns, x ∈ LN) : (kvN ns).length < 1000 := by
  have := len_LN h1 h2
  unfold kvN
  rw [List.length_map]
  omega

theorem tyD_toD (e : Ex) : tyD e.toD = "tuple" := by cases e <;> simp [Ex.toD, tyD]
theorem filter_parts (e : Ex) (ds : List PyData) (h : e.toD = .tuple ds) (hc : ∀ f bs es, e ≠ .call f bs es) : (ds.drop 1).filter (fun d => tyD d == "tuple") = toDs e.parts := by
  cases e with
  | call f bs es => exact absurd rfl (hc f bs es)
  | _ =>
    simp only [Ex.toD, PyData.tuple.injEq] at h
    subst h
    have h1 : ∀ e : Ex, (tyD e.toD == "tuple") = true := fun e => by rw [tyD_toD]; rfl
    have h2 : ∀ z : Str, (tyD (.str z) == "tuple") = false := fun _ => rfl
    have h3 : ∀ z : Int, (tyD (.int z) == "tuple") = false := fun _ => rfl
    simp only [Ex.parts, toDs, List.drop_succ_cons, List.drop_zero, List.filter_cons, List.filter_nil, h1, h2, h3, if_true, Bool.false_eq_true, if_false]

theorem lnlo {x : Str} (h : x ∈ LN) : x ∈ LN ++ LO := List.mem_append_left _ h
theorem ok_num (n : Int) (k : Nat) : (Ex.num n).ok (k + 1) := ⟨by simp [Ex.strs], by simp [Ex.own], by simp [Ex.parts], by simp [Ex.parts]⟩
theorem ok_var {x : Str} (h : x ∈ LN) (k : Nat) : (Ex.var x).ok (k + 1) := ⟨by simp only [Ex.strs, List.mem_singleton, forall_eq]; exact lnlo h, by simp [Ex.own, h], by simp [Ex.parts], by simp [Ex.parts]⟩
theorem ok_sum {o : Str} {n : Nat} {a b : Ex} (h : o ∈ LO) (ha : a.ok n) (hb : b.ok n) : (Ex.sum o a b).ok (n + 1) := ⟨by simp only [Ex.strs, List.mem_singleton, forall_eq]; exact List.mem_append_right _ h, by simp [Ex.own], by simp [Ex.parts], by simp [Ex.parts, ha, hb]⟩
theorem ok_lett {x : Str} {n : Nat} {a b : Ex} (h : x ∈ LN) (ha : a.ok n) (hb : b.ok n) : (Ex.lett x a b).ok (n + 1) := ⟨by simp only [Ex.strs, List.mem_singleton, forall_eq]; exact lnlo h, by simp [Ex.own, h], by simp [Ex.parts], by simp [Ex.parts, ha, hb]⟩
theorem ok_ite {n : Nat} {a b c : Ex} (hc : c.ok n) (ha : a.ok n) (hb : b.ok n) : (Ex.ite c a b).ok (n + 1) := ⟨by simp [Ex.strs], by simp [Ex.own], by simp [Ex.parts], by simp [Ex.parts, ha, hb, hc]⟩
theorem ok_dop {x : Str} {n : Nat} {a : Ex} (h : x ∈ LN) (ha : a.ok n) : (Ex.dop x a).ok (n + 1) := ⟨by simp only [Ex.strs, List.mem_singleton, forall_eq]; exact lnlo h, by simp [Ex.own], by simp [Ex.parts], by simp [Ex.parts, ha]⟩
theorem ok_handle {x : Str} {n : Nat} {a b : Ex} (h : x ∈ LN) (ha : a.ok n) (hb : b.ok n) : (Ex.handle a x b).ok (n + 1) := ⟨by simp only [Ex.strs, List.mem_singleton, forall_eq]; exact lnlo h, by simp [Ex.own], by simp [Ex.parts], by simp [Ex.parts, ha, hb]⟩
theorem ok_resume {n : Nat} {a b : Ex} (ha : a.ok n) (hb : b.ok n) : (Ex.resume a b).ok (n + 1) := ⟨by simp [Ex.strs], by simp [Ex.own], by simp [Ex.parts], by simp [Ex.parts, ha, hb]⟩
theorem ok_rept {x : Str} {n : Nat} {i : Int} {a b : Ex} (h : x ∈ LN) (ha : a.ok n) (hb : b.ok n) : (Ex.rept i x a b).ok (n + 1) := ⟨by simp only [Ex.strs, List.mem_singleton, forall_eq]; exact lnlo h, by simp [Ex.own, h], by simp [Ex.parts], by simp [Ex.parts, ha, hb]⟩
theorem ok_call {x : Str} {n : Nat} {bs : List Str} {es : List Ex} (h : x ∈ LN) (hb : ∀ b ∈ bs, b ∈ LN) (hl : es.length ≤ 3) (he : ∀ e ∈ es, e.ok n) : (Ex.call x bs es).ok (n + 1) :=
  ⟨by simp only [Ex.strs, List.mem_cons]; rintro s (rfl | hs); exact lnlo h; exact lnlo (hb s hs), by simp [Ex.own], hl, he⟩

theorem things_swap (m : Str → Option Ex) (e : Ex) (hv : ∀ z, e ≠ .var z) (hc : ∀ f bs es, e ≠ .call f bs es) : ∃ (k : Str) (ds tds : List PyData), e.toD = .tuple ds ∧ (e.swap m).toD = .tuple tds ∧ tds.length = ds.length ∧ ds.length ≤ 10 ∧
    ds[0]? = some (.str k) ∧ V.str k ≠ V.str "call" ∧ V.str k ≠ V.str "var" ∧
    ∀ (i : Nat) (d : PyData), ds[i]? = some d → (∃ p ∈ e.parts, d = p.toD ∧ tds[i]? = some (p.swap m).toD) ∨ ((tyD d == "tuple") = false ∧ tds[i]? = some d) := by
  have h2 : ∀ z : Str, (tyD (.str z) == "tuple") = false := fun _ => rfl
  have h3 : ∀ z : Int, (tyD (.int z) == "tuple") = false := fun _ => rfl
  cases e with
  | var z => exact absurd rfl (hv z)
  | call f bs es => exact absurd rfl (hc f bs es)
  | num n =>
    refine ⟨_, _, _, rfl, rfl, rfl, Nat.le_of_ble_eq_true rfl, rfl, by decide +kernel, by decide +kernel, fun i d h => ?_⟩
    match i, h with
    | 0, h => cases h; exact .inr ⟨h2 _, rfl⟩
    | 1, h => cases h; exact .inr ⟨h3 _, rfl⟩
  | sum o a b =>
    refine ⟨_, _, _, rfl, rfl, rfl, Nat.le_of_ble_eq_true rfl, rfl, by decide +kernel, by decide +kernel, fun i d h => ?_⟩
    match i, h with
    | 0, h => cases h; exact .inr ⟨h2 _, rfl⟩
    | 1, h => cases h; exact .inr ⟨h2 _, rfl⟩
    | 2, h => cases h; exact .inl ⟨a, by simp [Ex.parts], rfl, rfl⟩
    | 3, h => cases h; exact .inl ⟨b, by simp [Ex.parts], rfl, rfl⟩
  | lett o a b =>
    refine ⟨_, _, _, rfl, rfl, rfl, Nat.le_of_ble_eq_true rfl, rfl, by decide +kernel, by decide +kernel, fun i d h => ?_⟩
    match i, h with
    | 0, h => cases h; exact .inr ⟨h2 _, rfl⟩
    | 1, h => cases h; exact .inr ⟨h2 _, rfl⟩
    | 2, h => cases h; exact .inl ⟨a, by simp [Ex.parts], rfl, rfl⟩
    | 3, h => cases h; exact .inl ⟨b, by simp [Ex.parts], rfl, rfl⟩
  | ite a b c =>
    refine ⟨_, _, _, rfl, rfl, rfl, Nat.le_of_ble_eq_true rfl, rfl, by decide +kernel, by decide +kernel, fun i d h => ?_⟩
    match i, h with
    | 0, h => cases h; exact .inr ⟨h2 _, rfl⟩
    | 1, h => cases h; exact .inl ⟨a, by simp [Ex.parts], rfl, rfl⟩
    | 2, h => cases h; exact .inl ⟨b, by simp [Ex.parts], rfl, rfl⟩
    | 3, h => cases h; exact .inl ⟨c, by simp [Ex.parts], rfl, rfl⟩
  | dop o a =>
    refine ⟨_, _, _, rfl, rfl, rfl, Nat.le_of_ble_eq_true rfl, rfl, by decide +kernel, by decide +kernel, fun i d h => ?_⟩
    match i, h with
    | 0, h => cases h; exact .inr ⟨h2 _, rfl⟩
    | 1, h => cases h; exact .inr ⟨h2 _, rfl⟩
    | 2, h => cases h; exact .inl ⟨a, by simp [Ex.parts], rfl, rfl⟩
  | handle a o b =>
    refine ⟨_, _, _, rfl, rfl, rfl, Nat.le_of_ble_eq_true rfl, rfl, by decide +kernel, by decide +kernel, fun i d h => ?_⟩
    match i, h with
    | 0, h => cases h; exact .inr ⟨h2 _, rfl⟩
    | 1, h => cases h; exact .inl ⟨a, by simp [Ex.parts], rfl, rfl⟩
    | 2, h => cases h; exact .inr ⟨h2 _, rfl⟩
    | 3, h => cases h; exact .inl ⟨b, by simp [Ex.parts], rfl, rfl⟩
  | resume a b =>
    refine ⟨_, _, _, rfl, rfl, rfl, Nat.le_of_ble_eq_true rfl, rfl, by decide +kernel, by decide +kernel, fun i d h => ?_⟩
    match i, h with
    | 0, h => cases h; exact .inr ⟨h2 _, rfl⟩
    | 1, h => cases h; exact .inl ⟨a, by simp [Ex.parts], rfl, rfl⟩
    | 2, h => cases h; exact .inl ⟨b, by simp [Ex.parts], rfl, rfl⟩
  | rept n o a b =>
    refine ⟨_, _, _, rfl, rfl, rfl, Nat.le_of_ble_eq_true rfl, rfl, by decide +kernel, by decide +kernel, fun i d h => ?_⟩
    match i, h with
    | 0, h => cases h; exact .inr ⟨h2 _, rfl⟩
    | 1, h => cases h; exact .inr ⟨h3 _, rfl⟩
    | 2, h => cases h; exact .inr ⟨h2 _, rfl⟩
    | 3, h => cases h; exact .inl ⟨a, by simp [Ex.parts], rfl, rfl⟩
    | 4, h => cases h; exact .inl ⟨b, by simp [Ex.parts], rfl, rfl⟩
end K08

namespace K08
open PySem PySem.Spec PyProof.Rows L2 AN
def topS (i : Nat) : Stmt := PySem.Challenge.pw_asknest_k08_names_swapped.main.body.getD i (.Pass ⟨0, 0, 0, 0⟩)
abbrev s_parts_of : Stmt := topS 1
abbrev N_parts_of : List Str := ["expr", "kind"]
theorem sc_parts_of : FnScope N_parts_of ["expr"] (defScope s_parts_of) := ⟨rfl, rfl, rfl, by decide +kernel, rfl, by decide +kernel, by decide +kernel⟩
abbrev s_with_parts : Stmt := topS 2
abbrev N_with_parts : List Str := ["expr", "parts", "kind"]
theorem sc_with_parts : FnScope N_with_parts ["expr", "parts"] (defScope s_with_parts) := ⟨rfl, rfl, rfl, by decide +kernel, rfl, by decide +kernel, by decide +kernel⟩
abbrev s_preorder : Stmt := topS 3
abbrev N_preorder : List Str := ["expr", "found", "waiting", "path", "one", "parts", "back", "place"]
theorem sc_preorder : FnScope N_preorder ["expr"] (defScope s_preorder) := ⟨rfl, rfl, rfl, by decide +kernel, rfl, by decide +kernel, by decide +kernel⟩
abbrev s_names_in : Stmt := topS 4
abbrev N_names_in : List Str := ["expr", "found", "path", "one"]
theorem sc_names_in : FnScope N_names_in ["expr"] (defScope s_names_in) := ⟨rfl, rfl, rfl, by decide +kernel, rfl, by decide +kernel, by decide +kernel⟩
abbrev s_swap_names : Stmt := topS 5
abbrev N_swap_names : List Str := ["expr", "swaps", "part"]
theorem sc_swap_names : FnScope N_swap_names ["expr", "swaps"] (defScope s_swap_names) := ⟨rfl, rfl, rfl, by decide +kernel, rfl, by decide +kernel, by decide +kernel⟩
abbrev s_law_begin : Stmt := topS 7
abbrev N_law_begin : List Str := ["script", "cell"]
theorem sc_law_begin : FnScope N_law_begin ["script"] (defScope s_law_begin) := ⟨rfl, rfl, rfl, by decide +kernel, rfl, by decide +kernel, by decide +kernel⟩
abbrev s_law_draw : Stmt := topS 8
abbrev N_law_draw : List Str := ["d", "many", "found", "size", "cell"]
theorem sc_law_draw : FnScope N_law_draw ["d", "many"] (defScope s_law_draw) := ⟨rfl, rfl, rfl, by decide +kernel, rfl, by decide +kernel, by decide +kernel⟩
abbrev s_law_pick : Stmt := topS 9
abbrev N_law_pick : List Str := ["d", "row"]
theorem sc_law_pick : FnScope N_law_pick ["d", "row"] (defScope s_law_pick) := ⟨rfl, rfl, rfl, by decide +kernel, rfl, by decide +kernel, by decide +kernel⟩
abbrev s_law_parts : Stmt := topS 10
abbrev N_law_parts : List Str := ["expr", "kind", "part"]
theorem sc_law_parts : FnScope N_law_parts ["expr"] (defScope s_law_parts) := ⟨rfl, rfl, rfl, by decide +kernel, rfl, by decide +kernel, by decide +kernel⟩
abbrev s_law_list : Stmt := topS 11
abbrev N_law_list : List Str := []
theorem sc_law_list : FnScope N_law_list [] (defScope s_law_list) := ⟨rfl, rfl, rfl, by decide +kernel, rfl, by decide +kernel, by decide +kernel⟩
abbrev s_law_word : Stmt := topS 12
abbrev N_law_word : List Str := ["d"]
theorem sc_law_word : FnScope N_law_word ["d"] (defScope s_law_word) := ⟨rfl, rfl, rfl, by decide +kernel, rfl, by decide +kernel, by decide +kernel⟩
abbrev s_law_form : Stmt := topS 13
abbrev N_law_form : List Str := ["d", "depth", "kind", "word", "first", "second", "given", "passed", "k"]
theorem sc_law_form : FnScope N_law_form ["d", "depth"] (defScope s_law_form) := ⟨rfl, rfl, rfl, by decide +kernel, rfl, by decide +kernel, by decide +kernel⟩
abbrev s_law_drawn : Stmt := topS 14
abbrev N_law_drawn : List Str := ["d", "expr", "k"]
theorem sc_law_drawn : FnScope N_law_drawn ["d"] (defScope s_law_drawn) := ⟨rfl, rfl, rfl, by decide +kernel, rfl, by decide +kernel, by decide +kernel⟩
abbrev s_law_met : Stmt := topS 15
abbrev N_law_met : List Str := ["expr", "found", "part"]
theorem sc_law_met : FnScope N_law_met ["expr", "found"] (defScope s_law_met) := ⟨rfl, rfl, rfl, by decide +kernel, rfl, by decide +kernel, by decide +kernel⟩
abbrev s_law_ascending : Stmt := topS 16
abbrev N_law_ascending : List Str := ["found", "name"]
theorem sc_law_ascending : FnScope N_law_ascending ["found"] (defScope s_law_ascending) := ⟨rfl, rfl, rfl, by decide +kernel, rfl, by decide +kernel, by decide +kernel⟩
abbrev s_law_swapped : Stmt := topS 17
abbrev N_law_swapped : List Str := ["expr", "swaps", "row", "thing", "part"]
theorem sc_law_swapped : FnScope N_law_swapped ["expr", "swaps"] (defScope s_law_swapped) := ⟨rfl, rfl, rfl, by decide +kernel, rfl, by decide +kernel, by decide +kernel⟩
abbrev s_law_swaps : Stmt := topS 18
abbrev N_law_swaps : List Str := ["d", "found", "name", "other", "k"]
theorem sc_law_swaps : FnScope N_law_swaps ["d"] (defScope s_law_swaps) := ⟨rfl, rfl, rfl, by decide +kernel, rfl, by decide +kernel, by decide +kernel⟩
abbrev s_law_is_right : Stmt := topS 19
abbrev N_law_is_right : List Str := ["expr", "swaps", "kept", "due", "told"]
theorem sc_law_is_right : FnScope N_law_is_right ["expr", "swaps"] (defScope s_law_is_right) := ⟨rfl, rfl, rfl, by decide +kernel, rfl, by decide +kernel, by decide +kernel⟩
abbrev s_law : Stmt := topS 20
abbrev N_law : List Str := ["script", "d", "expr", "swaps", "name"]
theorem sc_law : FnScope N_law ["script"] (defScope s_law) := ⟨rfl, rfl, rfl, by decide +kernel, rfl, by decide +kernel, by decide +kernel⟩
structure Top (K : PySem.W.Frag) (mg : Str → Option Value) : Prop where
  m_abs : mg "abs" = none
  m_dict : mg "dict" = none
  m_int : mg "int" = none
  m_isinstance : mg "isinstance" = none
  m_len : mg "len" = none
  m_list : mg "list" = none
  m_range : mg "range" = none
  m_sorted : mg "sorted" = none
  m_tuple : mg "tuple" = none
  d_parts_of : Def K mg "parts_of" s_parts_of ["expr"]
  d_with_parts : Def K mg "with_parts" s_with_parts ["expr", "parts"]
  d_preorder : Def K mg "preorder" s_preorder ["expr"]
  d_names_in : Def K mg "names_in" s_names_in ["expr"]
  d_swap_names : Def K mg "swap_names" s_swap_names ["expr", "swaps"]
  d_law_begin : Def K mg "_law_begin" s_law_begin ["script"]
  d_law_draw : Def K mg "_law_draw" s_law_draw ["d", "many"]
  d_law_pick : Def K mg "_law_pick" s_law_pick ["d", "row"]
  d_law_parts : Def K mg "_law_parts" s_law_parts ["expr"]
  d_law_list : Def K mg "_law_list" s_law_list []
  d_law_word : Def K mg "_law_word" s_law_word ["d"]
  d_law_form : Def K mg "_law_form" s_law_form ["d", "depth"]
  d_law_drawn : Def K mg "_law_drawn" s_law_drawn ["d"]
  d_law_met : Def K mg "_law_met" s_law_met ["expr", "found"]
  d_law_ascending : Def K mg "_law_ascending" s_law_ascending ["found"]
  d_law_swapped : Def K mg "_law_swapped" s_law_swapped ["expr", "swaps"]
  d_law_swaps : Def K mg "_law_swaps" s_law_swaps ["d"]
  d_law_is_right : Def K mg "_law_is_right" s_law_is_right ["expr", "swaps"]
  d_law : Def K mg "law" s_law ["script"]
section
variable {P : Program} {w : World} {K : PySem.W.Frag} {mg : Str → Option Value} {base : Heap}
local macro_rules | `(tactic| regloopunroll_open) => `(tactic| (repeat (first | kct_strs | regstrif_slice | kfm_turns | ((with_reducible refine' ixL_q ?h ?e ?j ?_); (case j => exact rfl); (case h => first | assumption | exact SqL.of (by regstrif_fact)); (case e => first | exact rfl | assumption)) | (with_reducible first | refine rI0_int ?_ | refine ipI_int ?_ | refine addG_int ?_ | refine intOf_int ?_ | refine intOf_bl ?_ | refine absOf_int ?_ | refine rU_int ?_ | refine eqG_int ?_ | refine neG_int ?_ | refine neG_str ?_) | ((with_reducible refine' rI_int ?c ?_); (case c => (first | exact Int.mul_pos (by decide) (Int.pow_pos (by decide)) | omega | exact ⟨by omega, by omega⟩ | exact Or.inl ⟨by omega, by omega⟩ | exact Or.inr ⟨by omega, by omega⟩ | exact ⟨by omega, by omega, by decide⟩ | decide))) | (first | ((with_reducible refine' tupOf_rep ?h ?_); (case h => lcg_src)) | ((with_reducible refine' tupOf_lst ?h ?_); (case h => regstrif_fact); intro _ _ _ _ _)) | ((with_reducible refine' isi_rep ?h ?e ?_); (case h => lcg_src); (case e => first | exact (show kitB "tuple" _ = some true by decide +kernel) | exact (show kitB "tuple" _ = some false by decide +kernel) | exact (show kitB "int" _ = some true by decide +kernel) | exact (show kitB "int" _ = some false by decide +kernel) | exact (show kitB "str" _ = some true by decide +kernel) | exact (show kitB "str" _ = some false by decide +kernel) | exact (show kitB "bool" _ = some true by decide +kernel) | exact (show kitB "bool" _ = some false by decide +kernel))) | ((with_reducible refine' draw_q ?h ?a ?b ?_); (case h => regstrif_gather); (case a => first | decide | omega); (case b => first | decide | omega); intro _ _ _ _ _) | ((with_reducible refine' setD_q ?h ?x ?l ?_); (case h => regstrif_fact); (case x => (first | exact (show V.str _ = kV (Sum.inr _) from rfl) | exact (show V.int _ = kV (Sum.inl _) from rfl))); (case l => assumption); intro _ _ _) | ((with_reducible first | refine' inD_q ?h ?x ?_ | refine' notInD_q ?h ?x ?_); (case h => regstrif_fact); (case x => (first | exact (show V.str _ = kV (Sum.inr _) from rfl) | exact (show V.int _ = kV (Sum.inl _) from rfl)))) | (with_reducible refine g_dnew (fun _ _ _ _ _ => ?_)) | ((with_reducible refine' lst_ty ?h ?_); (case h => regstrif_fact)) | ((with_reducible refine' append_q ?h ?l ?_); (case h => regstrif_fact); (case l => assumption); intro _ _ _) | ((with_reducible refine' pop_q ?h ?_); (case h => regstrif_fact); intro _ _ _) | ((with_reducible refine' gTup2_rep ?h ?_); (case h => lcg_src); intro _ _ _ _) | ((with_reducible refine' gTup3_rep ?h ?_); (case h => lcg_src); intro _ _ _ _ _ _) | ((with_reducible refine' setL_q ?h ?j ?k ?_); (case j => exact rfl); (case h => regstrif_fact); (case k => first | exact Nat.le_of_ble_eq_true rfl | assumption); intro _ _ _) | ((with_reducible refine' len_lst ?h ?_); (case h => lsm_bools)) | ((with_reducible refine' len_tup ?h ?_); (case h => lcg_src)) | ((with_reducible refine' g_aug ?e ?_); (case e => exact rfl)) | ((with_reducible refine' getL_q ?h ?e ?j ?_); (case j => exact rfl); (case h => lsm_bools); (case e => first | exact rfl | assumption)) | ((with_reducible refine' setL1_q ?h ?j ?k ?_); (case j => exact rfl); (case h => regstrif_fact); (case k => first | exact Nat.le_of_ble_eq_true rfl | assumption); intro _ _ _) | ((with_reducible refine' newR ?k ?r ?l ?_); (case k => assumption); (case r => lcg_sub); (case l => exact Nat.le_of_ble_eq_true rfl); intro _ _ _ _) | (with_reducible refine newT (Nat.le_of_ble_eq_true rfl) (fun _ _ _ _ _ => ?_)) | (with_reducible refine newL (Nat.le_of_ble_eq_true rfl) (fun _ _ _ _ _ => ?_)) | ((with_reducible refine' in_rep ?h ?e1 ?e2 ?e3 ?e4 ?_); (case h => lcg_src); (case e1 => exact rfl); (case e2 => exact rfl); (case e3 => exact rfl); (case e4 => first | exact (show _ = true by decide +kernel) | exact (show _ = false by decide +kernel))) | with_reducible refine eqG_str ?_ | (first | ((with_reducible refine' ifT ?e ?_); (case e => (with_reducible rfl))) | ((with_reducible refine' ifF ?e ?_); (case e => decide +kernel)) | ((with_reducible refine' ifNF ?e ?_); (case e => (with_reducible rfl))) | ((with_reducible refine' ifNT ?e ?_); (case e => decide +kernel)) | with_reducible refine iteN1 ?_ | with_reducible refine iteN0 ?_ | with_reducible refine iteT ?_ | with_reducible refine iteF ?_))))
local macro_rules | `(tactic| lcg_src) => `(tactic| (repeat' (first | exact rep_as (by assumption) | exact rep_int | exact rep_str | exact rep_bl | exact rep_non | (with_reducible refine' Rep.up ?_ (by assumption)))))
local macro_rules | `(tactic| lcg_sub) => `(tactic| (repeat' (first | (with_reducible exact reps_nil) | (with_reducible refine' reps_cons ?_ ?_) | exact rep_as (by assumption) | exact reps_as (by assumption) | exact rep_int | exact rep_str | exact rep_bl | exact rep_non | (with_reducible refine' Rep.up ?_ (by assumption)) | (with_reducible refine' Reps.up ?_ (by assumption)))))
local macro_rules | `(tactic| lcg_off) => `(tactic| (repeat' (first | exact Fr.refl _ _ | exact fr_as (by assumption) | refine Fr.step0 ?_ (by assumption) | refine Fr.step ?_ (by assumption))))
local macro_rules | `(tactic| regstrif_fact) => `(tactic| (repeat' (first | exact at_as (by assumption) | refine' Fr.at (by assumption) ?_ | refine' Fr.at1 (by assumption) ?_ (by first | assumption | exact Ne.symm (by assumption)))))
local macro_rules | `(tactic| regstrif_gather) => `(tactic| (repeat' (first | exact dok_as (by assumption) | refine' DrawOk.fr0 ?_ (by assumption) | refine' DrawOk.fr1 ?_ (by assumption) (by assumption) (by assumption))))
local macro_rules | `(tactic| regstrif_slice) => `(tactic| (dsimp only [List.set, List.cons_append, List.nil_append, List.append_nil, Option.isSome_none, Option.isSome_some, Option.getD_none, Option.getD_some, Bool.not_true, Bool.not_false]))
local macro_rules | `(tactic| kpt_turns) => `(tactic| dsimp only [cxOf, List.map, List.cons_append, List.nil_append])
local macro_rules | `(tactic| kpc_turns) => `(tactic| (repeat (first | kct_strs | regstrif_slice)))
local macro_rules | `(tactic| kfm_turns) => `(tactic| ((with_reducible refine' ix_get ?h ?j ?e ?_); (case h => lcg_src); (case j => exact rfl); (case e => exact rfl); (first | with_reducible refine get_str ?_ | with_reducible refine get_int ?_ | with_reducible refine get_bl ?_ | refine get_any (fun _ _ => ?_))))
local macro_rules | `(tactic| lsm_bools) => `(tactic| (first | assumption | exact SqL.of (by regstrif_fact)))
local macro_rules | `(tactic| kct_strs) => `(tactic| (first | (with_reducible first | refine g_seq ?_ | refine g_next ?_ | refine g_asg ?_ | refine g_name ?_ | refine g_c ?_ | refine g_op ?_ | refine g_tup ?_ | refine g_lst ?_ | refine g_nil ?_ | refine g_cons ?_ | refine g_ret ?_ | refine g_retN ?_ | refine g_ifs ?_ | refine g_test ?_ | refine g_b ?_ | refine g_drop ?_ | refine g_bl ?_ | refine g_and ?_ | refine g_or ?_ | refine g_not ?_ | refine g_andV ?_ | refine g_orV ?_ | refine g_cb ?_ | refine g_call ?_ | refine g_un ?_ | refine g_if ?_ | refine g_sub ?_ | refine g_yes ?_ | refine g_tapp ?_ | refine g_tapp0 ?_ | refine g_sl ?_ | refine g_nopart ?_ | refine g_part ?_ | refine g_int ?_ | refine g_augs ?_ | refine g_forR1 ?_ | refine g_lcR1 ?_) | ((with_reducible refine' g_var ?e ?_); (case e => exact rfl))))

def spParts (K : PySem.W.Frag) : Sp := fun vs H Q _ => ∃ x e, vs = [x] ∧ Rep K H (Ex.toD e) x ∧ ∀ H' r, Fr [] H H' → Rep K H' (.tuple (toDs e.parts)) r → Q r H'
theorem ok_parts_of (T : Top K mg) : Cal P w K mg base CX0 1 "parts_of" ["expr"] (spParts K) := by
  refine T.d_parts_of.cal sc_parts_of [none] rfl (fun vs H Q E h => ?_) (fun f cdv A outer s H vs Q E hk hr h => ?_)
  · obtain ⟨x, e, rfl, _⟩ := h; rfl
  obtain ⟨x, e, rfl, hx, q⟩ := h
  have hu := hu_of hr
  refine ⟨_, (pss_cons (ps_set (i := 1) sc_parts_of.nd rfl (Or.inl rfl) (pe_ix (ix_GK (K := K) rfl hu) (pv 0) pe_int (fun _ _ => rfl))) (pss_cons (ps_if (pt_cmpR (op_inGK (K := K) rfl hu) (pv 1) (pe_tup (pa_cons pe_str (pa_cons pe_str pa_nil))) (by rfl)) (pss_one (ps_ret (pe_tup pa_nil))) pss_nil) (pss_cons (ps_if (pt_cmpR (op_eqGK (K := K) rfl hr.units) (pv 1) pe_str (nomark _)) (pss_one (ps_ret (pe_ix (ix_GK (K := K) rfl hu) (pv 0) pe_int (fun _ _ => rfl)))) pss_nil) (pss_cons (ps_if (pt_cmpR (op_eqGK (K := K) rfl hr.units) (pv 1) pe_str (nomark _)) (pss_one (ps_ret (pe_tup (pa_cons (pe_ix (ix_GK (K := K) rfl hu) (pv 0) pe_int (fun _ _ => rfl)) pa_nil)))) pss_nil) (pss_cons (ps_if (pt_cmpR (op_eqGK (K := K) rfl hr.units) (pv 1) pe_str (nomark _)) (pss_one (ps_ret (pe_tup (pa_cons (pe_ix (ix_GK (K := K) rfl hu) (pv 0) pe_int (fun _ _ => rfl)) (pa_cons (pe_ix (ix_GK (K := K) rfl hu) (pv 0) pe_int (fun _ _ => rfl)) pa_nil))))) pss_nil) (pss_cons (ps_if (pt_cmpR (op_eqGK (K := K) rfl hr.units) (pv 1) pe_str (nomark _)) (pss_one (ps_ret (pe_tup (pa_cons (pe_ix (ix_GK (K := K) rfl hu) (pv 0) pe_int (fun _ _ => rfl)) (pa_cons (pe_ix (ix_GK (K := K) rfl hu) (pv 0) pe_int (fun _ _ => rfl)) pa_nil))))) pss_nil) (pss_cons (ps_if (pt_cmpR (op_eqGK (K := K) rfl hr.units) (pv 1) pe_str (nomark _)) (pss_one (ps_ret (pe_tup (pa_cons (pe_ix (ix_GK (K := K) rfl hu) (pv 0) pe_int (fun _ _ => rfl)) (pa_cons (pe_ix (ix_GK (K := K) rfl hu) (pv 0) pe_int (fun _ _ => rfl)) (pa_cons (pe_ix (ix_GK (K := K) rfl hu) (pv 0) pe_int (fun _ _ => rfl)) pa_nil)))))) pss_nil) (pss_cons (ps_if (pt_cmpR (op_eqGK (K := K) rfl hr.units) (pv 1) pe_str (nomark _)) (pss_one (ps_ret (pe_tup (pa_cons (pe_ix (ix_GK (K := K) rfl hu) (pv 0) pe_int (fun _ _ => rfl)) (pa_cons (pe_ix (ix_GK (K := K) rfl hu) (pv 0) pe_int (fun _ _ => rfl)) pa_nil))))) pss_nil) (pss_one (ps_ret (pe_tup (pa_cons (pe_ix (ix_GK (K := K) rfl hu) (pv 0) pe_int (fun _ _ => rfl)) (pa_cons (pe_ix (ix_GK (K := K) rfl hu) (pv 0) pe_int (fun _ _ => rfl)) pa_nil))))))))))))), ?_⟩
  kpt_turns
  cases e with
  | _ =>
    regloopunroll_open
    exact q _ _ (by lcg_off) (by lcg_src)
def spWith (K : PySem.W.Frag) : Sp := fun vs H Q _ => ∃ x y e es, vs = [x, y] ∧ Rep K H (Ex.toD e) x ∧ Rep K H (.tuple (toDs es)) y ∧ es.length = e.parts.length ∧ ∀ H' r, Fr [] H H' → Rep K H' (e.withP es).toD r → Q r H'
theorem ok_with_parts (T : Top K mg) : Cal P w K mg base CX0 1 "with_parts" ["expr", "parts"] (spWith K) := by
  refine T.d_with_parts.cal sc_with_parts [none] rfl (fun vs H Q E h => ?_) (fun f cdv A outer s H vs Q E hk hr h => ?_)
  · obtain ⟨x, y, e, es, rfl, _⟩ := h; rfl
  obtain ⟨x, y, e, es, rfl, hx, hy, hl, q⟩ := h
  have hu := hu_of hr
  refine ⟨_, (pss_cons (ps_set (i := 2) sc_with_parts.nd rfl (Or.inl rfl) (pe_ix (ix_GK (K := K) rfl hu) (pv 0) pe_int (fun _ _ => rfl))) (pss_cons (ps_if (pt_cmpR (op_inGK (K := K) rfl hu) (pv 2) (pe_tup (pa_cons pe_str (pa_cons pe_str pa_nil))) (by rfl)) (pss_one (ps_ret (pv 0))) pss_nil) (pss_cons (ps_if (pt_cmpR (op_eqGK (K := K) rfl hr.units) (pv 2) pe_str (nomark _)) (pss_one (ps_ret (pe_tup (pa_cons pe_str (pa_cons (pe_ix (ix_GK (K := K) rfl hu) (pv 0) pe_int (fun _ _ => rfl)) (pa_cons (pe_ix (ix_GK (K := K) rfl hu) (pv 0) pe_int (fun _ _ => rfl)) (pa_cons (pe_callTy (call_tupGK (K := K) rfl) (by rfl) T.m_tuple (by decide +kernel) (pa_cons (pv 1) pa_nil)) pa_nil))))))) pss_nil) (pss_cons (ps_if (pt_cmpR (op_eqGK (K := K) rfl hr.units) (pv 2) pe_str (nomark _)) (pss_one (ps_ret (pe_tup (pa_cons pe_str (pa_cons (pe_ix (ix_GK (K := K) rfl hu) (pv 0) pe_int (fun _ _ => rfl)) (pa_cons (pe_ix (ix_GK (K := K) rfl hu) (pv 1) pe_int (fun _ _ => rfl)) pa_nil)))))) pss_nil) (pss_cons (ps_if (pt_cmpR (op_eqGK (K := K) rfl hr.units) (pv 2) pe_str (nomark _)) (pss_one (ps_ret (pe_tup (pa_cons pe_str (pa_cons (pe_ix (ix_GK (K := K) rfl hu) (pv 1) pe_int (fun _ _ => rfl)) (pa_cons (pe_ix (ix_GK (K := K) rfl hu) (pv 0) pe_int (fun _ _ => rfl)) (pa_cons (pe_ix (ix_GK (K := K) rfl hu) (pv 1) pe_int (fun _ _ => rfl)) pa_nil))))))) pss_nil) (pss_cons (ps_if (pt_cmpR (op_eqGK (K := K) rfl hr.units) (pv 2) pe_str (nomark _)) (pss_one (ps_ret (pe_tup (pa_cons pe_str (pa_cons (pe_ix (ix_GK (K := K) rfl hu) (pv 1) pe_int (fun _ _ => rfl)) (pa_cons (pe_ix (ix_GK (K := K) rfl hu) (pv 1) pe_int (fun _ _ => rfl)) pa_nil)))))) pss_nil) (pss_cons (ps_if (pt_cmpR (op_eqGK (K := K) rfl hr.units) (pv 2) pe_str (nomark _)) (pss_one (ps_ret (pe_tup (pa_cons pe_str (pa_cons (pe_ix (ix_GK (K := K) rfl hu) (pv 1) pe_int (fun _ _ => rfl)) (pa_cons (pe_ix (ix_GK (K := K) rfl hu) (pv 1) pe_int (fun _ _ => rfl)) (pa_cons (pe_ix (ix_GK (K := K) rfl hu) (pv 1) pe_int (fun _ _ => rfl)) pa_nil))))))) pss_nil) (pss_cons (ps_if (pt_cmpR (op_eqGK (K := K) rfl hr.units) (pv 2) pe_str (nomark _)) (pss_one (ps_ret (pe_tup (pa_cons pe_str (pa_cons (pe_ix (ix_GK (K := K) rfl hu) (pv 0) pe_int (fun _ _ => rfl)) (pa_cons (pe_ix (ix_GK (K := K) rfl hu) (pv 0) pe_int (fun _ _ => rfl)) (pa_cons (pe_ix (ix_GK (K := K) rfl hu) (pv 1) pe_int (fun _ _ => rfl)) (pa_cons (pe_ix (ix_GK (K := K) rfl hu) (pv 1) pe_int (fun _ _ => rfl)) pa_nil)))))))) pss_nil) (pss_one (ps_ret (pe_tup (pa_cons (pv 2) (pa_cons (pe_ix (ix_GK (K := K) rfl hu) (pv 0) pe_int (fun _ _ => rfl)) (pa_cons (pe_ix (ix_GK (K := K) rfl hu) (pv 1) pe_int (fun _ _ => rfl)) (pa_cons (pe_ix (ix_GK (K := K) rfl hu) (pv 1) pe_int (fun _ _ => rfl)) pa_nil))))))))))))))), ?_⟩
  kpt_turns
  cases e with
  | num n => regloopunroll_open; exact q _ _ (by lcg_off) (by lcg_src)
  | var n => regloopunroll_open; exact q _ _ (by lcg_off) (by lcg_src)
  | call f bs es0 =>
    regloopunroll_open
    exact q _ _ (by lcg_off) (by lcg_src)
  | ite a b c => match es, hl with | [e1, e2, e3], _ => regloopunroll_open; exact q _ _ (by lcg_off) (by lcg_src)
  | dop a b => match es, hl with | [e1], _ => regloopunroll_open; exact q _ _ (by lcg_off) (by lcg_src)
  | _ => match es, hl with | [e1, e2], _ => regloopunroll_open; exact q _ _ (by lcg_off) (by lcg_src)

theorem ok_law_draw (T : Top K mg) : Cal P w K mg base CX0 1 "_law_draw" ["d", "many"] spDraw := by
  refine T.d_law_draw.cal sc_law_draw [none, none, none] rfl (fun vs H Q E h => ?_) (fun f cdv A outer s H vs Q E hk hr h => ?_)
  · obtain ⟨a, c, m, rfl, _⟩ := h; rfl
  obtain ⟨a, c, m, rfl, ⟨ns, p, fo, sd, ha, hc, hne⟩, m0, m1, q⟩ := h
  have hu := hu_of hr
  have fin : ∀ (H' : Hp) (z f2 s2 : Int) (p2 : Nat), Fr [a] H H' → H' a = some (.lst [.ref c, .int (p2 : Int), .int f2, .int s2, .int 3]) → Q (.int (z % (m : Int))) H' := by
    intro H' z f2 s2 p2 f1 e1
    obtain ⟨k, e, hk⟩ := draw_mod z m m0
    rw [e]
    exact q H' k f1 ⟨ns, p2, f2, s2, e1, f1.at1 hc hne, hne⟩ hk
  refine ⟨_, (pss_cons (ps_if (pt_cmpR op_gt (pe_ix (ix_GK (K := K) rfl hu) (pv 0) pe_int (fun _ _ => rfl)) pe_int (nomark _)) (pss_cons (ps_set (i := 2) sc_law_draw.nd rfl (Or.inl rfl) (pe_ix (ix_GK (K := K) rfl hu) (pv 0) pe_int (fun _ _ => rfl))) (pss_cons (ps_asg (pe_op op_fdiv (pv 2) (pv 1)) (pg_sub (pv 0) pe_int (set_G hu))) (pss_one (ps_ret (pe_op op_mod (pe_callTy call_intG (by rfl) T.m_int (by decide +kernel) (pa_cons (pv 2) pa_nil)) (pv 1)))))) pss_nil) (pss_cons (ps_set (i := 3) sc_law_draw.nd rfl (Or.inl rfl) pe_int) (pss_cons (ps_if (pt_cmpR op_lt (pe_ix (ix_GK (K := K) rfl hu) (pv 0) pe_int (fun _ _ => rfl)) (pe_callB (call_lenGK (K := K) rfl) (by rfl) T.m_len (by decide +kernel) (pa_cons (pe_ix (ix_GK (K := K) rfl hu) (pv 0) pe_int (fun _ _ => rfl)) pa_nil)) (nomark _)) (pss_cons (ps_set (i := 4) sc_law_draw.nd rfl (Or.inl rfl) (pe_ix (ix_GK (K := K) rfl hu) (pe_ix (ix_GK (K := K) rfl hu) (pv 0) pe_int (fun _ _ => rfl)) (pe_ix (ix_GK (K := K) rfl hu) (pv 0) pe_int (fun _ _ => rfl)) (fun _ _ => rfl))) (pss_one (ps_set (i := 3) sc_law_draw.nd rfl (Or.inl rfl) (pe_op (op_addGK (K := K) rfl) (pe_op op_mul pe_int (pe_callB call_absG (by rfl) T.m_abs (by decide +kernel) (pa_cons (pv 4) pa_nil))) (pe_callTy call_intG (by rfl) T.m_int (by decide +kernel) (pa_cons (pe_cmpR op_lt (pv 4) pe_int (nomark _)) pa_nil)))))) pss_nil) (pss_cons (ps_augS (pv 0) pe_int get_list pe_int ip_add set_list) (pss_cons (ps_if (pt_cmpR op_ge (pv 3) (pe_op op_mul pe_int (pe_op op_pow pe_int pe_int)) (nomark _)) (pss_cons (ps_set (i := 2) sc_law_draw.nd rfl (Or.inl rfl) (pe_op op_mod (pe_callTy call_intG (by rfl) T.m_int (by decide +kernel) (pa_cons (pe_op op_fdiv (pv 3) pe_int) pa_nil)) (pe_op op_shl pe_int pe_int))) (pss_cons (ps_asg (pe_op op_fdiv (pv 2) (pv 1)) (pg_sub (pv 0) pe_int (set_G hu))) (pss_one (ps_ret (pe_op op_mod (pe_callTy call_intG (by rfl) T.m_int (by decide +kernel) (pa_cons (pv 2) pa_nil)) (pv 1)))))) pss_nil) (pss_cons (ps_asg (pe_op op_mod (pe_callTy call_intG (by rfl) T.m_int (by decide +kernel) (pa_cons (pe_op (op_addGK (K := K) rfl) (pe_op (op_addGK (K := K) rfl) (pe_op (op_addGK (K := K) rfl) (pe_op op_mul (pe_ix (ix_GK (K := K) rfl hu) (pv 0) pe_int (fun _ _ => rfl)) pe_int) (pe_op op_mul (pe_op op_mod (pe_callTy call_intG (by rfl) T.m_int (by decide +kernel) (pa_cons (pv 3) pa_nil)) pe_int) pe_int)) (pe_op op_mul (pe_ix (ix_GK (K := K) rfl hu) (pv 0) pe_int (fun _ _ => rfl)) pe_int)) pe_int) pa_nil)) pe_int) (pg_sub (pv 0) pe_int (set_G hu))) (pss_one (ps_ret (pe_op op_mod (pe_callTy call_intG (by rfl) T.m_int (by decide +kernel) (pa_cons (pe_op op_fdiv (pe_ix (ix_GK (K := K) rfl hu) (pv 0) pe_int (fun _ _ => rfl)) pe_int) pa_nil)) (pv 1)))))))))), ?_⟩
  kpt_turns
  regloopunroll_open
  refine ifD (fun h1 => ?_) (fun h1 => ?_)
  · regloopunroll_open
    exact fin _ _ _ _ _ (by lcg_off) (by assumption)
  · regloopunroll_open
    refine ifD (fun h2 => ?_) (fun h2 => ?_)
    · have hp : p < ns.length := by simpa using h2
      have hz : (ns.map V.int)[p]? = some (.int ns[p]) := by simp [hp]
      regloopunroll_open
      refine ifD (fun h3 => ?_) (fun h3 => ?_)
      all_goals regloopunroll_open
      all_goals exact fin _ _ _ _ (p + 1) (by lcg_off) (by assumption)
    · regloopunroll_open
      exact fin _ _ _ _ (p + 1) (by lcg_off) (by assumption)
theorem ok_law_pick (T : Top K mg) : Cal P w K mg base CX0 2 "_law_pick" ["d", "row"] (spPick K) := by
  refine T.d_law_pick.cal sc_law_pick [] rfl (fun vs H Q E h => ?_) (fun f cdv A outer s H vs Q E hk hr h => ?_)
  · obtain ⟨a, c, l, xs, rfl, _⟩ := h; rfl
  obtain ⟨a, c, l, xs, rfl, hd, hl, hne, h0, h1, q⟩ := h
  have hu := hu_of hr
  have C_law_draw := ok_law_draw (P := P) (w := w) (base := base) T
  refine ⟨_, (pss_one (ps_ret (pe_ix (ix_GK (K := K) rfl hu) (pv 1) (pe_cal C_law_draw (hr.mono (by omega)) (by rfl) pass0 (pa_cons (pv 0) (pa_cons (pe_callB (call_lenGK (K := K) rfl) (by rfl) T.m_len (by decide +kernel) (pa_cons (pv 1) pa_nil)) pa_nil))) (fun _ _ => rfl)))), ?_⟩
  kpt_turns
  regloopunroll_open
  rename_i H' k fr hd' hk
  have hl' := fr.sqL hl (by simpa using hne)
  have hk2 : k < xs.length := by omega
  have e : xs[k]? = some xs[k] := by simp [hk2]
  regloopunroll_open
  exact q _ k _ fr hd' e
theorem ok_law_begin (T : Top K mg) : Cal P w K mg base CX0 1 "_law_begin" ["script"] (spBegin K) := by
  refine T.d_law_begin.cal sc_law_begin [none] rfl (fun vs H Q E h => ?_) (fun f cdv A outer s H vs Q E hk hr h => ?_)
  · obtain ⟨a, l, rfl, _⟩ := h; rfl
  obtain ⟨a, ns, rfl, hs, hl, q⟩ := h
  have hu := hu_of hr
  refine ⟨_, (pss_one (ps_ret (pe_lst (pa_cons (pe_lc (own := [("cell", 1)]) (g := gName 1) rfl sc_law_begin.nd (pi_seqK (K := K) rfl (pv 0)) (blkOk_by (N := N_law_begin) (sc := defScope s_law_begin) (by decide +kernel)) (fun _ _ _ _ _ => pg_name (i := 1) sc_law_begin.nd rfl (Or.inl rfl)) (fun _ _ _ _ _ => pts_nil) (fun _ _ _ _ _ => (pe_callTy call_intG (by rfl) T.m_int (by decide +kernel) (pa_cons (pv 1) pa_nil)))) (pa_cons pe_int (pa_cons pe_int (pa_cons pe_int (pa_cons pe_int pa_nil)))))))), ?_⟩
  kpt_turns
  regloopunroll_open
  refine g_lcL ?_
  regloopunroll_open
  refine lcL_q hs (fun D i H' => Fr [] H H' ∧ H' D = some (.lst ((ns.take i).map V.int))) (fun D nD => ⟨Fr.new nD, by rw [upd_same]; rfl⟩) (fun D i H' nD p => p.1.sqL hs (by simp)) (fun D i x H' nD e p => ?_) (fun D H' nD p => ?_)
  · obtain ⟨f1, e1⟩ := p
    obtain ⟨z, hz, rfl⟩ : ∃ z, ns[i]? = some z ∧ V.int z = x := by simpa [List.getElem?_map, Option.map_eq_some_iff] using e
    regloopunroll_open
    refine ⟨rfl, ?_⟩
    regloopunroll_open
    refine ⟨_, e1, small1000 (by simp; omega), f1.updN nD e1, ?_⟩
    rw [upd_same, List.take_add_one, hz, List.map_append]
    rfl
  · obtain ⟨f1, e1⟩ := p
    regloopunroll_open
    rename_i H2 l f2 n2 e2
    rw [List.length_map, List.take_length] at e1
    exact q H2 l D (f1.step0 f2) (f1.free n2 (by simp)) nD ⟨ns, 0, 0, 7, e2, f2.at e1, fun z => by subst z; rw [e1] at n2; cases n2⟩

def spPre (K : PySem.W.Frag) : Sp := fun vs H Q _ => ∃ x e, vs = [x] ∧ Rep K H (Ex.toD e) x ∧ e.ok 40 ∧ e.count ≤ 1000000 ∧ ∀ H' r, Fr [] H H' → Rep K H' (.tuple (e.pre [])) r → Q r H'
/-- the loop's state: what is found, what waits -/
structure PreI (K : PySem.W.Frag) (H0 : Hp) (e0 : Ex) (fa wa : Addr) (F : List PyData) (S : List (List Int × Ex)) (H : Hp) : Prop where
  fr : Fr [] H0 H
  f : ∃ us, H fa = some (.lst us) ∧ Reps K H F us
  w : ∃ ws, H wa = some (.lst ws) ∧ Reps K H (stD S) ws
  out : F ++ stO S = e0.pre []
  cnt : F.length + stC S = e0.count
  ok : ∀ k ∈ S, ∃ n, k.2.ok n ∧ k.1.length + n ≤ 40
theorem ok_preorder (T : Top K mg) : Cal P w K mg base CX0 2 "preorder" ["expr"] (spPre K) := by
  refine T.d_preorder.cal sc_preorder [none, none, none, none, none, none, none] rfl (fun vs H Q E h => ?_) (fun f cdv A outer s H vs Q E hk hr h => ?_)
  · obtain ⟨x, e, rfl, _⟩ := h; rfl
  obtain ⟨x, e, rfl, hx, hok, hc, q⟩ := h
  have hu := hu_of hr
  have C_parts_of := ok_parts_of (P := P) (w := w) (base := base) T
  refine ⟨_, (pss_cons (ps_set (i := 1) sc_preorder.nd rfl (Or.inl rfl) (pe_lst pa_nil)) (pss_cons (ps_set (i := 2) sc_preorder.nd rfl (Or.inl rfl) (pe_lst (pa_cons (pe_tup (pa_cons (pe_tup pa_nil) (pa_cons (pv 0) pa_nil))) pa_nil))) (pss_cons (ps_while PassesOwn.never (pt_cmpR op_gt (pe_callB (call_lenGK (K := K) rfl) (by rfl) T.m_len (by decide +kernel) (pa_cons (pv 2) pa_nil)) pe_int (nomark _)) (pss_cons (ps_asg (pe_bm0 PySem.F.plainAttrs_list PySem.F.slot_list_pop PySem.F.type_list_pop mt_pop (pv 2)) (pg_tupK (K := K) (n := 2) rfl rfl (pgs_cons (pg_name (i := 3) sc_preorder.nd rfl (Or.inl rfl)) (pgs_cons (pg_name (i := 4) sc_preorder.nd rfl (Or.inl rfl)) pgs_nil)))) (pss_cons (ps_expr (pe_bm PySem.F.plainAttrs_list PySem.F.slot_list_append PySem.F.type_list_append mt_append (pv 1) (pa_cons (pe_tup (pa_cons (pv 3) (pa_cons (pv 4) pa_nil))) pa_nil))) (pss_cons (ps_set (i := 5) sc_preorder.nd rfl (Or.inl rfl) (pe_cal C_parts_of (hr.mono (by omega)) (by rfl) pass0 (pa_cons (pv 4) pa_nil))) (pss_one (ps_for PassesOwn.never rfl (pi_range1 (by rfl) T.m_range (pa_cons (pe_callB (call_lenGK (K := K) rfl) (by rfl) T.m_len (by decide +kernel) (pa_cons (pv 5) pa_nil)) pa_nil)) (pg_name (i := 6) sc_preorder.nd rfl (Or.inl rfl)) (pss_cons (ps_set (i := 7) sc_preorder.nd rfl (Or.inl rfl) (pe_op op_sub (pe_op op_sub (pe_callB (call_lenGK (K := K) rfl) (by rfl) T.m_len (by decide +kernel) (pa_cons (pv 5) pa_nil)) pe_int) (pv 6))) (pss_one (ps_expr (pe_bm PySem.F.plainAttrs_list PySem.F.slot_list_append PySem.F.type_list_append mt_append (pv 2) (pa_cons (pe_tup (pa_cons (pe_op (op_addGK (K := K) rfl) (pv 3) (pe_tup (pa_cons (pv 7) pa_nil))) (pa_cons (pe_ix (ix_GK (K := K) rfl hu) (pv 5) (pv 7) (fun _ _ => rfl)) pa_nil))) pa_nil))))))))))) (pss_one (ps_ret (pe_callTy (call_tupGK (K := K) rfl) (by rfl) T.m_tuple (by decide +kernel) (pa_cons (pv 1) pa_nil))))))), ?_⟩
  kpt_turns
  regloopunroll_open
  rename_i H1 fa fr1 nfa efa H2 v2 fr2 r2 H3 v3 fr3 r3 H4 wa fr4 nwa ewa
  refine g_while (fun m σ H' => ∃ F S y3 y4 y5 y6 y7, σ = [some x, some (.ref fa), some (.ref wa), y3, y4, y5, y6, y7] ∧ PreI K H e fa wa F S H' ∧ m = stC S) e.count
    ⟨[], [([], e)], none, none, none, none, none, rfl, ⟨by lcg_off, ⟨[], by regstrif_fact, reps_nil⟩, ⟨[v3], ewa, reps_one (by lcg_src)⟩, by simp [stO], by simp [stC], fun k hk => by simp at hk; subst hk; exact ⟨40, hok, by simp⟩⟩, by simp [stC]⟩ (fun m σ H' hW => ?_)
  obtain ⟨F, S, y3, y4, y5, y6, y7, rfl, I, rfl⟩ := hW
  obtain ⟨ws, ewa', rws⟩ := I.w
  obtain ⟨us, efa', rus⟩ := I.f
  regloopunroll_open
  refine ifD (fun h1 => ?_) (fun h1 => ?_)
  · refine wb_mk ?_
    have h2 : S ≠ [] := fun z => by subst z; have := rws.length; simp [stD] at this; rw [this] at h1; simp at h1
    obtain ⟨S', k, rfl⟩ : ∃ S' k, S = S' ++ [k] := ⟨S.dropLast, S.getLast h2, (List.dropLast_concat_getLast h2).symm⟩
    obtain ⟨n, hn1, hn2⟩ := I.ok k (by simp)
    have hst : stD (S' ++ [k]) = stD S' ++ [nd k.1 k.2] := by simp [stD]
    rw [hst] at rws
    obtain ⟨ws', y, rfl, rws', ry⟩ := rws.snoc
    have hfl : us.length < sizeLine := by
      have a1 := rus.length
      have a2 := I.cnt
      have a3 : 0 < stC (S' ++ [k]) := by have := stC_kids S' k; omega
      rw [sizeLine_eq]
      omega
    unfold nd at ry
    have hne : fa ≠ wa := fun z => by subst z; exact absurd (fr4.at (fr3.at (fr2.at efa))) (by rw [ewa]; simp)
    regloopunroll_open
    rename_i H5 fr5 ewa5 v1 v2' rv1 rv2 H6 v6 fr6 r6 H7 fr7 efa7
    refine ⟨v2', k.2, rfl, by lcg_src, fun H8 r fr8 rr => ?_⟩
    regloopunroll_open
    refine forR1_q (k := k.2.parts.length) (by rw [toDs_eq, List.length_map]) (by have := (show Ex.ok (n - 1 + 1) k.2 from hn1.le (by omega)).2.2.1; omega)
      (fun i σ H' => ∃ y5 y6 ws2, σ = [some x, some (.ref fa), some (.ref wa), some v1, some v2', some r, y5, y6] ∧ Fr [wa] H8 H' ∧ H' wa = some (.lst (ws' ++ ws2)) ∧ Reps K H' (stD ((kids k.1 0 k.2.parts).reverse.take i)) ws2) ?_ (fun i σ H' hi hp => ?_) (fun σ H' hp => ?_)
    · exact ⟨_, _, [], rfl, Fr.refl _ _, by rw [List.append_nil]; regstrif_fact, by simp [stD]; exact reps_nil⟩
    · obtain ⟨y5, y6, ws2, rfl, fr9, ewa9, rws2⟩ := hp
      regloopunroll_open
      have hL : (toDs k.2.parts).length = k.2.parts.length := by rw [toDs_eq, List.length_map]
      have hj : ((toDs k.2.parts).length : Int) - 1 - (i : Int) = ((k.2.parts.length - 1 - i : Nat) : Int) := by omega
      have hj2 : k.2.parts.length - 1 - i < k.2.parts.length := by omega
      rw [hj]
      rename_i Ha va fra rva
      rw [hj] at rva
      refine addG_tup (ds := k.1.map .int) (es := [.int ((k.2.parts.length - 1 - i : Nat) : Int)]) (by lcg_src) (by lcg_src) (by simp; omega) (fun Hb z frb rz => ?_)
      regloopunroll_open
      refine ix_get (i := k.2.parts.length - 1 - i) (d := (k.2.parts[k.2.parts.length - 1 - i]).toD) (ds := toDs k.2.parts) (by lcg_src) rfl (by rw [toDs_eq, List.getElem?_map, List.getElem?_eq_getElem hj2]; rfl) (get_any fun u ru => ?_)
      regloopunroll_open
      rename_i Hc vc frc rvc
      have hws : (ws' ++ ws2).length < sizeLine := by
        have a1 := rws2.length
        have a2 := rws'.length
        have a3 := I.cnt
        have a4 := stD_le S'
        have a5 : stC S' ≤ stC (S' ++ [k]) := by unfold stC; rw [List.map_append, List.sum_append]; omega
        have a6 : (stD (List.take i (kids k.1 0 k.2.parts).reverse)).length ≤ i := by unfold stD; rw [List.length_map, List.length_take]; omega
        have a7 := (show Ex.ok (n - 1 + 1) k.2 from hn1.le (by omega)).2.2.1
        rw [sizeLine_eq, List.length_append]
        omega
      refine append_q (xs := ws' ++ ws2) (by regstrif_fact) hws (fun Hd frd ed => ?_)
      refine ⟨_, _, ws2 ++ [vc], rfl, ?_, by rw [ed, List.append_assoc], ?_⟩
      · exact (((fr9.step0 fra).step0 frb).step0 frc).step frd
      · have e1 : (kids k.1 0 k.2.parts).reverse[i]? = some (k.1 ++ [((k.2.parts.length - 1 - i : Nat) : Int)], k.2.parts[k.2.parts.length - 1 - i]) := by
          rw [List.getElem?_reverse (by rw [kids_len]; exact hi), kids_len, kids_get k.1 k.2.parts 0 _ _ (List.getElem?_eq_getElem hj2), Nat.zero_add]
        rw [List.take_add_one, e1]
        unfold stD
        rw [List.map_append]
        refine Reps.append ?_ ?_
        · exact ((((rws2.up fra).up frb).up frc).up frd)
        · refine reps_one ?_
          show Rep K Hd (.tuple [.tuple (List.map PyData.int (k.1 ++ [((k.2.parts.length - 1 - i : Nat) : Int)])), (k.2.parts[k.2.parts.length - 1 - i]).toD]) vc
          rw [List.map_append]
          exact rvc.up frd
    · obtain ⟨y5, y6, ws2, rfl, fr9, ewa9, rws2⟩ := hp
      rw [List.take_of_length_le (by rw [List.length_reverse, kids_len]; exact Nat.le_refl _)] at rws2
      refine ⟨_, ?_, F ++ [nd k.1 k.2], S' ++ (kids k.1 0 k.2.parts).reverse, _, _, _, _, _, rfl, ⟨?_, ⟨us ++ [v6], ?_, ?_⟩, ⟨_, ewa9, ?_⟩, ?_, ?_, ?_⟩, rfl⟩
      · have := stC_kids S' k; omega
      · have g1 : Fr [] H H8 := (((I.fr.trans fr5 fun b m => .inr (by rw [List.mem_singleton.mp m]; exact fr1.free (fr2.free (fr3.free nwa (by simp)) (by simp)) (by simp))).step0 fr6).trans fr7 fun b m => .inr (by rw [List.mem_singleton.mp m]; exact nfa)).step0 fr8
        exact g1.trans fr9 fun b m => .inr (by rw [List.mem_singleton.mp m]; exact fr1.free (fr2.free (fr3.free nwa (by simp)) (by simp)) (by simp))
      · exact fr9.at1 (fr8.at efa7) hne
      · exact ((((((rus.up fr5).up fr6).up fr7).append (reps_one (r6.up fr7))).up fr8).up fr9)
      · unfold stD
        rw [List.map_append]
        exact (((((rws'.up fr5).up fr6).up fr7).up fr8).up fr9).append rws2
      · rw [← I.out, stO_snoc, List.append_assoc]; rfl
      · have := stC_kids S' k; have := I.cnt; rw [List.length_append]; simp; omega
      · intro k' hk'
        rcases List.mem_append.mp hk' with h | h
        · exact I.ok k' (by simp [h])
        · have := kids_mem (List.mem_reverse.mp h)
          have hok' := (show Ex.ok (n - 1 + 1) k.2 from hn1.le (by omega)).2.2.2 _ this.2
          refine ⟨n - 1, hok', ?_⟩
          have h0 : n ≠ 0 := fun z => by subst z; exact hn1
          omega
  · regloopunroll_open
    rename_i H5 p fr5 np ep
    have hS : S = [] := by
      have := rws.length
      rw [List.length_eq_zero_iff.mp (show ws.length = 0 by omega)] at this
      unfold stD at this
      rw [List.length_map] at this
      exact List.length_eq_zero_iff.mp this.symm
    subst hS
    have hF : F = e.pre [] := by rw [← I.out]; simp [stO]
    subst hF
    exact q H5 _ (I.fr.step0 fr5) (rep_tup (.of ep) (rus.up fr5))

def spNames (K : PySem.W.Frag) : Sp := fun vs H Q _ => ∃ x e, vs = [x] ∧ Rep K H (Ex.toD e) x ∧ e.ok 40 ∧ e.count ≤ 1000000 ∧ ∀ H' r ys, Fr [] H H' → ys.Perm (addAll [] e.names) → sortedS ys = true → Rep K H' (.tuple (ys.map .str)) r → Q r H'
theorem ok_names_in (T : Top K mg) : Cal P w K mg base CX0 3 "names_in" ["expr"] (spNames K) := by
  refine T.d_names_in.cal sc_names_in [none, none, none] rfl (fun vs H Q E h => ?_) (fun f cdv A outer s H vs Q E hk hr h => ?_)
  · obtain ⟨x, e, rfl, _⟩ := h; rfl
  obtain ⟨x, e, rfl, hx, hok, hc, q⟩ := h
  have hu := hu_of hr
  have C_preorder := ok_preorder (P := P) (w := w) (base := base) T
  refine ⟨_, (pss_cons (ps_set (i := 1) sc_names_in.nd rfl (Or.inl rfl) pe_dnewK) (pss_cons (ps_for PassesOwn.never rfl (pi_seqK (K := K) rfl (pe_cal C_preorder (hr.mono (by omega)) (by rfl) pass0 (pa_cons (pv 0) pa_nil))) (pg_tupK (K := K) (n := 2) rfl rfl (pgs_cons (pg_name (i := 2) sc_names_in.nd rfl (Or.inl rfl)) (pgs_cons (pg_name (i := 3) sc_names_in.nd rfl (Or.inl rfl)) pgs_nil))) (pss_one (ps_if (pt_cmpR (op_inGK (K := K) rfl hu) (pe_ix (ix_GK (K := K) rfl hu) (pv 3) pe_int (fun _ _ => rfl)) (pe_tup (pa_cons pe_str (pa_cons pe_str pa_nil))) (by rfl)) (pss_one (ps_asg pe_bl (pg_sub (pv 1) (pe_ix (ix_GK (K := K) rfl hu) (pv 3) pe_int (fun _ _ => rfl)) (set_G hu)))) (pss_one (ps_if (pt_cmpR (op_eqGK (K := K) rfl hr.units) (pe_ix (ix_GK (K := K) rfl hu) (pv 3) pe_int (fun _ _ => rfl)) pe_str (nomark _)) (pss_one (ps_asg pe_bl (pg_sub (pv 1) (pe_ix (ix_GK (K := K) rfl hu) (pv 3) pe_int (fun _ _ => rfl)) (set_G hu)))) pss_nil))))) (pss_one (ps_ret (pe_callTy (call_tupGK (K := K) rfl) (by rfl) T.m_tuple (by decide +kernel) (pa_cons (pe_callB (call_sortedGK (K := K) rfl rfl) (by rfl) T.m_sorted (by decide +kernel) (pa_cons (pv 1) pa_nil)) pa_nil)))))), ?_⟩
  kpt_turns
  regloopunroll_open
  rename_i H1 fa fr1 nfa efa
  refine g_forT ?_
  regloopunroll_open
  refine ⟨x, e, rfl, by lcg_src, hok, hc, fun H2 r fr2 rr => ?_⟩
  obtain ⟨ks, e1, e2⟩ := pre_nodes _ e [] (Nat.le_refl _)
  rw [e1] at rr
  have hall : ∀ i, (addAll [] ((ks.take i).flatMap fun k => k.2.own)).Nodup ∧ ∀ x ∈ addAll [] ((ks.take i).flatMap fun k => k.2.own), x ∈ LN := fun i => addAll_ok (by simp) (by simp) fun s hs => hok.namesLN s (by
    rw [e2, ← List.take_append_drop i ks, List.flatMap_append]
    exact List.mem_append_left _ hs)
  refine forT_rep rr (fun i σ H' => ∃ y2 y3, σ = [some x, some (.ref fa), y2, y3] ∧ Fr [fa] H2 H' ∧ H' fa = some (.dK (kvN (addAll [] ((ks.take i).flatMap fun k => k.2.own))))) ⟨_, _, rfl, Fr.refl _ _, fr2.at efa⟩ (fun i σ H' p => by obtain ⟨_, _, _, p, _⟩ := p; exact ⟨_, p⟩) (fun i d y σ H' hd hy p => ?_) (fun σ H' p => ?_)
  · obtain ⟨y2, y3, rfl, fr3, efa3⟩ := p
    rw [List.getElem?_map] at hd
    obtain ⟨k, hk1, rfl⟩ := Option.map_eq_some_iff.mp hd
    have hl := kvN_len (hall i).1 (hall i).2
    have hnext : (ks.take (i + 1)).flatMap (fun k => k.2.own) = (ks.take i).flatMap (fun k => k.2.own) ++ k.2.own := by
      rw [List.take_add_one, hk1, List.flatMap_append]
      simp
    rw [hnext, addAll_append]
    unfold nd at hy
    obtain ⟨p, e'⟩ := k
    have hset : ∀ z : Str, addAll (addAll [] ((ks.take i).flatMap fun k => k.2.own)) [z] = addN (addAll [] ((ks.take i).flatMap fun k => k.2.own)) z := fun _ => rfl
    cases e' with
    | var z =>
      regloopunroll_open
      exact ⟨_, _, rfl, by lcg_off, by rw [show (Ex.var z).own = [z] from rfl, hset, ← kvN_put]; assumption⟩
    | lett z a b =>
      regloopunroll_open
      exact ⟨_, _, rfl, by lcg_off, by rw [show (Ex.lett z a b).own = [z] from rfl, hset, ← kvN_put]; assumption⟩
    | rept c z a b =>
      regloopunroll_open
      exact ⟨_, _, rfl, by lcg_off, by rw [show (Ex.rept c z a b).own = [z] from rfl, hset, ← kvN_put]; assumption⟩
    | _ =>
      regloopunroll_open
      exact ⟨_, _, rfl, by lcg_off, by regstrif_fact⟩
  · obtain ⟨y2, y3, rfl, fr3, efa3⟩ := p
    rw [List.take_of_length_le (by rw [List.length_map]; exact Nat.le_refl _), ← e2] at efa3
    have hh := addAll_ok (l := e.names) (ns := []) (by simp) (by simp) hok.namesLN
    regloopunroll_open
    refine sortedD_q efa3 (kvN_keys _) (by have := len_LN hh.1 hh.2; omega) (fun H4 p ys hp hs fr4 np ep => ?_)
    regloopunroll_open
    rename_i H5 p5 fr5 np5 ep5
    have g1 : Fr [] H H5 := ((((fr1.step0 fr2).trans fr3 fun b m => .inr (by rw [List.mem_singleton.mp m]; exact nfa)).step0 fr4).step0 fr5)
    exact q H5 _ ys g1 hp hs (rep_tup (.of ep5) (reps_strs ys))

def spLParts (K : PySem.W.Frag) : Sp := fun vs H Q _ => ∃ x e, vs = [x] ∧ Rep K H (Ex.toD e) x ∧ e.parts.length ≤ 3 ∧ ∀ H' p us, Fr [] H H' → H p = none → H' p = some (.lst us) → Reps K H' (toDs e.parts) us → Q (.ref p) H'
theorem ok_law_parts (T : Top K mg) : Cal P w K mg base CX0 1 "_law_parts" ["expr"] (spLParts K) := by
  refine T.d_law_parts.cal sc_law_parts [none, none] rfl (fun vs H Q E h => ?_) (fun f cdv A outer s H vs Q E hk hr h => ?_)
  · obtain ⟨x, e, rfl, _⟩ := h; rfl
  obtain ⟨x, e, rfl, hx, hlen, q⟩ := h
  have hu := hu_of hr
  refine ⟨_, (pss_cons (ps_set (i := 1) sc_law_parts.nd rfl (Or.inl rfl) (pe_ix (ix_GK (K := K) rfl hu) (pv 0) pe_int (fun _ _ => rfl))) (pss_cons (ps_if (pt_cmpR (op_eqGK (K := K) rfl hr.units) (pv 1) pe_str (nomark _)) (pss_one (ps_ret (pe_callTy (call_listGK (K := K) rfl rfl) (by rfl) T.m_list (by decide +kernel) (pa_cons (pe_ix (ix_GK (K := K) rfl hu) (pv 0) pe_int (fun _ _ => rfl)) pa_nil)))) pss_nil) (pss_one (ps_ret (pe_lc (own := [("part", 2)]) (g := gName 2) rfl sc_law_parts.nd (pi_seqK (K := K) rfl (pe_slice (sl_GK (K := K) rfl) (pv 0) (po_some pe_int) po_none)) (blkOk_by (N := N_law_parts) (sc := defScope s_law_parts) (by decide +kernel)) (fun _ _ _ _ _ => pg_name (i := 2) sc_law_parts.nd rfl (Or.inl rfl)) (fun _ _ _ _ _ => pts_one (pt_val (pe_callB (call_isiGK (K := K) rfl) (by rfl) T.m_isinstance (by decide +kernel) (pa_cons (pv 2) (pa_cons (pe_bltn (v := .ty "tuple") (u := .type "tuple") (by rfl) T.m_tuple (by decide +kernel) rfl) pa_nil))))) (fun _ _ _ _ _ => (pv 2))))))), ?_⟩
  kpt_turns
  by_cases hcall : ∃ f bs es, e = .call f bs es
  · obtain ⟨f, bs, es, rfl⟩ := hcall
    regloopunroll_open
    refine listT_q (by lcg_src) (fun H1 p us fr1 np ep ru => ?_)
    exact q H1 p us fr1 np ep ru
  · obtain ⟨k, ds, hds, hkc, hdl⟩ : ∃ k ds, e.toD = .tuple (.str k :: ds) ∧ V.str k ≠ V.str "call" ∧ ds.length ≤ 10 := by
      cases e with
      | call f bs es => exact absurd ⟨f, bs, es, rfl⟩ hcall
      | _ => refine ⟨_, _, rfl, ?_, Nat.le_of_ble_eq_true rfl⟩; decide +kernel
    rw [hds] at hx
    regloopunroll_open
    refine ifF hkc ?_
    regloopunroll_open
    refine g_lcT ?_
    regloopunroll_open
    refine slT_from (k := 1) (by lcg_src) rfl (fun H1 v fr1 rv => ?_)
    rw [show (PyData.str k :: ds).drop 1 = ds from rfl] at rv
    have hfil := filter_parts e _ hds fun f bs es z => hcall ⟨f, bs, es, z⟩
    rw [show (PyData.str k :: ds).drop 1 = ds from rfl] at hfil
    refine lcT_rep rv (fun D i H' => Fr [] H1 H' ∧ ∃ us, H' D = some (.lst us) ∧ Reps K H' ((ds.take i).filter fun d => tyD d == "tuple") us) (fun D nD => ⟨Fr.new nD, [], upd_same, reps_nil⟩) (fun D i H' nD p => ⟨_, p.1⟩) (fun D i d y H' nD hd hy p => ?_) (fun D H' nD p => ?_)
    · obtain ⟨fr2, us, eD, ru⟩ := p
      regloopunroll_open
      refine ⟨rfl, ?_⟩
      regloopunroll_open
      refine isi_rep hy (kitB_tuple d) ?_
      regloopunroll_open
      have hnext : (ds.take (i + 1)).filter (fun d => tyD d == "tuple") = (ds.take i).filter (fun d => tyD d == "tuple") ++ (if (tyD d == "tuple") = true then [d] else []) := by
        rw [List.take_add_one, hd, List.filter_append]
        simp [List.filter_cons]
      rw [hnext]
      by_cases hb : (tyD d == "tuple") = true
      · rw [hb]
        refine iteT ?_
        regloopunroll_open
        refine ⟨us, eD, ?_, fr2.updN nD eD, us ++ [y], upd_same, ?_⟩
        · have a1 := ru.length
          have a2 := List.length_filter_le (fun d => tyD d == "tuple") (ds.take i)
          rw [List.length_take] at a2
          exact small1000 (by omega)
        · rw [if_pos rfl]
          exact (ru.append (reps_one hy)).up (Fr.setL eD)
      · rw [Bool.not_eq_true] at hb
        rw [hb]
        refine iteF ⟨fr2, us, eD, ?_⟩
        rw [if_neg (by simp), List.append_nil]
        exact ru
    · obtain ⟨fr2, us, eD, ru⟩ := p
      rw [List.take_length, hfil] at ru
      exact q H' D us (fr1.step fr2) (fr1.free nD (by simp)) eD ru
def spLList (K : PySem.W.Frag) : Sp := fun vs H Q _ => vs = [] ∧ ∀ H' p, Fr [] H H' → H p = none → H' p = some (.lst (LN.map V.str)) → Q (.ref p) H'
theorem ok_law_list (T : Top K mg) : Cal P w K mg base CX0 1 "_law_list" [] (spLList K) := by
  refine T.d_law_list.cal sc_law_list [] rfl (fun vs H Q E h => ?_) (fun f cdv A outer s H vs Q E hk hr h => ?_)
  · obtain ⟨rfl, _⟩ := h; rfl
  obtain ⟨rfl, q⟩ := h
  refine ⟨_, (pss_one (ps_ret (pe_lst (pa_cons pe_str (pa_cons pe_str (pa_cons pe_str (pa_cons pe_str (pa_cons pe_str (pa_cons pe_str (pa_cons pe_str (pa_cons pe_str (pa_cons pe_str (pa_cons pe_str (pa_cons pe_str pa_nil)))))))))))))), ?_⟩
  kpt_turns
  regloopunroll_open
  exact q _ _ (by lcg_off) (by assumption) (by assumption)
def spLWord (K : PySem.W.Frag) : Sp := fun vs H Q _ => ∃ a c, vs = [.ref a] ∧ DrawOk H a c ∧ ∀ H' s, Fr [a] H H' → DrawOk H' a c → s ∈ LN → Q (.str s) H'
theorem ok_law_word (T : Top K mg) : Cal P w K mg base CX0 3 "_law_word" ["d"] (spLWord K) := by
  refine T.d_law_word.cal sc_law_word [] rfl (fun vs H Q E h => ?_) (fun f cdv A outer s H vs Q E hk hr h => ?_)
  · obtain ⟨a, c, rfl, _⟩ := h; rfl
  obtain ⟨a, c, rfl, hd, q⟩ := h
  have C_law_pick := ok_law_pick (P := P) (w := w) (base := base) T
  have C_law_list := ok_law_list (P := P) (w := w) (base := base) T
  refine ⟨_, (pss_one (ps_ret (pe_cal C_law_pick (hr.mono (by omega)) (by rfl) pass0 (pa_cons (pv 0) (pa_cons (pe_cal0 C_law_list (hr.mono (by omega)) (by rfl) pass0) pa_nil))))), ?_⟩
  kpt_turns
  regloopunroll_open
  refine ⟨rfl, fun H1 p fr1 np ep => ?_⟩
  regloopunroll_open
  refine ⟨a, c, p, LN.map V.str, rfl, hd.fr0 fr1, .of ep, hd.neL np, by decide, by decide, fun H2 i v fr2 hd2 hv => ?_⟩
  rw [List.getElem?_map] at hv
  obtain ⟨s, hs, rfl⟩ := Option.map_eq_some_iff.mp hv
  exact q H2 s ((Fr.of0 fr1).step fr2) hd2 (List.mem_of_getElem? hs)

def spForm (K : PySem.W.Frag) (n : Nat) : Sp := fun vs H Q _ => ∃ (a c : Addr) (dp : Int) (m : Nat), vs = [.ref a, .int dp] ∧ DrawOk H a c ∧ 0 < m ∧ dp < m ∧ m ≤ n ∧ ∀ H' (e : Ex) r, Fr [a] H H' → DrawOk H' a c → e.ok m → Rep K H' e.toD r → Q r H'
theorem ok_law_form (T : Top K mg) : ∀ n : Nat, Cal P w K mg base CX0 (5 + n) "_law_form" ["d", "depth"] (spForm K n) := by
  intro n
  induction n with
  | zero =>
    refine T.d_law_form.cal (k := 4) sc_law_form [none, none, none, none, none, none, none] rfl (fun vs H Q E h => ?_) (fun f cdv A outer s H vs Q E hk hr h => ?_)
    · obtain ⟨a, c, dp, m, rfl, _⟩ := h; rfl
    · obtain ⟨a, c, dp, m, _, _, h0, _, h1, _⟩ := h
      omega
  | succ n ih =>
    refine T.d_law_form.cal (k := 5 + n) sc_law_form [none, none, none, none, none, none, none] rfl (fun vs H Q E h => ?_) (fun f cdv A outer s H vs Q E hk hr h => ?_)
    · obtain ⟨a, c, dp, m, rfl, _⟩ := h; rfl
    obtain ⟨a, c, dp, m, rfl, hd, hm0, hdp, hmn, q⟩ := h
    obtain ⟨m, rfl⟩ : ∃ m', m = m' + 1 := ⟨m - 1, by omega⟩
    have hu := hu_of hr
    have C_law_form := ih
    have C_law_draw := ok_law_draw (P := P) (w := w) (base := base) T
    have C_law_word := ok_law_word (P := P) (w := w) (base := base) T
    have C_law_pick := ok_law_pick (P := P) (w := w) (base := base) T
    refine ⟨_, (pss_cons (ps_set (i := 2) sc_law_form.nd rfl (Or.inl rfl) (pe_cal C_law_draw (hr.mono (by omega)) (by rfl) pass0 (pa_cons (pv 0) (pa_cons pe_int pa_nil)))) (pss_cons (ps_set (i := 3) sc_law_form.nd rfl (Or.inl rfl) (pe_cal C_law_word (hr.mono (by omega)) (by rfl) pass0 (pa_cons (pv 0) pa_nil))) (pss_cons (ps_if (PW.pt (pw_or (pt_cmpR op_le (pv 1) pe_int (nomark _)) (pw_or1 (pt_cmpR (op_eqGK (K := K) rfl hr.units) (pv 2) pe_int (nomark _))))) (pss_one (ps_ret (pe_ix (ix_GK (K := K) rfl hu) (pe_lst (pa_cons (pe_tup (pa_cons pe_str (pa_cons (pv 3) pa_nil))) (pa_cons (pe_tup (pa_cons pe_str (pa_cons (pe_cal C_law_draw (hr.mono (by omega)) (by rfl) pass0 (pa_cons (pv 0) (pa_cons pe_int pa_nil))) pa_nil))) (pa_cons (pe_tup (pa_cons pe_str (pa_cons (pv 3) pa_nil))) pa_nil)))) (pe_cal C_law_draw (hr.mono (by omega)) (by rfl) pass0 (pa_cons (pv 0) (pa_cons pe_int pa_nil))) (fun _ _ => rfl)))) pss_nil) (pss_cons (ps_set (i := 4) sc_law_form.nd rfl (Or.inl rfl) (pe_cal C_law_form (hr.mono (by omega)) (by rfl) pass0 (pa_cons (pv 0) (pa_cons (pe_op op_sub (pv 1) pe_int) pa_nil)))) (pss_cons (ps_if (pt_cmpR (op_eqGK (K := K) rfl hr.units) (pv 2) pe_int (nomark _)) (pss_one (ps_ret (pe_tup (pa_cons pe_str (pa_cons (pv 3) (pa_cons (pv 4) pa_nil)))))) pss_nil) (pss_cons (ps_set (i := 5) sc_law_form.nd rfl (Or.inl rfl) (pe_cal C_law_form (hr.mono (by omega)) (by rfl) pass0 (pa_cons (pv 0) (pa_cons (pe_op op_sub (pe_op op_sub (pv 1) pe_int) (pe_cal C_law_draw (hr.mono (by omega)) (by rfl) pass0 (pa_cons (pv 0) (pa_cons pe_int pa_nil)))) pa_nil)))) (pss_cons (ps_if (pt_cmpR op_le (pv 2) pe_int (nomark _)) (pss_one (ps_ret (pe_tup (pa_cons pe_str (pa_cons (pv 3) (pa_cons (pv 4) (pa_cons (pv 5) pa_nil))))))) pss_nil) (pss_cons (ps_if (pt_cmpR (op_eqGK (K := K) rfl hr.units) (pv 2) pe_int (nomark _)) (pss_one (ps_ret (pe_tup (pa_cons pe_str (pa_cons (pv 4) (pa_cons (pv 5) (pa_cons (pe_cal C_law_form (hr.mono (by omega)) (by rfl) pass0 (pa_cons (pv 0) (pa_cons (pe_op op_sub (pv 1) pe_int) pa_nil))) pa_nil))))))) pss_nil) (pss_cons (ps_if (pt_cmpR (op_eqGK (K := K) rfl hr.units) (pv 2) pe_int (nomark _)) (pss_one (ps_ret (pe_tup (pa_cons pe_str (pa_cons (pv 4) (pa_cons (pv 3) (pa_cons (pv 5) pa_nil))))))) pss_nil) (pss_cons (ps_if (pt_cmpR (op_eqGK (K := K) rfl hr.units) (pv 2) pe_int (nomark _)) (pss_one (ps_ret (pe_tup (pa_cons pe_str (pa_cons (pv 4) (pa_cons (pv 5) pa_nil)))))) pss_nil) (pss_cons (ps_if (pt_cmpR (op_eqGK (K := K) rfl hr.units) (pv 2) pe_int (nomark _)) (pss_one (ps_ret (pe_tup (pa_cons pe_str (pa_cons (pe_cal C_law_draw (hr.mono (by omega)) (by rfl) pass0 (pa_cons (pv 0) (pa_cons pe_int pa_nil))) (pa_cons (pv 3) (pa_cons (pv 4) (pa_cons (pv 5) pa_nil)))))))) pss_nil) (pss_cons (ps_if (pt_cmpR (op_eqGK (K := K) rfl hr.units) (pv 2) pe_int (nomark _)) (pss_cons (ps_set (i := 6) sc_law_form.nd rfl (Or.inl rfl) (pe_tup (pa_cons (pv 4) (pa_cons (pv 5) (pa_cons (pe_cal C_law_form (hr.mono (by omega)) (by rfl) pass0 (pa_cons (pv 0) (pa_cons (pe_op op_sub (pv 1) pe_int) pa_nil))) pa_nil))))) (pss_cons (ps_set (i := 7) sc_law_form.nd rfl (Or.inl rfl) (pe_callTy (call_tupGK (K := K) rfl) (by rfl) T.m_tuple (by decide +kernel) (pa_cons (pe_lc (own := [("k", 8)]) (g := gName 8) rfl sc_law_form.nd (pi_range1 (by rfl) T.m_range (pa_cons (pe_cal C_law_draw (hr.mono (by omega)) (by rfl) pass0 (pa_cons (pv 0) (pa_cons pe_int pa_nil))) pa_nil)) (blkOk_by (N := N_law_form) (sc := defScope s_law_form) (by decide +kernel)) (fun _ _ _ _ _ => pg_name (i := 8) sc_law_form.nd rfl (Or.inl rfl)) (fun _ _ _ _ _ => pts_nil) (fun _ _ _ _ _ => (pe_cal C_law_word (hr.mono (by omega)) (by rfl) pass0 (pa_cons (pv 0) pa_nil)))) pa_nil))) (pss_one (ps_ret (pe_tup (pa_cons pe_str (pa_cons (pv 3) (pa_cons (pv 7) (pa_cons (pe_slice (sl_GK (K := K) rfl) (pv 6) po_none (po_some (pe_cal C_law_draw (hr.mono (by omega)) (by rfl) pass0 (pa_cons (pv 0) (pa_cons pe_int pa_nil))))) pa_nil))))))))) pss_nil) (pss_one (ps_ret (pe_tup (pa_cons pe_str (pa_cons (pe_cal C_law_pick (hr.mono (by omega)) (by rfl) pass0 (pa_cons (pv 0) (pa_cons (pe_lst (pa_cons pe_str (pa_cons pe_str (pa_cons pe_str (pa_cons pe_str (pa_cons pe_str pa_nil)))))) pa_nil))) (pa_cons (pv 4) (pa_cons (pv 5) pa_nil))))))))))))))))))), ?_⟩
    kpt_turns
    regloopunroll_open
    rename_i H1 kd fr1 hd1 hkd
    refine ⟨a, c, rfl, hd1, fun H2 word fr2 hd2 hw => ?_⟩
    regloopunroll_open
    -- the leaf: two ways into it
    have leaf : ∀ H' (e : Ex) r, Fr [a] H2 H' → DrawOk H' a c → e.ok 1 → Rep K H' e.toD r → Q r H' := fun H' e r f1 h1 h2 h3 => q H' e r ((fr1.step fr2).step f1) h1 (h2.le (by omega)) h3
    refine ifD (fun h1 => ?_) (fun h1 => ?_)
    · regloopunroll_open
      rename_i H3 v3 fr3 r3 H4 k4 fr4 hd4 hk4 H5 v5 fr5 r5 H6 v6 fr6 r6 H7 l fr7 nl el H8 k8 fr8 hd8 hk8
      have hne : l ≠ a := (show DrawOk H6 a c from by regstrif_gather).neL nl
      obtain rfl | rfl | rfl : k8 = 0 ∨ k8 = 1 ∨ k8 = 2 := by omega
      · refine ixL_q (i := 0) (SqL.of (by regstrif_fact)) rfl rfl ?_
        exact leaf _ (.var word) _ (by lcg_off) (by regstrif_gather) (ok_var hw 0) (by lcg_src)
      · refine ixL_q (i := 1) (SqL.of (by regstrif_fact)) rfl rfl ?_
        exact leaf _ (.num k4) _ (by lcg_off) (by regstrif_gather) (ok_num _ 0) (by lcg_src)
      · refine ixL_q (i := 2) (SqL.of (by regstrif_fact)) rfl rfl ?_
        exact leaf _ (.var word) _ (by lcg_off) (by regstrif_gather) (ok_var hw 0) (by lcg_src)
    · regloopunroll_open
      refine ifD (fun h2 => ?_) (fun h2 => ?_)
      · regloopunroll_open
        rename_i H3 v3 fr3 r3 H4 k4 fr4 hd4 hk4 H5 v5 fr5 r5 H6 v6 fr6 r6 H7 l fr7 nl el H8 k8 fr8 hd8 hk8
        have hne : l ≠ a := (show DrawOk H6 a c from by regstrif_gather).neL nl
        obtain rfl | rfl | rfl : k8 = 0 ∨ k8 = 1 ∨ k8 = 2 := by omega
        · refine ixL_q (i := 0) (SqL.of (by regstrif_fact)) rfl rfl ?_
          exact leaf _ (.var word) _ (by lcg_off) (by regstrif_gather) (ok_var hw 0) (by lcg_src)
        · refine ixL_q (i := 1) (SqL.of (by regstrif_fact)) rfl rfl ?_
          exact leaf _ (.num k4) _ (by lcg_off) (by regstrif_gather) (ok_num _ 0) (by lcg_src)
        · refine ixL_q (i := 2) (SqL.of (by regstrif_fact)) rfl rfl ?_
          exact leaf _ (.var word) _ (by lcg_off) (by regstrif_gather) (ok_var hw 0) (by lcg_src)
      · regloopunroll_open
        have hkd0 : kd ≠ 0 := fun z => h2 (by rw [z]; rfl)
        refine ⟨a, c, dp - 1, m, rfl, hd2, by omega, by omega, by omega, fun H3 e1 r1 fr3 hd3 ho1 rr1 => ?_⟩
        regloopunroll_open
        have more : ∀ H' (e : Ex) r, Fr [a] H3 H' → DrawOk H' a c → e.ok (m + 1) → Rep K H' e.toD r → Q r H' := fun H' e r f1 h1 h2 h3 => q H' e r (((fr1.step fr2).step fr3).step f1) h1 h2 h3
        refine ifD (fun h3 => ?_) (fun h3 => ?_)
        · regloopunroll_open
          exact more _ (.dop word e1) _ (by lcg_off) (by regstrif_gather) (ok_dop hw ho1) (by lcg_src)
        regloopunroll_open
        rename_i H4 k4 fr4 hd4 hk4
        refine ⟨a, c, dp - 1 - k4, m, rfl, hd4, by omega, by omega, by omega, fun H5 e2 r2 fr5 hd5 ho2 rr2 => ?_⟩
        regloopunroll_open
        refine ifD (fun h4 => ?_) (fun h4 => ?_)
        · regloopunroll_open
          exact more _ (.lett word e1 e2) _ (by lcg_off) (by regstrif_gather) (ok_lett hw ho1 ho2) (by lcg_src)
        regloopunroll_open
        refine ifD (fun h5 => ?_) (fun h5 => ?_)
        · regloopunroll_open
          refine ⟨a, c, dp - 2, m, rfl, hd5, by omega, by omega, by omega, fun H6 e3 r3 fr6 hd6 ho3 rr3 => ?_⟩
          regloopunroll_open
          exact more _ (.ite e1 e2 e3) _ (by lcg_off) (by regstrif_gather) (ok_ite ho1 ho2 ho3) (by lcg_src)
        regloopunroll_open
        refine ifD (fun h6 => ?_) (fun h6 => ?_)
        · regloopunroll_open
          exact more _ (.handle e1 word e2) _ (by lcg_off) (by regstrif_gather) (ok_handle hw ho1 ho2) (by lcg_src)
        regloopunroll_open
        refine ifD (fun h7 => ?_) (fun h7 => ?_)
        · regloopunroll_open
          exact more _ (.resume e1 e2) _ (by lcg_off) (by regstrif_gather) (ok_resume ho1 ho2) (by lcg_src)
        regloopunroll_open
        refine ifD (fun h8 => ?_) (fun h8 => ?_)
        · regloopunroll_open
          rename_i H6 k6 fr6 hd6 hk6 H7 v7 fr7 r7
          exact more _ (.rept k6 word e1 e2) _ (by lcg_off) (by regstrif_gather) (ok_rept hw ho1 ho2) (by lcg_src)
        regloopunroll_open
        refine ifD (fun h9 => ?_) (fun h9 => ?_)
        · regloopunroll_open
          refine ⟨a, c, dp - 2, m, rfl, hd5, by omega, by omega, by omega, fun H6 e3 r3 fr6 hd6 ho3 rr3 => ?_⟩
          regloopunroll_open
          rename_i H7 v7 fr7 r7 H8 k8 fr8 hd8 hk8
          refine lcR1_q (k := k8) rfl (by omega) (fun D i H' => Fr [a] H8 H' ∧ DrawOk H' a c ∧ ∃ bs : List Str, (∀ b ∈ bs, b ∈ LN) ∧ bs.length = i ∧ H' D = some (.lst (bs.map V.str))) (fun D nD => ⟨Fr.newL nD, hd8.fr0 (Fr.new nD), [], by simp, rfl, upd_same⟩) (fun D i H' nD hi p => ?_) (fun D H' nD p => ?_)
          · obtain ⟨fr9, hd9, bs, hbs, hbl, eD⟩ := p
            have n1 := hd8.neL nD
            have n2 := hd8.neC nD
            regloopunroll_open
            refine ⟨rfl, ?_⟩
            regloopunroll_open
            refine ⟨a, c, rfl, hd9, fun H10 sw fr10 hd10 hsw => ?_⟩
            have eD2 := fr10.at1 eD n1
            refine ⟨_, eD2, small1000 (by rw [List.length_map]; omega), ?_, hd10.fr1 (Fr.setL eD2) n1 n2, bs ++ [sw], ?_, by simp [hbl], by rw [upd_same, List.map_append]; rfl⟩
            · exact (fr9.step fr10).trans (Fr.setL eD2) fun b m => .inr (by rw [List.mem_singleton.mp m]; exact nD)
            · intro b hb
              rcases List.mem_append.mp hb with h | h
              · exact hbs b h
              · rw [List.mem_singleton.mp h]; exact hsw
          · obtain ⟨fr9, hd9, bs, hbs, hbl, eD⟩ := p
            regloopunroll_open
            rename_i H9 pt fr10 np ep H10 k10 fr11 hd11 hk10
            have rp : Rep K H9 (.tuple (bs.map .str)) (.ref pt) := rep_tup (.of ep) (reps_strs bs)
            refine slT_to (k := k10) (by lcg_src) rfl (fun H11 u fr12 ru => ?_)
            regloopunroll_open
            rename_i H12 u2 fr13 ru2
            refine more _ (.call word bs ([e1, e2, e3].take k10)) _ (by lcg_off) (by regstrif_gather) (ok_call hw hbs (by rw [List.length_take]; simp; omega) fun e he => ?_) ?_
            · have := List.mem_of_mem_take he
              simp only [List.mem_cons, List.not_mem_nil, or_false] at this
              rcases this with rfl | rfl | rfl <;> assumption
            · have e1 : toDs ([e1, e2, e3].take k10) = [e1.toD, e2.toD, e3.toD].take k10 := by rw [toDs_eq, List.map_take]; rfl
              simp only [Ex.toD, e1]
              exact ru2
        regloopunroll_open
        rename_i H6 l fr6 nl el
        refine pick_q (K := K) (by regstrif_gather) (.of el) (hd5.neL nl) (by decide) (by decide) (fun H7 i v fr7 hd7 hv => ?_)
        obtain ⟨o, ho, rfl⟩ : ∃ o ∈ LO, v = V.str o := by
          have := List.mem_of_getElem? hv
          simp only [List.mem_cons, List.not_mem_nil, or_false] at this
          rcases this with rfl | rfl | rfl | rfl | rfl <;> exact ⟨_, by decide +kernel, rfl⟩
        regloopunroll_open
        exact more _ (.sum o e1 e2) _ (by lcg_off) (by regstrif_gather) (ok_sum ho ho1 ho2) (by lcg_src)

def spDrawn (K : PySem.W.Frag) : Sp := fun vs H Q _ => ∃ (a c : Addr), vs = [.ref a] ∧ DrawOk H a c ∧ ∀ H' (e : Ex) r, Fr [a] H H' → DrawOk H' a c → e.ok 7 → Rep K H' e.toD r → Q r H'
theorem ok_law_drawn (T : Top K mg) : Cal P w K mg base CX0 12 "_law_drawn" ["d"] (spDrawn K) := by
  refine T.d_law_drawn.cal sc_law_drawn [none, none] rfl (fun vs H Q E h => ?_) (fun f cdv A outer s H vs Q E hk hr h => ?_)
  · obtain ⟨a, c, rfl, _⟩ := h; rfl
  obtain ⟨a, c, rfl, hd, q⟩ := h
  have hu := hu_of hr
  have C_law_form := ok_law_form (P := P) (w := w) (base := base) T 6
  have C_law_draw := ok_law_draw (P := P) (w := w) (base := base) T
  have C_law_pick := ok_law_pick (P := P) (w := w) (base := base) T
  refine ⟨_, (pss_cons (ps_if (pt_cmpR (op_neGK (K := K) rfl hr.units) (pe_cal C_law_draw (hr.mono (by omega)) (by rfl) pass0 (pa_cons (pv 0) (pa_cons pe_int pa_nil))) pe_int (nomark _)) (pss_one (ps_ret (pe_cal C_law_form (hr.mono (by omega)) (by rfl) pass0 (pa_cons (pv 0) (pa_cons (pe_cal C_law_draw (hr.mono (by omega)) (by rfl) pass0 (pa_cons (pv 0) (pa_cons pe_int pa_nil))) pa_nil))))) pss_nil) (pss_cons (ps_set (i := 1) sc_law_drawn.nd rfl (Or.inl rfl) (pe_cal C_law_form (hr.mono (by omega)) (by rfl) pass0 (pa_cons (pv 0) (pa_cons pe_int pa_nil)))) (pss_cons (ps_for PassesOwn.never rfl (pi_range1 (by rfl) T.m_range (pa_cons pe_int pa_nil)) (pg_name (i := 2) sc_law_drawn.nd rfl (Or.inl rfl)) (pss_one (ps_set (i := 1) sc_law_drawn.nd rfl (Or.inl rfl) (pe_tup (pa_cons pe_str (pa_cons (pe_cal C_law_pick (hr.mono (by omega)) (by rfl) pass0 (pa_cons (pv 0) (pa_cons (pe_lst (pa_cons pe_str (pa_cons pe_str (pa_cons pe_str (pa_cons pe_str (pa_cons pe_str pa_nil)))))) pa_nil))) (pa_cons (pv 1) (pa_cons (pv 1) pa_nil)))))))) (pss_one (ps_ret (pv 1)))))), ?_⟩
  kpt_turns
  regloopunroll_open
  rename_i H1 k1 fr1 hd1 hk1
  refine iteN2 (fun h1 => ?_) (fun h1 => ?_)
  · regloopunroll_open
    rename_i H2 k2 fr2 hd2 hk2
    exact ⟨a, c, k2, 6, rfl, hd2, by decide, by omega, by decide, fun H3 e r fr3 hd3 ho rr => q H3 e r (by lcg_off) hd3 (ho.le (by decide)) rr⟩
  · regloopunroll_open
    refine ⟨a, c, 3, 4, rfl, hd1, by decide, by decide, by decide, fun H3 e r fr3 hd3 ho rr => ?_⟩
    regloopunroll_open
    refine forR1_q (k := 3) rfl (by decide) (fun i σ H' => ∃ y v e, σ = [some (.ref a), some v, y] ∧ Fr [a] H1 H' ∧ DrawOk H' a c ∧ e.ok (4 + i) ∧ Rep K H' (Ex.toD e) v) ⟨_, _, e, rfl, fr3, hd3, ho, rr⟩ (fun i σ H' hi p => ?_) (fun σ H' p => ?_)
    · obtain ⟨y, v, e, rfl, fr4, hd4, ho4, rr4⟩ := p
      regloopunroll_open
      rename_i H5 l fr5 nl el
      refine pick_q (K := K) (by regstrif_gather) (.of el) (hd4.neL nl) (by decide) (by decide) (fun H7 j z fr7 hd7 hv => ?_)
      obtain ⟨o, ho, rfl⟩ : ∃ o ∈ LO, z = V.str o := by
        have := List.mem_of_getElem? hv
        simp only [List.mem_cons, List.not_mem_nil, or_false] at this
        rcases this with rfl | rfl | rfl | rfl | rfl <;> exact ⟨_, by decide +kernel, rfl⟩
      regloopunroll_open
      exact ⟨_, _, .sum o e e, rfl, by lcg_off, by regstrif_gather, ok_sum ho ho4 ho4, by lcg_src⟩
    · obtain ⟨y, v, e, rfl, fr4, hd4, ho4, rr4⟩ := p
      regloopunroll_open
      exact q _ e _ (by lcg_off) hd4 ho4 rr4
def spMet (K : PySem.W.Frag) (n : Nat) : Sp := fun vs H Q _ => ∃ x a e ns, vs = [x, .ref a] ∧ Rep K H (Ex.toD e) x ∧ e.ok n ∧ H a = some (.dK (kvN ns)) ∧ ns.Nodup ∧ (∀ x ∈ ns, x ∈ LN) ∧ ∀ H', Fr [a] H H' → H' a = some (.dK (kvN (addAll ns e.names))) → Q (.ref a) H'
theorem ok_law_met (T : Top K mg) : ∀ n, Cal P w K mg base CX0 (2 + n) "_law_met" ["expr", "found"] (spMet K n) := by
  intro n
  induction n with
  | zero =>
    refine T.d_law_met.cal (k := 1) sc_law_met [none] rfl (fun vs H Q E h => ?_) (fun f cdv A outer s H vs Q E hk hr h => ?_)
    · obtain ⟨x, a, e, ns, rfl, _⟩ := h; rfl
    · obtain ⟨x, a, e, ns, _, _, h, _⟩ := h
      exact h.elim
  | succ n ih =>
    refine T.d_law_met.cal (k := 2 + n) sc_law_met [none] rfl (fun vs H Q E h => ?_) (fun f cdv A outer s H vs Q E hk hr h => ?_)
    · obtain ⟨x, a, e, ns, rfl, _⟩ := h; rfl
    obtain ⟨x, a, e, ns, rfl, hx, ho, ha, hnd, hsub, q⟩ := h
    have hu := hu_of hr
    have C_law_met := ih
    have C_law_parts := ok_law_parts (P := P) (w := w) (base := base) T
    have hl := kvN_len hnd hsub
    refine ⟨_, (pss_cons (ps_if (pt_cmpR (op_inGK (K := K) rfl hu) (pe_ix (ix_GK (K := K) rfl hu) (pv 0) pe_int (fun _ _ => rfl)) (pe_tup (pa_cons pe_str (pa_cons pe_str pa_nil))) (by rfl)) (pss_one (ps_asg pe_bl (pg_sub (pv 1) (pe_ix (ix_GK (K := K) rfl hu) (pv 0) pe_int (fun _ _ => rfl)) (set_G hu)))) (pss_one (ps_if (pt_cmpR (op_eqGK (K := K) rfl hr.units) (pe_ix (ix_GK (K := K) rfl hu) (pv 0) pe_int (fun _ _ => rfl)) pe_str (nomark _)) (pss_one (ps_asg pe_bl (pg_sub (pv 1) (pe_ix (ix_GK (K := K) rfl hu) (pv 0) pe_int (fun _ _ => rfl)) (set_G hu)))) pss_nil))) (pss_cons (ps_for PassesOwn.never rfl (pi_seqK (K := K) rfl (pe_cal C_law_parts (hr.mono (by omega)) (by rfl) pass0 (pa_cons (pv 0) pa_nil))) (pg_name (i := 2) sc_law_met.nd rfl (Or.inl rfl)) (pss_one (ps_expr (pe_cal C_law_met (hr.mono (by omega)) (by rfl) pass0 (pa_cons (pv 2) (pa_cons (pv 1) pa_nil)))))) (pss_one (ps_ret (pv 1))))), ?_⟩
    kpt_turns
    have rest : ∀ H1 : Hp, Fr [a] H H1 → H1 a = some (.dK (kvN (addAll ns e.own))) → 
      tSeq (tFor (fun σ H R => iList K (tCall (spLParts K) [] E0 (tCons (tVar 0) tNil)) σ H R ∨ iTup K (tCall (spLParts K) [] E0 (tCons (tVar 0) tNil)) σ H R) (gName 2) (tDrop (tCall (spMet K n) [] E0 (tCons (tVar 2) (tCons (tVar 1) tNil))))) (tRet (tVar 1)) ⟨fun _ H' => Q .non H', Q, fun _ _ => False, fun _ _ => False⟩ [some x, some (.ref a), none] H1 := by
      intro H1 fr1 ea1
      regloopunroll_open
      refine g_forL ?_
      regloopunroll_open
      refine ⟨x, e, rfl, by lcg_src, ho.2.2.1, fun H2 p us fr2 np ep ru => ?_⟩
      have hne : p ≠ a := fun z => by subst z; rw [np] at ea1; cases ea1
      refine forL_q (.of ep) (fun i σ H' => ∃ y, σ = [some x, some (.ref a), y] ∧ Fr [a] H2 H' ∧ H' a = some (.dK (kvN (addAll ns (e.own ++ (e.parts.take i).flatMap Ex.names))))) ⟨_, rfl, Fr.refl _ _, by simpa using fr2.at ea1⟩ (fun i σ H' p => by obtain ⟨_, _, p, _⟩ := p; exact .of (p.at1 ep hne)) (fun i y σ H' hy p => ?_) (fun σ H' p => ?_)
      · obtain ⟨y0, rfl, fr3, ea3⟩ := p
        obtain ⟨d, hd, ry⟩ := ru.get' hy
        rw [toDs_eq, List.getElem?_map] at hd
        obtain ⟨e', he', rfl⟩ := Option.map_eq_some_iff.mp hd
        have hmem := List.mem_of_getElem? he'
        have hok := addAll_ok (l := e.own ++ (e.parts.take i).flatMap Ex.names) hnd hsub fun s hs => by
          refine ho.namesLN s ?_
          rw [names_eq]
          rcases List.mem_append.mp hs with h | h
          · exact List.mem_append_left _ h
          · refine List.mem_append_right _ ?_
            obtain ⟨p, hp, hs⟩ := List.mem_flatMap.mp h
            exact List.mem_flatMap.mpr ⟨p, List.mem_of_mem_take hp, hs⟩
        regloopunroll_open
        refine ⟨y, a, e', _, rfl, by lcg_src, ho.2.2.2 e' hmem, ea3, hok.1, hok.2, fun H4 fr4 ea4 => ?_⟩
        regloopunroll_open
        refine ⟨_, rfl, by lcg_off, ?_⟩
        rw [List.take_add_one, he', List.flatMap_append, ← List.append_assoc, addAll_append]
        simpa using ea4
      · obtain ⟨y0, rfl, fr3, ea3⟩ := p
        have hlen : us.length = e.parts.length := by rw [ru.length, toDs_eq, List.length_map]
        rw [hlen, List.take_length, ← names_eq] at ea3
        regloopunroll_open
        exact q H' (by lcg_off) ea3
    have hset : ∀ z : Str, addAll ns [z] = addN ns z := fun _ => rfl
    cases e with
    | var z =>
      regloopunroll_open
      exact rest _ (by lcg_off) (by rw [show (Ex.var z).own = [z] from rfl, hset, ← kvN_put]; assumption)
    | lett z a b =>
      regloopunroll_open
      exact rest _ (by lcg_off) (by rw [show (Ex.lett z a b).own = [z] from rfl, hset, ← kvN_put]; assumption)
    | rept c z a b =>
      regloopunroll_open
      exact rest _ (by lcg_off) (by rw [show (Ex.rept c z a b).own = [z] from rfl, hset, ← kvN_put]; assumption)
    | _ =>
      regloopunroll_open
      exact rest _ (by lcg_off) (by regstrif_fact)
def spAsc (K : PySem.W.Frag) : Sp := fun vs H Q _ => ∃ a ns, vs = [.ref a] ∧ H a = some (.dK (kvN ns)) ∧ ∀ H' r zs, Fr [] H H' → zs.Perm LN → sortedS zs = true → Rep K H' (.tuple ((zs.filter fun z => decide (z ∈ ns)).map .str)) r → Q r H'
theorem ok_law_ascending (T : Top K mg) : Cal P w K mg base CX0 2 "_law_ascending" ["found"] (spAsc K) := by
  refine T.d_law_ascending.cal sc_law_ascending [none] rfl (fun vs H Q E h => ?_) (fun f cdv A outer s H vs Q E hk hr h => ?_)
  · obtain ⟨a, ns, rfl, _⟩ := h; rfl
  obtain ⟨a, ns, rfl, ha, q⟩ := h
  have hu := hu_of hr
  have C_law_list := ok_law_list (P := P) (w := w) (base := base) T
  refine ⟨_, (pss_one (ps_ret (pe_callTy (call_tupGK (K := K) rfl) (by rfl) T.m_tuple (by decide +kernel) (pa_cons (pe_lc (own := [("name", 1)]) (g := gName 1) rfl sc_law_ascending.nd (pi_seqK (K := K) rfl (pe_callB (call_sortedGK (K := K) rfl rfl) (by rfl) T.m_sorted (by decide +kernel) (pa_cons (pe_cal0 C_law_list (hr.mono (by omega)) (by rfl) pass0) pa_nil))) (blkOk_by (N := N_law_ascending) (sc := defScope s_law_ascending) (by decide +kernel)) (fun _ _ _ _ _ => pg_name (i := 1) sc_law_ascending.nd rfl (Or.inl rfl)) (fun _ _ _ _ _ => pts_one (pt_cmpR (op_inGK (K := K) rfl hu) (pv 1) (pv 0) (by rfl))) (fun _ _ _ _ _ => (pv 1))) pa_nil)))), ?_⟩
  kpt_turns
  regloopunroll_open
  refine g_lcL ?_
  regloopunroll_open
  refine ⟨rfl, fun H1 p fr1 np ep => ?_⟩
  regloopunroll_open
  refine sortedL_q (ks := LN) (.of ep) (by decide) (fun H2 p2 zs hp hs fr2 np2 ep2 => ?_)
  have hlen : zs.length = 11 := hp.length_eq
  refine lcL_q (.of ep2) (fun D i H' => Fr [] H2 H' ∧ H' D = some (.lst (((zs.take i).filter fun z => decide (z ∈ ns)).map V.str))) (fun D nD => ⟨Fr.new nD, upd_same⟩) (fun D i H' nD p => .of (p.1.at ep2)) (fun D i y H' nD hy p => ?_) (fun D H' nD p => ?_)
  · obtain ⟨fr3, eD⟩ := p
    rw [List.getElem?_map] at hy
    obtain ⟨z, hz, rfl⟩ := Option.map_eq_some_iff.mp hy
    regloopunroll_open
    refine ⟨rfl, ?_⟩
    regloopunroll_open
    rw [kvN_has]
    have hnext : (zs.take (i + 1)).filter (fun z => decide (z ∈ ns)) = (zs.take i).filter (fun z => decide (z ∈ ns)) ++ (if z ∈ ns then [z] else []) := by
      rw [List.take_add_one, hz, List.filter_append]
      simp [List.filter_cons]
    refine ifD (fun h1 => ?_) (fun h1 => ?_)
    · regloopunroll_open
      refine ⟨_, eD, small1000 ?_, fr3.updN nD eD, ?_⟩
      · have a2 := List.length_filter_le (fun z => decide (z ∈ ns)) (zs.take i)
        rw [List.length_take] at a2
        rw [List.length_map]
        omega
      · rw [upd_same, hnext, if_pos h1, List.map_append]
        rfl
    · refine ⟨fr3, ?_⟩
      rw [hnext, if_neg h1, List.append_nil]
      exact eD
  · obtain ⟨fr3, eD⟩ := p
    rw [List.length_map, List.take_length] at eD
    regloopunroll_open
    rename_i H4 p4 fr4 np4 ep4
    exact q H4 _ zs (((fr1.step fr2).step fr3).step fr4) hp hs (rep_tup (.of ep4) (reps_strs _))

/-- a dict of expressions by name -/
structure SwOk (K : PySem.W.Frag) (H : Hp) (a : Addr) (kvs : List (Key × V)) (m : Str → Option Ex) : Prop where
  ad : H a = some (.dK kvs)
  val : ∀ n : Str, (valV kvs (Sum.inr n) = none ∧ m n = none) ∨ ∃ v e, valV kvs (Sum.inr n) = some v ∧ m n = some e ∧ Rep K H (Ex.toD e) v
theorem SwOk.fr {H H' : Hp} {a : Addr} {kvs : List (Key × V)} {m : Str → Option Ex} {l : List Addr} (h : SwOk K H a kvs m) (f : Fr l H H') (hl : a ∉ l) : SwOk K H' a kvs m := by
  refine ⟨f.keep _ _ h.ad hl, fun n => ?_⟩
  rcases h.val n with h | ⟨v, e, h1, h2, h3⟩
  · exact .inl h
  · exact .inr ⟨v, e, h1, h2, h3.up f⟩
theorem SwOk.fr0 {H H' : Hp} {a : Addr} {kvs : List (Key × V)} {m : Str → Option Ex} (h : SwOk K H a kvs m) (f : Fr [] H H') : SwOk K H' a kvs m := h.fr f (by simp)
def spSwap (K : PySem.W.Frag) (n : Nat) : Sp := fun vs H Q _ => ∃ x a e kvs m, vs = [x, .ref a] ∧ Rep K H (Ex.toD e) x ∧ e.ok n ∧ SwOk K H a kvs m ∧ ∀ H' r, Fr [] H H' → Rep K H' (e.swap m).toD r → Q r H'
theorem ok_swap_names (T : Top K mg) : ∀ n, Cal P w K mg base CX0 (2 + n) "swap_names" ["expr", "swaps"] (spSwap K n) := by
  intro n
  induction n with
  | zero =>
    refine T.d_swap_names.cal (k := 1) sc_swap_names [none] rfl (fun vs H Q E h => ?_) (fun f cdv A outer s H vs Q E hk hr h => ?_)
    · obtain ⟨x, a, e, kvs, m, rfl, _⟩ := h; rfl
    · obtain ⟨x, a, e, kvs, m, _, _, h, _⟩ := h
      exact h.elim
  | succ n ih =>
    refine T.d_swap_names.cal (k := 2 + n) sc_swap_names [none] rfl (fun vs H Q E h => ?_) (fun f cdv A outer s H vs Q E hk hr h => ?_)
    · obtain ⟨x, a, e, kvs, m, rfl, _⟩ := h; rfl
    obtain ⟨x, a, e, kvs, m, rfl, hx, ho, hsw, q⟩ := h
    have hu := hu_of hr
    have C_swap_names := ih
    have C_parts_of := ok_parts_of (P := P) (w := w) (base := base) T
    have C_with_parts := ok_with_parts (P := P) (w := w) (base := base) T
    have had := hsw.ad
    refine ⟨_, (pss_cons (ps_if (pt_cmpR (op_eqGK (K := K) rfl hr.units) (pe_ix (ix_GK (K := K) rfl hu) (pv 0) pe_int (fun _ _ => rfl)) pe_str (nomark _)) (pss_cons (ps_if (pt_cmpR (op_inGK (K := K) rfl hu) (pe_ix (ix_GK (K := K) rfl hu) (pv 0) pe_int (fun _ _ => rfl)) (pv 1) (by rfl)) (pss_one (ps_ret (pe_ix (ix_GK (K := K) rfl hu) (pv 1) (pe_ix (ix_GK (K := K) rfl hu) (pv 0) pe_int (fun _ _ => rfl)) (fun _ _ => rfl)))) pss_nil) (pss_one (ps_ret (pv 0)))) pss_nil) (pss_one (ps_ret (pe_cal C_with_parts (hr.mono (by omega)) (by rfl) pass0 (pa_cons (pv 0) (pa_cons (pe_callTy (call_tupGK (K := K) rfl) (by rfl) T.m_tuple (by decide +kernel) (pa_cons (pe_lc (own := [("part", 2)]) (g := gName 2) rfl sc_swap_names.nd (pi_seqK (K := K) rfl (pe_cal C_parts_of (hr.mono (by omega)) (by rfl) pass0 (pa_cons (pv 0) pa_nil))) (blkOk_by (N := N_swap_names) (sc := defScope s_swap_names) (by decide +kernel)) (fun _ _ _ _ _ => pg_name (i := 2) sc_swap_names.nd rfl (Or.inl rfl)) (fun _ _ _ _ _ => pts_nil) (fun _ _ _ _ _ => (pe_cal C_swap_names (hr.mono (by omega)) (by rfl) pass0 (pa_cons (pv 2) (pa_cons (pv 1) pa_nil))))) pa_nil)) pa_nil)))))), ?_⟩
    kpt_turns
    by_cases hv : ∃ z, e = .var z
    · obtain ⟨z, rfl⟩ := hv
      regloopunroll_open
      rcases hsw.val z with ⟨h1, h2⟩ | ⟨v, e, h1, h2, h3⟩
      · rw [h1]
        regloopunroll_open
        refine q _ _ (by lcg_off) ?_
        simp only [Ex.swap, h2, Option.getD_none]
        lcg_src
      · rw [h1]
        regloopunroll_open
        refine ixD_q had (k := Sum.inr z) rfl h1 ?_
        refine q _ _ (by lcg_off) ?_
        simp only [Ex.swap, h2, Option.getD_some]
        exact h3
    · have hswap := swap_eq m e fun z hz => hv ⟨z, hz⟩
      obtain ⟨k, ds, hds, hkc⟩ : ∃ k ds, e.toD = .tuple (.str k :: ds) ∧ V.str k ≠ V.str "var" := by
        cases e with
        | var z => exact absurd ⟨z, rfl⟩ hv
        | _ => refine ⟨_, _, rfl, ?_⟩; decide +kernel
      have hx' := hx
      rw [hds] at hx'
      regloopunroll_open
      refine ifF hkc ?_
      regloopunroll_open
      refine g_lcT ?_
      regloopunroll_open
      refine ⟨x, e, rfl, hx, fun H1 r fr1 rr => ?_⟩
      have hlen : e.parts.length ≤ 3 := ho.2.2.1
      refine lcT_rep rr (fun D i H' => Fr [] H1 H' ∧ ∃ us, H' D = some (.lst us) ∧ Reps K H' (toDs ((e.parts.take i).map (Ex.swap m))) us) (fun D nD => ⟨Fr.new nD, [], upd_same, reps_nil⟩) (fun D i H' nD p => ⟨_, p.1⟩) (fun D i d y H' nD hd hy p => ?_) (fun D H' nD p => ?_)
      · obtain ⟨fr2, us, eD, ru⟩ := p
        rw [toDs_eq, List.getElem?_map] at hd
        obtain ⟨e', he', rfl⟩ := Option.map_eq_some_iff.mp hd
        regloopunroll_open
        refine ⟨rfl, ?_⟩
        regloopunroll_open
        refine ⟨y, a, e', kvs, m, rfl, hy, ho.2.2.2 e' (List.mem_of_getElem? he'), (hsw.fr0 fr1).fr0 fr2, fun H3 z fr3 rz => ?_⟩
        have eD3 := fr3.at eD
        refine ⟨us, eD3, ?_, (fr2.step fr3).updN nD eD3, us ++ [z], upd_same, ?_⟩
        · have := ru.length
          rw [toDs_eq, List.length_map, List.length_map, List.length_take] at this
          exact small1000 (by omega)
        · rw [List.take_add_one, he', List.map_append, toDs_eq, List.map_append, ← toDs_eq]
          exact ((ru.up fr3).append (reps_one rz)).up (Fr.setL eD3)
      · obtain ⟨fr2, us, eD, ru⟩ := p
        have hL : (toDs e.parts).length = e.parts.length := by rw [toDs_eq, List.length_map]
        rw [hL, List.take_length] at ru
        regloopunroll_open
        rename_i H4 p4 fr4 np4 ep4
        refine ⟨x, .ref p4, e, e.parts.map (Ex.swap m), rfl, by lcg_src, rep_tup (.of ep4) (ru.up fr4), by rw [List.length_map], fun H5 r5 fr5 rr5 => ?_⟩
        rw [← hswap] at rr5
        exact q H5 r5 (((fr1.step fr2).step fr4).step fr5) rr5

theorem ok_law_swapped (T : Top K mg) : ∀ n, Cal P w K mg base CX0 (2 + n) "_law_swapped" ["expr", "swaps"] (spSwap K n) := by
  intro n
  induction n with
  | zero =>
    refine T.d_law_swapped.cal (k := 1) sc_law_swapped [none, none, none] rfl (fun vs H Q E h => ?_) (fun f cdv A outer s H vs Q E hk hr h => ?_)
    · obtain ⟨x, a, e, kvs, m, rfl, _⟩ := h; rfl
    · obtain ⟨x, a, e, kvs, m, _, _, h, _⟩ := h
      exact h.elim
  | succ n ih =>
    refine T.d_law_swapped.cal (k := 2 + n) sc_law_swapped [none, none, none] rfl (fun vs H Q E h => ?_) (fun f cdv A outer s H vs Q E hk hr h => ?_)
    · obtain ⟨x, a, e, kvs, m, rfl, _⟩ := h; rfl
    obtain ⟨x, a, e, kvs, m, rfl, hx, ho, hsw, q⟩ := h
    have hu := hu_of hr
    have C_law_swapped := ih
    have had := hsw.ad
    refine ⟨_, (pss_cons (ps_if (pt_cmpR (op_eqGK (K := K) rfl hr.units) (pe_ix (ix_GK (K := K) rfl hu) (pv 0) pe_int (fun _ _ => rfl)) pe_str (nomark _)) (pss_one (ps_ret (pe_dget2 hu (pv 1) (pe_ix (ix_GK (K := K) rfl hu) (pv 0) pe_int (fun _ _ => rfl)) (pv 0) ⟨rfl, rfl, rfl, rfl⟩))) pss_nil) (pss_cons (ps_set (i := 2) sc_law_swapped.nd rfl (Or.inl rfl) (pe_lst pa_nil)) (pss_cons (ps_for PassesOwn.never rfl (pi_seqK (K := K) rfl (pv 0)) (pg_name (i := 3) sc_law_swapped.nd rfl (Or.inl rfl)) (pss_one (ps_if (PW.pt (pw_and (pt_cmpR (op_eqGK (K := K) rfl hr.units) (pe_ix (ix_GK (K := K) rfl hu) (pv 0) pe_int (fun _ _ => rfl)) pe_str (nomark _)) (pw_and (pt_val (pe_callB (call_isiGK (K := K) rfl) (by rfl) T.m_isinstance (by decide +kernel) (pa_cons (pv 3) (pa_cons (pe_bltn (v := .ty "tuple") (u := .type "tuple") (by rfl) T.m_tuple (by decide +kernel) rfl) pa_nil)))) (pw_and1 (pt_cmpR (op_eqGK (K := K) rfl hr.units) (pe_callB (call_lenGK (K := K) rfl) (by rfl) T.m_len (by decide +kernel) (pa_cons (pv 2) pa_nil)) pe_int (nomark _)))))) (pss_one (ps_expr (pe_bm PySem.F.plainAttrs_list PySem.F.slot_list_append PySem.F.type_list_append mt_append (pv 2) (pa_cons (pe_callTy (call_tupGK (K := K) rfl) (by rfl) T.m_tuple (by decide +kernel) (pa_cons (pe_lc (own := [("part", 4)]) (g := gName 4) rfl sc_law_swapped.nd (pi_seqK (K := K) rfl (pv 3)) (blkOk_by (N := N_law_swapped) (sc := defScope s_law_swapped) (by decide +kernel)) (fun _ _ _ _ _ => pg_name (i := 4) sc_law_swapped.nd rfl (Or.inl rfl)) (fun _ _ _ _ _ => pts_nil) (fun _ _ _ _ _ => (pe_cal C_law_swapped (hr.mono (by omega)) (by rfl) pass0 (pa_cons (pv 4) (pa_cons (pv 1) pa_nil))))) pa_nil)) pa_nil)))) (pss_one (ps_if (PW.pt (pw_and (pt_cmpR (op_neGK (K := K) rfl hr.units) (pe_ix (ix_GK (K := K) rfl hu) (pv 0) pe_int (fun _ _ => rfl)) pe_str (nomark _)) (pw_and1 (pt_val (pe_callB (call_isiGK (K := K) rfl) (by rfl) T.m_isinstance (by decide +kernel) (pa_cons (pv 3) (pa_cons (pe_bltn (v := .ty "tuple") (u := .type "tuple") (by rfl) T.m_tuple (by decide +kernel) rfl) pa_nil))))))) (pss_one (ps_expr (pe_bm PySem.F.plainAttrs_list PySem.F.slot_list_append PySem.F.type_list_append mt_append (pv 2) (pa_cons (pe_cal C_law_swapped (hr.mono (by omega)) (by rfl) pass0 (pa_cons (pv 3) (pa_cons (pv 1) pa_nil))) pa_nil)))) (pss_one (ps_expr (pe_bm PySem.F.plainAttrs_list PySem.F.slot_list_append PySem.F.type_list_append mt_append (pv 2) (pa_cons (pv 3) pa_nil))))))))) (pss_one (ps_ret (pe_callTy (call_tupGK (K := K) rfl) (by rfl) T.m_tuple (by decide +kernel) (pa_cons (pv 2) pa_nil))))))), ?_⟩
    kpt_turns
    by_cases hv : ∃ z, e = .var z
    · obtain ⟨z, rfl⟩ := hv
      regloopunroll_open
      refine get2_q ?_
      regloopunroll_open
      refine ⟨a, rfl, isD_of had, ?_⟩
      regloopunroll_open
      refine get2D_q had (k := Sum.inr z) rfl ?_
      refine q _ _ (by lcg_off) ?_
      rcases hsw.val z with ⟨h1, h2⟩ | ⟨v, e, h1, h2, h3⟩
      · simp only [Ex.swap, h1, h2, Option.getD_none]
        lcg_src
      · simp only [Ex.swap, h1, h2, Option.getD_some]
        exact h3
    by_cases hc : ∃ f bs es, e = .call f bs es
    · obtain ⟨f, bs, es, rfl⟩ := hc
      regloopunroll_open
      rename_i H1 ra fr1 nra era
      refine g_forT ?_
      regloopunroll_open
      have hx1 : Rep K H1 (.tuple [.str "call", .str f, .tuple (bs.map .str), .tuple (toDs es)]) x := hx.up fr1
      have hra : a ≠ ra := fun z => by subst z; rw [nra] at had; cases had
      refine forT_rep hx1 (fun i σ H' => ∃ y us, σ = [some x, some (.ref a), some (.ref ra), y, none] ∧ Fr [ra] H1 H' ∧ H' ra = some (.lst us) ∧ Reps K H' ([PyData.str "call", .str f, .tuple (bs.map .str), .tuple (toDs (es.map (Ex.swap m)))].take i) us) ⟨none, [], rfl, Fr.refl _ _, era, reps_nil⟩ (fun i σ H' p => by obtain ⟨_, _, _, p, _⟩ := p; exact ⟨_, p⟩) (fun i d y σ H' hd hy p => ?_) (fun σ H' p => ?_)
      · obtain ⟨y0, us, rfl, fr2, era2, ru⟩ := p
        have hul : us.length < sizeLine := by
          have := ru.length
          rw [List.length_take] at this
          exact small1000 (by simp at this; omega)
        have hx2 := hx1.up fr2
        match i, hd, ru with
        | 0, hd, ru =>
          cases hd
          regloopunroll_open
          exact ⟨_, _, rfl, by lcg_off, by assumption, (ru.append (reps_one hy)).up (by assumption)⟩
        | 1, hd, ru =>
          cases hd
          regloopunroll_open
          exact ⟨_, _, rfl, by lcg_off, by assumption, (ru.append (reps_one hy)).up (by assumption)⟩
        | 2, hd, ru =>
          cases hd
          have hl2 : us.length = 2 := by have := ru.length; simpa using this
          regloopunroll_open
          rw [hl2]
          refine ifF (by decide +kernel) ?_
          regloopunroll_open
          exact ⟨_, _, rfl, by lcg_off, by assumption, (ru.append (reps_one hy)).up (by assumption)⟩
        | 3, hd, ru =>
          cases hd
          have hl2 : us.length = 3 := by have := ru.length; simpa using this
          regloopunroll_open
          rw [hl2]
          refine ifT rfl ?_
          regloopunroll_open
          refine g_lcT ?_
          regloopunroll_open
          have hlen : es.length ≤ 3 := ho.2.2.1
          refine lcT_rep hy (fun D i H2 => Fr [] H' H2 ∧ ∃ us, H2 D = some (.lst us) ∧ Reps K H2 (toDs ((es.take i).map (Ex.swap m))) us) (fun D nD => ⟨Fr.new nD, [], upd_same, reps_nil⟩) (fun D i H' nD p => ⟨_, p.1⟩) (fun D i d y H2 nD hd hy p => ?_) (fun D H2 nD p => ?_)
          · obtain ⟨fr3, us, eD, ru⟩ := p
            rw [toDs_eq, List.getElem?_map] at hd
            obtain ⟨e', he', rfl⟩ := Option.map_eq_some_iff.mp hd
            regloopunroll_open
            refine ⟨rfl, ?_⟩
            regloopunroll_open
            refine ⟨y, a, e', kvs, m, rfl, hy, ho.2.2.2 e' (List.mem_of_getElem? he'), ((hsw.fr0 fr1).fr fr2 (by simpa using hra)).fr0 fr3, fun H3 z fr4 rz => ?_⟩
            have eD3 := fr4.at eD
            refine ⟨us, eD3, ?_, (fr3.step fr4).updN nD eD3, us ++ [z], upd_same, ?_⟩
            · have := ru.length
              rw [toDs_eq, List.length_map, List.length_map, List.length_take] at this
              exact small1000 (by omega)
            · rw [List.take_add_one, he', List.map_append, toDs_eq, List.map_append, ← toDs_eq]
              exact ((ru.up fr4).append (reps_one rz)).up (Fr.setL eD3)
          · obtain ⟨fr3, us2, eD, ru2⟩ := p
            have hL : (toDs es).length = es.length := by rw [toDs_eq, List.length_map]
            rw [hL, List.take_length] at ru2
            regloopunroll_open
            rename_i H4 p4 fr4 np4 ep4 H5 fr5 era5
            refine ⟨_, _, rfl, by lcg_off, era5, ?_⟩
            exact (((ru.up fr3).up fr4).append (reps_one (rep_tup (.of ep4) (ru2.up fr4)))).up fr5
      · obtain ⟨y0, us, rfl, fr2, era2, ru⟩ := p
        regloopunroll_open
        rename_i H3 p3 fr3 np3 ep3
        refine q H3 _ (((fr1.trans fr2 fun b m => .inr (by rw [List.mem_singleton.mp m]; exact nra))).step0 fr3) ?_
        simp only [Ex.swap, Ex.toD, swapL_eq]
        exact rep_tup (.of ep3) (ru.up fr3)
    · obtain ⟨k, ds, tds, e1, e2, e3, e4, e5, e6, e7, hstep⟩ := things_swap m e (fun z hz => hv ⟨z, hz⟩) (fun f bs es hz => hc ⟨f, bs, es, hz⟩)
      have hx' := hx
      rw [e1] at hx'
      regloopunroll_open
      refine ix_get (i := 0) hx' rfl e5 (get_str ?_)
      regloopunroll_open
      refine ifF e7 ?_
      regloopunroll_open
      rename_i H1 ra fr1 nra era
      refine g_forT ?_
      regloopunroll_open
      refine forT_rep (hx'.up fr1) (fun i σ H' => ∃ y us, σ = [some x, some (.ref a), some (.ref ra), y, none] ∧ Fr [ra] H1 H' ∧ H' ra = some (.lst us) ∧ Reps K H' (tds.take i) us) ⟨none, [], rfl, Fr.refl _ _, era, reps_nil⟩ (fun i σ H' p => by obtain ⟨_, _, _, p, _⟩ := p; exact ⟨_, p⟩) (fun i d y σ H' hd hy p => ?_) (fun σ H' p => ?_)
      · obtain ⟨y0, us, rfl, fr2, era2, ru⟩ := p
        have hul : us.length < sizeLine := by
          have := ru.length
          rw [List.length_take] at this
          exact small1000 (by omega)
        have hra : a ≠ ra := fun z => by subst z; rw [nra] at had; cases had
        have hx2 := (hx'.up fr1).up fr2
        regloopunroll_open
        refine ix_get (i := 0) hx2 rfl e5 (get_str ?_)
        regloopunroll_open
        refine ifF e6 ?_
        regloopunroll_open
        refine ix_get (i := 0) hx2 rfl e5 (get_str ?_)
        regloopunroll_open
        refine ifNT e6 ?_
        regloopunroll_open
        refine isi_rep hy (kitB_tuple d) ?_
        regloopunroll_open
        rcases hstep i d hd with ⟨p, hp, rfl, ht⟩ | ⟨hty, ht⟩
        · rw [tyD_toD]
          refine (show if true = true then _ else _ from ?_)
          regloopunroll_open
          refine ⟨y, a, p, kvs, m, rfl, hy, ho.2.2.2 p hp, (hsw.fr0 fr1).fr fr2 (by simpa using hra), fun H3 z fr3 rz => ?_⟩
          regloopunroll_open
          rename_i H4 fr4 e4r
          refine ⟨_, _, rfl, by lcg_off, e4r, ?_⟩
          rw [List.take_add_one, ht]
          exact (((ru.up fr3).append (reps_one rz)).up fr4)
        · rw [hty]
          regloopunroll_open
          rename_i H4 fr4 e4r
          refine ⟨_, _, rfl, by lcg_off, e4r, ?_⟩
          rw [List.take_add_one, ht]
          exact (ru.append (reps_one hy)).up fr4
      · obtain ⟨y0, us, rfl, fr2, era2, ru⟩ := p
        rw [← e3, List.take_length] at ru
        regloopunroll_open
        rename_i H3 p3 fr3 np3 ep3
        refine q H3 _ (((fr1.trans fr2 fun b m => .inr (by rw [List.mem_singleton.mp m]; exact nra))).step0 fr3) ?_
        rw [e2]
        exact rep_tup (.of ep3) (ru.up fr3)

/-- .. as the law makes it -/
structure SwG (K : PySem.W.Frag) (H : Hp) (a : Addr) (kvs : List (Key × V)) (m : Str → Option Ex) : Prop where
  sw : SwOk K H a kvs m
  ks : ∃ ks : List Str, kvs.map (·.1) = ks.map Sum.inr ∧ ks.Nodup ∧ ∀ k ∈ ks, k ∈ LN
  okm : ∀ x e, m x = some e → e.ok 3
theorem SwG.fr {H H' : Hp} {a : Addr} {kvs : List (Key × V)} {m : Str → Option Ex} {l : List Addr} (h : SwG K H a kvs m) (f : Fr l H H') (hl : a ∉ l) : SwG K H' a kvs m := ⟨h.sw.fr f hl, h.ks, h.okm⟩
theorem SwG.fr0 {H H' : Hp} {a : Addr} {kvs : List (Key × V)} {m : Str → Option Ex} (h : SwG K H a kvs m) (f : Fr [] H H') : SwG K H' a kvs m := h.fr f (by simp)
theorem SwG.fr1 {H H' : Hp} {a b : Addr} {kvs : List (Key × V)} {m : Str → Option Ex} (h : SwG K H a kvs m) (f : Fr [b] H H') (n : a ≠ b) : SwG K H' a kvs m := h.fr f (by simpa using n)
theorem SwG.len {H : Hp} {a : Addr} {kvs : List (Key × V)} {m : Str → Option Ex} (h : SwG K H a kvs m) : kvs.length < 1000 := by
  obtain ⟨ks, e, nd, sub⟩ := h.ks
  have := len_LN nd sub
  have h1 : kvs.length = ks.length := by rw [← List.length_map (f := (·.1)) (as := kvs), e, List.length_map]
  omega
theorem SwG.new {H : Hp} {a : Addr} (h : H a = some (.dK [])) : SwG K H a [] (fun _ => none) :=
  ⟨⟨h, fun n => .inl ⟨rfl, rfl⟩⟩, ⟨[], rfl, by simp, by simp⟩, fun x e h => by cases h⟩
theorem SwG.put {H H' : Hp} {a : Addr} {kvs : List (Key × V)} {m : Str → Option Ex} {n : Str} {v : V} {e : Ex} (h : SwG K H a kvs m) (f : Fr [a] H H') (ea : H' a = some (.dK (putK kvs (Sum.inr n) v))) (hn : n ∈ LN) (hv : Rep K H e.toD v) (ho : e.ok 3) :
    SwG K H' a (putK kvs (Sum.inr n) v) (fun x => if x = n then some e else m x) := by
  refine ⟨⟨ea, fun x => ?_⟩, ?_, fun x e' hx => ?_⟩
  · rw [valV_put]
    by_cases hx : x = n
    · subst hx
      rw [if_pos rfl, if_pos rfl]
      exact .inr ⟨v, e, rfl, rfl, hv.up f⟩
    · rw [if_neg (fun z => hx (Sum.inr.inj z)), if_neg hx]
      rcases h.sw.val x with h | ⟨v', e', h1, h2, h3⟩
      · exact .inl h
      · exact .inr ⟨v', e', h1, h2, h3.up f⟩
  · obtain ⟨ks, e1, nd, sub⟩ := h.ks
    by_cases hm : n ∈ ks
    · refine ⟨ks, ?_, nd, sub⟩
      unfold putK
      have : (kvs.any fun kv => decide (kv.1 = (Sum.inr n : Key))) = true := by
        have h2 : (Sum.inr n : Key) ∈ kvs.map (·.1) := by rw [e1]; exact List.mem_map_of_mem hm
        obtain ⟨p, hp, h3⟩ := List.mem_map.mp h2
        exact List.any_eq_true.mpr ⟨p, hp, decide_eq_true h3⟩
      rw [if_pos this, List.map_map, ← e1]
      refine List.map_congr_left fun p _ => ?_
      show (if p.1 = Sum.inr n then (p.1, v) else p).1 = p.1
      split <;> rfl
    · refine ⟨ks ++ [n], ?_, List.nodup_append.mpr ⟨nd, by simp, fun x hx y hy => by simp at hy; subst hy; exact fun z => hm (z ▸ hx)⟩, fun k hk => ?_⟩
      · unfold putK
        have : ¬ (kvs.any fun kv => decide (kv.1 = (Sum.inr n : Key))) = true := by
          intro h2
          obtain ⟨p, hp, h3⟩ := List.any_eq_true.mp h2
          have h4 : (Sum.inr n : Key) ∈ kvs.map (·.1) := List.mem_map.mpr ⟨p, hp, of_decide_eq_true h3⟩
          rw [e1] at h4
          obtain ⟨k, hk, h5⟩ := List.mem_map.mp h4
          exact hm (Sum.inr.inj h5 ▸ hk)
        rw [if_neg this, List.map_append, e1, List.map_append]
        rfl
      · rcases List.mem_append.mp hk with h | h
        · exact sub k h
        · rw [List.mem_singleton.mp h]; exact hn
  · by_cases hxn : x = n
    · rw [if_pos hxn] at hx; cases hx; exact ho
    · rw [if_neg hxn] at hx; exact h.okm x e' hx
/-- its pairs are themselves again -/
theorem SwG.same {H : Hp} {a : Addr} {kvs : List (Key × V)} {m : Str → Option Ex} (h : SwG K H a kvs m) : ∀ p ∈ kvs, valV kvs p.1 = some p.2 ∧ sameOk p.2 := by
  intro p hp
  obtain ⟨ks, e1, nd, sub⟩ := h.ks
  have ndk : (kvs.map (·.1)).Nodup := by rw [e1]; exact List.pairwise_map.mpr (nd.imp fun h z => h (Sum.inr.inj z))
  have hv : valV kvs p.1 = some p.2 := val_nodup ndk p hp
  refine ⟨hv, ?_⟩
  have h4 : p.1 ∈ kvs.map (·.1) := List.mem_map_of_mem hp
  rw [e1] at h4
  obtain ⟨k, hk, h5⟩ := List.mem_map.mp h4
  rw [← h5] at hv
  rcases h.sw.val k with ⟨h1, _⟩ | ⟨v, e, h1, _, h3⟩
  · rw [h1] at hv; cases hv
  · rw [h1] at hv
    cases hv
    right
    cases e <;> (simp only [Ex.toD] at h3; obtain ⟨b, _, h6, _⟩ := Rep.tup_iff.mp h3; exact ⟨b, h6⟩)
def spSwaps (K : PySem.W.Frag) : Sp := fun vs H Q _ => ∃ (a c : Addr), vs = [.ref a] ∧ DrawOk H a c ∧ ∀ H' p kvs m, Fr [a] H H' → DrawOk H' a c → H p = none → p ≠ a → p ≠ c → SwG K H' p kvs m → Q (.ref p) H'
theorem ok_law_swaps (T : Top K mg) : Cal P w K mg base CX0 9 "_law_swaps" ["d"] (spSwaps K) := by
  refine T.d_law_swaps.cal sc_law_swaps [none, none, none, none] rfl (fun vs H Q E h => ?_) (fun f cdv A outer s H vs Q E hk hr h => ?_)
  · obtain ⟨a, c, rfl, _⟩ := h; rfl
  obtain ⟨a, c, rfl, hd, q⟩ := h
  have hu := hu_of hr
  have C_law_form := ok_law_form (P := P) (w := w) (base := base) T 3
  have C_law_draw := ok_law_draw (P := P) (w := w) (base := base) T
  have C_law_word := ok_law_word (P := P) (w := w) (base := base) T
  refine ⟨_, (pss_cons (ps_set (i := 1) sc_law_swaps.nd rfl (Or.inl rfl) pe_dnewK) (pss_cons (ps_if (pt_cmpR (op_eqGK (K := K) rfl hr.units) (pe_cal C_law_draw (hr.mono (by omega)) (by rfl) pass0 (pa_cons (pv 0) (pa_cons pe_int pa_nil))) pe_int (nomark _)) (pss_cons (ps_set (i := 2) sc_law_swaps.nd rfl (Or.inl rfl) (pe_cal C_law_word (hr.mono (by omega)) (by rfl) pass0 (pa_cons (pv 0) pa_nil))) (pss_cons (ps_set (i := 3) sc_law_swaps.nd rfl (Or.inl rfl) (pe_cal C_law_word (hr.mono (by omega)) (by rfl) pass0 (pa_cons (pv 0) pa_nil))) (pss_cons (ps_asg (pe_tup (pa_cons pe_str (pa_cons (pv 3) pa_nil))) (pg_sub (pv 1) (pv 2) (set_G hu))) (pss_one (ps_asg (pe_tup (pa_cons pe_str (pa_cons (pv 2) pa_nil))) (pg_sub (pv 1) (pv 3) (set_G hu))))))) pss_nil) (pss_cons (ps_for PassesOwn.never rfl (pi_range1 (by rfl) T.m_range (pa_cons (pe_cal C_law_draw (hr.mono (by omega)) (by rfl) pass0 (pa_cons (pv 0) (pa_cons pe_int pa_nil))) pa_nil)) (pg_name (i := 4) sc_law_swaps.nd rfl (Or.inl rfl)) (pss_one (ps_asg (pe_cal C_law_form (hr.mono (by omega)) (by rfl) pass0 (pa_cons (pv 0) (pa_cons (pe_cal C_law_draw (hr.mono (by omega)) (by rfl) pass0 (pa_cons (pv 0) (pa_cons pe_int pa_nil))) pa_nil))) (pg_sub (pv 1) (pe_cal C_law_word (hr.mono (by omega)) (by rfl) pass0 (pa_cons (pv 0) pa_nil)) (set_G hu))))) (pss_one (ps_ret (pv 1)))))), ?_⟩
  kpt_turns
  regloopunroll_open
  rename_i H1 fa fr1 nfa efa H2 k2 fr2 hd2 hk2
  have hne : fa ≠ a := hd.neL nfa
  have hnc : fa ≠ c := hd.neC nfa
  have g0 : SwG K H2 fa [] (fun _ => none) := SwG.new (fr2.at1 efa hne)
  have rest : ∀ (H3 : Hp) (kvs : List (Key × V)) (m : Str → Option Ex) (y2 y3 : Option V), Fr [a] H H3 → DrawOk H3 a c → SwG K H3 fa kvs m →
    tSeq (tFor (iRng1 (tCons (tCall spDraw [] E0 (tCons (tVar 0) (tCons (tC (V.int 4)) tNil))) tNil)) (gName 4)
      (tAsg (tCall (spForm K 3) [] E0 (tCons (tVar 0) (tCons (tCall spDraw [] E0 (tCons (tVar 0) (tCons (tC (V.int 3)) tNil))) tNil))) (gSub (tVar 1) (tCall (spLWord K) [] E0 (tCons (tVar 0) tNil)) fun o i v H Q => rSetL o i v H Q ∨ rSetD o i v H Q)))
      (tRet (tVar 1)) ⟨fun _ H' => Q .non H', Q, fun _ _ => False, fun _ _ => False⟩ [some (.ref a), some (.ref fa), y2, y3, none] H3 := by
    intro H3 kvs m y2 y3 fr3 hd3 hg
    regloopunroll_open
    rename_i H4 k4 fr4 hd4 hk4
    refine forR1_q (k := k4) rfl (by omega) (fun i σ H' => ∃ y kvs m, σ = [some (.ref a), some (.ref fa), y2, y3, y] ∧ Fr [a] H H' ∧ DrawOk H' a c ∧ SwG K H' fa kvs m) ⟨_, kvs, m, rfl, by lcg_off, hd4, hg.fr1 fr4 hne⟩ (fun i σ H' hi p => ?_) (fun σ H' p => ?_)
    · obtain ⟨y, kvs, m, rfl, fr5, hd5, hg5⟩ := p
      regloopunroll_open
      rename_i H6 k6 fr6 hd6 hk6
      refine ⟨a, c, k6, 3, rfl, hd6, by decide, by omega, by decide, fun H7 e v fr7 hd7 ho7 rv => ?_⟩
      regloopunroll_open
      refine ⟨a, c, rfl, hd7, fun H8 s fr8 hd8 hs => ?_⟩
      have hg8 := ((hg5.fr1 fr6 hne).fr1 fr7 hne).fr1 fr8 hne
      have hl8 := hg8.len
      have had := hg8.sw.ad
      regloopunroll_open
      rename_i H9 fr9 e9
      refine ⟨_, _, _, rfl, ?_, hd8.fr1 fr9 hne hnc, hg8.put fr9 e9 hs (rv.up fr8) ho7⟩
      exact (((fr5.step fr6).step fr7).step fr8).trans fr9 fun b m => .inr (by rw [List.mem_singleton.mp m]; exact nfa)
    · obtain ⟨y, kvs, m, rfl, fr5, hd5, hg5⟩ := p
      regloopunroll_open
      exact q H' fa kvs m fr5 hd5 nfa hne hnc hg5
  refine ifD (fun h1 => ?_) (fun h1 => ?_)
  · regloopunroll_open
    refine ⟨a, c, rfl, hd2, fun H3 s3 fr3 hd3 hs3 => ?_⟩
    regloopunroll_open
    refine ⟨a, c, rfl, hd3, fun H4 s4 fr4 hd4 hs4 => ?_⟩
    have hg4 := (g0.fr1 fr3 hne).fr1 fr4 hne
    have had := hg4.sw.ad
    have hl0 : ([] : List (Key × V)).length < 1000 := by decide
    regloopunroll_open
    rename_i H5 v5 fr5 r5 H6 fr6 e6 H7 v7 fr7 r7
    have g6 := hg4.fr0 fr5 |>.put (e := .var s4) fr6 e6 hs3 r5 (show (Ex.var s4).ok 3 from ok_var hs4 2)
    have hd6 := (hd4.fr0 fr5).fr1 fr6 hne hnc
    have g7 := g6.fr0 fr7
    refine setD_q (k := Sum.inr s4) g7.sw.ad rfl g7.len (fun H8 fr8 e8 => ?_)
    have g8 := g7.put (e := .var s3) fr8 e8 hs4 r7 (show (Ex.var s3).ok 3 from ok_var hs3 2)
    have f8 : Fr [a] H H8 := ((((by lcg_off : Fr [a] H H4).step0 fr5).trans fr6 fun b m => .inr (by rw [List.mem_singleton.mp m]; exact nfa)).step0 fr7).trans fr8 fun b m => .inr (by rw [List.mem_singleton.mp m]; exact nfa)
    exact rest H8 _ _ (some (.str s3)) (some (.str s4)) f8 ((hd6.fr0 fr7).fr1 fr8 hne hnc) g8
  · exact rest _ _ _ none none (by lcg_off) hd2 g0

theorem dp_strs {H : Hp} {l : Addr} {ks : List Str} (h : H l = some (.lst (ks.map V.str))) : Dp K H (.ref l) (.list (ks.map .str)) := .lst (.of h) (Reps.dp _ _ (reps_strs ks))
theorem shaped_strs {ks : List Str} (h : ∀ k ∈ ks, k ∈ LN) : SeqAt.shaped (.list (ks.map PyData.str)) = true ∧ SeqAt.shaped (.tuple (ks.map PyData.str)) = true := by
  have a1 : PyData.canLayAll0 (ks.map .str) = true := canAll_mem fun d hd => by
    obtain ⟨b, hb, rfl⟩ := List.mem_map.mp hd
    exact lit_ok b (strOkL b (lnlo (h b hb)))
  have b1 : PyData.depthAll (ks.map .str) ≤ 0 := depthAll_le fun d hd => by
    obtain ⟨b, hb, rfl⟩ := List.mem_map.mp hd
    simp [PyData.depth]
  unfold SeqAt.shaped
  constructor <;> (rw [Bool.and_eq_true]; exact ⟨by simp only [PyData.canLay0, a1], decide_eq_true (by simp only [PyData.depth]; omega)⟩)
def spIsRight (K : PySem.W.Frag) : Sp := fun vs H Q _ => ∃ x a e kvs m, vs = [x, .ref a] ∧ Rep K H (Ex.toD e) x ∧ e.ok 7 ∧ SwG K H a kvs m ∧ ∀ H', Fr [] H H' → Q (.bl true) H'
theorem ok_law_is_right (T : Top K mg) : Cal P w K mg base CX0 50 "_law_is_right" ["expr", "swaps"] (spIsRight K) := by
  refine T.d_law_is_right.cal sc_law_is_right [none, none, none] rfl (fun vs H Q E h => ?_) (fun f cdv A outer s H vs Q E hk hr h => ?_)
  · obtain ⟨x, a, e, kvs, m, rfl, _⟩ := h; rfl
  obtain ⟨x, a, e, kvs, m, rfl, hx, ho, hg, q⟩ := h
  have hu := hu_of hr
  have C_law_swapped := ok_law_swapped (P := P) (w := w) (base := base) T 7
  have C_swap_names := ok_swap_names (P := P) (w := w) (base := base) T 7
  have C_names_in := ok_names_in (P := P) (w := w) (base := base) T
  have C_law_met := ok_law_met (P := P) (w := w) (base := base) T 9
  have C_law_ascending := ok_law_ascending (P := P) (w := w) (base := base) T
  refine ⟨_, (pss_cons (ps_set (i := 2) sc_law_is_right.nd rfl (Or.inl rfl) (pe_callTy call_dictG (by rfl) T.m_dict (by decide +kernel) (pa_cons (pv 1) pa_nil))) (pss_cons (ps_set (i := 3) sc_law_is_right.nd rfl (Or.inl rfl) (pe_cal C_law_swapped (hr.mono (by omega)) (by rfl) pass0 (pa_cons (pv 0) (pa_cons (pv 2) pa_nil)))) (pss_cons (ps_set (i := 4) sc_law_is_right.nd rfl (Or.inl rfl) (pe_cal C_swap_names (hr.mono (by omega)) (by rfl) pass0 (pa_cons (pv 0) (pa_cons (pv 1) pa_nil)))) (pss_cons (ps_if (PW.pt (pw_or (pt_cmpR (op_neGK (K := K) rfl hr.units) (pv 4) (pv 3) (nomark _)) (pw_or (pt_cmpR (op_neGK (K := K) rfl hr.units) (pv 1) (pv 2) (nomark _)) (pw_or1 (pt_cmpR (op_neGK (K := K) rfl hr.units) (pe_callTy (call_listGK (K := K) rfl rfl) (by rfl) T.m_list (by decide +kernel) (pa_cons (pv 1) pa_nil)) (pe_callTy (call_listGK (K := K) rfl rfl) (by rfl) T.m_list (by decide +kernel) (pa_cons (pv 2) pa_nil)) (nomark _)))))) (pss_one (ps_ret pe_bl)) pss_nil) (pss_one (ps_ret (pe_cmpR (op_eqGK (K := K) rfl hr.units) (pe_cal C_names_in (hr.mono (by omega)) (by rfl) pass0 (pa_cons (pv 4) pa_nil)) (pe_cal C_law_ascending (hr.mono (by omega)) (by rfl) pass0 (pa_cons (pe_cal C_law_met (hr.mono (by omega)) (by rfl) pass0 (pa_cons (pv 3) (pa_cons pe_dnewK pa_nil))) pa_nil)) (nomark _)))))))), ?_⟩
  kpt_turns
  regloopunroll_open
  have had := hg.sw.ad
  refine dictOf_q had (fun H1 p1 fr1 np1 ep1 => ?_)
  have g1 := hg.fr0 fr1
  have s1 : SwOk K H1 p1 kvs m := ⟨ep1, g1.sw.val⟩
  regloopunroll_open
  refine ⟨x, p1, e, kvs, m, rfl, by lcg_src, ho, s1, fun H2 r2 fr2 rr2 => ?_⟩
  regloopunroll_open
  refine ⟨x, a, e, kvs, m, rfl, by lcg_src, ho, (g1.fr0 fr2).sw, fun H3 r3 fr3 rr3 => ?_⟩
  have hos : (e.swap m).ok 9 := ho.swap (k := 2) hg.okm
  have hsh := hos.shaped (by decide)
  regloopunroll_open
  refine neG_same rr3 (rr2.up fr3) hsh ?_
  regloopunroll_open
  refine neSame_q (a := a) (e := p1) (kvs := kvs) (((g1.fr0 fr2).fr0 fr3).sw.ad) ((fr3.at (fr2.at ep1))) hg.same ?_
  regloopunroll_open
  refine listD_q (kvs := kvs) (((g1.fr0 fr2).fr0 fr3).sw.ad) (fun H4 l4 fr4 nl4 el4 => ?_)
  regloopunroll_open
  refine listD_q (kvs := kvs) (fr4.at (fr3.at (fr2.at ep1))) (fun H5 l5 fr5 nl5 el5 => ?_)
  obtain ⟨ks, e1, nd, sub⟩ := hg.ks
  have ek : (kvs.map fun kv => kV kv.1) = ks.map V.str := by
    rw [show (kvs.map fun kv => kV kv.1) = (kvs.map (·.1)).map kV by rw [List.map_map]; rfl, e1, List.map_map]
    rfl
  rw [ek] at el4 el5
  have hsl := (shaped_strs sub).1
  refine neG_dp (dp_strs (fr5.at el4)) (dp_strs el5) hsl ?_
  regloopunroll_open
  have hc := hos.count_le
  have ho40 := hos.le (show 9 ≤ 40 by decide)
  have hcc : (e.swap m).count ≤ 1000000 := by have : 3 ^ (9 + 1) = 59049 := by decide
                                              omega
  refine ⟨r3, e.swap m, rfl, by lcg_src, ho40, hcc, fun H6 r6 ys fr6 hp6 hs6 rr6 => ?_⟩
  regloopunroll_open
  rename_i H7 f7 fr7 nf7 ef7
  refine ⟨r2, f7, e.swap m, [], rfl, by lcg_src, hos, ef7, by simp, by simp, fun H8 fr8 e8 => ?_⟩
  regloopunroll_open
  refine ⟨f7, _, rfl, e8, fun H9 r9 zs fr9 hp9 hs9 rr9 => ?_⟩
  have hh := addAll_ok (l := (e.swap m).names) (ns := []) (by simp) (by simp) hos.namesLN
  have hasc := ascend hh.1 hh.2 hp6 hs6 hp9 hs9
  rw [← hasc] at rr9
  have hsy : ∀ k ∈ ys, k ∈ LN := fun k hk => hh.2 k (hp6.mem_iff.mp hk)
  refine eqG_same ((((rr6.up fr7).up fr8).up fr9)) rr9 (shaped_strs hsy).2 ?_
  refine q H9 ?_
  exact ((((((((fr1.step fr2).step fr3).step fr4).step fr5).step fr6).step fr7).trans fr8 fun b m => .inr (by rw [List.mem_singleton.mp m]; exact (by lcg_off : Fr [] H H6).free nf7 (by simp))).step fr9)

def spLaw (K : PySem.W.Frag) : Sp := fun vs H Q _ => ∃ (s : Addr) (ns : List Int), vs = [.ref s] ∧ SqL K H s (ns.map V.int) ∧ ns.length ≤ 63 ∧ ∀ H', Q (.bl true) H'
theorem ok_law (T : Top K mg) {fl : Addr} {fdl : FuncData} (F : Fun K "law" "law" s_law fl fdl) : FnOk P w K mg base CX0 61 fl fdl ["script"] (spLaw K) := by
  refine fun_ok F sc_law [none, none, none, none] rfl (fun vs H Q E h => ?_) (fun f cdv A outer s H vs Q E hk hr h => ?_)
  · obtain ⟨s, ns, rfl, _⟩ := h; rfl
  obtain ⟨sa, ns, rfl, hsq, hlen, q⟩ := h
  have hu := hu_of hr
  have C_law_begin := ok_law_begin (P := P) (w := w) (base := base) T
  have C_law_drawn := ok_law_drawn (P := P) (w := w) (base := base) T
  have C_names_in := ok_names_in (P := P) (w := w) (base := base) T
  have C_law_met := ok_law_met (P := P) (w := w) (base := base) T 7
  have C_law_ascending := ok_law_ascending (P := P) (w := w) (base := base) T
  have C_swap_names := ok_swap_names (P := P) (w := w) (base := base) T 7
  have C_law_swaps := ok_law_swaps (P := P) (w := w) (base := base) T
  have C_law_is_right := ok_law_is_right (P := P) (w := w) (base := base) T
  have C_law_form := ok_law_form (P := P) (w := w) (base := base) T 2
  have C_law_word := ok_law_word (P := P) (w := w) (base := base) T
  refine ⟨_, (pss_cons (ps_set (i := 1) sc_law.nd rfl (Or.inl rfl) (pe_cal C_law_begin (hr.mono (by omega)) (by rfl) pass0 (pa_cons (pv 0) pa_nil))) (pss_cons (ps_set (i := 2) sc_law.nd rfl (Or.inl rfl) (pe_cal C_law_drawn (hr.mono (by omega)) (by rfl) pass0 (pa_cons (pv 1) pa_nil))) (pss_cons (ps_if (PW.pt (pw_or (pt_cmpR (op_neGK (K := K) rfl hr.units) (pe_cal C_names_in (hr.mono (by omega)) (by rfl) pass0 (pa_cons (pv 2) pa_nil)) (pe_cal C_law_ascending (hr.mono (by omega)) (by rfl) pass0 (pa_cons (pe_cal C_law_met (hr.mono (by omega)) (by rfl) pass0 (pa_cons (pv 2) (pa_cons pe_dnewK pa_nil))) pa_nil)) (nomark _)) (pw_or1 (pt_cmpR (op_neGK (K := K) rfl hr.units) (pe_cal C_swap_names (hr.mono (by omega)) (by rfl) pass0 (pa_cons (pv 2) (pa_cons pe_dnewK pa_nil))) (pv 2) (nomark _))))) (pss_one (ps_ret pe_bl)) pss_nil) (pss_cons (ps_set (i := 3) sc_law.nd rfl (Or.inl rfl) (pe_cal C_law_swaps (hr.mono (by omega)) (by rfl) pass0 (pa_cons (pv 1) pa_nil))) (pss_cons (ps_if (pt_not (pt_val (pe_cal C_law_is_right (hr.mono (by omega)) (by rfl) pass0 (pa_cons (pv 2) (pa_cons (pv 3) pa_nil))))) (pss_one (ps_ret pe_bl)) pss_nil) (pss_cons (ps_asg (pe_cal C_law_form (hr.mono (by omega)) (by rfl) pass0 (pa_cons (pv 1) (pa_cons pe_int pa_nil))) (pg_sub (pv 3) (pe_cal C_law_word (hr.mono (by omega)) (by rfl) pass0 (pa_cons (pv 1) pa_nil)) (set_G hu))) (pss_cons (ps_if (pt_not (pt_val (pe_cal C_law_is_right (hr.mono (by omega)) (by rfl) pass0 (pa_cons (pv 2) (pa_cons (pv 3) pa_nil))))) (pss_one (ps_ret pe_bl)) pss_nil) (pss_cons (ps_expr (pe_bm0 PySem.F.plainAttrs_dict PySem.F.slot_dict_clear PySem.F.type_dict_clear mtd_clear (pv 3))) (pss_cons (ps_set (i := 4) sc_law.nd rfl (Or.inl rfl) (pe_cal C_law_word (hr.mono (by omega)) (by rfl) pass0 (pa_cons (pv 1) pa_nil))) (pss_cons (ps_asg (pe_tup (pa_cons pe_str (pa_cons (pv 4) (pa_cons (pe_tup (pa_cons pe_str (pa_cons (pv 4) pa_nil))) (pa_cons (pe_tup (pa_cons pe_str (pa_cons pe_str (pa_cons (pe_tup (pa_cons pe_str (pa_cons (pv 4) pa_nil))) (pa_cons (pe_tup (pa_cons pe_str (pa_cons (pe_cal C_law_word (hr.mono (by omega)) (by rfl) pass0 (pa_cons (pv 1) pa_nil)) pa_nil))) pa_nil))))) pa_nil))))) (pg_sub (pv 3) (pv 4) (set_G hu))) (pss_one (ps_ret (pe_and (pe_cal C_law_is_right (hr.mono (by omega)) (by rfl) pass0 (pa_cons (pv 2) (pa_cons (pv 3) pa_nil))) (pe_and (pe_cal C_law_is_right (hr.mono (by omega)) (by rfl) pass0 (pa_cons (pe_tup (pa_cons pe_str (pa_cons (pv 4) pa_nil))) (pa_cons (pv 3) pa_nil))) (pe_one (pe_cmpR (op_eqGK (K := K) rfl hr.units) (pe_cal C_names_in (hr.mono (by omega)) (by rfl) pass0 (pa_cons (pe_tup (pa_cons pe_str (pa_cons pe_int pa_nil))) pa_nil)) (pe_tup pa_nil) (nomark _))))))))))))))))), ?_⟩
  kpt_turns
  regloopunroll_open
  refine ⟨sa, ns, rfl, hsq, hlen, fun H1 a c fr1 _ _ hd1 => ?_⟩
  regloopunroll_open
  refine ⟨a, c, rfl, hd1, fun H2 e x fr2 hd2 ho rx => ?_⟩
  have hc := ho.count_le
  have ho40 := ho.le (show 7 ≤ 40 by decide)
  have hcc : e.count ≤ 1000000 := by have : 3 ^ (7 + 1) = 6561 := by decide
                                     omega
  regloopunroll_open
  refine ⟨x, e, rfl, by lcg_src, ho40, hcc, fun H3 r3 ys fr3 hp3 hs3 rr3 => ?_⟩
  regloopunroll_open
  rename_i H4 f4 fr4 nf4 ef4
  refine ⟨x, f4, e, [], rfl, by lcg_src, ho, ef4, by simp, by simp, fun H5 fr5 e5 => ?_⟩
  regloopunroll_open
  refine ⟨f4, _, rfl, e5, fun H6 r6 zs fr6 hp6 hs6 rr6 => ?_⟩
  have hh := addAll_ok (l := e.names) (ns := []) (by simp) (by simp) ho.namesLN
  have hasc := ascend hh.1 hh.2 hp3 hs3 hp6 hs6
  rw [← hasc] at rr6
  have hsy : ∀ k ∈ ys, k ∈ LN := fun k hk => hh.2 k (hp3.mem_iff.mp hk)
  refine neG_same (((rr3.up fr4).up fr5).up fr6) rr6 (shaped_strs hsy).2 ?_
  have fr26 : Fr [] H2 H6 := ((((Fr.refl [] H2).step fr3).step fr4).trans fr5 fun b m => .inr (by rw [List.mem_singleton.mp m]; exact fr3.free nf4 (by simp))).step fr6
  have hd6 := hd2.fr0 fr26
  have rx6 := rx.up fr26
  clear rx
  regloopunroll_open
  rename_i H7 f7 fr7 nf7 ef7
  refine ⟨x, f7, e, [], fun _ => none, rfl, by lcg_src, ho, (SwG.new ef7).sw, fun H8 r8 fr8 rr8 => ?_⟩
  rw [swap_none e _ (Nat.le_refl _)] at rr8
  regloopunroll_open
  refine neG_same rr8 (((rx6.up fr7).up fr8)) (ho.shaped (by decide)) ?_
  regloopunroll_open
  refine ⟨a, c, rfl, (hd6.fr0 fr7).fr0 fr8, fun H9 p kvs m fr9 hd9 np9 hne hpc hg9 => ?_⟩
  have rx9 := (((rx6.up fr7).up fr8)).up fr9
  regloopunroll_open
  refine ⟨x, p, e, kvs, m, rfl, rx9, ho, hg9, fun H10 fr10 => ?_⟩
  regloopunroll_open
  refine ⟨a, c, 1, 2, rfl, hd9.fr0 fr10, by decide, by decide, by decide, fun H11 e11 v11 fr11 hd11 ho11 rv11 => ?_⟩
  regloopunroll_open
  refine ⟨a, c, rfl, hd11, fun H12 s12 fr12 hd12 hs12 => ?_⟩
  have hg12 := ((hg9.fr0 fr10).fr1 fr11 hne).fr1 fr12 hne
  regloopunroll_open
  refine setD_q (k := Sum.inr s12) hg12.sw.ad rfl hg12.len (fun H13 fr13 e13 => ?_)
  have hg13 := hg12.put fr13 e13 hs12 (rv11.up fr12) (ho11.le (by decide))
  have rx13 := (((rx9.up fr10).up fr11).up fr12).up fr13
  have hd13 := hd12.fr1 fr13 hne hpc
  regloopunroll_open
  refine ⟨x, p, e, _, _, rfl, rx13, ho, hg13, fun H14 fr14 => ?_⟩
  regloopunroll_open
  have hg14 := hg13.fr0 fr14
  refine ⟨.inr (.inr (.inl ⟨rfl, .inl ⟨_, hg14.sw.ad⟩⟩)), clear_q hg14.sw.ad (fun H15 fr15 e15 => ?_)⟩
  have hg15 : SwG K H15 p [] (fun _ => none) := SwG.new e15
  have hd15 := (hd13.fr0 fr14).fr1 fr15 hne hpc
  have rx15 := (rx13.up fr14).up fr15
  regloopunroll_open
  refine ⟨a, c, rfl, hd15, fun H16 nm fr16 hd16 hnm => ?_⟩
  regloopunroll_open
  rename_i H17 v17 fr17 r17 H18 v18 fr18 r18
  refine ⟨a, c, rfl, (hd16.fr0 fr17).fr0 fr18, fun H19 o fr19 hd19 ho19 => ?_⟩
  regloopunroll_open
  rename_i H20 v20 fr20 r20 H21 v21 fr21 r21 H22 v22 fr22 r22
  have hg22 := ((((((hg15.fr1 fr16 hne).fr0 fr17).fr0 fr18).fr1 fr19 hne).fr0 fr20).fr0 fr21).fr0 fr22
  have rx22 := ((((((rx15.up fr16).up fr17).up fr18).up fr19).up fr20).up fr21).up fr22
  have oe : (Ex.lett nm (.var nm) (.sum "+" (.var nm) (.var o))).ok 3 := ok_lett hnm (ok_var hnm 1) (ok_sum (by decide +kernel) (ok_var hnm 0) (ok_var ho19 0))
  refine setD_q (k := Sum.inr nm) hg22.sw.ad rfl hg22.len (fun H23 fr23 e23 => ?_)
  have hg23 := hg22.put (e := .lett nm (.var nm) (.sum "+" (.var nm) (.var o))) fr23 e23 hnm r22 oe
  have rx23 := rx22.up fr23
  regloopunroll_open
  refine ⟨x, p, e, _, _, rfl, rx23, ho, hg23, fun H24 fr24 => ?_⟩
  regloopunroll_open
  rename_i H25 v25 fr25 r25
  refine ⟨v25, p, .var nm, _, _, rfl, by lcg_src, ok_var hnm 6, (hg23.fr0 fr24).fr0 fr25, fun H26 fr26' => ?_⟩
  regloopunroll_open
  rename_i H27 v27 fr27 r27
  refine ⟨v27, .num 3, rfl, by lcg_src, ok_num 3 39, by decide, fun H28 r28 ys28 fr28 hp28 hs28 rr28 => ?_⟩
  have ey : ys28 = [] := by
    have : addAll [] (Ex.num 3).names = [] := rfl
    rw [this] at hp28
    exact hp28.eq_nil
  subst ey
  regloopunroll_open
  refine eqG_same (d := .tuple []) (by lcg_src) (by lcg_src) (by decide +kernel) ?_
  exact q _

end
theorem top_mk {K : PySem.W.Frag} {h : Heap} {mg : Str → Option Value} (X : K.In h) (G : h.Ns mainGlobals mg)
    {f0 : Addr} {od0 an0 : Option Addr} {sl0 : Array (Option Value)} {oc0 kV0 dc0 pm0 cd0 ct0 : Value}
    {f1 : Addr} {od1 an1 : Option Addr} {sl1 : Array (Option Value)} {oc1 kV1 dc1 pm1 cd1 ct1 : Value}
    {f2 : Addr} {od2 an2 : Option Addr} {sl2 : Array (Option Value)} {oc2 kV2 dc2 pm2 cd2 ct2 : Value}
    {f3 : Addr} {od3 an3 : Option Addr} {sl3 : Array (Option Value)} {oc3 kV3 dc3 pm3 cd3 ct3 : Value}
    {f4 : Addr} {od4 an4 : Option Addr} {sl4 : Array (Option Value)} {oc4 kV4 dc4 pm4 cd4 ct4 : Value}
    {f5 : Addr} {od5 an5 : Option Addr} {sl5 : Array (Option Value)} {oc5 kV5 dc5 pm5 cd5 ct5 : Value}
    {f6 : Addr} {od6 an6 : Option Addr} {sl6 : Array (Option Value)} {oc6 kV6 dc6 pm6 cd6 ct6 : Value}
    {f7 : Addr} {od7 an7 : Option Addr} {sl7 : Array (Option Value)} {oc7 kV7 dc7 pm7 cd7 ct7 : Value}
    {f8 : Addr} {od8 an8 : Option Addr} {sl8 : Array (Option Value)} {oc8 kV8 dc8 pm8 cd8 ct8 : Value}
    {f9 : Addr} {od9 an9 : Option Addr} {sl9 : Array (Option Value)} {oc9 kV9 dc9 pm9 cd9 ct9 : Value}
    {f10 : Addr} {od10 an10 : Option Addr} {sl10 : Array (Option Value)} {oc10 kV10 dc10 pm10 cd10 ct10 : Value}
    {f11 : Addr} {od11 an11 : Option Addr} {sl11 : Array (Option Value)} {oc11 kV11 dc11 pm11 cd11 ct11 : Value}
    {f12 : Addr} {od12 an12 : Option Addr} {sl12 : Array (Option Value)} {oc12 kV12 dc12 pm12 cd12 ct12 : Value}
    {f13 : Addr} {od13 an13 : Option Addr} {sl13 : Array (Option Value)} {oc13 kV13 dc13 pm13 cd13 ct13 : Value}
    {f14 : Addr} {od14 an14 : Option Addr} {sl14 : Array (Option Value)} {oc14 kV14 dc14 pm14 cd14 ct14 : Value}
    {f15 : Addr} {od15 an15 : Option Addr} {sl15 : Array (Option Value)} {oc15 kV15 dc15 pm15 cd15 ct15 : Value}
    {f16 : Addr} {od16 an16 : Option Addr} {sl16 : Array (Option Value)} {oc16 kV16 dc16 pm16 cd16 ct16 : Value}
    {f17 : Addr} {od17 an17 : Option Addr} {sl17 : Array (Option Value)} {oc17 kV17 dc17 pm17 cd17 ct17 : Value}
    {f18 : Addr} {od18 an18 : Option Addr} {sl18 : Array (Option Value)} {oc18 kV18 dc18 pm18 cd18 ct18 : Value}
    (a0 : PySem.W.nsIn K mainGlobals "parts_of" = some (some (.ref f0))) (l0 : K.lookup f0 = some ⟨oc0, od0, .func (PySem.W.fnOf "parts_of" "parts_of" (defArgs s_parts_of) (defBody s_parts_of) (defScope s_parts_of) .none kV0 dc0 pm0 an0 cd0 ct0), sl0⟩) (c0 : PySem.W.codeIn K cd0 "parts_of" = true) (k0 : PySem.W.keepIn K (.ref f0) = true)
    (a1 : PySem.W.nsIn K mainGlobals "with_parts" = some (some (.ref f1))) (l1 : K.lookup f1 = some ⟨oc1, od1, .func (PySem.W.fnOf "with_parts" "with_parts" (defArgs s_with_parts) (defBody s_with_parts) (defScope s_with_parts) .none kV1 dc1 pm1 an1 cd1 ct1), sl1⟩) (c1 : PySem.W.codeIn K cd1 "with_parts" = true) (k1 : PySem.W.keepIn K (.ref f1) = true)
    (a2 : PySem.W.nsIn K mainGlobals "preorder" = some (some (.ref f2))) (l2 : K.lookup f2 = some ⟨oc2, od2, .func (PySem.W.fnOf "preorder" "preorder" (defArgs s_preorder) (defBody s_preorder) (defScope s_preorder) .none kV2 dc2 pm2 an2 cd2 ct2), sl2⟩) (c2 : PySem.W.codeIn K cd2 "preorder" = true) (k2 : PySem.W.keepIn K (.ref f2) = true)
    (a3 : PySem.W.nsIn K mainGlobals "names_in" = some (some (.ref f3))) (l3 : K.lookup f3 = some ⟨oc3, od3, .func (PySem.W.fnOf "names_in" "names_in" (defArgs s_names_in) (defBody s_names_in) (defScope s_names_in) .none kV3 dc3 pm3 an3 cd3 ct3), sl3⟩) (c3 : PySem.W.codeIn K cd3 "names_in" = true) (k3 : PySem.W.keepIn K (.ref f3) = true)
    (a4 : PySem.W.nsIn K mainGlobals "swap_names" = some (some (.ref f4))) (l4 : K.lookup f4 = some ⟨oc4, od4, .func (PySem.W.fnOf "swap_names" "swap_names" (defArgs s_swap_names) (defBody s_swap_names) (defScope s_swap_names) .none kV4 dc4 pm4 an4 cd4 ct4), sl4⟩) (c4 : PySem.W.codeIn K cd4 "swap_names" = true) (k4 : PySem.W.keepIn K (.ref f4) = true)
    (a5 : PySem.W.nsIn K mainGlobals "_law_begin" = some (some (.ref f5))) (l5 : K.lookup f5 = some ⟨oc5, od5, .func (PySem.W.fnOf "_law_begin" "_law_begin" (defArgs s_law_begin) (defBody s_law_begin) (defScope s_law_begin) .none kV5 dc5 pm5 an5 cd5 ct5), sl5⟩) (c5 : PySem.W.codeIn K cd5 "_law_begin" = true) (k5 : PySem.W.keepIn K (.ref f5) = true)
    (a6 : PySem.W.nsIn K mainGlobals "_law_draw" = some (some (.ref f6))) (l6 : K.lookup f6 = some ⟨oc6, od6, .func (PySem.W.fnOf "_law_draw" "_law_draw" (defArgs s_law_draw) (defBody s_law_draw) (defScope s_law_draw) .none kV6 dc6 pm6 an6 cd6 ct6), sl6⟩) (c6 : PySem.W.codeIn K cd6 "_law_draw" = true) (k6 : PySem.W.keepIn K (.ref f6) = true)
    (a7 : PySem.W.nsIn K mainGlobals "_law_pick" = some (some (.ref f7))) (l7 : K.lookup f7 = some ⟨oc7, od7, .func (PySem.W.fnOf "_law_pick" "_law_pick" (defArgs s_law_pick) (defBody s_law_pick) (defScope s_law_pick) .none kV7 dc7 pm7 an7 cd7 ct7), sl7⟩) (c7 : PySem.W.codeIn K cd7 "_law_pick" = true) (k7 : PySem.W.keepIn K (.ref f7) = true)
    (a8 : PySem.W.nsIn K mainGlobals "_law_parts" = some (some (.ref f8))) (l8 : K.lookup f8 = some ⟨oc8, od8, .func (PySem.W.fnOf "_law_parts" "_law_parts" (defArgs s_law_parts) (defBody s_law_parts) (defScope s_law_parts) .none kV8 dc8 pm8 an8 cd8 ct8), sl8⟩) (c8 : PySem.W.codeIn K cd8 "_law_parts" = true) (k8 : PySem.W.keepIn K (.ref f8) = true)
    (a9 : PySem.W.nsIn K mainGlobals "_law_list" = some (some (.ref f9))) (l9 : K.lookup f9 = some ⟨oc9, od9, .func (PySem.W.fnOf "_law_list" "_law_list" (defArgs s_law_list) (defBody s_law_list) (defScope s_law_list) .none kV9 dc9 pm9 an9 cd9 ct9), sl9⟩) (c9 : PySem.W.codeIn K cd9 "_law_list" = true) (k9 : PySem.W.keepIn K (.ref f9) = true)
    (a10 : PySem.W.nsIn K mainGlobals "_law_word" = some (some (.ref f10))) (l10 : K.lookup f10 = some ⟨oc10, od10, .func (PySem.W.fnOf "_law_word" "_law_word" (defArgs s_law_word) (defBody s_law_word) (defScope s_law_word) .none kV10 dc10 pm10 an10 cd10 ct10), sl10⟩) (c10 : PySem.W.codeIn K cd10 "_law_word" = true) (k10 : PySem.W.keepIn K (.ref f10) = true)
    (a11 : PySem.W.nsIn K mainGlobals "_law_form" = some (some (.ref f11))) (l11 : K.lookup f11 = some ⟨oc11, od11, .func (PySem.W.fnOf "_law_form" "_law_form" (defArgs s_law_form) (defBody s_law_form) (defScope s_law_form) .none kV11 dc11 pm11 an11 cd11 ct11), sl11⟩) (c11 : PySem.W.codeIn K cd11 "_law_form" = true) (k11 : PySem.W.keepIn K (.ref f11) = true)
    (a12 : PySem.W.nsIn K mainGlobals "_law_drawn" = some (some (.ref f12))) (l12 : K.lookup f12 = some ⟨oc12, od12, .func (PySem.W.fnOf "_law_drawn" "_law_drawn" (defArgs s_law_drawn) (defBody s_law_drawn) (defScope s_law_drawn) .none kV12 dc12 pm12 an12 cd12 ct12), sl12⟩) (c12 : PySem.W.codeIn K cd12 "_law_drawn" = true) (k12 : PySem.W.keepIn K (.ref f12) = true)
    (a13 : PySem.W.nsIn K mainGlobals "_law_met" = some (some (.ref f13))) (l13 : K.lookup f13 = some ⟨oc13, od13, .func (PySem.W.fnOf "_law_met" "_law_met" (defArgs s_law_met) (defBody s_law_met) (defScope s_law_met) .none kV13 dc13 pm13 an13 cd13 ct13), sl13⟩) (c13 : PySem.W.codeIn K cd13 "_law_met" = true) (k13 : PySem.W.keepIn K (.ref f13) = true)
    (a14 : PySem.W.nsIn K mainGlobals "_law_ascending" = some (some (.ref f14))) (l14 : K.lookup f14 = some ⟨oc14, od14, .func (PySem.W.fnOf "_law_ascending" "_law_ascending" (defArgs s_law_ascending) (defBody s_law_ascending) (defScope s_law_ascending) .none kV14 dc14 pm14 an14 cd14 ct14), sl14⟩) (c14 : PySem.W.codeIn K cd14 "_law_ascending" = true) (k14 : PySem.W.keepIn K (.ref f14) = true)
    (a15 : PySem.W.nsIn K mainGlobals "_law_swapped" = some (some (.ref f15))) (l15 : K.lookup f15 = some ⟨oc15, od15, .func (PySem.W.fnOf "_law_swapped" "_law_swapped" (defArgs s_law_swapped) (defBody s_law_swapped) (defScope s_law_swapped) .none kV15 dc15 pm15 an15 cd15 ct15), sl15⟩) (c15 : PySem.W.codeIn K cd15 "_law_swapped" = true) (k15 : PySem.W.keepIn K (.ref f15) = true)
    (a16 : PySem.W.nsIn K mainGlobals "_law_swaps" = some (some (.ref f16))) (l16 : K.lookup f16 = some ⟨oc16, od16, .func (PySem.W.fnOf "_law_swaps" "_law_swaps" (defArgs s_law_swaps) (defBody s_law_swaps) (defScope s_law_swaps) .none kV16 dc16 pm16 an16 cd16 ct16), sl16⟩) (c16 : PySem.W.codeIn K cd16 "_law_swaps" = true) (k16 : PySem.W.keepIn K (.ref f16) = true)
    (a17 : PySem.W.nsIn K mainGlobals "_law_is_right" = some (some (.ref f17))) (l17 : K.lookup f17 = some ⟨oc17, od17, .func (PySem.W.fnOf "_law_is_right" "_law_is_right" (defArgs s_law_is_right) (defBody s_law_is_right) (defScope s_law_is_right) .none kV17 dc17 pm17 an17 cd17 ct17), sl17⟩) (c17 : PySem.W.codeIn K cd17 "_law_is_right" = true) (k17 : PySem.W.keepIn K (.ref f17) = true)
    (a18 : PySem.W.nsIn K mainGlobals "law" = some (some (.ref f18))) (l18 : K.lookup f18 = some ⟨oc18, od18, .func (PySem.W.fnOf "law" "law" (defArgs s_law) (defBody s_law) (defScope s_law) .none kV18 dc18 pm18 an18 cd18 ct18), sl18⟩) (c18 : PySem.W.codeIn K cd18 "law" = true) (k18 : PySem.W.keepIn K (.ref f18) = true)
    (z0 : PySem.W.nsIn K mainGlobals "abs" = some none)
    (z1 : PySem.W.nsIn K mainGlobals "dict" = some none)
    (z2 : PySem.W.nsIn K mainGlobals "int" = some none)
    (z3 : PySem.W.nsIn K mainGlobals "isinstance" = some none)
    (z4 : PySem.W.nsIn K mainGlobals "len" = some none)
    (z5 : PySem.W.nsIn K mainGlobals "list" = some none)
    (z6 : PySem.W.nsIn K mainGlobals "range" = some none)
    (z7 : PySem.W.nsIn K mainGlobals "sorted" = some none)
    (z8 : PySem.W.nsIn K mainGlobals "tuple" = some none)
    : Top K mg := {
    m_abs := PySem.W.mg_none_of X G z0
    m_dict := PySem.W.mg_none_of X G z1
    m_int := PySem.W.mg_none_of X G z2
    m_isinstance := PySem.W.mg_none_of X G z3
    m_len := PySem.W.mg_none_of X G z4
    m_list := PySem.W.mg_none_of X G z5
    m_range := PySem.W.mg_none_of X G z6
    m_sorted := PySem.W.mg_none_of X G z7
    m_tuple := PySem.W.mg_none_of X G z8
    d_parts_of := ⟨f0, _, fun_mk l0 c0 k0, PySem.W.mg_of X G a0, fun us hl => match us, hl with | [_], _ => rfl⟩
    d_with_parts := ⟨f1, _, fun_mk l1 c1 k1, PySem.W.mg_of X G a1, fun us hl => match us, hl with | [_, _], _ => rfl⟩
    d_preorder := ⟨f2, _, fun_mk l2 c2 k2, PySem.W.mg_of X G a2, fun us hl => match us, hl with | [_], _ => rfl⟩
    d_names_in := ⟨f3, _, fun_mk l3 c3 k3, PySem.W.mg_of X G a3, fun us hl => match us, hl with | [_], _ => rfl⟩
    d_swap_names := ⟨f4, _, fun_mk l4 c4 k4, PySem.W.mg_of X G a4, fun us hl => match us, hl with | [_, _], _ => rfl⟩
    d_law_begin := ⟨f5, _, fun_mk l5 c5 k5, PySem.W.mg_of X G a5, fun us hl => match us, hl with | [_], _ => rfl⟩
    d_law_draw := ⟨f6, _, fun_mk l6 c6 k6, PySem.W.mg_of X G a6, fun us hl => match us, hl with | [_, _], _ => rfl⟩
    d_law_pick := ⟨f7, _, fun_mk l7 c7 k7, PySem.W.mg_of X G a7, fun us hl => match us, hl with | [_, _], _ => rfl⟩
    d_law_parts := ⟨f8, _, fun_mk l8 c8 k8, PySem.W.mg_of X G a8, fun us hl => match us, hl with | [_], _ => rfl⟩
    d_law_list := ⟨f9, _, fun_mk l9 c9 k9, PySem.W.mg_of X G a9, fun us hl => match us, hl with | [], _ => rfl⟩
    d_law_word := ⟨f10, _, fun_mk l10 c10 k10, PySem.W.mg_of X G a10, fun us hl => match us, hl with | [_], _ => rfl⟩
    d_law_form := ⟨f11, _, fun_mk l11 c11 k11, PySem.W.mg_of X G a11, fun us hl => match us, hl with | [_, _], _ => rfl⟩
    d_law_drawn := ⟨f12, _, fun_mk l12 c12 k12, PySem.W.mg_of X G a12, fun us hl => match us, hl with | [_], _ => rfl⟩
    d_law_met := ⟨f13, _, fun_mk l13 c13 k13, PySem.W.mg_of X G a13, fun us hl => match us, hl with | [_, _], _ => rfl⟩
    d_law_ascending := ⟨f14, _, fun_mk l14 c14 k14, PySem.W.mg_of X G a14, fun us hl => match us, hl with | [_], _ => rfl⟩
    d_law_swapped := ⟨f15, _, fun_mk l15 c15 k15, PySem.W.mg_of X G a15, fun us hl => match us, hl with | [_, _], _ => rfl⟩
    d_law_swaps := ⟨f16, _, fun_mk l16 c16 k16, PySem.W.mg_of X G a16, fun us hl => match us, hl with | [_], _ => rfl⟩
    d_law_is_right := ⟨f17, _, fun_mk l17 c17 k17, PySem.W.mg_of X G a17, fun us hl => match us, hl with | [_, _], _ => rfl⟩
    d_law := ⟨f18, _, fun_mk l18 c18 k18, PySem.W.mg_of X G a18, fun us hl => match us, hl with | [_], _ => rfl⟩
  }
theorem law_fn {l : PySem.W.OpenLaw} {w : World} {K : PySem.W.Frag} {mg : Str → Option Value} {fa : Addr} (T : Top K mg) (hfa : mg "law" = some (.ref fa)) :
    ∃ fd : FuncData, (∀ (s : Shared) (v : Value), BindsTo s fd ⟨[v], []⟩ [("script", v)]) ∧ ∀ base : Heap, K.In base → base.Ns mainGlobals mg → FnOk l.prog w K mg base CX0 61 fa fd ["script"] (spLaw K) := by
  obtain ⟨f, fd, F, m, b⟩ := T.d_law
  have e := hfa.symm.trans m
  cases e
  exact ⟨fd, fun s v => .of_eq (b [v] rfl), fun base _ _ => ok_law T F⟩
end K08
open PySem PySem.W PyProof.Rows
set_option maxRecDepth 100000 in
set_option maxHeartbeats 0 in
theorem PySem.Challenge.cw_asknest_k08_names_swapped_holds : PySem.Challenge.rw_asknest_k08_names_swapped.Holds := by
  w_on; o_law; k_head; (case hw => w_witness2)
  k_fill
  refine L2.walk_of (l := PySem.Challenge.rw_asknest_k08_names_swapped) (n := 63) (k := 61) (x := "script") (CX := fun _ => L2.CX0) (sp := fun w => K08.spLaw _) rfl (by decide) rfl ⟨rfl, by decide, by decide⟩ (fun w h Y => PySem.W.kIn_of Y) ?F (fun _ _ a ns hl _ hS => ⟨a, ns, rfl, hS, hl, fun _ => rfl⟩) (fun _ _ _ _ _ h => h)
  case F =>
    intro w mg fa h KX G hmg
    refine' K08.law_fn (K08.top_mk KX G ?a0 ?l0 ?c0 ?k0 ?a1 ?l1 ?c1 ?k1 ?a2 ?l2 ?c2 ?k2 ?a3 ?l3 ?c3 ?k3 ?a4 ?l4 ?c4 ?k4 ?a5 ?l5 ?c5 ?k5 ?a6 ?l6 ?c6 ?k6 ?a7 ?l7 ?c7 ?k7 ?a8 ?l8 ?c8 ?k8 ?a9 ?l9 ?c9 ?k9 ?a10 ?l10 ?c10 ?k10 ?a11 ?l11 ?c11 ?k11 ?a12 ?l12 ?c12 ?k12 ?a13 ?l13 ?c13 ?k13 ?a14 ?l14 ?c14 ?k14 ?a15 ?l15 ?c15 ?k15 ?a16 ?l16 ?c16 ?k16 ?a17 ?l17 ?c17 ?k17 ?a18 ?l18 ?c18 ?k18 ?z0 ?z1 ?z2 ?z3 ?z4 ?z5 ?z6 ?z7 ?z8) hmg
    (case a0 => k_is)
    (case l0 => k_is)
    (case c0 => k_is)
    (case k0 => k_is)
    (case a1 => k_is)
    (case l1 => k_is)
    (case c1 => k_is)
    (case k1 => k_is)
    (case a2 => k_is)
    (case l2 => k_is)
    (case c2 => k_is)
    (case k2 => k_is)
    (case a3 => k_is)
    (case l3 => k_is)
    (case c3 => k_is)
    (case k3 => k_is)
    (case a4 => k_is)
    (case l4 => k_is)
    (case c4 => k_is)
    (case k4 => k_is)
    (case a5 => k_is)
    (case l5 => k_is)
    (case c5 => k_is)
    (case k5 => k_is)
    (case a6 => k_is)
    (case l6 => k_is)
    (case c6 => k_is)
    (case k6 => k_is)
    (case a7 => k_is)
    (case l7 => k_is)
    (case c7 => k_is)
    (case k7 => k_is)
    (case a8 => k_is)
    (case l8 => k_is)
    (case c8 => k_is)
    (case k8 => k_is)
    (case a9 => k_is)
    (case l9 => k_is)
    (case c9 => k_is)
    (case k9 => k_is)
    (case a10 => k_is)
    (case l10 => k_is)
    (case c10 => k_is)
    (case k10 => k_is)
    (case a11 => k_is)
    (case l11 => k_is)
    (case c11 => k_is)
    (case k11 => k_is)
    (case a12 => k_is)
    (case l12 => k_is)
    (case c12 => k_is)
    (case k12 => k_is)
    (case a13 => k_is)
    (case l13 => k_is)
    (case c13 => k_is)
    (case k13 => k_is)
    (case a14 => k_is)
    (case l14 => k_is)
    (case c14 => k_is)
    (case k14 => k_is)
    (case a15 => k_is)
    (case l15 => k_is)
    (case c15 => k_is)
    (case k15 => k_is)
    (case a16 => k_is)
    (case l16 => k_is)
    (case c16 => k_is)
    (case k16 => k_is)
    (case a17 => k_is)
    (case l17 => k_is)
    (case c17 => k_is)
    (case k17 => k_is)
    (case a18 => k_is)
    (case l18 => k_is)
    (case c18 => k_is)
    (case k18 => k_is)
    (case z0 => k_is)
    (case z1 => k_is)
    (case z2 => k_is)
    (case z3 => k_is)
    (case z4 => k_is)
    (case z5 => k_is)
    (case z6 => k_is)
    (case z7 => k_is)
    (case z8 => k_is)
