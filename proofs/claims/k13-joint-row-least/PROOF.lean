import PyProof.Rows.All
import Wide.All
import OpenK.AllK
import Wide.FinOn
import HandS.ForMost
import HandS.IsInst
import HandS.TupAny
import HandS.Small
import HandS.Conv
import HandS.Finally
import HandS.DeepEq
import HandS.TupLen
import HandS.Codes
import KE.SortData
import KE.DataCmp
import HandS.DictTup
import HandS.Deep
import KE.KDictCopyH
import PySem.Challenge.RW_asknest_k13_joint_row_least
set_option Elab.async false
set_option linter.all false
set_option maxRecDepth 100000
set_option maxHeartbeats 4000000
/-! AN: own kit over HandS: calls bundled, general rules, data in tuples, heaps that grow. -/
namespace AN
open PySem PySem.Spec PyProof.Rows L2

/-- marks the written part in a context -/
structure Kk (K : PySem.W.Frag) : Prop where
  ok : True
/-! ### calls -/
structure Cal (P : Program) (w : World) (K : PySem.W.Frag) (mg : Str → Option Value) (base : Heap) (CX : CXT) (k : Nat) (x : Str) (ps : List Str) (sp : Sp) : Prop where
  ex : ∃ f fd, FnOk P w K mg base CX k f fd ps sp ∧ mg x = some (.ref f) ∧ PySem.W.keepIn K (.ref f) = true ∧ ∀ us : List Value, us.length = ps.length → bindArgs fd ⟨us, []⟩ = pure (ps.zip us)
section
variable {X : Cx} {CX : CXT} {k : Nat} {x : Str} {ps : List Str} {sp : Sp} {E : XK} {p pos : Pos} {e : Expr} {es : List Expr} {t : TA}
theorem pe_cal (C : Cal X.prog X.w X.K X.mg X.base CX k x ps sp) (hr : Room k X.A) (hg : Gl X x) (hx : Passes CX X E)
    (ha : PA X (e :: es) t) (hdb : (x == ("__debug__" : Str)) = false := by decide) (he : starEach (e :: es) X.env = (false, eval e X.env) :: starEach es X.env := by rfl) (hpl : (backTo pos (starEach es X.env)).any (·.1) = false := by rfl) :
    PE X (.Call (.Name x p) (e :: es) [] pos) (tCall sp [] E t) := by
  obtain ⟨f, fd, F, m, kp, b⟩ := C.ex
  exact pe_call F hr hg m kp (.all b) .nil hx ha hdb he hpl
theorem pe_cal0 (C : Cal X.prog X.w X.K X.mg X.base CX k x ps sp) (hr : Room k X.A) (hg : Gl X x) (hx : Passes CX X E)
    (hdb : (x == ("__debug__" : Str)) = false := by decide) : PE X (.Call (.Name x p) [] [] pos) (tCall sp [] E tNil) := by
  obtain ⟨f, fd, F, m, kp, b⟩ := C.ex
  exact pe_call0 F hr hg m kp (.all b) .nil hx hdb
theorem Cal.mono {P : Program} {w : World} {K : PySem.W.Frag} {mg : Str → Option Value} {base : Heap} {j : Nat} (C : Cal P w K mg base CX j x ps sp) (h : j ≤ k) : Cal P w K mg base CX k x ps sp := by
  obtain ⟨f, fd, F, m⟩ := C.ex
  exact ⟨f, fd, F.mono h, m⟩
theorem Cal.imp {P : Program} {w : World} {K : PySem.W.Frag} {mg : Str → Option Value} {base : Heap} {sp' : Sp} (C : Cal P w K mg base CX k x ps sp) (h : ∀ vs H Q E, sp' vs H Q E → sp vs H Q E) : Cal P w K mg base CX k x ps sp' := by
  obtain ⟨f, fd, F, m⟩ := C.ex
  exact ⟨f, fd, F.imp h, m⟩
/-- a def as the top leaves it -/
def Def (K : PySem.W.Frag) (mg : Str → Option Value) (x : Str) (st : Stmt) (ps : List Str) : Prop :=
  ∃ f fd, Fun K x x st f fd ∧ mg x = some (.ref f) ∧ ∀ us : List Value, us.length = ps.length → bindArgs fd ⟨us, []⟩ = pure (ps.zip us)
theorem Def.cal {P : Program} {w : World} {K : PySem.W.Frag} {mg : Str → Option Value} {base : Heap} {st : Stmt} {N : List Str} (D : Def K mg x st ps) (S : FnScope N ps (defScope st)) (z : List (Option V)) (hz : List.replicate (N.length - ps.length) none = z) (len : ∀ vs H Q E, sp vs H Q E → vs.length = ps.length)
    (hbody : ∀ (f : Addr) (cdv : Value) (A : Around) (outer : List Env) (s : Shared) (H : Hp) (vs : List V) (Q : VK) (E : XK), Kk K → Room k (A.deeper (envOfC x (defScope st) s.heap.objs.size f cdv)) → sp vs H Q E →
      ∃ t, PSs (cxOf CX0 P w K mg base N x (defScope st) f cdv A outer s H E).nox (defBody st) t ∧ t ⟨fun _ H' => Q .non H', Q, fun _ _ => False, fun _ _ => False⟩ (vs.map some ++ z) H) : Cal P w K mg base CX0 (k + 1) x ps sp := by
  obtain ⟨f, fd, F, m, b⟩ := D
  refine ⟨f, fd, F.ok S len (fun cdv A outer s H vs Q E hr h => ?_), m, F.kp, b⟩
  obtain ⟨t, h1, h2⟩ := hbody f cdv A outer s H vs Q E ⟨trivial⟩ hr h
  refine ⟨t, h1, ?_⟩
  have e : L2.start N vs = vs.map some ++ z := by
    unfold L2.start
    rw [len _ _ _ _ h, hz]
  rw [e]
  exact h2
end

section
theorem fun_ok {P : Program} {w : World} {K : PySem.W.Frag} {mg : Str → Option Value} {base : Heap} {x : Str} {st : Stmt} {f : Addr} {fd : FuncData} {N ps : List Str} {k : Nat} {sp : Sp} (F : Fun K x x st f fd) (S : FnScope N ps (defScope st)) (z : List (Option V)) (hz : List.replicate (N.length - ps.length) none = z) (len : ∀ vs H Q E, sp vs H Q E → vs.length = ps.length)
    (hbody : ∀ (f : Addr) (cdv : Value) (A : Around) (outer : List Env) (s : Shared) (H : Hp) (vs : List V) (Q : VK) (E : XK), Kk K → Room k (A.deeper (envOfC x (defScope st) s.heap.objs.size f cdv)) → sp vs H Q E →
      ∃ t, PSs (cxOf CX0 P w K mg base N x (defScope st) f cdv A outer s H E).nox (defBody st) t ∧ t ⟨fun _ H' => Q .non H', Q, fun _ _ => False, fun _ _ => False⟩ (vs.map some ++ z) H) : FnOk P w K mg base CX0 (k + 1) f fd ps sp := by
  refine F.ok S len (fun cdv A outer s H vs Q E hr h => ?_)
  obtain ⟨t, h1, h2⟩ := hbody f cdv A outer s H vs Q E ⟨trivial⟩ hr h
  refine ⟨t, h1, ?_⟩
  have e : L2.start N vs = vs.map some ++ z := by
    unfold L2.start
    rw [len _ _ _ _ h, hz]
  rw [e]
  exact h2
end
/-! ### general rules -/
section
variable {X : Cx}
theorem PSet.or {r r' : TSet} (h : PSet X r) (h' : PSet X r') : PSet X (fun o i v H Q => r o i v H Q ∨ r' o i v H Q) := by
  intro pins s σ H o i v ov iv u Q I ro ri rv q
  rcases q with q | q
  · exact h pins s σ H o i v ov iv u Q I ro ri rv q
  · exact h' pins s σ H o i v ov iv u Q I ro ri rv q
theorem set_G (hu : X.A.units + 1 < cLine) : PSet X (fun o i v H Q => rSetL o i v H Q ∨ rSetD o i v H Q) := PSet.or set_list (set_dict hu)
theorem PI.or {tg e : Expr} {r r' : TI} (h : PI X tg e r) (h' : PI X tg e r') : PI X tg e (fun σ H R => r σ H R ∨ r' σ H R) := by
  refine ⟨fun pins s σ H R I q => ?_⟩
  rcases q with q | q
  · exact h.run pins s σ H R I q
  · exact h'.run pins s σ H R I q
theorem pi_seq {tg e : Expr} {te : TE} (h : PE X e te) : PI X tg e (fun σ H R => iList X.K te σ H R ∨ iTup X.K te σ H R) := PI.or (pi_list h) (pi_tup h)
/-- subscripts: a list, a tuple, a text, a dict -/
def rIxDict : R2 := fun x y H Q => ∃ a v, x = .ref a ∧ DGet H a y (some v) ∧ Q v H
theorem ix_dict (hu : X.A.units + 1 < cLine) : IxR X rIxDict := by
  intro value slice pins s σ H x y v u Q I rx ry h hs
  obtain ⟨a, z, rfl, g, q⟩ := h
  obtain rfl : v = Value.ref a := rx
  unfold subscriptTail
  refine wpAny_bind ?_
  have hT := dict_typeIs I g
  rw [getitemInPython_of_ne hT.not_modules]
  refine wpAny_bind (wpAny_specialOf hT PySem.F.slot_dict_getitem.lookup ?_)
  have h₂ : wpAny (model X.prog X.w) X.A (getItem (.ref a) u) (EP X pins σ Q) X.xe s := d_getItem hu I g ry fun w' s3 I3 rw' => ⟨z, H, I3, rw', q⟩
  have fin : wpAny (model X.prog X.w) X.A (subscripted slice false (.ref a) u) (fun r s₃ => wpAny (model X.prog X.w) X.A (letTemporaryGo value (.ref a) r >>= fun _ => pure r) (EP X pins σ Q) X.xe s₃) X.xe s := by
    rw [hs]
    exact wpAny_operating (wpAny_mono h₂ (fun r s₃ h₃ => wpAny_bind (wpAny_letTemporaryGo (wpAny_pure h₃))) fun _ _ x => x)
  first
    | exact wpAny_pure (wpAny_bind fin)
    | exact wpAny_bind (wpAny_pure (wpAny_bind fin))
    | exact wpAny_bind fin
def rIxG (K : PySem.W.Frag) : R2 := fun x y H Q => rIxT K x y H Q ∨ rIxL K x y H Q ∨ rIxDict x y H Q ∨ rIxS x y H Q
theorem ix_G (hu : X.A.units + 1 < cLine) : IxR X (rIxG X.K) := ix_tup.or (ix_list.or ((ix_dict hu).or ix_str))
/-- == and != -/
def sameOk (v : V) : Prop := flatB v = true ∨ ∃ a, v = .ref a
theorem hits_same {κ : Type} [DecidableEq κ] {A : Around} {s : Shared} {kvs : List (κ × V)} {vb : List (κ × Value)} (rb : KV kvs vb) {ks : List (κ × V)} {va : List (κ × Value)} (ra : KV ks va) :
    (∀ p ∈ ks, valV kvs p.1 = some p.2 ∧ sameOk p.2) → PySem.W.KeqHits A s vb va true := by
  unfold KV at ra
  induction ra with
  | nil => intro _; exact .nil
  | @cons p q ps qs h t k =>
    intro hp
    obtain ⟨h1, h2⟩ := h
    obtain ⟨e, f⟩ := hp p List.mem_cons_self
    have rr : RelO (some p.2) (valueAt vb p.1) := by rw [← e]; exact rb.val p.1
    obtain ⟨y, hy, ry⟩ := rr.some_of
    obtain ⟨key, v⟩ := q
    have h1' : p.1 = key := h1
    rw [h1'] at hy
    show PySem.W.KeqHits A s vb ((key, v) :: qs) (true && true)
    refine .hit hy ?_ (k fun p' hm => hp p' (List.mem_cons_of_mem _ hm))
    rcases f with f | ⟨a, f⟩
    · exact eqAt_same h2 ry f
    · rw [f] at h2 ry
      cases (show v = Value.ref a from h2)
      cases (show y = Value.ref a from ry)
      exact SeqAt.EqAt.same _
/-- two dicts of the very same pairs -/
def rSameD (k : Bool) : R2 := fun x y H Q => ∃ a b kvs, x = .ref a ∧ y = .ref b ∧ H a = some (.dK kvs) ∧ H b = some (.dK kvs) ∧ (∀ p ∈ kvs, valV kvs p.1 = some p.2 ∧ sameOk p.2) ∧ Q (.bl k) H
theorem op_eqSame (hu : X.A.units < cLine) : OpR X (compareOp .Eq) (rSameD true) := by
  intro pins s σ H x y v u Q I rx ry h
  obtain ⟨a, b, kvs, rfl, rfl, ea, eb, hp, q⟩ := h
  obtain rfl : v = Value.ref a := rx
  obtain rfl : u = Value.ref b := ry
  obtain ⟨_, ya, va, ra, da⟩ := (show ObjOk X.prog X.w H s.heap a (.dK kvs) from I.hok a _ ea)
  obtain ⟨_, yb, vb, rb, db⟩ := (show ObjOk X.prog X.w H s.heap b (.dK kvs) from I.hok b _ eb)
  have hl : va.length = vb.length := by rw [← ra.length, ← rb.length]
  exact PySem.W.keq_eq (knd := mixKind X.prog X.w) (r := true) ya yb da db hu (fun _ => hits_same rb ra hp) (fin_bl I q (by simp [hl]))
theorem op_neSame (hu : X.A.units < cLine) : OpR X (compareOp .NotEq) (rSameD false) := by
  intro pins s σ H x y v u Q I rx ry h
  obtain ⟨a, b, kvs, rfl, rfl, ea, eb, hp, q⟩ := h
  obtain rfl : v = Value.ref a := rx
  obtain rfl : u = Value.ref b := ry
  obtain ⟨_, ya, va, ra, da⟩ := (show ObjOk X.prog X.w H s.heap a (.dK kvs) from I.hok a _ ea)
  obtain ⟨_, yb, vb, rb, db⟩ := (show ObjOk X.prog X.w H s.heap b (.dK kvs) from I.hok b _ eb)
  have hl : va.length = vb.length := by rw [← ra.length, ← rb.length]
  exact PySem.W.keq_ne (knd := mixKind X.prog X.w) (r := true) ya yb da db hu (fun _ => hits_same rb ra hp) (fin_bl I q (by simp [hl]))
def rEqG (K : PySem.W.Frag) : R2 := fun x y H Q => rEq x y H Q ∨ rEqD K x y H Q ∨ rSameD true x y H Q
def rNeG (K : PySem.W.Frag) : R2 := fun x y H Q => rNe x y H Q ∨ rNeD K x y H Q ∨ rSameD false x y H Q
theorem op_eqG (hu : X.A.units + 64 < cLine) : OpR X (compareOp .Eq) (rEqG X.K) := op_eq.or ((op_eqD hu).or (op_eqSame (by omega)))
theorem op_neG (hu : X.A.units + 64 < cLine) : OpR X (compareOp .NotEq) (rNeG X.K) := op_ne.or ((op_neD hu).or (op_neSame (by omega)))
/-- in, not in: a dict, a list or tuple of flat things, a sign in a text -/
def rInDict : R2 := fun x y H Q => ∃ a o, y = .ref a ∧ DGet H a x o ∧ Q (.bl o.isSome) H
def rNotInDict : R2 := fun x y H Q => ∃ a o, y = .ref a ∧ DGet H a x o ∧ Q (.bl (!o.isSome)) H
theorem op_inDict (hu : X.A.units + 1 < cLine) : OpR X (compareOp .In) rInDict := by
  intro pins s σ H x y v u Q I rx ry h
  obtain ⟨a, o, rfl, g, q⟩ := h
  obtain rfl : u = Value.ref a := ry
  exact d_in hu I g rx fun s3 I3 => ⟨.bl o.isSome, H, I3, rfl, q⟩
theorem op_notInDict (hu : X.A.units + 1 < cLine) : OpR X (compareOp .NotIn) rNotInDict := by
  intro pins s σ H x y v u Q I rx ry h
  obtain ⟨a, o, rfl, g, q⟩ := h
  obtain rfl : u = Value.ref a := ry
  exact d_notIn hu I g rx fun s3 I3 => ⟨.bl (!o.isSome), H, I3, rfl, q⟩
def rInSign : R2 := fun x y H Q => ∃ (c : Nat) (z : Str), x = .str ⟨#[c]⟩ ∧ y = .str z ∧ Q (.bl (decide (c ∈ z.cps.toList))) H
def rNotInSign : R2 := fun x y H Q => ∃ (c : Nat) (z : Str), x = .str ⟨#[c]⟩ ∧ y = .str z ∧ Q (.bl (!decide (c ∈ z.cps.toList))) H
def rInG (K : PySem.W.Frag) : R2 := fun x y H Q => rIn K false x y H Q ∨ rInDict x y H Q ∨ rInSign x y H Q
def rNotInG (K : PySem.W.Frag) : R2 := fun x y H Q => rIn K true x y H Q ∨ rNotInDict x y H Q ∨ rNotInSign x y H Q
theorem op_inG (hu : X.A.units + 1 < cLine) : OpR X (compareOp .In) (rInG X.K) := op_in_seq.or ((op_inDict hu).or op_in_sign)
theorem op_notInG (hu : X.A.units + 1 < cLine) : OpR X (compareOp .NotIn) (rNotInG X.K) := op_notIn_seq.or ((op_notInDict hu).or op_notIn_sign)
/-- + -/
def rAddI : R2 := rI0 fun i j => .int (i + j)
def rAddS : R2 := fun x y H Q => ∃ i j, x = .str i ∧ y = .str j ∧ i.length + j.length ≤ sizeLine ∧ Q (.str (i ++ j)) H
def rAddG (K : PySem.W.Frag) : R2 := fun x y H Q => rAddI x y H Q ∨ rCatA K x y H Q ∨ rAddS x y H Q ∨ rCat x y H Q
theorem op_addG : OpR X (binaryOp .Add) (rAddG X.K) := op_add.or (op_catA.or (op_add_str.or op_cat))
/-- len -/
def rLenS : List V → Hp → VK → Prop := fun xs H Q => ∃ p ys, xs = [.ref p] ∧ H p = some (.dK ys) ∧ Q (.int ys.length) H
def rLenG (K : PySem.W.Frag) : List V → Hp → VK → Prop := fun xs H Q => (∃ x n, xs = [x] ∧ LenV K x H n ∧ Q (.int n) H) ∨ rLenS xs H Q
theorem call_lenG : CallR X (.builtin "len") (rLenG X.K) := call_len.or call_lenD
/-- list(..) -/
def rListG (K : PySem.W.Frag) : List V → Hp → VK → Prop := fun xs H Q =>
  (∃ p ys, xs = [.ref p] ∧ (SqL K H p ys ∨ SqT K H p ys) ∧ ∀ l, H l = none → Q (.ref l) (upd H l (.lst ys))) ∨
  (∃ (a : Addr) (kvs : List (Key × V)), xs = [.ref a] ∧ Rd H a (.dK kvs) ∧ ∀ p, H p = none → Q (.ref p) (upd H p (.lst (kvs.map fun kv => kV kv.1))))
theorem call_listG (hc : X.calm = true) : CallR X (.type "list") (rListG X.K) := call_list_of.or (call_listD hc)
/-- sorted(..) of texts: of a list, of a dict's keys -/
def rSortedG (K : PySem.W.Frag) : List V → Hp → VK → Prop := fun xs H Q => rSortedS K xs H Q ∨
  (∃ (a : Addr) (kvs : List (Key × V)) (ks : List Str), xs = [.ref a] ∧ Rd H a (.dK kvs) ∧ kvs.map (·.1) = ks.map Sum.inr ∧ ks.length < 64 ∧
    ∀ ys p, ys.Perm ks → sortedS ys = true → H p = none → Q (.ref p) (upd H p (.lst (ys.map V.str))))
theorem call_sortedG (hc : X.calm = true) : CallR X (.builtin "sorted") (rSortedG X.K) := cr_sortedS.or (call_sortedD hc)
/-- slices -/
def rSlG (K : PySem.W.Frag) : V → Option Int → Option Int → Hp → VK → Prop := fun x lo hi H Q => rSlA K x lo hi H Q ∨ rSlL K x lo hi H Q ∨ rSlS x lo hi H Q
theorem sl_G : SlR X (rSlG X.K) := sl_tupA.or (sl_list.or sl_str)
/-- xs[i], for xs[i] += e -/
def rGetL (K : PySem.W.Frag) : V → V → Hp → VK → Prop := fun o i H Q => ∃ p xs j v, o = .ref p ∧ i = .int (j : Nat) ∧ SqL K H p xs ∧ xs[j]? = some v ∧ Q v H
theorem get_list : PGet X (rGetL X.K) := by
  intro pins s σ H o i ov iv Q I ro ri h
  obtain ⟨p, xs, j, v, rfl, rfl, hq, he, q⟩ := h
  cases ro
  obtain ⟨t, rfl⟩ := ri
  obtain ⟨its, r, pl, hz⟩ := I.list hq
  obtain ⟨u, eu, ru⟩ := r.get he
  obtain ⟨hj, _⟩ := List.getElem?_eq_some_iff.mp he
  have hn := line63
  exact wpAny_getItem_list pl.isList (by omega) (by omega) (by simpa using eu) ⟨v, H, I, ru, q⟩
end

/-! ### data in tuples -/
mutual
def Rep (K : PySem.W.Frag) (H : Hp) : PyData → V → Prop
  | .none, v => v = .non
  | .bool b, v => v = .bl b
  | .int i, v => v = .int i
  | .str x, v => v = .str x
  | .tuple ds, v => ∃ a vs, v = .ref a ∧ H a = some (.tup vs) ∧ Reps K H ds vs
  | .list _, _ => False
  | .dict _, _ => False
def Reps (K : PySem.W.Frag) (H : Hp) : List PyData → List V → Prop
  | [], vs => vs = []
  | d :: ds, vs => ∃ v r, vs = v :: r ∧ Rep K H d v ∧ Reps K H ds r
end
/-- the heap has grown; what stands at l may be another; tuples stay -/
structure Fr (l : List Addr) (H H' : Hp) : Prop where
  keep : ∀ b o, H b = some o → b ∉ l → H' b = some o
  tups : ∀ a xs, H a = some (.tup xs) → H' a = some (.tup xs)
  rdt : ∀ a xs, Rd H a (.tup xs) → Rd H' a (.tup xs)
section
variable {K : PySem.W.Frag} {H H' H1 H2 : Hp} {l l' : List Addr} {a p : Addr} {o u : HO} {d : PyData} {ds : List PyData} {v : V} {vs xs : List V}
theorem Fr.refl (l : List Addr) (H : Hp) : Fr l H H := ⟨fun _ _ h _ => h, fun _ _ h => h, fun _ _ h => h⟩
theorem Fr.trans (f : Fr l H H1) (g : Fr l' H1 H2) (h : ∀ b ∈ l', b ∈ l ∨ H b = none) : Fr l H H2 := by
  refine ⟨fun b o e n => ?_, fun a xs q => g.tups _ _ (f.tups _ _ q), fun a xs q => g.rdt _ _ (f.rdt _ _ q)⟩
  refine g.keep b o (f.keep b o e n) fun m => ?_
  rcases h b m with z | z
  · exact n z
  · rw [e] at z; cases z
theorem Fr.step (f : Fr l H H1) (g : Fr l H1 H2) : Fr l H H2 := f.trans g fun _ m => .inl m
theorem Fr.step0 (f : Fr l H H1) (g : Fr [] H1 H2) : Fr l H H2 := f.trans g fun _ m => by cases m
theorem Fr.mono (f : Fr l H H1) (h : ∀ b ∈ l, b ∈ l') : Fr l' H H1 := ⟨fun b o e n => f.keep b o e fun m => n (h b m), f.tups, f.rdt⟩
theorem Fr.of0 (f : Fr [] H H1) : Fr l H H1 := f.mono fun _ m => by cases m
theorem Fr.new (h : H p = none) : Fr [] H (upd H p o) := by
  refine ⟨fun b u e _ => ?_, fun a xs q => (upd_ne (ne_of_none q h)).trans q, fun a xs q => ?_⟩
  · rw [upd_ne (ne_of_none e h)]; exact e
  · rcases q with q | ⟨z, q⟩
    · exact .inl (by rw [upd_ne (ne_of_none q h)]; exact q)
    · exact .inr ⟨z, by rw [upd_ne (ne_of_none q h)]; exact q⟩
theorem Fr.newL (h : H p = none) : Fr l H (upd H p o) := (Fr.new h).of0
theorem Fr.set (h : H p = some u) (hu : ∀ xs, u ≠ .tup xs) (hf : ∀ z xs, u ≠ .frz z (.tup xs)) : Fr [p] H (upd H p o) := by
  refine ⟨fun b u e n => ?_, fun a xs q => (upd_ne (ne_of q h (hu xs).symm)).trans q, fun a xs q => ?_⟩
  · rw [upd_ne (by simpa using n)]; exact e
  · rcases q with q | ⟨z, q⟩
    · exact .inl (by rw [upd_ne (ne_of q h (hu xs).symm)]; exact q)
    · exact .inr ⟨z, by rw [upd_ne (ne_of q h (hf z xs).symm)]; exact q⟩
theorem Fr.setL (h : H p = some (.lst xs)) : Fr [p] H (upd H p o) := Fr.set h (fun _ e => by cases e) (fun _ _ e => by cases e)
theorem Fr.setD {kvs : List (Key × V)} (h : H p = some (.dK kvs)) : Fr [p] H (upd H p o) := Fr.set h (fun _ e => by cases e) (fun _ _ e => by cases e)
theorem Fr.setI {C dx : Addr} {fs : List (Str × V)} (h : H p = some (.ins C dx fs)) : Fr [p] H (upd H p o) := Fr.set h (fun _ e => by cases e) (fun _ _ e => by cases e)
theorem Fr.drop (f : Fr [p] H H1) (n : H p = none) : Fr [] H H1 := (Fr.refl [] H).trans f fun b m => .inr (by rw [List.mem_singleton.mp m]; exact n)
theorem Fr.updN (f : Fr [] H H1) (n : H p = none) (e : H1 p = some (.lst xs)) : Fr [] H (upd H1 p o) := f.trans (Fr.setL e) fun b m => .inr (by rw [List.mem_singleton.mp m]; exact n)
theorem Fr.at (f : Fr [] H H1) (h : H a = some o) : H1 a = some o := f.keep a o h (by simp)
theorem Fr.at1 (f : Fr [p] H H1) (h : H a = some o) (n : a ≠ p) : H1 a = some o := f.keep a o h (by simpa using n)
theorem Fr.free (f : Fr l H H1) (h : H1 a = none) (n : a ∉ l) : H a = none := by
  cases q : H a with
  | none => rfl
  | some z => rw [f.keep a z q n] at h; cases h
theorem at_as (h : H a = some o) : H a = some o := h
theorem fr_as (h : Fr l H H1) : Fr l H H1 := h
theorem Fr.sqT (f : Fr l H H1) (h : SqT K H a xs) : SqT K H1 a xs := by
  rcases h with h | h
  · exact .inl (f.rdt _ _ h)
  · exact .inr h
theorem Fr.sqL (f : Fr l H H1) (h : SqL K H a xs) (n : a ∉ l) : SqL K H1 a xs := by
  rcases h with (h | ⟨z, h⟩) | h
  · exact .inl (.inl (f.keep _ _ h n))
  · exact .inl (.inr ⟨z, f.keep _ _ h n⟩)
  · exact .inr h
mutual
theorem Rep.fr (f : Fr l H H1) : ∀ (d : PyData) (v : V), Rep K H d v → Rep K H1 d v
  | .none, _, h => h
  | .bool _, _, h => h
  | .int _, _, h => h
  | .str _, _, h => h
  | .tuple ds, v, h => by
    unfold Rep at h ⊢
    obtain ⟨a, vs, e, q, r⟩ := h
    exact ⟨a, vs, e, f.tups _ _ q, Reps.fr f ds vs r⟩
  | .list _, _, h => by unfold Rep at h; exact h.elim
  | .dict _, _, h => by unfold Rep at h; exact h.elim
theorem Reps.fr (f : Fr l H H1) : ∀ (ds : List PyData) (vs : List V), Reps K H ds vs → Reps K H1 ds vs
  | [], _, h => by unfold Reps at h ⊢; exact h
  | d :: ds, vs, h => by
    unfold Reps at h ⊢
    obtain ⟨v, r, e, h1, h2⟩ := h
    exact ⟨v, r, e, Rep.fr f d v h1, Reps.fr f ds r h2⟩
end
theorem Rep.up (h : Rep K H d v) (f : Fr l H H1) : Rep K H1 d v := Rep.fr f d v h
theorem Reps.up (h : Reps K H ds vs) (f : Fr l H H1) : Reps K H1 ds vs := Reps.fr f ds vs h
mutual
theorem Rep.dp : ∀ (d : PyData) (v : V), Rep K H d v → Dp K H v d
  | .none, _, h => by unfold Rep at h; subst h; exact .non
  | .bool _, _, h => by unfold Rep at h; subst h; exact .bl _
  | .int _, _, h => by unfold Rep at h; subst h; exact .int _
  | .str _, _, h => by unfold Rep at h; subst h; exact .str _
  | .tuple ds, v, h => by
    unfold Rep at h
    obtain ⟨a, vs, e, q, r⟩ := h
    subst e
    exact .tup (.of q) (Reps.dp ds vs r)
  | .list _, _, h => by unfold Rep at h; exact h.elim
  | .dict _, _, h => by unfold Rep at h; exact h.elim
theorem Reps.dp : ∀ (ds : List PyData) (vs : List V), Reps K H ds vs → DpAll K H vs ds
  | [], _, h => by unfold Reps at h; subst h; exact .nil
  | d :: ds, vs, h => by
    unfold Reps at h
    obtain ⟨v, r, e, h1, h2⟩ := h
    subst e
    exact .cons (Rep.dp d v h1) (Reps.dp ds r h2)
end
theorem rep_as (h : Rep K H d v) : Rep K H d v := h
theorem reps_as (h : Reps K H ds vs) : Reps K H ds vs := h
theorem rep_int {i : Int} : Rep K H (.int i) (.int i) := by unfold Rep; rfl
theorem rep_str {x : Str} : Rep K H (.str x) (.str x) := by unfold Rep; rfl
theorem rep_bl {b : Bool} : Rep K H (.bool b) (.bl b) := by unfold Rep; rfl
theorem rep_non : Rep K H .none .non := by unfold Rep; rfl
theorem reps_nil : Reps K H [] [] := by unfold Reps; rfl
theorem reps_cons {vs : List V} (h : Rep K H d v) (r : Reps K H ds vs) : Reps K H (d :: ds) (v :: vs) := by unfold Reps; exact ⟨v, vs, rfl, h, r⟩
theorem rep_tup {a : Addr} (q : H a = some (.tup vs)) (r : Reps K H ds vs) : Rep K H (.tuple ds) (.ref a) := by unfold Rep; exact ⟨a, vs, rfl, q, r⟩
theorem Rep.tup_iff : Rep K H (.tuple ds) v ↔ ∃ a vs, v = .ref a ∧ H a = some (.tup vs) ∧ Reps K H ds vs := by unfold Rep; exact Iff.rfl
theorem Reps.cons_iff : Reps K H (d :: ds) vs ↔ ∃ v r, vs = v :: r ∧ Rep K H d v ∧ Reps K H ds r := by
  constructor
  · intro h; unfold Reps at h; exact h
  · intro h; unfold Reps; exact h
theorem Reps.length : ∀ {ds : List PyData} {vs : List V}, Reps K H ds vs → vs.length = ds.length
  | [], _, h => by unfold Reps at h; subst h; rfl
  | d :: ds, vs, h => by
    unfold Reps at h
    obtain ⟨v, r, e, _, h2⟩ := h
    subst e
    rw [List.length_cons, List.length_cons, Reps.length h2]
theorem Reps.get : ∀ {ds : List PyData} {vs : List V} {i : Nat} {d : PyData}, Reps K H ds vs → ds[i]? = some d → ∃ v, vs[i]? = some v ∧ Rep K H d v
  | [], _, _, _, _, e => by simp at e
  | d :: ds, vs, i, x, h, e => by
    unfold Reps at h
    obtain ⟨v, r, ev, h1, h2⟩ := h
    subst ev
    cases i with
    | zero => simp at e; subst e; exact ⟨v, rfl, h1⟩
    | succ i =>
      obtain ⟨y, e1, e2⟩ := Reps.get (i := i) h2 (by simpa using e)
      exact ⟨y, by simpa using e1, e2⟩
theorem Reps.get' : ∀ {ds : List PyData} {vs : List V} {i : Nat} {v : V}, Reps K H ds vs → vs[i]? = some v → ∃ d, ds[i]? = some d ∧ Rep K H d v
  | [], _, _, _, h, e => by unfold Reps at h; subst h; simp at e
  | d :: ds, vs, i, x, h, e => by
    unfold Reps at h
    obtain ⟨v, r, ev, h1, h2⟩ := h
    subst ev
    cases i with
    | zero => simp at e; subst e; exact ⟨d, rfl, h1⟩
    | succ i =>
      obtain ⟨y, e1, e2⟩ := Reps.get' (i := i) h2 (by simpa using e)
      exact ⟨y, by simpa using e1, e2⟩
theorem Reps.append : ∀ {ds es : List PyData} {vs us : List V}, Reps K H ds vs → Reps K H es us → Reps K H (ds ++ es) (vs ++ us)
  | [], _, _, _, h, g => by unfold Reps at h; subst h; exact g
  | d :: ds, es, vs, us, h, g => by
    unfold Reps at h
    obtain ⟨v, r, ev, h1, h2⟩ := h
    subst ev
    exact reps_cons h1 (Reps.append h2 g)
theorem Reps.take : ∀ {ds : List PyData} {vs : List V} (n : Nat), Reps K H ds vs → Reps K H (ds.take n) (vs.take n)
  | _, _, 0, _ => reps_nil
  | [], _, n + 1, h => by unfold Reps at h; subst h; exact reps_nil
  | d :: ds, vs, n + 1, h => by
    unfold Reps at h
    obtain ⟨v, r, ev, h1, h2⟩ := h
    subst ev
    exact reps_cons h1 (Reps.take n h2)
theorem Reps.drop : ∀ {ds : List PyData} {vs : List V} (n : Nat), Reps K H ds vs → Reps K H (ds.drop n) (vs.drop n)
  | _, _, 0, h => h
  | [], _, n + 1, h => by unfold Reps at h; subst h; exact reps_nil
  | d :: ds, vs, n + 1, h => by
    unfold Reps at h
    obtain ⟨v, r, ev, h1, h2⟩ := h
    subst ev
    exact Reps.drop n h2

/-! ### readings over data -/
variable {Q : VK} {i : Nat}
/-- t[i] -/
theorem ix_rep {x : V} (h : Rep K H (.tuple ds) x) (e : ds[i]? = some d) (q : ∀ v, Rep K H d v → Q v H) : rIxG K x (.int (i : Nat)) H Q := by
  obtain ⟨a, vs, rfl, hs, hr⟩ := Rep.tup_iff.mp h
  obtain ⟨v, ev, rv⟩ := hr.get e
  exact .inl ⟨a, vs, i, v, rfl, rfl, .of hs, atI_nat ev, q v rv⟩
theorem eqG_rep {x y : V} {e : PyData} (h1 : Rep K H d x) (h2 : Rep K H e y) (s1 : SeqAt.shaped d = true) (s2 : SeqAt.shaped e = true) (q : Q (.bl (PyData.eqv d e)) H) : rEqG K x y H Q :=
  .inr (.inl ⟨d, e, Rep.dp d x h1, Rep.dp e y h2, s1, s2, q⟩)
theorem eqv_same (s1 : SeqAt.shaped d = true) : PyData.eqv d d = true := SeqAt.eqv_refl d (SeqAt.canLay_of_shaped s1)
theorem eqG_same {x y : V} (h1 : Rep K H d x) (h2 : Rep K H d y) (s1 : SeqAt.shaped d = true) (q : Q (.bl true) H) : rEqG K x y H Q :=
  eqG_rep h1 h2 s1 s1 (by rw [eqv_same s1]; exact q)
theorem neG_same {x y : V} (h1 : Rep K H d x) (h2 : Rep K H d y) (s1 : SeqAt.shaped d = true) (q : Q (.bl false) H) : rNeG K x y H Q :=
  .inr (.inl ⟨d, d, Rep.dp d x h1, Rep.dp d y h2, s1, s1, by rw [eqv_same s1]; exact q⟩)
theorem neG_dp {x y : V} (h1 : Dp K H x d) (h2 : Dp K H y d) (s1 : SeqAt.shaped d = true) (q : Q (.bl false) H) : rNeG K x y H Q :=
  .inr (.inl ⟨d, d, h1, h2, s1, s1, by rw [eqv_same s1]; exact q⟩)
theorem eqG_str {x y : Str} (q : Q (.bl (decide (V.str x = V.str y))) H) : rEqG K (.str x) (.str y) H Q := .inl ⟨rfl, q⟩
theorem neG_str {x y : Str} (q : Q (.bl (!decide (V.str x = V.str y))) H) : rNeG K (.str x) (.str y) H Q := .inl ⟨rfl, q⟩
theorem eqG_int {x y : Int} (q : Q (.bl (decide (V.int x = V.int y))) H) : rEqG K (.int x) (.int y) H Q := .inl ⟨rfl, q⟩
theorem neG_int {x y : Int} (q : Q (.bl (!decide (V.int x = V.int y))) H) : rNeG K (.int x) (.int y) H Q := .inl ⟨rfl, q⟩
/-- x in (a, b, ..), flat things -/
theorem in_tup {x y : V} {vs : List V} (h : ∃ a, y = .ref a ∧ SqT K H a vs) (f1 : flatV x = true) (f2 : vs.all flatV = true) (q : Q (.bl (inV x vs)) H) : rInG K x y H Q := by
  obtain ⟨a, rfl, hs⟩ := h
  exact .inl ⟨a, vs, rfl, .inr hs, f1, f2, q⟩
theorem len_tup {x : V} (h : Rep K H (.tuple ds) x) (q : Q (.int ds.length) H) : rLenG K [x] H Q := by
  obtain ⟨a, vs, rfl, hs, hr⟩ := Rep.tup_iff.mp h
  rw [← hr.length] at q
  exact .inl ⟨.ref a, vs.length, rfl, .inr ⟨vs, .of hs, rfl⟩, q⟩
theorem len_lst {a : Addr} {xs : List V} (h : SqL K H a xs) (q : Q (.int xs.length) H) : rLenG K [.ref a] H Q :=
  .inl ⟨.ref a, xs.length, rfl, .inl ⟨xs, h, rfl⟩, q⟩
end

/-! ### steps of a reading, one a combinator -/
section
variable {K : PySem.W.Frag} {σ : L2.St} {H : Hp} {Q : VK} {QT : Bool → Hp → Prop} {QA : List V → Hp → Prop} {n b c : L2.St → Hp → Prop} {r : VK} {te ta tb : TE} {tt tu : TT} {t u : TS} {g : TG} {i : Nat} {v : V}
theorem g_seq (h : t ⟨u ⟨n, r, b, c⟩, r, b, c⟩ σ H) : tSeq t u ⟨n, r, b, c⟩ σ H := h
theorem g_next (h : n σ H) : tNext ⟨n, r, b, c⟩ σ H := h
theorem g_asg (h : te σ H fun x H1 => g x σ H1 n) : tAsg te g ⟨n, r, b, c⟩ σ H := h
theorem g_name {q : L2.St → Hp → Prop} (h : q (σ.set i (some v)) H) : gName i v σ H q := h
theorem g_var (e : σ[i]? = some (some v)) (h : Q v H) : tVar i σ H Q := ⟨v, e, h⟩
theorem g_c (h : Q v H) : tC v σ H Q := h
theorem g_op {R : R2} (h : ta σ H fun x H1 => tb σ H1 fun y H2 => R x y H2 Q) : tOp R ta tb σ H Q := h
/-- what is wanted of a new tuple, a new list -/
def NewT (xs : List V) (H : Hp) (Q : VK) : Prop := xs.length ≤ sizeLine ∧ ∀ p, H p = none → Q (.ref p) (upd H p (.tup xs))
def NewL (xs : List V) (H : Hp) (Q : VK) : Prop := xs.length ≤ sizeLine ∧ ∀ p, H p = none → Q (.ref p) (upd H p (.lst xs))
theorem g_tup {ts : TA} (h : ts σ H fun xs H1 => NewT xs H1 Q) : tTup ts σ H Q := h
theorem g_lst {ts : TA} (h : ts σ H fun xs H1 => NewL xs H1 Q) : tLst ts σ H Q := h
theorem g_nil (h : QA [] H) : tNil σ H QA := h
theorem g_cons {ts : TA} (h : te σ H fun x H1 => ts σ H1 fun xs H2 => QA (x :: xs) H2) : tCons te ts σ H QA := h
theorem g_ret (h : te σ H r) : tRet te ⟨n, r, b, c⟩ σ H := h
theorem g_retN (h : r .non H) : tRetN ⟨n, r, b, c⟩ σ H := h
theorem g_ifs (h : tt σ H fun k H1 => if k = true then t ⟨n, r, b, c⟩ σ H1 else u ⟨n, r, b, c⟩ σ H1) : tIfS tt t u ⟨n, r, b, c⟩ σ H := h
theorem g_test (h : te σ H fun x H' => ∃ k, x = .bl k ∧ QT k H') : tTest te σ H QT := h
theorem g_b (h : te σ H fun x H' => ∃ k, x = .bl k ∧ QT k H') : tB te σ H QT := h
theorem g_drop (h : te σ H fun _ H1 => n σ H1) : tDrop te ⟨n, r, b, c⟩ σ H := h
theorem g_bl {k : Bool} {q : Bool → Prop} (h : q k) : ∃ k', V.bl k = .bl k' ∧ q k' := ⟨k, rfl, h⟩
theorem g_and (h : tt σ H fun k H1 => if k = true then tu σ H1 QT else QT false H1) : tAnd tt tu σ H QT := h
theorem g_or (h : tt σ H fun k H1 => if k = true then QT true H1 else tu σ H1 QT) : tOr tt tu σ H QT := h
theorem g_not (h : tt σ H fun k H1 => QT (!k) H1) : tNot tt σ H QT := h
theorem g_andV (h : ta σ H fun x H1 => ∃ k, x = .bl k ∧ if k = true then tb σ H1 Q else Q (.bl false) H1) : tAndV ta tb σ H Q := h
theorem g_orV (h : ta σ H fun x H1 => ∃ k, x = .bl k ∧ if k = true then Q (.bl true) H1 else tb σ H1 Q) : tOrV ta tb σ H Q := h
theorem g_cb {R : List V → Hp → VK → Prop} {ts : TA} (h : ts σ H fun vs H1 => R vs H1 Q) : tCB R ts σ H Q := h
theorem g_call {sp : Sp} {E : XK} {ts : TA} (h : ts σ H fun vs H1 => sp (vs ++ []) H1 Q E) : tCall sp [] E ts σ H Q := h
theorem g_un {R : V → Hp → VK → Prop} (h : ta σ H fun x H1 => R x H1 Q) : tUn R ta σ H Q := h
theorem g_if (h : tt σ H fun k H1 => if k = true then ta σ H1 Q else tb σ H1 Q) : tIf tt ta tb σ H Q := h
theorem g_sub {q : L2.St → Hp → Prop} {ts : TSet} (h : ta σ H fun o H1 => tb σ H1 fun j H2 => ts o j v H2 fun H3 => q σ H3) : gSub ta tb ts v σ H q := h
theorem g_yes (h : QT true H) : tYes σ H QT := h
theorem g_tapp {T : String} {R : V → List V → Hp → VK → Prop} {ts : TA} (h : te σ H fun x H1 => tyV K T x H1 ∧ ts σ H1 fun xs H2 => R x xs H2 Q) : tBM K T R te ts σ H Q := h
theorem g_tapp0 {T : String} {R : V → List V → Hp → VK → Prop} (h : te σ H fun x H1 => tyV K T x H1 ∧ R x [] H1 Q) : tBM0 K T R te σ H Q := h
theorem g_sl {R : V → Option Int → Option Int → Hp → VK → Prop} {tl th : TO} (h : te σ H fun x H1 => tl σ H1 fun l H2 => th σ H2 fun z H3 => R x l z H3 Q) : tSl R te tl th σ H Q := h
theorem g_nopart {q : Option Int → Hp → Prop} (h : q none H) : tNoPart σ H q := h
theorem g_part {q : Option Int → Hp → Prop} (h : te σ H fun x H1 => ∃ j, x = .int j ∧ q (some j) H1) : tPart te σ H q := h
theorem g_int {j : Int} {q : Int → Prop} (h : q j) : ∃ k, V.int j = .int k ∧ q k := ⟨j, rfl, h⟩
/-! ### tests that are decided -/
theorem ifT {p : Prop} [Decidable p] {A B : Prop} (e : p) (h : A) : if decide p = true then A else B := by rw [if_pos (decide_eq_true e)]; exact h
theorem ifF {p : Prop} [Decidable p] {A B : Prop} (e : ¬ p) (h : B) : if decide p = true then A else B := by rw [if_neg (by simp [e])]; exact h
theorem ifD {p : Prop} [Decidable p] {A B : Prop} (h1 : p → A) (h2 : ¬ p → B) : if decide p = true then A else B := by
  by_cases e : p
  · exact ifT e (h1 e)
  · exact ifF e (h2 e)
theorem iteN1 {A B : Prop} (h : B) : if (!true) = true then A else B := by rw [if_neg (by decide)]; exact h
theorem iteN0 {A B : Prop} (h : A) : if (!false) = true then A else B := by rw [if_pos (by decide)]; exact h
theorem iteN2 {p : Prop} [Decidable p] {A B : Prop} (h1 : ¬ p → A) (h2 : p → B) : if (!decide p) = true then A else B := by
  by_cases e : p
  · rw [if_neg (by simp [e])]; exact h2 e
  · rw [if_pos (by simp [e])]; exact h1 e
theorem ifNT {p : Prop} [Decidable p] {A B : Prop} (e : ¬ p) (h : A) : if (!decide p) = true then A else B := by rw [if_pos (by simp [e])]; exact h
theorem ifNF {p : Prop} [Decidable p] {A B : Prop} (e : p) (h : B) : if (!decide p) = true then A else B := by rw [if_neg (by simp [e])]; exact h
/-! ### leaves -/
variable {ds : List PyData} {d : PyData} {x : V}
theorem ix_repS {s : Str} (h : Rep K H (.tuple ds) x) (e : ds[i]? = some (.str s)) (q : Q (.str s) H) : rIxG K x (.int (i : Nat)) H Q :=
  ix_rep h e fun v hv => by unfold Rep at hv; subst hv; exact q
theorem ix_repI {j : Int} (h : Rep K H (.tuple ds) x) (e : ds[i]? = some (.int j)) (q : Q (.int j) H) : rIxG K x (.int (i : Nat)) H Q :=
  ix_rep h e fun v hv => by unfold Rep at hv; subst hv; exact q
theorem ix_repB {j : Bool} (h : Rep K H (.tuple ds) x) (e : ds[i]? = some (.bool j)) (q : Q (.bl j) H) : rIxG K x (.int (i : Nat)) H Q :=
  ix_rep h e fun v hv => by unfold Rep at hv; subst hv; exact q
/-- what is wanted of an item that stands for d -/
def GetQ (K : PySem.W.Frag) (d : PyData) (H : Hp) (Q : VK) : Prop := ∀ v, Rep K H d v → Q v H
theorem ix_get {j : Int} (h : Rep K H (.tuple ds) x) (hj : j = ((i : Nat) : Int)) (e : ds[i]? = some d) (q : GetQ K d H Q) : rIxG K x (.int j) H Q := by
  subst hj
  exact ix_rep h e q
theorem get_str {s : Str} (q : Q (.str s) H) : GetQ K (.str s) H Q := fun v hv => by unfold Rep at hv; subst hv; exact q
theorem get_int {s : Int} (q : Q (.int s) H) : GetQ K (.int s) H Q := fun v hv => by unfold Rep at hv; subst hv; exact q
theorem get_bl {s : Bool} (q : Q (.bl s) H) : GetQ K (.bool s) H Q := fun v hv => by unfold Rep at hv; subst hv; exact q
theorem get_any (q : ∀ v, Rep K H d v → Q v H) : GetQ K d H Q := q
/-- a new tuple, by its values -/
theorem newT {vs : List V} (hl : vs.length ≤ 1000) (q : ∀ H' p, Fr [] H H' → H p = none → H' p = some (.tup vs) → Q (.ref p) H') : NewT vs H Q :=
  ⟨Nat.le_of_lt (small1000 hl), fun p hp => q _ _ (Fr.new hp) hp upd_same⟩
theorem newL {vs : List V} (hl : vs.length ≤ 1000) (q : ∀ H' p, Fr [] H H' → H p = none → H' p = some (.lst vs) → Q (.ref p) H') : NewL vs H Q :=
  ⟨Nat.le_of_lt (small1000 hl), fun p hp => q _ _ (Fr.new hp) hp upd_same⟩
theorem newR {vs : List V} (_ : Kk K) (r : Reps K H ds vs) (hl : vs.length ≤ 1000) (q : ∀ H' v, Fr [] H H' → Rep K H' (.tuple ds) v → Q v H') : NewT vs H Q :=
  newT hl fun H' p f _ e => q H' _ f (rep_tup e (r.up f))
def sv : PyData → V
  | .none => .non
  | .bool b => .bl b
  | .int i => .int i
  | .str x => .str x
  | _ => .ref 0
def isSv : PyData → Bool
  | .none => true
  | .bool _ => true
  | .int _ => true
  | .str _ => true
  | _ => false
theorem Rep.sv : ∀ {d : PyData} {v : V}, Rep K H d v → isSv d = true → v = sv d := by
  intro d v h e
  cases d <;> first | (unfold Rep at h; exact h) | cases e
theorem Reps.sv : ∀ {ds : List PyData} {vs : List V}, Reps K H ds vs → ds.all isSv = true → vs = ds.map sv
  | [], _, h, _ => by unfold Reps at h; exact h
  | d :: ds, vs, h, e => by
    unfold Reps at h
    obtain ⟨v, r, rfl, h1, h2⟩ := h
    rw [List.all_cons, Bool.and_eq_true] at e
    rw [List.map_cons, h1.sv e.1, Reps.sv h2 e.2]
theorem in_rep {y : V} {k : Bool} (h : Rep K H (.tuple ds) y) (e : ds.all isSv = true) (f1 : flatV x = true) (f2 : (ds.map sv).all flatV = true) (e2 : inV x (ds.map sv) = k) (q : Q (.bl k) H) : rInG K x y H Q := by
  obtain ⟨a, vs, rfl, hs, hr⟩ := Rep.tup_iff.mp h
  have := hr.sv e
  subst this
  subst e2
  exact .inl ⟨a, _, rfl, .inr (.of hs), f1, f2, q⟩
theorem in_at {a : Addr} {vs : List V} {k : Bool} (h : H a = some (.tup vs)) (f1 : flatV x = true) (f2 : vs.all flatV = true) (e : inV x vs = k) (q : Q (.bl k) H) : rInG K x (.ref a) H Q := by
  subst e
  exact .inl ⟨a, vs, rfl, .inr (.of h), f1, f2, q⟩
end

/-! ### built-ins under names -/
section
variable {X : Cx}
def rTupOf (K : PySem.W.Frag) : List V → Hp → VK → Prop := fun xs H Q => ∃ p ys, xs = [.ref p] ∧ ((SqL K H p ys ∧ ∀ l, H l = none → Q (.ref l) (upd H l (.tup ys))) ∨ (SqT K H p ys ∧ Q (.ref p) H))
theorem call_tupG : CallR X (.type "tuple") (rTupOf X.K) := call_tuple_of
def rIntOf : List V → Hp → VK → Prop := fun xs H Q => (∃ i, xs = [.int i] ∧ Q (.int i) H) ∨ ∃ k, xs = [.bl k] ∧ Q (.int (if k then 1 else 0)) H
theorem call_intG : CallR X (.type "int") rIntOf := call_int1
def rAbsOf : List V → Hp → VK → Prop := fun xs H Q => ∃ i, xs = [.int i] ∧ Q (.int (if i < 0 then -i else i)) H
theorem call_absG : CallR X (.builtin "abs") rAbsOf := call_abs
def rDictOf : List V → Hp → VK → Prop := fun xs H Q => ∃ (a : Addr) (kvs : List (Key × V)), xs = [.ref a] ∧ Rd H a (.dK kvs) ∧ ∀ p, H p = none → Q (.ref p) (upd H p (.dK kvs))
theorem call_dictG : CallR X (.type "dict") rDictOf := call_dictD
end
section
variable {K : PySem.W.Frag} {σ : L2.St} {H : Hp} {Q : VK} {QT : Bool → Hp → Prop} {QA : List V → Hp → Prop} {n b c : L2.St → Hp → Prop} {r : VK} {te ta tb : TE} {tt tu : TT} {t u : TS} {g : TG} {i : Nat} {v : V}
variable {ds : List PyData} {d : PyData} {x y : V}
theorem tupOf_rep (h : Rep K H (.tuple ds) x) (q : Q x H) : rTupOf K [x] H Q := by
  obtain ⟨a, vs, rfl, hs, _⟩ := Rep.tup_iff.mp h
  exact ⟨a, vs, rfl, .inr ⟨.of hs, q⟩⟩
theorem tupOf_lst {a : Addr} {vs : List V} (h : H a = some (.lst vs)) (q : ∀ H' p, Fr [] H H' → H p = none → H' p = some (.tup vs) → Q (.ref p) H') : rTupOf K [.ref a] H Q :=
  ⟨a, vs, rfl, .inl ⟨.of h, fun l hl => q _ l (Fr.new hl) hl upd_same⟩⟩
theorem intOf_int {j : Int} (q : Q (.int j) H) : rIntOf [.int j] H Q := .inl ⟨j, rfl, q⟩
theorem intOf_bl {k : Bool} (q : Q (.int (if k then 1 else 0)) H) : rIntOf [.bl k] H Q := .inr ⟨k, rfl, q⟩
theorem absOf_int {j : Int} (q : Q (.int (if j < 0 then -j else j)) H) : rAbsOf [.int j] H Q := ⟨j, rfl, q⟩
/-! ints -/
theorem rI0_int {j k : Int} {f : Int → Int → V} (q : Q (f j k) H) : rI0 f (.int j) (.int k) H Q := ⟨j, k, rfl, rfl, q⟩
theorem rI_int {j k : Int} {C : Int → Int → Prop} {f : Int → Int → V} (h : C j k) (q : Q (f j k) H) : rI C f (.int j) (.int k) H Q := ⟨j, k, rfl, rfl, h, q⟩
theorem addG_int {j k : Int} (q : Q (.int (j + k)) H) : rAddG K (.int j) (.int k) H Q := .inl ⟨j, k, rfl, rfl, q⟩
theorem addG_str {j k : Str} (h : j.length + k.length ≤ sizeLine) (q : Q (.str (j ++ k)) H) : rAddG K (.str j) (.str k) H Q := .inr (.inr (.inl ⟨j, k, rfl, rfl, h, q⟩))
theorem rU_int {j : Int} {f : Int → V} (q : Q (f j) H) : rU f (.int j) H Q := ⟨j, rfl, q⟩
/-- t + u, tuples -/
theorem addG_tup {es : List PyData} (h : Rep K H (.tuple ds) x) (h' : Rep K H (.tuple es) y) (hl : ds.length + es.length ≤ 1000) (q : ∀ H' z, Fr [] H H' → Rep K H' (.tuple (ds ++ es)) z → Q z H') : rAddG K x y H Q := by
  obtain ⟨a, vs, rfl, hs, hr⟩ := Rep.tup_iff.mp h
  obtain ⟨b, us, rfl, hs', hr'⟩ := Rep.tup_iff.mp h'
  refine .inr (.inl ⟨a, b, vs, us, rfl, rfl, .of hs, .of hs', ?_, fun e => ?_, fun _ e => ?_, fun _ _ p hp => ?_⟩)
  · rw [hr.length, hr'.length]; exact Nat.le_of_lt (small1000 hl)
  · subst e
    have e2 : ds = [] := List.length_eq_zero_iff.mp (by rw [← hr.length]; rfl)
    subst e2
    exact q _ _ (Fr.refl _ _) h'
  · subst e
    have e2 : es = [] := List.length_eq_zero_iff.mp (by rw [← hr'.length]; rfl)
    subst e2
    rw [List.append_nil] at q
    exact q _ _ (Fr.refl _ _) h
  · have f : Fr [] H (upd H p (.tup (vs ++ us))) := Fr.new hp
    exact q _ _ f (rep_tup upd_same ((hr.append hr').up f))
/-! lists -/
theorem lst_ty {a : Addr} {xs : List V} {q : Prop} (h : H a = some (.lst xs)) (w : q) : tyV K "list" (.ref a) H ∧ q := ⟨.inl ⟨rfl, xs, .inl (.inl h)⟩, w⟩
theorem append_q {a : Addr} {xs : List V} (h : H a = some (.lst xs)) (hl : xs.length < sizeLine) (q : ∀ H', Fr [a] H H' → H' a = some (.lst (xs ++ [y])) → Q .non H') : rAppend (.ref a) [y] H Q :=
  ⟨a, xs, y, rfl, rfl, h, hl, q _ (Fr.setL h) upd_same⟩
theorem pop_q {a : Addr} {xs : List V} (h : H a = some (.lst (xs ++ [y]))) (q : ∀ H', Fr [a] H H' → H' a = some (.lst xs) → Q y H') : rPop (.ref a) [] H Q := by
  refine ⟨a, xs ++ [y], y, rfl, rfl, h, by simp, ?_⟩
  have e : (xs ++ [y]).dropLast = xs := by simp
  exact q _ (Fr.setL h) (by rw [upd_same, e])
theorem ixL_q {a : Addr} {xs : List V} {j : Int} (h : SqL K H a xs) (e : xs[i]? = some v) (hj : j = ((i : Nat) : Int)) (q : Q v H) : rIxG K (.ref a) (.int j) H Q := by
  subst hj
  exact .inr (.inl ⟨a, xs, i, v, rfl, rfl, h, atI_nat e, q⟩)
theorem setL_q {a : Addr} {xs : List V} {j : Int} {k : Nat} {q : Hp → Prop} (h : H a = some (.lst xs)) (hj : j = ((k : Nat) : Int)) (hk : k < xs.length) (w : ∀ H', Fr [a] H H' → H' a = some (.lst (xs.set k v)) → q H') : rSetL (.ref a) (.int j) v H q ∨ rSetD (.ref a) (.int j) v H q := by
  subst hj
  refine .inl ⟨a, xs, _, k, rfl, rfl, h, ?_, w _ (Fr.setL h) upd_same⟩
  unfold ixN
  rw [if_pos (by omega), if_pos (by omega)]
  simp
theorem setL1_q {a : Addr} {xs : List V} {j : Int} {k : Nat} {q : Hp → Prop} (h : H a = some (.lst xs)) (hj : j = ((k : Nat) : Int)) (hk : k < xs.length) (w : ∀ H', Fr [a] H H' → H' a = some (.lst (xs.set k v)) → q H') : rSetL (.ref a) (.int j) v H q := by
  subst hj
  refine ⟨a, xs, _, k, rfl, rfl, h, ?_, w _ (Fr.setL h) upd_same⟩
  unfold ixN
  rw [if_pos (by omega), if_pos (by omega)]
  simp
theorem getL_q {a : Addr} {xs : List V} {j : Int} (h : SqL K H a xs) (e : xs[i]? = some v) (hj : j = ((i : Nat) : Int)) (q : Q v H) : rGetL K (.ref a) (.int j) H Q := by
  subst hj
  exact ⟨a, xs, i, v, rfl, rfl, h, e, q⟩
theorem ipI_int {j k : Int} {f : Int → Int → Int} (q : Q (.int (f j k)) H) : ipI f (.int j) (.int k) H Q := ⟨j, k, rfl, rfl, q⟩
theorem g_augs {to ti te : TE} {tget : V → V → Hp → VK → Prop} {tip : TIp} {tset : TSet} (h : to σ H fun o H1 => ti σ H1 fun j H2 => tget o j H2 fun x H3 => te σ H3 fun y H4 => tip x y H4 fun z H5 => tset o j z H5 fun H6 => n σ H6) : tAugS to ti te tget tip tset ⟨n, r, b, c⟩ σ H := h
theorem g_aug {te : TE} {ti : TIp} (e : σ[i]? = some (some x)) (h : te σ H fun y H1 => ti x y H1 fun z H2 => n (σ.set i (some z)) H2) : tAug i te ti ⟨n, r, b, c⟩ σ H := ⟨x, e, h⟩
/-! dicts -/
theorem g_dnew (q : ∀ H' p, Fr [] H H' → H p = none → H' p = some (.dK []) → Q (.ref p) H') : tDNewK σ H Q := fun p hp => q _ p (Fr.new hp) hp upd_same
theorem setD_q {a : Addr} {kvs : List (Key × V)} {k : Key} {q : Hp → Prop} (h : H a = some (.dK kvs)) (hx : x = kV k) (hl : kvs.length < 1000) (w : ∀ H', Fr [a] H H' → H' a = some (.dK (putK kvs k v)) → q H') : rSetL (.ref a) x v H q ∨ rSetD (.ref a) x v H q := by
  subst hx
  exact .inr ⟨a, _, rfl, DPut.k h (small1000 (Nat.le_of_lt hl)), w _ (Fr.setD h) upd_same⟩
theorem inD_q {a : Addr} {kvs : List (Key × V)} {k : Key} (h : H a = some (.dK kvs)) (hx : x = kV k) (q : Q (.bl (valV kvs k).isSome) H) : rInG K x (.ref a) H Q := by
  subst hx
  exact .inr (.inl ⟨a, _, rfl, DGet.k h, q⟩)
theorem notInD_q {a : Addr} {kvs : List (Key × V)} {k : Key} (h : H a = some (.dK kvs)) (hx : x = kV k) (q : Q (.bl (!(valV kvs k).isSome)) H) : rNotInG K x (.ref a) H Q := by
  subst hx
  exact .inr (.inl ⟨a, _, rfl, DGet.k h, q⟩)
theorem ixD_q {a : Addr} {kvs : List (Key × V)} {k : Key} (h : H a = some (.dK kvs)) (hx : x = kV k) (e : valV kvs k = some v) (q : Q v H) : rIxG K (.ref a) x H Q := by
  subst hx
  exact .inr (.inr (.inl ⟨a, v, rfl, by rw [← e]; exact DGet.k h, q⟩))
theorem dictOf_q {a : Addr} {kvs : List (Key × V)} (h : H a = some (.dK kvs)) (q : ∀ H' p, Fr [] H H' → H p = none → H' p = some (.dK kvs) → Q (.ref p) H') : rDictOf [.ref a] H Q :=
  ⟨a, kvs, rfl, .inl h, fun p hp => q _ p (Fr.new hp) hp upd_same⟩
theorem listD_q {a : Addr} {kvs : List (Key × V)} (h : H a = some (.dK kvs)) (q : ∀ H' p, Fr [] H H' → H p = none → H' p = some (.lst (kvs.map fun kv => kV kv.1)) → Q (.ref p) H') : rListG K [.ref a] H Q :=
  .inr ⟨a, kvs, rfl, .inl h, fun p hp => q _ p (Fr.new hp) hp upd_same⟩
theorem listT_q (h : Rep K H (.tuple ds) x) (q : ∀ H' p vs, Fr [] H H' → H p = none → H' p = some (.lst vs) → Reps K H' ds vs → Q (.ref p) H') : rListG K [x] H Q := by
  obtain ⟨a, vs, rfl, hs, hr⟩ := Rep.tup_iff.mp h
  exact .inl ⟨a, vs, rfl, .inr (.of hs), fun p hp => q _ p vs (Fr.new hp) hp upd_same (hr.up (Fr.new (o := .lst vs) hp))⟩
theorem listL_q {a : Addr} {xs : List V} (h : SqL K H a xs) (q : ∀ H' p, Fr [] H H' → H p = none → H' p = some (.lst xs) → Q (.ref p) H') : rListG K [.ref a] H Q :=
  .inl ⟨a, xs, rfl, .inl h, fun p hp => q _ p (Fr.new hp) hp upd_same⟩
theorem sortedD_q {a : Addr} {kvs : List (Key × V)} {ks : List Str} (h : H a = some (.dK kvs)) (e : kvs.map (·.1) = ks.map Sum.inr) (hl : ks.length < 64)
    (q : ∀ H' p ys, ys.Perm ks → sortedS ys = true → Fr [] H H' → H p = none → H' p = some (.lst (ys.map V.str)) → Q (.ref p) H') : rSortedG K [.ref a] H Q :=
  .inr ⟨a, kvs, ks, rfl, .inl h, e, hl, fun ys p h1 h2 hp => q _ p ys h1 h2 (Fr.new hp) hp upd_same⟩
theorem sortedL_q {a : Addr} {ks : List Str} (h : SqL K H a (ks.map V.str)) (hl : ks.length < 64)
    (q : ∀ H' p ys, ys.Perm ks → sortedS ys = true → Fr [] H H' → H p = none → H' p = some (.lst (ys.map V.str)) → Q (.ref p) H') : rSortedG K [.ref a] H Q :=
  .inl ⟨a, ks, rfl, h, hl, fun ys p h1 h2 hp => q _ p ys h1 h2 (Fr.new hp) hp upd_same⟩
theorem get2_q {td ty tx : TE} (h : td σ H fun x H1 => ∃ a, x = .ref a ∧ IsD H1 a ∧ ty σ H1 fun y H2 => tx σ H2 fun z H3 => ∃ o, DGet H3 a y o ∧ Q (o.getD z) H3) : tDGet2 td ty tx σ H Q := h
theorem clear_q {a : Addr} {kvs : List (Key × V)} (h : H a = some (.dK kvs)) (q : ∀ H', Fr [a] H H' → H' a = some (.dK []) → Q .non H') : rDClear (.ref a) [] H Q :=
  ⟨a, kvs, rfl, rfl, h, q _ (Fr.setD h) upd_same⟩
theorem neSame_q {a e : Addr} {kvs : List (Key × V)} (h : H a = some (.dK kvs)) (h' : H e = some (.dK kvs)) (hp : ∀ p ∈ kvs, valV kvs p.1 = some p.2 ∧ sameOk p.2) (q : Q (.bl false) H) : rNeG K (.ref a) (.ref e) H Q :=
  .inr (.inr ⟨a, e, kvs, rfl, rfl, h, h', hp, q⟩)
/-! isinstance of data -/
def tyD : PyData → String
  | .none => "NoneType" | .bool _ => "bool" | .int _ => "int" | .str _ => "str" | .tuple _ => "tuple" | .list _ => "list" | .dict _ => "dict"
theorem Rep.tyx {d : PyData} {x : V} (h : Rep K H d x) : TyX K H x (.type (tyD d)) := by
  cases d with
  | none => unfold Rep at h; subst h; exact .base .non
  | bool b => unfold Rep at h; subst h; exact .base (.bl b)
  | int b => unfold Rep at h; subst h; exact .base (.int b)
  | str b => unfold Rep at h; subst h; exact .base (.str b)
  | tuple ds =>
    obtain ⟨a, vs, rfl, hs, _⟩ := Rep.tup_iff.mp h
    exact .base (.tup hs)



  | list _ => unfold Rep at h; exact h.elim
  | dict _ => unfold Rep at h; exact h.elim
theorem isi_rep {T : String} {k : Bool} (h : Rep K H d x) (e : kitB (tyD d) T = some k) (q : Q (.bl k) H) : rIsi K [x, .ty T] H Q :=
  ⟨x, .ty T, .type (tyD d), .type T, k, rfl, .ty T, h.tyx, kit_ty e, q⟩
theorem reps_strs : ∀ (ys : List Str), Reps K H (ys.map .str) (ys.map V.str)
  | [] => reps_nil
  | y :: ys => reps_cons rep_str (reps_strs ys)
theorem reps_ints : ∀ (ys : List Int), Reps K H (ys.map .int) (ys.map V.int)
  | [] => reps_nil
  | y :: ys => reps_cons rep_int (reps_ints ys)
/-! unpacking -/
theorem gTup2_rep {d1 d2 : PyData} {j : Nat} {q : L2.St → Hp → Prop} (h : Rep K H (.tuple [d1, d2]) x) (w : ∀ v1 v2, Rep K H d1 v1 → Rep K H d2 v2 → q ((σ.set i (some v1)).set j (some v2)) H) : gTup K 2 (gCons (gName i) (gCons (gName j) gNil)) x σ H q := by
  obtain ⟨a, vs, rfl, hs, hr⟩ := Rep.tup_iff.mp h
  obtain ⟨v1, r1, rfl, h1, hr⟩ := Reps.cons_iff.mp hr
  obtain ⟨v2, r2, rfl, h2, hr⟩ := Reps.cons_iff.mp hr
  have : r2 = [] := by unfold Reps at hr; exact hr
  subst this
  exact ⟨a, _, rfl, .of hs, rfl, v1, _, rfl, v2, _, rfl, rfl, w v1 v2 h1 h2⟩
theorem gTup3_rep {d1 d2 d3 : PyData} {j k : Nat} {q : L2.St → Hp → Prop} (h : Rep K H (.tuple [d1, d2, d3]) x) (w : ∀ v1 v2 v3, Rep K H d1 v1 → Rep K H d2 v2 → Rep K H d3 v3 → q (((σ.set i (some v1)).set j (some v2)).set k (some v3)) H) : gTup K 3 (gCons (gName i) (gCons (gName j) (gCons (gName k) gNil))) x σ H q := by
  obtain ⟨a, vs, rfl, hs, hr⟩ := Rep.tup_iff.mp h
  obtain ⟨v1, r1, rfl, h1, hr⟩ := Reps.cons_iff.mp hr
  obtain ⟨v2, r2, rfl, h2, hr⟩ := Reps.cons_iff.mp hr
  obtain ⟨v3, r3, rfl, h3, hr⟩ := Reps.cons_iff.mp hr
  have : r3 = [] := by unfold Reps at hr; exact hr
  subst this
  exact ⟨a, _, rfl, .of hs, rfl, v1, _, rfl, v2, _, rfl, v3, _, rfl, rfl, w v1 v2 v3 h1 h2 h3⟩
theorem Reps.snoc (h : Reps K H (ds ++ [d]) vs) : ∃ us u, vs = us ++ [u] ∧ Reps K H ds us ∧ Rep K H d u := by
  induction ds generalizing vs with
  | nil =>
    obtain ⟨u, r, rfl, h1, h2⟩ := Reps.cons_iff.mp h
    have : r = [] := by unfold Reps at h2; exact h2
    subst this
    exact ⟨[], u, rfl, reps_nil, h1⟩
  | cons e es ih =>
    obtain ⟨u, r, rfl, h1, h2⟩ := Reps.cons_iff.mp h
    obtain ⟨us, z, rfl, h3, h4⟩ := ih h2
    exact ⟨u :: us, z, rfl, reps_cons h1 h3, h4⟩
theorem reps_one (h : Rep K H d x) : Reps K H [d] [x] := reps_cons h reps_nil
/-! slices of tuples -/
theorem cutV_from (xs : List V) (k : Nat) : cutV xs (some (k : Int)) none = xs.drop k := by
  unfold cutV
  rw [HT.sIx_nat, HT.sIx_none]
  by_cases h : k ≤ xs.length
  · rw [Nat.min_eq_left h]
    exact List.take_of_length_le (by rw [List.length_drop]; exact Nat.le_refl _)
  · rw [Nat.min_eq_right (by omega), List.drop_of_length_le (by omega), List.drop_of_length_le (by omega), List.take_nil]
theorem cutV_to (xs : List V) (k : Nat) : cutV xs none (some (k : Int)) = xs.take k := by
  unfold cutV
  rw [HT.sIx_nat, HT.sIx_none, List.drop_zero, Nat.sub_zero]
  by_cases h : k ≤ xs.length
  · rw [Nat.min_eq_left h]
  · rw [Nat.min_eq_right (by omega), List.take_of_length_le (by omega), List.take_of_length_le (by omega)]
theorem cutV_at (xs : List V) (j k : Nat) (h : j ≤ k) : cutV xs (some (j : Int)) (some (k : Int)) = (xs.take k).drop j := by
  unfold cutV
  rw [HT.sIx_nat, HT.sIx_nat, List.drop_take]
  by_cases h1 : j ≤ xs.length
  · rw [Nat.min_eq_left h1]
    by_cases h2 : k ≤ xs.length
    · rw [Nat.min_eq_left h2]
    · rw [Nat.min_eq_right (by omega), List.take_of_length_le (by rw [List.length_drop]; omega), List.take_of_length_le (by rw [List.length_drop]; omega)]
  · rw [Nat.min_eq_right (by omega), List.drop_of_length_le (by omega), List.drop_of_length_le (by omega), List.take_nil, List.take_nil]
theorem slT_gen {lo hi : Option Int} (h : Rep K H (.tuple ds) x) (es : List PyData) (he : ∀ {vs : List V} {H'}, Reps K H' ds vs → Reps K H' es (cutV vs lo hi)) (q : ∀ H' v, Fr [] H H' → Rep K H' (.tuple es) v → Q v H') : rSlG K x lo hi H Q := by
  obtain ⟨a, vs, rfl, hs, hr⟩ := Rep.tup_iff.mp h
  refine .inl ⟨a, vs, rfl, .of hs, fun z => q _ _ (Fr.refl _ _) (rep_tup hs ?_), fun _ p hp => ?_⟩
  · have e : cutV vs lo hi = vs := by
      unfold cutV
      rw [z.1, z.2, List.drop_zero, Nat.sub_zero, List.take_length]
    have := he hr
    rw [e] at this
    exact this
  · have f : Fr [] H (upd H p (.tup (cutV vs lo hi))) := Fr.new hp
    exact q _ _ f (rep_tup upd_same ((he hr).up f))
theorem slT_from {j : Int} {k : Nat} (h : Rep K H (.tuple ds) x) (hj : j = ((k : Nat) : Int)) (q : ∀ H' v, Fr [] H H' → Rep K H' (.tuple (ds.drop k)) v → Q v H') : rSlG K x (some j) none H Q := by
  subst hj
  exact slT_gen h (ds.drop k) (fun hr => by rw [cutV_from]; exact hr.drop k) q
theorem slT_to {j : Int} {k : Nat} (h : Rep K H (.tuple ds) x) (hj : j = ((k : Nat) : Int)) (q : ∀ H' v, Fr [] H H' → Rep K H' (.tuple (ds.take k)) v → Q v H') : rSlG K x none (some j) H Q := by
  subst hj
  exact slT_gen h (ds.take k) (fun hr => by rw [cutV_to]; exact hr.take k) q
theorem kitB_tuple : ∀ d : PyData, kitB (tyD d) "tuple" = some (tyD d == "tuple") := by
  intro d
  cases d <;> (simp only [tyD]; decide +kernel)
theorem get2D_q {a : Addr} {kvs : List (Key × V)} {k : Key} {y z : V} (h : H a = some (.dK kvs)) (hx : y = kV k) (q : Q ((valV kvs k).getD z) H) : ∃ o, DGet H a y o ∧ Q (o.getD z) H := by
  subst hx
  exact ⟨_, DGet.k h, q⟩
theorem isD_of {a : Addr} {kvs : List (Key × V)} (h : H a = some (.dK kvs)) : IsD H a := .inl ⟨kvs, .inl h⟩
/-! loops -/
/-- what is wanted of a while's body -/
def WB (W : Nat → L2.St → Hp → Prop) (m : Nat) (t : TS) (n : L2.St → Hp → Prop) (r : VK) (σ : L2.St) (H : Hp) : Prop :=
  ∃ N : L2.St → Hp → Prop, (∀ σ' H', N σ' H' → ∃ m', m' < m ∧ W m' σ' H') ∧ t ⟨N, r, n, N⟩ σ H
theorem wb_mk {W : Nat → L2.St → Hp → Prop} {m : Nat} (h : t ⟨fun σ' H' => ∃ m', m' < m ∧ W m' σ' H', r, n, fun σ' H' => ∃ m', m' < m ∧ W m' σ' H'⟩ σ H) : WB W m t n r σ H := ⟨_, fun _ _ z => z, h⟩
theorem g_while (W : Nat → L2.St → Hp → Prop) (m0 : Nat) (h0 : W m0 σ H)
    (step : ∀ m σ H, W m σ H → tt σ H fun k H1 => if k = true then WB W m t n r σ H1 else n σ H1) : tWhile tt t ⟨n, r, b, c⟩ σ H := ⟨W, ⟨m0, h0⟩, step⟩
/-- what is wanted of a for's turns -/
def ForQ (J : It) (g : TG) (t : TS) (n : L2.St → Hp → Prop) (r : VK) (σ : L2.St) (H1 : Hp) : Prop :=
  ∃ W : Nat → Nat → L2.St → Hp → Prop, (∃ m, W 0 m σ H1) ∧ ∀ i m σ H, W i m σ H →
    (J.stop i H ∧ n σ H) ∨ (J.go i H ∧ ∃ N : L2.St → Hp → Prop, (∀ σ' H', N σ' H' → ∃ m', m' < m ∧ W (i + 1) m' σ' H') ∧ ∀ x H', J.yld i H x H' → g x σ H' fun σ2 H2 => t ⟨N, r, n, N⟩ σ2 H2)
/-- one turn -/
abbrev Turn1 (g : TG) (t : TS) (n : L2.St → Hp → Prop) (r : VK) (N : L2.St → Hp → Prop) (x : V) (σ : L2.St) (H : Hp) : Prop := g x σ H fun σ2 H2 => t ⟨N, r, n, N⟩ σ2 H2
def ForT (K : PySem.W.Frag) (g : TG) (t : TS) (n : L2.St → Hp → Prop) (r : VK) (σ : L2.St) : VK := fun x H1 => ∃ a, x = .ref a ∧ (∃ xs, SqT K H1 a xs) ∧ ForQ (Itt K a) g t n r σ H1
def ForL (K : PySem.W.Frag) (g : TG) (t : TS) (n : L2.St → Hp → Prop) (r : VK) (σ : L2.St) : VK := fun x H1 => ∃ a, x = .ref a ∧ (∃ xs, SqL K H1 a xs) ∧ ForQ (Itl K a) g t n r σ H1
def ForR1 (g : TG) (t : TS) (n : L2.St → Hp → Prop) (r : VK) (σ : L2.St) : List V → Hp → Prop := fun vs H1 => ∃ j : Int, vs = [.int j] ∧ -(2 ^ 62) ≤ j ∧ j < 2 ^ 62 ∧ ForQ (Itr 0 j.toNat) g t n r σ H1
theorem g_forT (h : te σ H (ForT K g t n r σ)) : tFor (fun σ H R => iList K te σ H R ∨ iTup K te σ H R) g t ⟨n, r, b, c⟩ σ H := .inr h
theorem g_forL (h : te σ H (ForL K g t n r σ)) : tFor (fun σ H R => iList K te σ H R ∨ iTup K te σ H R) g t ⟨n, r, b, c⟩ σ H := .inl h
theorem g_forR1 {ta : TA} (h : ta σ H (ForR1 g t n r σ)) : tFor (iRng1 ta) g t ⟨n, r, b, c⟩ σ H := h
theorem forT_rep (h : Rep K H (.tuple ds) x) (Pv : Nat → L2.St → Hp → Prop) (h0 : Pv 0 σ H) (hl : ∀ i σ H', Pv i σ H' → ∃ l, Fr l H H')
    (step : ∀ i d x σ H, ds[i]? = some d → Rep K H d x → Pv i σ H → Turn1 g t n r (Pv (i + 1)) x σ H) (hd : ∀ σ H, Pv ds.length σ H → n σ H) : ForT K g t n r σ x H := by
  obtain ⟨a, vs, rfl, hs, hr⟩ := Rep.tup_iff.mp h
  refine ⟨a, rfl, ⟨vs, .of hs⟩, for_tup (D := ⟨n, r, fun _ _ => False, fun _ _ => False⟩) Pv h0 (fun i σ H' _ p => ?_) (fun i x σ H' e p => ?_) (fun σ H' p => hd σ H' (by rw [← hr.length]; exact p))⟩
  · obtain ⟨l, f⟩ := hl i σ H' p
    exact f.sqT (.of hs)
  · obtain ⟨l, f⟩ := hl i σ H' p
    obtain ⟨d, ed, rd⟩ := hr.get' e
    exact step i d x σ H' ed (rd.up f) p
theorem forL_q {a : Addr} {xs : List V} (hs : SqL K H a xs) (Pv : Nat → L2.St → Hp → Prop) (h0 : Pv 0 σ H) (hl : ∀ i σ H, Pv i σ H → SqL K H a xs)
    (step : ∀ i x σ H, xs[i]? = some x → Pv i σ H → Turn1 g t n r (Pv (i + 1)) x σ H) (hd : ∀ σ H, Pv xs.length σ H → n σ H) : ForL K g t n r σ (.ref a) H :=
  ⟨a, rfl, ⟨xs, hs⟩, for_list (D := ⟨n, r, fun _ _ => False, fun _ _ => False⟩) Pv h0 (fun i σ H' _ p => hl i σ H' p) (fun i x σ H' e p => step i x σ H' e p) hd⟩
theorem forR1_q {k : Nat} {j : Int} (hj : j = ((k : Nat) : Int)) (hk : k < 1000000000) (Pv : Nat → L2.St → Hp → Prop) (h0 : Pv 0 σ H)
    (step : ∀ (i : Nat) σ H, i < k → Pv i σ H → Turn1 g t n r (Pv (i + 1)) (.int i) σ H) (hd : ∀ σ H, Pv k σ H → n σ H) : ForR1 g t n r σ [.int j] H := by
  subst hj
  refine ⟨_, rfl, by omega, by omega, for_range (D := ⟨n, r, fun _ _ => False, fun _ _ => False⟩) Pv h0 (fun i σ H' e p => ?_) (fun σ H' p => hd σ H' (by simpa using p))⟩
  rw [Int.zero_add]
  exact step i σ H' (by simpa using e) p
/-! comprehensions -/
def LcQ (J : It) (g : TG) (tt : TT) (te : TE) (vs : List Nat) (σ : L2.St) (Q : VK) (H1 : Hp) : Prop :=
  ∀ D, H1 D = none → ∃ W : Nat → Nat → Hp → Prop, (∃ m, W 0 m (upd H1 D (.lst []))) ∧ ∀ i m H, W i m H →
  (J.stop i H ∧ Q (.ref D) H) ∨ (J.go i H ∧ ∃ Nx : Hp → Prop, (∀ H', Nx H' → ∃ m', m' < m ∧ W (i + 1) m' H') ∧ ∀ x H', J.yld i H x H' → g x (wipe σ vs) H' fun σ2 H2 => wipe σ2 vs = wipe σ vs ∧ tt σ2 H2 fun b H3 =>
    if b = true then te σ2 H3 fun y H4 => ∃ acc, H4 D = some (.lst acc) ∧ acc.length < sizeLine ∧ Nx (upd H4 D (.lst (acc ++ [y]))) else Nx H3)
def LcT (K : PySem.W.Frag) (g : TG) (tt : TT) (te : TE) (vs : List Nat) (σ : L2.St) (Q : VK) : VK := fun x H1 => ∃ a, x = .ref a ∧ (∃ xs, SqT K H1 a xs) ∧ LcQ (Itt K a) g tt te vs σ Q H1
def LcL (K : PySem.W.Frag) (g : TG) (tt : TT) (te : TE) (vs : List Nat) (σ : L2.St) (Q : VK) : VK := fun x H1 => ∃ a, x = .ref a ∧ (∃ xs, SqL K H1 a xs) ∧ LcQ (Itl K a) g tt te vs σ Q H1
def LcR1 (g : TG) (tt : TT) (te : TE) (vs : List Nat) (σ : L2.St) (Q : VK) : List V → Hp → Prop := fun ws H1 => ∃ j : Int, ws = [.int j] ∧ -(2 ^ 62) ≤ j ∧ j < 2 ^ 62 ∧ LcQ (Itr 0 j.toNat) g tt te vs σ Q H1
theorem g_lcT {vs : List Nat} (h : ta σ H (LcT K g tt te vs σ Q)) : tLc (fun σ H R => iList K ta σ H R ∨ iTup K ta σ H R) g tt te vs σ H Q := .inr h
theorem g_lcL {vs : List Nat} (h : ta σ H (LcL K g tt te vs σ Q)) : tLc (fun σ H R => iList K ta σ H R ∨ iTup K ta σ H R) g tt te vs σ H Q := .inl h
theorem g_lcR1 {ts : TA} {vs : List Nat} (h : ts σ H (LcR1 g tt te vs σ Q)) : tLc (iRng1 ts) g tt te vs σ H Q := h
/-- a turn of a comprehension: the item's place, the test, the new element y, the list at D -/
abbrev Elt1 (g : TG) (tt : TT) (te : TE) (vs : List Nat) (σ : L2.St) (D : Addr) (P1 : Hp → Prop) (x : V) (H : Hp) : Prop :=
  g x (wipe σ vs) H fun σ2 H2 => wipe σ2 vs = wipe σ vs ∧ tt σ2 H2 fun b H3 => if b = true then te σ2 H3 fun y H4 => ∃ acc, H4 D = some (.lst acc) ∧ acc.length < sizeLine ∧ P1 (upd H4 D (.lst (acc ++ [y]))) else P1 H3
theorem lcT_rep {vs : List Nat} (h : Rep K H (.tuple ds) x) (Pv : Addr → Nat → Hp → Prop) (h0 : ∀ D, H D = none → Pv D 0 (upd H D (.lst []))) (hl : ∀ D i H', H D = none → Pv D i H' → ∃ l, Fr l H H')
    (step : ∀ D i d x H', H D = none → ds[i]? = some d → Rep K H' d x → Pv D i H' → Elt1 g tt te vs σ D (Pv D (i + 1)) x H') (hd : ∀ D H', H D = none → Pv D ds.length H' → Q (.ref D) H') : LcT K g tt te vs σ Q x H := by
  obtain ⟨a, us, rfl, hs, hr⟩ := Rep.tup_iff.mp h
  refine ⟨a, rfl, ⟨us, .of hs⟩, fun D nD => lc_tup (Pv D) (h0 D nD) (fun i H' _ p => ?_) (fun i x H' e p => ?_) (fun H' p => hd D H' nD (by rw [← hr.length]; exact p))⟩
  · obtain ⟨l, f⟩ := hl D i H' nD p
    exact f.sqT (.of hs)
  · obtain ⟨l, f⟩ := hl D i H' nD p
    obtain ⟨d, ed, rd⟩ := hr.get' e
    exact step D i d x H' nD ed (rd.up f) p
theorem lcL_q {vs : List Nat} {a : Addr} {xs : List V} (hs : SqL K H a xs) (Pv : Addr → Nat → Hp → Prop) (h0 : ∀ D, H D = none → Pv D 0 (upd H D (.lst []))) (hl : ∀ D i H', H D = none → Pv D i H' → SqL K H' a xs)
    (step : ∀ D i x H', H D = none → xs[i]? = some x → Pv D i H' → Elt1 g tt te vs σ D (Pv D (i + 1)) x H') (hd : ∀ D H', H D = none → Pv D xs.length H' → Q (.ref D) H') : LcL K g tt te vs σ Q (.ref a) H :=
  ⟨a, rfl, ⟨xs, hs⟩, fun D nD => lc_list (Pv D) (h0 D nD) (fun i H' _ p => hl D i H' nD p) (fun i x H' e p => step D i x H' nD e p) (fun H' p => hd D H' nD p)⟩
theorem lcR1_q {vs : List Nat} {k : Nat} {j : Int} (hj : j = ((k : Nat) : Int)) (hk : k < 1000000000) (Pv : Addr → Nat → Hp → Prop) (h0 : ∀ D, H D = none → Pv D 0 (upd H D (.lst [])))
    (step : ∀ D (i : Nat) H', H D = none → i < k → Pv D i H' → Elt1 g tt te vs σ D (Pv D (i + 1)) (.int i) H') (hd : ∀ D H', H D = none → Pv D k H' → Q (.ref D) H') : LcR1 g tt te vs σ Q [.int j] H := by
  subst hj
  refine ⟨_, rfl, by omega, by omega, fun D nD => lc_range (lo := 0) (n := ((k : Nat) : Int).toNat) (Pv D) (h0 D nD) (fun i H' e p => ?_) (fun H' p => hd D H' nD (by simpa using p))⟩
  rw [Int.zero_add]
  exact step D i H' nD (by simpa using e) p
end

/-! ### the law's draws -/
/-- the state of the draws at a: its numbers at c -/
def DrawOk (H : Hp) (a c : Addr) : Prop := ∃ (ns : List Int) (p : Nat) (f s : Int), H a = some (.lst [.ref c, .int p, .int f, .int s, .int 3]) ∧ H c = some (.lst (ns.map V.int)) ∧ c ≠ a
def spDraw : Sp := fun vs H Q _ => ∃ (a c : Addr) (m : Nat), vs = [.ref a, .int m] ∧ DrawOk H a c ∧ 0 < m ∧ m < 1000000000 ∧ ∀ H' (k : Nat), Fr [a] H H' → DrawOk H' a c → k < m → Q (.int k) H'
def spBegin (K : PySem.W.Frag) : Sp := fun vs H Q _ => ∃ (s : Addr) (ns : List Int), vs = [.ref s] ∧ SqL K H s (ns.map V.int) ∧ ns.length ≤ 63 ∧ ∀ H' a c, Fr [] H H' → H a = none → H c = none → DrawOk H' a c → Q (.ref a) H'
def spPick (K : PySem.W.Frag) : Sp := fun vs H Q _ => ∃ (a c l : Addr) (xs : List V), vs = [.ref a, .ref l] ∧ DrawOk H a c ∧ SqL K H l xs ∧ l ≠ a ∧ 0 < xs.length ∧ xs.length < 1000000 ∧ ∀ H' (i : Nat) (v : V), Fr [a] H H' → DrawOk H' a c → xs[i]? = some v → Q v H'
theorem dok_as {H : Hp} {a c : Addr} (h : DrawOk H a c) : DrawOk H a c := h
theorem DrawOk.fr {H H' : Hp} {a c : Addr} {l : List Addr} (h : DrawOk H a c) (f : Fr l H H') (ha : a ∉ l) (hc : c ∉ l) : DrawOk H' a c := by
  obtain ⟨ns, p, f1, s, h1, h2, h3⟩ := h
  exact ⟨ns, p, f1, s, f.keep _ _ h1 ha, f.keep _ _ h2 hc, h3⟩
theorem DrawOk.fr0 {H H' : Hp} {a c : Addr} (h : DrawOk H a c) (f : Fr [] H H') : DrawOk H' a c := h.fr f (by simp) (by simp)
theorem DrawOk.fr1 {H H' : Hp} {a c d : Addr} (h : DrawOk H a c) (f : Fr [d] H H') (ha : d ≠ a) (hc : d ≠ c) : DrawOk H' a c := h.fr f (by simp [Ne.symm ha]) (by simp [Ne.symm hc])
theorem DrawOk.neL {H : Hp} {a c b : Addr} (h : DrawOk H a c) (e : H b = none) : b ≠ a := by
  obtain ⟨ns, p, f1, s, h1, _⟩ := h
  exact (ne_of_none h1 e).symm
theorem DrawOk.neC {H : Hp} {a c b : Addr} (h : DrawOk H a c) (e : H b = none) : b ≠ c := by
  obtain ⟨ns, p, f1, s, _, h1, _⟩ := h
  exact (ne_of_none h1 e).symm
theorem draw_q {H : Hp} {Q : VK} {E : XK} {a c : Addr} {j : Int} (h : DrawOk H a c) (m0 : 0 < j) (m1 : j < 1000000000) (q : ∀ H' (k : Nat), Fr [a] H H' → DrawOk H' a c → (k : Int) < j → Q (.int k) H') : spDraw [.ref a, .int j] H Q E :=
  ⟨a, c, j.toNat, by rw [Int.toNat_of_nonneg (by omega)], h, by omega, by omega, fun H' k f d e => q H' k f d (by omega)⟩
theorem pick_q {K : PySem.W.Frag} {H : Hp} {Q : VK} {E : XK} {a c l : Addr} {xs : List V} (h : DrawOk H a c) (hl : SqL K H l xs) (hne : l ≠ a) (h0 : 0 < xs.length) (h1 : xs.length < 1000000) (q : ∀ H' (i : Nat) (v : V), Fr [a] H H' → DrawOk H' a c → xs[i]? = some v → Q v H') : spPick K [.ref a, .ref l] H Q E :=
  ⟨a, c, l, xs, rfl, h, hl, hne, h0, h1, q⟩
theorem draw_mod (i : Int) (m : Nat) (h : 0 < m) : ∃ k : Nat, i % (m : Int) = (k : Int) ∧ k < m := by
  have h1 : (0 : Int) < (m : Int) := by omega
  have h2 := Int.emod_nonneg i (Int.ne_of_gt h1)
  have h3 := Int.emod_lt_of_pos i h1
  exact ⟨(i % (m : Int)).toNat, by omega, by omega⟩

/-! ### the rules with the written part named -/
section
variable {X : Cx} {K : PySem.W.Frag}
theorem ix_GK (hK : X.K = K) (hu : X.A.units + 1 < cLine) : IxR X (rIxG K) := by subst hK; exact ix_G hu
theorem op_eqGK (hK : X.K = K) (hu : X.A.units + 64 < cLine) : OpR X (compareOp .Eq) (rEqG K) := by subst hK; exact op_eqG hu
theorem op_neGK (hK : X.K = K) (hu : X.A.units + 64 < cLine) : OpR X (compareOp .NotEq) (rNeG K) := by subst hK; exact op_neG hu
theorem op_inGK (hK : X.K = K) (hu : X.A.units + 1 < cLine) : OpR X (compareOp .In) (rInG K) := by subst hK; exact op_inG hu
theorem op_notInGK (hK : X.K = K) (hu : X.A.units + 1 < cLine) : OpR X (compareOp .NotIn) (rNotInG K) := by subst hK; exact op_notInG hu
theorem op_addGK (hK : X.K = K) : OpR X (binaryOp .Add) (rAddG K) := by subst hK; exact op_addG
theorem call_lenGK (hK : X.K = K) : CallR X (.builtin "len") (rLenG K) := by subst hK; exact call_lenG
theorem call_listGK (hK : X.K = K) (hc : X.calm = true) : CallR X (.type "list") (rListG K) := by subst hK; exact call_listG hc
theorem call_sortedGK (hK : X.K = K) (hc : X.calm = true) : CallR X (.builtin "sorted") (rSortedG K) := by subst hK; exact call_sortedG hc
theorem call_tupGK (hK : X.K = K) : CallR X (.type "tuple") (rTupOf K) := by subst hK; exact call_tupG
theorem call_isiGK (hK : X.K = K) : CallR X (.builtin "isinstance") (rIsi K) := by subst hK; exact call_isi
theorem sl_GK (hK : X.K = K) : SlR X (rSlG K) := by subst hK; exact sl_G
theorem pi_seqK {tg e : Expr} {te : TE} (hK : X.K = K) (h : PE X e te) : PI X tg e (fun σ H R => iList K te σ H R ∨ iTup K te σ H R) := by subst hK; exact pi_seq h
theorem pg_tupK {es : List Expr} {k : Nat} {t : TGs} {n : Nat} {pos : Pos} (hK : X.K = K) (hc : X.calm = true) (h : PGs X es t)
    (hn : (assignEach es X.env).length = n := by rfl) (hst : (assignEach es X.env).findIdx? (·.1) = none := by rfl) : PG X (.Tuple es k pos) (gTup K n t) := by subst hK; exact pg_tup hc h hn hst
end
end AN

/-! AN: sorting and ordering of tuple data; dicts keyed by tuples. -/
namespace AN
open PySem PySem.Spec PyProof.Rows L2
open PySem.W (dataLt dataLe alike alikeAll keyToks keyToksAll AllAlike Sortable EachIs)
section
variable {X : Cx} {pins : List (Addr × Obj)} {σ : L2.St} {H : Hp} {s : Shared}
mutual
theorem Rep.reads (I : Inv X pins σ H s) : ∀ (d : PyData) (x : V) (v : Value), Rep X.K H d x → RelV x v → Reads s.heap v d []
  | .none, x, v, h, r => by unfold Rep at h; subst h; cases (show v = Value.none from r); exact .none
  | .bool b, x, v, h, r => by unfold Rep at h; subst h; cases (show v = Value.bool b from r); exact .bool _
  | .int i, x, v, h, r => by unfold Rep at h; subst h; obtain ⟨t, rfl⟩ := r; exact .int _ _
  | .str i, x, v, h, r => by unfold Rep at h; subst h; obtain ⟨t, rfl⟩ := r; exact .str _ _
  | .tuple ds, x, v, h, r => by
    unfold Rep at h
    obtain ⟨a, vs, e, q, rs⟩ := h
    subst e
    cases (show v = Value.ref a from r)
    obtain ⟨its, rv, ⟨o, ho, hc, n, hd⟩, _⟩ := I.tuple (.of q)
    exact .tuple ho hc hd (by simpa using Reps.reads I ds vs its rs rv)
  | .list _, x, v, h, r => by unfold Rep at h; exact h.elim
  | .dict _, x, v, h, r => by unfold Rep at h; exact h.elim
theorem Reps.reads (I : Inv X pins σ H s) : ∀ (ds : List PyData) (xs : List V) (vs : List Value), Reps X.K H ds xs → Vals xs vs → ReadsAll s.heap vs ds []
  | [], xs, vs, h, r => by unfold Reps at h; subst h; cases r; exact .nil
  | d :: ds, xs, vs, h, r => by
    unfold Reps at h
    obtain ⟨x, ys, e, h1, h2⟩ := h
    subst e
    cases r with
    | cons r1 r2 => exact .cons (as := []) (bs := []) (Rep.reads I d x _ h1 r1) (Reps.reads I ds ys _ h2 r2)
end
theorem each_of_reps {K : PySem.W.Frag} : ∀ {ds : List PyData} {xs : List V} {vs : List Value}, Reps K H ds xs → Vals xs vs → EachIs (fun v d => ∃ x, RelV x v ∧ Rep K H d x) vs ds
  | [], xs, vs, h, r => by unfold Reps at h; subst h; cases r; exact .nil
  | d :: ds, xs, vs, h, r => by
    unfold Reps at h
    obtain ⟨x, ys, e, h1, h2⟩ := h
    subst e
    cases r with
    | cons r1 r2 => exact .cons ⟨x, r1, h1⟩ (each_of_reps h2 r2)
theorem reps_of_each {K : PySem.W.Frag} : ∀ {ds : List PyData} {vs : List Value}, EachIs (fun v d => ∃ x, RelV x v ∧ Rep K H d x) vs ds → ∃ xs, Vals xs vs ∧ Reps K H ds xs
  | _, _, .nil => ⟨[], .nil, reps_nil⟩
  | _, _, .cons ⟨x, r, h⟩ t => by
    obtain ⟨xs, r2, h2⟩ := reps_of_each t
    exact ⟨x :: xs, .cons r r2, reps_cons h h2⟩

/-! ### the order of data -/
/-- in order, by their places -/
def Asc (ds : List PyData) : Prop := ds.Pairwise fun a b => dataLt b a = false
theorem asc_merge (ds : List PyData) : Asc (ds.mergeSort (dataLe false id)) := by
  have T := PySem.W.sortLe_total (listOrd itemOrd) false fun b : PyData => keyToks b
  have h := List.pairwise_mergeSort (le := dataLe false (id : PyData → PyData)) (fun a b c h1 h2 => T.trans a b c h1 h2) (fun a b => (Bool.or_eq_true _ _).mpr (T.total a b)) ds
  exact h.imp fun {a b} hab => by
    have q : (!dataLt b a) = true := hab
    simpa using q
def deep : Nat := 40
/-- sorted(xs) of a list of tuple data -/
def rSortedRep (K : PySem.W.Frag) : List V → Hp → VK → Prop := fun vs H Q => ∃ (a : Addr) (xs : List V) (ds : List PyData), vs = [.ref a] ∧ SqL K H a xs ∧ Reps K H ds xs ∧ AllAlike ds ∧ Sortable ds ∧ (∀ d ∈ ds, d.depth ≤ 40) ∧
  ∀ H' p ys es, es.Perm ds → Asc es → AN.Fr [] H H' → H p = none → H' p = some (.lst ys) → Reps K H' es ys → Q (.ref p) H'
theorem cr_sortedRep (hu : X.A.units + 64 < cLine) : CallR X (.builtin "sorted") (rSortedRep X.K) := by
  intro pins s σ H vs us Q I r h
  obtain ⟨a, xs, ds, rfl, hs, hr, h1, h2, h3, q⟩ := h
  obtain ⟨its, rv, hl, hz⟩ := I.list hs
  obtain ⟨u, rfl, ru⟩ := vals1 r
  obtain rfl : u = Value.ref a := ru
  have hlen : ds.length = its.length := by rw [← hr.length, rv.length]
  refine PySem.W.sorted_data (enc := id) (bs := ds) (vs := its) (R := fun v d => ∃ x, RelV x v ∧ Rep X.K H d x) hl.isList (each_of_reps hr rv) ?_ (by simpa using h1) (by simpa using h2) (by rw [hlen, ← rv.length]; exact hz) (fun b hb => by have := h3 b hb; simp only [id]; omega) fun out ho he => ?_
  · have e := each_of_reps hr rv
    exact e.mono fun v d ⟨x, r, hx⟩ => ⟨[], Rep.reads I d x v hx r⟩
  · obtain ⟨ys, ry, hy⟩ := reps_of_each he
    obtain ⟨c, hc⟩ := sortedAll_at s.heap its out.toArray
    have hyl : ys.length ≤ sizeLine := by rw [ry.length, ho, hlen, ← rv.length]; exact hz
    have hn : H (s.heap.objs.size + 1) = none := I.hok.fresh (Nat.le_succ _)
    refine ⟨.ref (s.heap.objs.size + 1), upd H (s.heap.objs.size + 1) (.lst ys), I.laid (t' := s.toks) (fun b o e => sortedAll_old e) (Nat.le_succ _) ⟨hyl, out, c, ry, hc⟩, rfl, ?_⟩
    exact q _ _ ys _ (List.mergeSort_perm ds _) (asc_merge ds) (AN.Fr.new hn) hn upd_same (hy.up (AN.Fr.new hn))
/-- d < e -/
def rLtRep (K : PySem.W.Frag) : R2 := fun x y H Q => ∃ d e, Rep K H d x ∧ Rep K H e y ∧ alike d e = true ∧ d ≠ .none ∧ d.depth ≤ 40 ∧ Q (.bl (dataLt d e)) H
theorem op_ltRep (hu : X.A.units + 64 < cLine) : OpR X (compareOp .Lt) (rLtRep X.K) := by
  intro pins s σ H x y u v Q I rx ry h
  obtain ⟨d, e, h1, h2, h3, h4, h5, q⟩ := h
  exact PySem.W.lt_data (Rep.reads I d x u h1 rx) (Rep.reads I e y v h2 ry) h3 h4 (by omega) ⟨.bl (dataLt d e), H, I, rfl, q⟩

/-! ### sorted of whatever can be collected -/
theorem collect_tup {prog : Program} {w : World} {A : Around} {E : Value → Shared → Prop} {s : Shared} {l : Addr} {vs : List Value} {Q : List Value → Shared → Prop} (hl : IsTup s.heap l vs.toArray)
    (h : ∀ h', (∀ b o, s.heap.get? b = some o → h'.get? b = some o) → Q vs { s with heap := h' }) (hsz : vs.length ≤ sizeLine) :
    wpAny (model prog w) A (collect (.ref l)) Q E s := by
  obtain ⟨o, ho, hc, n, hd⟩ := id hl
  unfold collect
  refine wpAny_bind (wpAny_runValue (codeAny_builtin entry_proto_collect' ?_))
  show wpAny _ _ (do again (.builtin "list.__iadd__" ⟨[← newList [], .ref l], []⟩)) _ _ s
  refine wpAny_bind (wpAny_newList (wpAny_pure ⟨Code.quiet_builtin _ (by decide +kernel), codeAny_builtin entry_list_iadd' ?_⟩))
  show wpAny _ _ (Builtin.List.listExtendWith (.ref s.heap.objs.size) (.ref l) (.ref s.heap.objs.size)) _ _ { s with heap := s.heap.push (seqObj "list" #[] 0) }
  unfold Builtin.List.listExtendWith
  have ho' : (s.heap.push (seqObj "list" #[] 0)).get? l = some o := Heap.get?_push_of_some _ ho
  refine wpAny_bind (wpAny_typeOf (T := "tuple") ⟨o, ho', hc⟩ ?_)
  have ht : (Value.type "tuple" == Value.type "tuple") = true := by rfl
  rw [if_pos (by rw [ht]; simp)]
  refine wpAny_bind (listItems_at ho' hd ?_)
  refine wpAny_bind (listItems_at (xs := #[]) (n := 0) (Heap.get?_push_size _ rfl) rfl ?_)
  rw [if_neg (by simp)]
  refine wpAny_bind (listUpdate_at (xs := #[]) (n := 0) (Heap.get?_push_size _ rfl) rfl ?_ (Nat.zero_le _) (by show (#[] ++ vs.toArray).size ≤ sizeLine + 1; simp only [Array.size_append, List.size_toArray, List.length_nil]; omega))
  refine wpAny_pure ?_
  show wpAny (model prog w) A (do
      let o ← load s.heap.objs.size
      match o.data with
      | .seq xs _ => pure xs.toList
      | _ => unsupported "internal:collect") Q E { s with heap := (s.heap.push (seqObj "list" #[] 0)).update s.heap.objs.size (Obj.mapSeq (· ++ vs.toArray)) }
  refine wpAny_bind (wpAny_load (get?_update_seq (Heap.get?_push_size _ rfl) _) ?_)
  show wpAny _ _ (pure ((#[] : Array Value) ++ vs.toArray).toList) Q E _
  rw [show ((#[] : Array Value) ++ vs.toArray).toList = vs by simp]
  refine wpAny_pure (h _ fun b o' e => ?_)
  rw [Heap.get?_update_ne _ _ _ _ (Nat.ne_of_lt (Heap.lt_size e))]
  exact Heap.get?_push_of_some _ e
/-- what sorted promises of data -/
def SortP (K : PySem.W.Frag) (ds : List PyData) (H : Hp) (Q : VK) : Prop := AllAlike ds ∧ Sortable ds ∧ (∀ d ∈ ds, d.depth ≤ 40) ∧ ds.length ≤ sizeLine ∧
  ∀ H' p ys es, es.Perm ds → Asc es → AN.Fr [] H H' → H p = none → H' p = some (.lst ys) → Reps K H' es ys → Q (.ref p) H'
theorem sorted_from (I : Inv X pins σ H s) (hu : X.A.units + 64 < cLine) (u : Value) {ds : List PyData} {Q : VK} (hp : SortP X.K ds H Q)
    (hcol : ∀ R : List Value → Shared → Prop, (∀ h' tk vs, (∀ b o, s.heap.get? b = some o → h'.get? b = some o) → EachIs (fun v d => ∃ x, RelV x v ∧ Rep X.K H d x) vs ds → R vs { s with heap := h', toks := tk }) → wpAny (model X.prog X.w) X.A.in1 (collect u) R X.xe s) :
    wpAny (model X.prog X.w) X.A (call (.builtin "sorted") [u]) (EP X pins σ Q) X.xe s := by
  obtain ⟨h1, h2, h3, hz, q⟩ := hp
  refine Calls.call_function_entry PyProof.Rows.kind_sorted PyProof.Rows.plain_sorted PyProof.Rows.entry_sorted (PyProof.Rows.args_sorted1 _) ?_
  unfold Builtin.«sorted»
  refine wpAny_bind (m := checkCount "sorted" 1 1 _) (wpAny_pure ?_)
  refine wpAny_bind (hcol _ fun h' tk vs hk he => ?_)
  have hl : vs.length = ds.length := he.length
  have I1 : Inv X pins σ H { s with heap := h', toks := tk } := I.kept hk
  refine wpAny_bind (wpAny_newList ?_ (by rw [hl]; exact hz))
  have hoL : (h'.push (seqObj "list" vs.toArray 0)).get? h'.objs.size = some (seqObj "list" vs.toArray 0) := Heap.get?_push_size _ rfl
  show wpAny _ _ _ _ _ { s with heap := h'.push (seqObj "list" vs.toArray 0), toks := tk }
  have I2 : Inv X pins σ H { s with heap := h'.push (seqObj "list" vs.toArray 0), toks := tk } := I1.kept (t' := tk) fun b o e => Heap.get?_push_of_some _ e
  refine wpAny_bind (wpAny_holding (PySem.W.list_sort_data (s := { s with heap := h'.push (seqObj "list" vs.toArray 0), toks := tk }) (enc := id) (bs := ds) (R := fun v d => ∃ x, RelV x v ∧ Rep X.K H d x) hoL he ?_ (by simpa using h1) (by simpa using h2) (by rw [← hl]; omega) (fun b hb => ?_) fun out ho hs => ?_))
  · exact he.mono fun v d ⟨x, r, hx⟩ => ⟨[], Rep.reads I2 d x v hx r, by simp⟩
  · have := h3 b hb
    show X.A.in1.units + 1 + b.depth < cLine
    have e : X.A.in1.units = X.A.units + 1 := rfl
    omega
  · obtain ⟨ys, ry, hy⟩ := reps_of_each hs
    obtain ⟨c, hc⟩ := PyProof.Rows.sortedHeap_at (vs := vs) (out := out.toArray) hoL
    have hyl : ys.length ≤ sizeLine := by rw [ry.length, ho]; omega
    have hn : H h'.objs.size = none := I1.hok.fresh (Nat.le_refl _)
    refine wpAny_pure ⟨_, rfl, .ref h'.objs.size, upd H h'.objs.size (.lst ys), I1.laid (t' := tk) (fun b o e => ?_) (Nat.le_refl _) ⟨hyl, out, c, ry, hc⟩, rfl, ?_⟩
    · have hb : b < h'.objs.size := Heap.lt_size e
      rw [PyProof.Rows.sortedHeap_old (Nat.ne_of_lt hb) (by rw [size_push']; exact Nat.lt_succ_of_lt hb)]
      exact Heap.get?_push_of_some _ e
    · exact q _ _ ys _ (List.mergeSort_perm ds _) (asc_merge ds) (AN.Fr.new hn) hn upd_same (hy.up (AN.Fr.new hn))
/-- a key's part -/
def kD : L2.Key → PyData
  | .inl i => .int i
  | .inr x => .str x
theorem reps_keys {K : PySem.W.Frag} {H : Hp} : ∀ ks : List L2.Key, Reps K H (ks.map kD) (ks.map kV)
  | [] => reps_nil
  | .inl i :: ks => reps_cons rep_int (reps_keys ks)
  | .inr x :: ks => reps_cons rep_str (reps_keys ks)
def rSortTup (K : PySem.W.Frag) : List V → Hp → VK → Prop := fun vs H Q => ∃ x ds, vs = [x] ∧ Rep K H (.tuple ds) x ∧ SortP K ds H Q
theorem cr_sortTup (hu : X.A.units + 64 < cLine) : CallR X (.builtin "sorted") (rSortTup X.K) := by
  intro pins s σ H vs us Q I r h
  obtain ⟨x, ds, rfl, hx, hp⟩ := h
  obtain ⟨a, xs, rfl, hs, hr⟩ := Rep.tup_iff.mp hx
  obtain ⟨u, rfl, ru⟩ := vals1 r
  obtain rfl : u = Value.ref a := ru
  obtain ⟨its, rv, hl, hz⟩ := I.tuple (.of hs)
  exact sorted_from I hu _ hp fun R hR => collect_tup hl (fun h' k => hR h' s.toks its k (each_of_reps hr rv)) (by rw [← rv.length]; exact hz)
def rSortDT (K : PySem.W.Frag) : List V → Hp → VK → Prop := fun vs H Q => ∃ (a : Addr) (kvs : List (List L2.Key × V)), vs = [.ref a] ∧ Rd H a (.dT kvs) ∧ SortP K (kvs.map fun p => .tuple (p.1.map kD)) H Q
theorem each_acc {H : Hp} {K : PySem.W.Frag} : ∀ {kvs : List (List L2.Key × V)} {xs : List (List L2.Key × Addr × Value)}, KT H kvs xs → EachIs (fun v d => ∃ x, RelV x v ∧ Rep K H d x) (xs.map fun x => Value.ref x.2.1) (kvs.map fun p => PyData.tuple (p.1.map kD))
  | _, _, .nil => .nil
  | _, _, .cons h t => .cons ⟨.ref _, rfl, rep_tup h.2.1 (reps_keys _)⟩ (each_acc t)
theorem cr_sortDT (hc : X.calm = true) (hu : X.A.units + 64 < cLine) : CallR X (.builtin "sorted") (rSortDT X.K) := by
  intro pins s σ H vs us Q I r h
  obtain ⟨a, kvs, rfl, hx, hp⟩ := h
  obtain ⟨u, rfl, ru⟩ := vals1 r
  obtain rfl : u = Value.ref a := ru
  obtain ⟨z, lo, xs, rel, dd⟩ := dt_rd I.hok hx
  obtain ⟨o, es, ep, ho, hex, hdat, hes, _, _⟩ := id dd
  have raw : s.heap.DictRaw a es ep := ⟨o, ho, hex, hdat⟩
  have hsz : es.size = xs.length := by rw [← Array.length_toList, hes, List.length_map]
  have hkl : kvs.length = xs.length := rel.length
  refine sorted_from I hu _ hp fun R hR => PySem.W.kdu_collect (PySem.KdlSrc.rawDict (es := es) (ep := ep) lo) (I.ok.hd hc) raw (by rw [hsz, ← hkl]; exact z) fun h' tk acc hk hacc => ?_
  have e : acc.toList = xs.map fun x => Value.ref x.2.1 := by
    apply List.ext_getElem?
    intro i
    rw [List.getElem?_map, Array.getElem?_toList]
    by_cases hi : i < es.size
    · have h1 : i < acc.size := by rw [hacc.1]; exact hi
      rw [Array.getElem?_eq_getElem h1]
      obtain ⟨hi', ev⟩ := hacc.2 i acc[i] (Array.getElem?_eq_getElem h1)
      have h3 : es.toList[i]? = some es[i] := by rw [Array.getElem?_toList]; exact Array.getElem?_eq_getElem hi
      rw [hes, List.getElem?_map] at h3
      obtain ⟨y, hy, ey⟩ := Option.map_eq_some_iff.mp h3
      rw [hy, ev, ← ey]
      rfl
    · rw [Array.getElem?_eq_none (by rw [hacc.1]; omega), List.getElem?_eq_none (by rw [← hsz]; omega)]
      rfl
  rw [e]
  exact hR h' tk _ hk (each_acc rel)
end

/-! ### plain data: whole numbers, texts, None, tuples -/
mutual
def pl : PyData → Bool
  | .none => true
  | .int _ => true
  | .str x => PyData.strOk x
  | .tuple ds => pls ds
  | _ => false
def pls : List PyData → Bool
  | [] => true
  | d :: ds => pl d && pls ds
end
theorem pls_all : ∀ {ds : List PyData}, pls ds = true ↔ ∀ d ∈ ds, pl d = true
  | [] => by simp [pls]
  | d :: ds => by simp [pls, pls_all (ds := ds)]
mutual
theorem eqv_pl : ∀ d e : PyData, pl d = true → pl e = true → (PyData.eqv d e = true ↔ d = e)
  | .none, e, _, h => by cases e <;> simp_all [PyData.eqv, pl]
  | .int i, e, _, h => by cases e <;> simp_all [PyData.eqv, pl]
  | .str i, e, _, h => by cases e <;> simp_all [PyData.eqv, pl]
  | .tuple ds, e, h0, h => by
    cases e with
    | tuple es =>
      simp only [pl] at h0 h
      simp only [PyData.eqv, PyData.tuple.injEq]
      exact eqvAll_pl ds es h0 h
    | _ => simp_all [PyData.eqv, pl]
  | .bool _, _, h, _ => by simp [pl] at h
  | .list _, _, h, _ => by simp [pl] at h
  | .dict _, _, h, _ => by simp [pl] at h
theorem eqvAll_pl : ∀ ds es : List PyData, pls ds = true → pls es = true → (PyData.eqvAll ds es = true ↔ ds = es)
  | [], [], _, _ => by simp [PyData.eqvAll]
  | [], _ :: _, _, _ => by simp [PyData.eqvAll]
  | _ :: _, [], _, _ => by simp [PyData.eqvAll]
  | d :: ds, e :: es, h1, h2 => by
    simp only [pls, Bool.and_eq_true] at h1 h2
    simp only [PyData.eqvAll, Bool.and_eq_true, eqv_pl d e h1.1 h2.1, eqvAll_pl ds es h1.2 h2.2, List.cons.injEq]
end
theorem any_pl {ds : List PyData} {d : PyData} (h : pls ds = true) (h' : pl d = true) : (ds.any fun z => PyData.eqv z d) = true ↔ d ∈ ds := by
  rw [List.any_eq_true]
  constructor
  · rintro ⟨z, hz, e⟩
    rw [eqv_pl z d (pls_all.mp h z hz) h'] at e
    rw [← e]; exact hz
  · exact fun hd => ⟨d, hd, (eqv_pl d d h' h').mpr rfl⟩
mutual
theorem lay_pl : ∀ d : PyData, pl d = true → d.canLay0 = true
  | .none, _ => by simp [PyData.canLay0]
  | .int i, _ => by simp [PyData.canLay0]
  | .str i, h => by simpa [PyData.canLay0, pl] using h
  | .tuple ds, h => by
    simp only [pl] at h
    simp only [PyData.canLay0]
    exact layAll_pl ds h
  | .bool _, h => by simp [pl] at h
  | .list _, h => by simp [pl] at h
  | .dict _, h => by simp [pl] at h
theorem layAll_pl : ∀ ds : List PyData, pls ds = true → PyData.canLayAll0 ds = true
  | [], _ => by simp [PyData.canLayAll0]
  | d :: ds, h => by
    simp only [pls, Bool.and_eq_true] at h
    simp only [PyData.canLayAll0, lay_pl d h.1, layAll_pl ds h.2, Bool.and_self]
end
/-- plain, and not too deep -/
def Okd (d : PyData) : Prop := pl d = true ∧ d.depth ≤ 40
def Okds (ds : List PyData) : Prop := pls ds = true ∧ PyData.depthAll ds ≤ 39
theorem depthAll_le {n : Nat} : ∀ {ds : List PyData}, PyData.depthAll ds ≤ n ↔ ∀ d ∈ ds, d.depth ≤ n
  | [] => by simp [PyData.depthAll]
  | d :: ds => by
    have := depthAll_le (n := n) (ds := ds)
    simp only [PyData.depthAll, List.mem_cons, forall_eq_or_imp, Nat.max_le, this]
theorem Okds.tup {ds : List PyData} (h : Okds ds) : Okd (.tuple ds) := ⟨by simpa [pl] using h.1, by have := h.2; simp only [PyData.depth]; omega⟩
theorem Okd.all {ds : List PyData} (h : Okd (.tuple ds)) : Okds ds := ⟨by simpa [pl] using h.1, by have := h.2; simp only [PyData.depth] at this; omega⟩
theorem Okds.mem {ds : List PyData} {d : PyData} (h : Okds ds) (hd : d ∈ ds) : Okd d := ⟨pls_all.mp h.1 d hd, Nat.le_trans (depthAll_le.mp h.2 d hd) (by omega)⟩
theorem Okd.shaped {d : PyData} (h : Okd d) : SeqAt.shaped d = true := by
  unfold SeqAt.shaped
  rw [lay_pl d h.1, decide_eq_true (Nat.le_trans h.2 (by omega))]
  rfl
theorem Okds.shapedL {ds : List PyData} (h : Okds ds) : SeqAt.shaped (.list ds) = true := by
  unfold SeqAt.shaped
  have h2 := h.2
  rw [show PyData.canLay0 (.list ds) = true from by simp only [PyData.canLay0]; exact layAll_pl ds h.1, decide_eq_true (show PyData.depth (.list ds) ≤ 64 by simp only [PyData.depth]; omega)]
  rfl
/-- a row of data: a list or a tuple -/
def RowOf (K : PySem.W.Frag) (H : Hp) (y : V) (ds : List PyData) : Prop := Rep K H (.tuple ds) y ∨ ∃ a xs, y = .ref a ∧ SqL K H a xs ∧ Reps K H ds xs
def rInX (K : PySem.W.Frag) : R2 := fun x y H Q => ∃ d ds, Rep K H d x ∧ RowOf K H y ds ∧ Okd d ∧ Okds ds ∧ Q (.bl (ds.any fun z => PyData.eqv z d)) H
def rNotInX (K : PySem.W.Frag) : R2 := fun x y H Q => ∃ d ds, Rep K H d x ∧ RowOf K H y ds ∧ Okd d ∧ Okds ds ∧ Q (.bl (!ds.any fun z => PyData.eqv z d)) H
def rEqX (K : PySem.W.Frag) : R2 := fun x y H Q => ∃ d e, Rep K H d x ∧ Rep K H e y ∧ Okd d ∧ Okd e ∧ Q (.bl (PyData.eqv d e)) H
section
variable {X : Cx}
theorem op_inX (hu : X.A.units + 65 < cLine) : OpR X (compareOp .In) (rInX X.K) := by
  intro pins s σ H x y v u Q I rx ry h
  obtain ⟨d, ds, hd, he, sd, se, q⟩ := h
  have r1 := Rep.reads I d x v hd rx
  have room : X.A.units + 1 + min (PyData.depthAll ds) d.depth < cLine := by have := sd.2; omega
  rcases he with he | ⟨a, xs, rfl, hs, hr⟩
  · exact SeqAt.in_tuple_reads (Rep.reads I (.tuple ds) y u he ry) r1 (layAll_pl ds se.1) (lay_pl d sd.1) room ⟨.bl _, H, I, rfl, q⟩
  · obtain ⟨bs, r2⟩ := Dp.reads I (.list ds) _ u (.lst hs (Reps.dp ds xs hr)) ry
    exact SeqAt.in_list_reads r2 r1 (layAll_pl ds se.1) (lay_pl d sd.1) room ⟨.bl _, H, I, rfl, q⟩
theorem op_notInX (hu : X.A.units + 65 < cLine) : OpR X (compareOp .NotIn) (rNotInX X.K) := by
  intro pins s σ H x y v u Q I rx ry h
  obtain ⟨d, ds, hd, he, sd, se, q⟩ := h
  have r1 := Rep.reads I d x v hd rx
  have room : X.A.units + 1 + min (PyData.depthAll ds) d.depth < cLine := by have := sd.2; omega
  rcases he with he | ⟨a, xs, rfl, hs, hr⟩
  · exact SeqAt.notIn_tuple_reads (Rep.reads I (.tuple ds) y u he ry) r1 (layAll_pl ds se.1) (lay_pl d sd.1) room ⟨.bl _, H, I, rfl, q⟩
  · obtain ⟨bs, r2⟩ := Dp.reads I (.list ds) _ u (.lst hs (Reps.dp ds xs hr)) ry
    exact SeqAt.notIn_list_reads r2 r1 (layAll_pl ds se.1) (lay_pl d sd.1) room ⟨.bl _, H, I, rfl, q⟩
/-- l.index(d), d there -/
def rIndexX (K : PySem.W.Frag) : V → List V → Hp → VK → Prop := fun x vs H Q => ∃ (a : Addr) (xs : List V) (ds : List PyData) (y : V) (d : PyData) (j : Nat), x = .ref a ∧ vs = [y] ∧ SqL K H a xs ∧ Reps K H ds xs ∧ Rep K H d y ∧ Okd d ∧ Okds ds ∧
  ds[j]? = some d ∧ (∀ m, m < j → ds[m]? ≠ some d) ∧ Q (.int (j : Nat)) H
theorem mt_indexX (hu : X.A.units + 65 < cLine) : MtR X "list.index" (rIndexX X.K) := by
  intro pins s σ H x vs v us Q I rx rxs h
  obtain ⟨a, xs, ds, y, d, j, rfl, rfl, hs, hr, hd, sd, se, hj, hn, q⟩ := h
  refine mt_indexD hu pins s σ H _ _ v us Q I rx rxs ⟨a, y, d, ds, j, d, rfl, rfl, .lst hs (Reps.dp ds xs hr), Rep.dp d y hd, se.shapedL, sd.shaped, hj, (eqv_pl d d sd.1 sd.1).mpr rfl, fun m z hm hz => ?_, q⟩
  have hz1 := pls_all.mp se.1 z (List.mem_of_getElem? hz)
  cases e : PyData.eqv z d with
  | false => rfl
  | true => rw [eqv_pl z d hz1 sd.1] at e; exact absurd (by rw [hz, e]) (hn m hm)
end

/-! ### the rules by "or", second row -/
theorem _root_.L2.Room.u65 {k : Nat} {A : Around} (r : Room k A) : A.units + 65 < cLine := by have := r.un; omega
def rIn2 (K : PySem.W.Frag) : R2 := fun x y H Q => rInG K x y H Q ∨ rInX K x y H Q
def rNotIn2 (K : PySem.W.Frag) : R2 := fun x y H Q => rNotInG K x y H Q ∨ rNotInX K x y H Q
def rLt2 (K : PySem.W.Frag) : R2 := fun x y H Q => rI0 (fun i j => .bl (decide (i < j))) x y H Q ∨ rLtRep K x y H Q
def rSorted2 (K : PySem.W.Frag) : List V → Hp → VK → Prop := fun vs H Q => rSortedG K vs H Q ∨ rSortedRep K vs H Q ∨ rSortTup K vs H Q ∨ rSortDT K vs H Q
section
variable {X : Cx} {K : PySem.W.Frag}
theorem op_in2K (hK : X.K = K) (hu : X.A.units + 65 < cLine) : OpR X (compareOp .In) (rIn2 K) := by subst hK; exact (op_inG (by omega)).or (op_inX hu)
theorem op_notIn2K (hK : X.K = K) (hu : X.A.units + 65 < cLine) : OpR X (compareOp .NotIn) (rNotIn2 K) := by subst hK; exact (op_notInG (by omega)).or (op_notInX hu)
theorem op_lt2K (hK : X.K = K) (hu : X.A.units + 65 < cLine) : OpR X (compareOp .Lt) (rLt2 K) := by subst hK; exact op_lt.or (op_ltRep (by omega))
theorem call_sorted2K (hK : X.K = K) (hc : X.calm = true) (hu : X.A.units + 65 < cLine) : CallR X (.builtin "sorted") (rSorted2 K) := by
  subst hK; exact (call_sortedG hc).or ((cr_sortedRep (by omega)).or ((cr_sortTup (by omega)).or (cr_sortDT hc (by omega))))
theorem mt_indexK (hK : X.K = K) (hu : X.A.units + 65 < cLine) : MtR X "list.index" (rIndexX K) := by subst hK; exact mt_indexX hu
end
section
variable {K : PySem.W.Frag} {H : Hp} {Q : VK} {x y : V} {d e : PyData} {ds : List PyData}
theorem inX_q (h : Rep K H d x) (r : RowOf K H y ds) (o : Okd d) (os : Okds ds) (q : Q (.bl (ds.any fun z => PyData.eqv z d)) H) : rIn2 K x y H Q := .inr ⟨d, ds, h, r, o, os, q⟩
theorem notInX_q (h : Rep K H d x) (r : RowOf K H y ds) (o : Okd d) (os : Okds ds) (q : Q (.bl (!ds.any fun z => PyData.eqv z d)) H) : rNotIn2 K x y H Q := .inr ⟨d, ds, h, r, o, os, q⟩
theorem eqX_q (h : Rep K H d x) (r : Rep K H e y) (o : Okd d) (os : Okd e) (q : Q (.bl (PyData.eqv d e)) H) : rEqG K x y H Q := eqG_rep h r o.shaped os.shaped q
theorem ltX_q (h : Rep K H d x) (r : Rep K H e y) (a : alike d e = true) (n : d ≠ .none) (o : Okd d) (q : Q (.bl (dataLt d e)) H) : rLt2 K x y H Q := .inr ⟨d, e, h, r, a, n, o.2, q⟩
end

/-! ### dicts told by what their values stand for -/
section
variable {κ κ' α : Type} [DecidableEq κ] [DecidableEq κ']
def aget (r : List (κ × α)) (k : κ) : Option α := (r.find? fun e => decide (e.1 = k)).map (·.2)
def aput (r : List (κ × α)) (k : κ) (y : α) : List (κ × α) := if (r.any fun e => decide (e.1 = k)) = true then r.map (fun e => if e.1 = k then (e.1, y) else e) else r ++ [(k, y)]
def adrop (r : List (κ × α)) (k : κ) : List (κ × α) := r.filter fun e => decide (e.1 ≠ k)
theorem aget_cons (p : κ × α) (r : List (κ × α)) (k : κ) : aget (p :: r) k = if p.1 = k then some p.2 else aget r k := by
  by_cases h : p.1 = k <;> simp [aget, List.find?_cons, h]
theorem aget_nil (k : κ) : aget ([] : List (κ × α)) k = none := rfl
theorem any_aget (k : κ) : ∀ r : List (κ × α), (r.any fun e => decide (e.1 = k)) = (aget r k).isSome
  | [] => rfl
  | p :: r => by
    rw [List.any_cons, aget_cons, any_aget k r]
    by_cases h : p.1 = k <;> simp [h]
theorem aget_some {r : List (κ × α)} {k : κ} {c : α} (h : aget r k = some c) : (k, c) ∈ r := by
  obtain ⟨p, hp, rfl⟩ := Option.map_eq_some_iff.mp h
  have e := List.find?_some hp
  have m := List.mem_of_find?_eq_some hp
  simp only [decide_eq_true_eq] at e
  rw [← e]; exact m
theorem aget_isSome {r : List (κ × α)} {k : κ} : (aget r k).isSome = true ↔ k ∈ r.map (·.1) := by
  rw [← any_aget]
  simp [List.any_eq_true]
theorem aget_of_mem : ∀ {r : List (κ × α)} {k : κ} {c : α}, (r.map (·.1)).Nodup → (k, c) ∈ r → aget r k = some c
  | [], _, _, _, h => by cases h
  | p :: r, k, c, n, h => by
    rw [List.map_cons, List.nodup_cons] at n
    rw [aget_cons]
    rcases List.mem_cons.mp h with e | h
    · rw [← e]; simp
    · have : p.1 ≠ k := fun e => n.1 (by rw [e]; exact List.mem_map.mpr ⟨_, h, rfl⟩)
      rw [if_neg this]; exact aget_of_mem n.2 h
theorem aget_map (k j : κ) (y : α) : ∀ r : List (κ × α), aget (r.map fun e => if e.1 = k then (e.1, y) else e) j = (aget r j).map fun x => if j = k then y else x
  | [] => rfl
  | p :: r => by
    rw [List.map_cons, aget_cons, aget_cons, aget_map k j y r]
    by_cases h1 : p.1 = k <;> by_cases h2 : p.1 = j
    · have : j = k := by rw [← h1, ← h2]
      simp [h1, h2, this]
    · have : ¬ k = j := fun e => h2 (by rw [h1, e])
      simp [h1, this]
    · have : ¬ j = k := fun e => h1 (by rw [h2, e])
      simp [h1, h2, this]
    · simp [h1, h2]
theorem aget_app (j : κ) : ∀ (r s : List (κ × α)), aget (r ++ s) j = (aget r j).or (aget s j)
  | [], s => by simp [aget_nil]
  | p :: r, s => by
    rw [List.cons_append, aget_cons, aget_cons, aget_app j r s]
    by_cases h : p.1 = j <;> simp [h]
theorem aget_put (r : List (κ × α)) (k j : κ) (y : α) : aget (aput r k y) j = if j = k then some y else aget r j := by
  unfold aput
  rw [any_aget]
  by_cases h : (aget r k).isSome = true
  · rw [if_pos h, aget_map]
    by_cases e : j = k
    · subst e
      obtain ⟨c, hc⟩ := Option.isSome_iff_exists.mp h
      simp [hc]
    · simp [e]
  · rw [if_neg h, aget_app, aget_cons, aget_nil]
    by_cases e : j = k
    · subst e
      have : aget r j = none := by simpa using h
      simp [this]
    · have : ¬ k = j := fun z => e z.symm
      simp [e, this]
theorem aget_drop (r : List (κ × α)) (k j : κ) : aget (adrop r k) j = if j = k then none else aget r j := by
  unfold adrop
  induction r with
  | nil => simp [aget_nil]
  | cons p r ih =>
    rw [List.filter_cons, aget_cons]
    by_cases h1 : p.1 = k
    · by_cases h2 : j = k
      · simp_all
      · have : ¬ p.1 = j := fun e => h2 (by rw [← e, h1])
        simp_all
    · by_cases h2 : p.1 = j
      · have : ¬ j = k := fun e => h1 (by rw [h2, e])
        simp_all [aget_cons]
      · simp_all [aget_cons]
theorem aput_keys (r : List (κ × α)) (k : κ) (y : α) : (aput r k y).map (·.1) = if k ∈ r.map (·.1) then r.map (·.1) else r.map (·.1) ++ [k] := by
  unfold aput
  rw [any_aget]
  by_cases h : (aget r k).isSome = true
  · rw [if_pos h, if_pos (aget_isSome.mp h), List.map_map]
    refine List.map_congr_left fun e _ => ?_
    simp only [Function.comp]
    split <;> rfl
  · rw [if_neg h, if_neg fun z => h (aget_isSome.mpr z)]
    simp
theorem aput_nodup {r : List (κ × α)} (h : (r.map (·.1)).Nodup) (k : κ) (y : α) : ((aput r k y).map (·.1)).Nodup := by
  rw [aput_keys]
  split
  · exact h
  · rename_i hn
    exact List.nodup_append.mpr ⟨h, by simp, fun a ha b hb e => by
      rw [List.mem_singleton] at hb
      subst hb e
      exact hn ha⟩
theorem adrop_nodup {r : List (κ × α)} (h : (r.map (·.1)).Nodup) (k : κ) : ((adrop r k).map (·.1)).Nodup := h.sublist (List.filter_sublist.map _)
theorem aput_len (r : List (κ × α)) (k : κ) (y : α) : (aput r k y).length ≤ r.length + 1 := by
  unfold aput
  split <;> simp
theorem aput_mem {r : List (κ × α)} {k : κ} {y : α} {p : κ × α} (h : p ∈ aput r k y) : p = (k, y) ∨ p ∈ r := by
  unfold aput at h
  split at h
  · obtain ⟨e, he, rfl⟩ := List.mem_map.mp h
    split
    · rename_i q; left; rw [q]
    · exact .inr he
  · rcases List.mem_append.mp h with h | h
    · exact .inr h
    · left; simpa using h
/-- the dict's entries kvs stand for r -/
def DR (f : κ' → κ) (R : α → V → Prop) (r : List (κ' × α)) (kvs : List (κ × V)) : Prop := Paired (fun (p : κ' × α) (q : κ × V) => q.1 = f p.1 ∧ R p.2 q.2) r kvs
variable {f : κ' → κ} {R R' : α → V → Prop} {r : List (κ' × α)} {kvs : List (κ × V)}
theorem DR.nil : DR f R ([] : List (κ' × α)) [] := Paired.nil
theorem DR.length (h : DR f R r kvs) : r.length = kvs.length := Paired.length h
theorem DR.imp (h : DR f R r kvs) (i : ∀ a v, R a v → R' a v) : DR f R' r kvs := Paired.mapP h fun _ _ z => ⟨z.1, i _ _ z.2⟩
theorem DR.keys (h : DR f R r kvs) : kvs.map (·.1) = r.map fun p => f p.1 := by
  induction h with
  | nil => rfl
  | cons p t ih => rw [List.map_cons, List.map_cons, ih, p.1]
theorem DR.get (inj : ∀ a b, f a = f b → a = b) (h : DR f R r kvs) (k : κ') : (aget r k = none ∧ valV kvs (f k) = none) ∨ ∃ c v, aget r k = some c ∧ valV kvs (f k) = some v ∧ R c v := by
  induction h with
  | nil => exact .inl ⟨rfl, rfl⟩
  | @cons p q ps qs hq t ih =>
    rw [aget_cons]
    by_cases e : p.1 = k
    · exact .inr ⟨p.2, q.2, if_pos e, valV_pos (by rw [hq.1, e]), hq.2⟩
    · rw [if_neg e, valV_neg (fun z => e (inj _ _ (by rw [← hq.1, z])))]
      exact ih
theorem DR.isSome (inj : ∀ a b, f a = f b → a = b) (h : DR f R r kvs) (k : κ') : (valV kvs (f k)).isSome = (aget r k).isSome := by
  rcases h.get inj k with ⟨e1, e2⟩ | ⟨c, v, e1, e2, _⟩ <;> rw [e1, e2] <;> rfl
theorem paired_app {β γ : Type} {F : β → γ → Prop} : ∀ {l : List β} {m : List γ} {l' : List β} {m' : List γ}, Paired F l m → Paired F l' m' → Paired F (l ++ l') (m ++ m')
  | _, _, _, _, .nil, h => h
  | _, _, _, _, .cons p t, h => .cons p (paired_app t h)
theorem DR.put (inj : ∀ a b, f a = f b → a = b) (h : DR f R r kvs) (k : κ') {c : α} {v : V} (hv : R c v) : DR f R (aput r k c) (putK kvs (f k) v) := by
  have e : (kvs.any fun kv => decide (kv.1 = f k)) = (r.any fun e => decide (e.1 = k)) := by rw [valV_any, any_aget, h.isSome inj]
  unfold aput putK
  rw [e]
  split
  · have go : ∀ {r : List (κ' × α)} {kvs : List (κ × V)}, DR f R r kvs → DR f R (r.map fun e => if e.1 = k then (e.1, c) else e) (kvs.map fun kv => if kv.1 = f k then (kv.1, v) else kv) := by
      intro r kvs h
      induction h with
      | nil => exact .nil
      | @cons p q ps qs hq t ih =>
        rw [List.map_cons, List.map_cons]
        refine .cons ?_ ih
        by_cases z : p.1 = k
        · rw [if_pos z, if_pos (by rw [hq.1, z])]
          exact ⟨hq.1, hv⟩
        · rw [if_neg z, if_neg fun y => z (inj _ _ (by rw [← hq.1, y]))]
          exact hq
    exact go h
  · exact paired_app h (.cons ⟨rfl, hv⟩ .nil)
theorem DR.drop (inj : ∀ a b, f a = f b → a = b) (h : DR f R r kvs) (k : κ') : DR f R (adrop r k) (dropK kvs (f k)) := by
  unfold adrop dropK
  induction h with
  | nil => exact .nil
  | @cons p q ps qs hq t ih =>
    rw [List.filter_cons, List.filter_cons]
    by_cases z : p.1 = k
    · rw [if_neg (by simpa using z), if_neg (by simp only [ne_eq, decide_not, Bool.not_eq_true', decide_eq_false_iff_not, Classical.not_not]; rw [hq.1, z])]
      exact ih
    · rw [if_pos (by simpa using z), if_pos (by simp only [ne_eq, decide_not, Bool.not_eq_true', decide_eq_false_iff_not]; exact fun y => z (inj _ _ (by rw [← hq.1, y])))]
      exact .cons hq ih
theorem DR.at {i : Nat} {k : κ'} {c : α} (h : DR f R r kvs) (e : r[i]? = some (k, c)) : ∃ v, kvs[i]? = some (f k, v) ∧ R c v := by
  induction h generalizing i with
  | nil => simp at e
  | @cons p q ps qs hq t ih =>
    cases i with
    | zero =>
      simp only [List.getElem?_cons_zero, Option.some.injEq] at e
      subst e
      exact ⟨q.2, by simp only [List.getElem?_cons_zero]; rw [← hq.1], hq.2⟩
    | succ i => simpa using ih (by simpa using e)
end

/-! ### a walk of a dict's keys; the dict is locked while it lasts -/
section
variable {K : PySem.W.Frag} {H H' : Hp} {σ : L2.St} {d a : Addr} {n b c : L2.St → Hp → Prop} {r : VK} {g : TG} {t : TS} {l : List Addr}
theorem _root_.AN.Fr.lock {kvs : List (L2.Key × V)} {o : Obj} (h : H d = some (.dK kvs)) : AN.Fr [d] H (upd H d (.frz o (.dK kvs))) := AN.Fr.setD h
theorem _root_.AN.Fr.unlock {kvs : List (L2.Key × V)} {o : Obj} (h : H d = some (.dK kvs)) (f : AN.Fr l (upd H d (.frz o (.dK kvs))) H') : AN.Fr l H (upd H' d (.dK kvs)) := by
  refine ⟨fun b u e nb => ?_, fun a xs e => ?_, fun a xs e => ?_⟩
  · by_cases z : b = d
    · subst z
      rw [h] at e
      cases e
      exact upd_same
    · rw [upd_ne z]
      exact f.keep b u (by rw [upd_ne z]; exact e) nb
  · have z : a ≠ d := fun z => by
      subst z
      rw [h] at e
      cases e
    rw [upd_ne z]
    exact f.tups a xs (by rw [upd_ne z]; exact e)
  · have z : a ≠ d := fun z => by
      subst z
      rcases e with e | ⟨o', e⟩ <;> rw [h] at e <;> cases e
    have e1 : Rd (upd H d (.frz o (.dK kvs))) a (.tup xs) := by
      rcases e with e | ⟨o', e⟩
      · exact .inl (by rw [upd_ne z]; exact e)
      · exact .inr ⟨o', by rw [upd_ne z]; exact e⟩
    rcases f.rdt a xs e1 with e | ⟨o', e⟩
    · exact .inl (by rw [upd_ne z]; exact e)
    · exact .inr ⟨o', by rw [upd_ne z]; exact e⟩
theorem forK_q {i : Nat} {kvs : List (L2.Key × V)} (e : σ[i]? = some (some (.ref d))) (h : H d = some (.dK kvs)) (Pv : Obj → Nat → L2.St → Hp → Prop) (h0 : ∀ o, Pv o 0 σ (upd H d (.frz o (.dK kvs))))
    (hl : ∀ o j σ' H', Pv o j σ' H' → H' d = some (.frz o (.dK kvs)))
    (step : ∀ o j k v σ' H', kvs[j]? = some (k, v) → Pv o j σ' H' → g (kV k) σ' H' fun σ2 H2 => t ⟨Pv o (j + 1), fun v H3 => H3 d = some (.frz o (.dK kvs)) ∧ r v (upd H3 d (.dK kvs)), fun σ3 H3 => H3 d = some (.frz o (.dK kvs)) ∧ n σ3 (upd H3 d (.dK kvs)), Pv o (j + 1)⟩ σ2 H2)
    (fin : ∀ o σ' H', Pv o kvs.length σ' H' → n σ' (upd H' d (.dK kvs))) : tLock (tFor (iKeys (tVar i)) g t) ⟨n, r, b, c⟩ σ H := by
  refine ⟨d, .dK kvs, h, trivial, fun od => ?_⟩
  refine ⟨.ref d, e, d, od, rfl, .inl ⟨kvs, upd_same, ?_⟩⟩
  refine ⟨fun j m σ' H' => Pv od j σ' H' ∧ j + m = kvs.length, ⟨kvs.length, h0 od, by omega⟩, fun j m σ' H' ⟨p, em⟩ => ?_⟩
  have hf := hl od j σ' H' p
  by_cases hj : j < kvs.length
  · refine .inr ⟨⟨hf, hj⟩, Pv od (j + 1), fun σ2 H2 p2 => ⟨m - 1, by omega, p2, by omega⟩, fun x H2 y => ?_⟩
    obtain ⟨rfl, k, v, ek, rfl⟩ := y
    exact step od j k v σ' _ ek p
  · have ej : j = kvs.length := by omega
    subst ej
    exact .inl ⟨⟨hf, Nat.le_refl _⟩, hf, fin od σ' H' p⟩
/-! ### dicts with texts as keys, and data -/
variable {α : Type} {toD : α → PyData} {rr : List (Str × α)}
theorem inr_inj : ∀ a b : Str, (Sum.inr a : L2.Key) = Sum.inr b → a = b := fun _ _ h => Sum.inr.inj h
/-- to be read -/
def DIs (K : PySem.W.Frag) (H : Hp) (toD : α → PyData) (a : Addr) (rr : List (Str × α)) : Prop := ∃ kvs, Rd H a (.dK kvs) ∧ DR (Sum.inr : Str → L2.Key) (fun c v => Rep K H (toD c) v) rr kvs
/-- to be written, too -/
def DW (K : PySem.W.Frag) (H : Hp) (toD : α → PyData) (a : Addr) (rr : List (Str × α)) : Prop := ∃ kvs, H a = some (.dK kvs) ∧ DR (Sum.inr : Str → L2.Key) (fun c v => Rep K H (toD c) v) rr kvs
theorem DW.is (h : DW K H toD a rr) : DIs K H toD a rr := let ⟨kvs, e, r⟩ := h; ⟨kvs, .inl e, r⟩
theorem Rd.frD {kvs : List (L2.Key × V)} (h : Rd H a (.dK kvs)) (f : AN.Fr l H H') (na : a ∉ l) : Rd H' a (.dK kvs) := by
  rcases h with e | ⟨o, e⟩
  · exact .inl (f.keep _ _ e na)
  · exact .inr ⟨o, f.keep _ _ e na⟩
theorem DIs.fr (h : DIs K H toD a rr) (f : AN.Fr l H H') (na : a ∉ l) : DIs K H' toD a rr := let ⟨kvs, e, r⟩ := h; ⟨kvs, Rd.frD e f na, r.imp fun _ _ q => q.up f⟩
theorem DW.fr (h : DW K H toD a rr) (f : AN.Fr l H H') (na : a ∉ l) : DW K H' toD a rr := let ⟨kvs, e, r⟩ := h; ⟨kvs, f.keep _ _ e na, r.imp fun _ _ q => q.up f⟩
theorem DIs.lock {kvs : List (L2.Key × V)} {o : Obj} (h : H d = some (.dK kvs)) (x : DIs K H toD a rr) : DIs K (upd H d (.frz o (.dK kvs))) toD a rr := by
  obtain ⟨ks, e, r⟩ := x
  refine ⟨ks, ?_, r.imp fun _ _ q => q.up (AN.Fr.lock h)⟩
  by_cases z : a = d
  · subst z
    rcases e with e | ⟨o', e⟩
    · rw [h] at e; cases e; exact .inr ⟨o, upd_same⟩
    · rw [h] at e; cases e
  · rcases e with e | ⟨o', e⟩
    · exact .inl (by rw [upd_ne z]; exact e)
    · exact .inr ⟨o', by rw [upd_ne z]; exact e⟩
variable {Q : VK} {k : Str} {x : V}
theorem dis_in (h : DIs K H toD a rr) (q : Q (.bl (aget rr k).isSome) H) : rIn2 K (.str k) (.ref a) H Q := by
  obtain ⟨kvs, e, r⟩ := h
  refine .inl (.inr (.inl ⟨a, _, rfl, .inl ⟨kvs, .inr k, e, rfl, rfl⟩, ?_⟩))
  rw [r.isSome inr_inj k]
  exact q
theorem dis_notIn (h : DIs K H toD a rr) (q : Q (.bl (!(aget rr k).isSome)) H) : rNotIn2 K (.str k) (.ref a) H Q := by
  obtain ⟨kvs, e, r⟩ := h
  refine .inl (.inr (.inl ⟨a, _, rfl, .inl ⟨kvs, .inr k, e, rfl, rfl⟩, ?_⟩))
  rw [r.isSome inr_inj k]
  exact q
theorem dis_ix {y : α} (h : DIs K H toD a rr) (e : aget rr k = some y) (q : ∀ v, Rep K H (toD y) v → Q v H) : rIxG K (.ref a) (.str k) H Q := by
  obtain ⟨kvs, ed, r⟩ := h
  rcases r.get inr_inj k with ⟨e1, _⟩ | ⟨c, v, e1, e2, hv⟩
  · rw [e] at e1; cases e1
  · rw [e] at e1
    cases e1
    exact .inr (.inr (.inl ⟨a, v, rfl, .inl ⟨kvs, .inr k, ed, rfl, e2.symm⟩, q v hv⟩))
theorem dis_get2 {z : V} (h : DIs K H toD a rr) (q1 : aget rr k = none → Q z H) (q2 : ∀ y v, aget rr k = some y → Rep K H (toD y) v → Q v H) : ∃ o, DGet H a (.str k) o ∧ Q (o.getD z) H := by
  obtain ⟨kvs, ed, r⟩ := h
  refine ⟨_, .inl ⟨kvs, .inr k, ed, rfl, rfl⟩, ?_⟩
  rcases r.get inr_inj k with ⟨e1, e2⟩ | ⟨c, v, e1, e2, hv⟩
  · rw [e2]; exact q1 e1
  · rw [e2]; exact q2 c v e1 hv
theorem DIs.isD (h : DIs K H toD a rr) : IsD H a := let ⟨kvs, e, _⟩ := h; .inl ⟨kvs, e⟩
theorem dw_set {y : α} {v : V} {q : Hp → Prop} (h : DW K H toD a rr) (hv : Rep K H (toD y) v) (hl : rr.length < 1000) (w : ∀ H', AN.Fr [a] H H' → DW K H' toD a (aput rr k y) → q H') : rSetL (.ref a) (.str k) v H q ∨ rSetD (.ref a) (.str k) v H q := by
  obtain ⟨kvs, e, r⟩ := h
  refine setD_q (k := .inr k) e rfl (by rw [← r.length]; exact hl) fun H' f e' => w H' f ⟨_, e', ?_⟩
  exact (r.imp fun _ _ z => z.up f).put inr_inj k (hv.up f)
theorem dw_new (q : ∀ H' p, AN.Fr [] H H' → H p = none → DW K H' toD p [] → Q (.ref p) H') : tDNewK σ H Q := g_dnew fun H' p f np e => q H' p f np ⟨[], e, DR.nil⟩
theorem dw_dict (h : DIs K H toD a rr) (q : ∀ H' p, AN.Fr [] H H' → H p = none → DW K H' toD p rr → Q (.ref p) H') : rDictOf [.ref a] H Q := by
  obtain ⟨kvs, e, r⟩ := h
  exact ⟨a, kvs, rfl, e, fun p np => q _ p (AN.Fr.new np) np ⟨kvs, upd_same, r.imp fun _ _ z => z.up (AN.Fr.new np)⟩⟩
theorem dw_pop_q {y : α} (h : DW K H toD a rr) (e : aget rr k = some y) (q : ∀ H' v, AN.Fr [a] H H' → Rep K H' (toD y) v → DW K H' toD a (adrop rr k) → Q v H') : ∃ kvs k' v, H a = some (.dK kvs) ∧ V.str k = kV k' ∧ valV kvs k' = some v ∧ Q v (upd H a (.dK (dropK kvs k'))) := by
  obtain ⟨kvs, ed, r⟩ := h
  rcases r.get inr_inj k with ⟨e1, _⟩ | ⟨c, v, e1, e2, hv⟩
  · rw [e] at e1; cases e1
  · rw [e] at e1
    cases e1
    have f : AN.Fr [a] H (upd H a (.dK (dropK kvs (.inr k)))) := AN.Fr.setD ed
    exact ⟨kvs, .inr k, v, ed, rfl, e2, q _ v f (hv.up f) ⟨_, upd_same, (r.imp fun _ _ z => z.up f).drop inr_inj k⟩⟩
theorem dw_len (h : DW K H toD a rr) (q : Q (.int (rr.length : Nat)) H) : rLenG K [.ref a] H Q := by
  obtain ⟨kvs, e, r⟩ := h
  exact .inr ⟨a, kvs, rfl, e, by rw [← r.length]; exact q⟩
theorem dis_sorted (h : DIs K H toD a rr) (hl : rr.length < 64) (q : ∀ H' p (ys : List Str), ys.Perm (rr.map (·.1)) → sortedS ys = true → AN.Fr [] H H' → H p = none → H' p = some (.lst (ys.map V.str)) → Q (.ref p) H') : rSorted2 K [.ref a] H Q := by
  obtain ⟨kvs, e, r⟩ := h
  refine .inl (.inr ⟨a, kvs, rr.map (·.1), rfl, e, by rw [r.keys, List.map_map]; rfl, by simpa using hl, fun ys p hp hs np => q _ p ys hp hs (AN.Fr.new np) np upd_same⟩)
end

/-! ### dicts with tuples of texts and ints as keys -/
section
variable {K : PySem.W.Frag} {H H' : Hp} {σ : L2.St} {a : Addr} {l : List Addr} {α : Type} {toD : α → PyData} {rr : List (List L2.Key × α)} {Q : VK} {k : List L2.Key} {x y : V}
theorem keys_back : ∀ {ks : List L2.Key} {vs : List V}, Reps K H (ks.map kD) vs → vs = ks.map kV
  | [], vs, h => by rw [List.map_nil] at h; unfold Reps at h; exact h
  | k :: ks, vs, h => by
    rw [List.map_cons] at h
    obtain ⟨v, r, rfl, h1, h2⟩ := Reps.cons_iff.mp h
    rw [List.map_cons, keys_back h2]
    cases k with
    | inl i => unfold kD Rep at h1; rw [h1]; rfl
    | inr i => unfold kD Rep at h1; rw [h1]; rfl
theorem key_ref (h : Rep K H (.tuple (k.map kD)) x) : ∃ b, x = .ref b ∧ H b = some (.tup (k.map kV)) := by
  obtain ⟨b, vs, rfl, hs, hr⟩ := Rep.tup_iff.mp h
  exact ⟨b, rfl, by rw [← keys_back hr]; exact hs⟩
def TW (K : PySem.W.Frag) (H : Hp) (toD : α → PyData) (a : Addr) (rr : List (List L2.Key × α)) : Prop := ∃ kvs, H a = some (.dT kvs) ∧ DR (id : List L2.Key → List L2.Key) (fun c v => Rep K H (toD c) v) rr kvs
theorem TW.fr (h : TW K H toD a rr) (f : AN.Fr l H H') (na : a ∉ l) : TW K H' toD a rr := let ⟨kvs, e, r⟩ := h; ⟨kvs, f.keep _ _ e na, r.imp fun _ _ q => q.up f⟩
theorem _root_.AN.Fr.setT {kvs : List (List L2.Key × V)} {o : HO} (h : H a = some (.dT kvs)) : AN.Fr [a] H (upd H a o) := AN.Fr.set h (fun _ e => by cases e) (fun _ _ e => by cases e)
theorem id_inj : ∀ a b : List L2.Key, id a = id b → a = b := fun _ _ h => h
theorem tw_new (q : ∀ H' p, AN.Fr [] H H' → H p = none → TW K H' toD p [] → Q (.ref p) H') : tDNewT σ H Q := fun p hp => q _ p (AN.Fr.new hp) hp ⟨[], upd_same, DR.nil⟩
theorem tw_set {c : α} {v : V} {q : Hp → Prop} (h : TW K H toD a rr) (hk : Rep K H (.tuple (k.map kD)) x) (hv : Rep K H (toD c) v) (hl : rr.length < 1000) (w : ∀ H', AN.Fr [a] H H' → TW K H' toD a (aput rr k c) → q H') : rSetL (.ref a) x v H q ∨ rSetD (.ref a) x v H q := by
  obtain ⟨kvs, e, r⟩ := h
  obtain ⟨b, rfl, hb⟩ := key_ref hk
  have f : AN.Fr [a] H (upd H a (.dT (putK kvs k v))) := AN.Fr.setT e
  refine .inr ⟨a, upd H a (.dT (putK kvs k v)), rfl, DPut.t e hb (small1000 (by rw [← r.length]; exact Nat.le_of_lt hl)), ?_⟩
  exact w _ f ⟨_, upd_same, (r.imp fun _ _ z => z.up f).put id_inj k (hv.up f)⟩
theorem tw_in (h : TW K H toD a rr) (hk : Rep K H (.tuple (k.map kD)) x) (q : Q (.bl (aget rr k).isSome) H) : rIn2 K x (.ref a) H Q := by
  obtain ⟨kvs, e, r⟩ := h
  obtain ⟨b, rfl, hb⟩ := key_ref hk
  refine .inl (.inr (.inl ⟨a, _, rfl, DGet.t e hb, ?_⟩))
  have := r.isSome id_inj k
  simp only [id] at this
  rw [this]; exact q
theorem tw_sorted (h : TW K H toD a rr) (hal : AllAlike (rr.map fun p => PyData.tuple (p.1.map kD))) (hs : Sortable (rr.map fun p => PyData.tuple (p.1.map kD))) (hl : rr.length < 1000)
    (q : ∀ H' p ys es, es.Perm (rr.map fun p => PyData.tuple (p.1.map kD)) → Asc es → AN.Fr [] H H' → H p = none → H' p = some (.lst ys) → Reps K H' es ys → Q (.ref p) H') : rSorted2 K [.ref a] H Q := by
  obtain ⟨kvs, e, r⟩ := h
  have e1 : (kvs.map fun p => PyData.tuple (p.1.map kD)) = rr.map fun p => PyData.tuple (p.1.map kD) := by
    have := congrArg (List.map fun k : List L2.Key => PyData.tuple (k.map kD)) r.keys
    rw [List.map_map, List.map_map] at this
    exact this
  refine .inr (.inr (.inr ⟨a, kvs, rfl, .inl e, ?_⟩))
  rw [e1]
  refine ⟨hal, hs, fun d hd => ?_, by rw [List.length_map]; exact Nat.le_of_lt (small1000 (Nat.le_of_lt hl)), q⟩
  obtain ⟨p, _, rfl⟩ := List.mem_map.mp hd
  have : ∀ ks : List L2.Key, PyData.depthAll (ks.map kD) = 0 := fun ks => by
    induction ks with
    | nil => rfl
    | cons k ks ih => cases k <;> simp [kD, PyData.depthAll, PyData.depth, ih]
  simp [PyData.depth, this]
end
theorem Fr.over {H H1 H2 : Hp} {p : Addr} (f : AN.Fr [] H H1) (n : H p = none) (g : AN.Fr [p] H1 H2) : AN.Fr [] H H2 := f.trans g fun b m => .inr (by rw [List.mem_singleton.mp m]; exact n)
theorem Fr.over1 {H H1 H2 : Hp} {p a : Addr} (f : AN.Fr [a] H H1) (n : H p = none) (g : AN.Fr [p] H1 H2) : AN.Fr [a] H H2 := f.trans g fun b m => .inr (by rw [List.mem_singleton.mp m]; exact n)
theorem eqXT {K : PySem.W.Frag} {H : Hp} {Q : VK} {x y : V} {d e : PyData} (h : Rep K H d x) (r : Rep K H e y) (o : Okd d) (os : Okd e) (z : PyData.eqv d e = true) (q : Q (.bl true) H) : rEqG K x y H Q := eqX_q h r o os (by rw [z]; exact q)
theorem eqXF {K : PySem.W.Frag} {H : Hp} {Q : VK} {x y : V} {d e : PyData} (h : Rep K H d x) (r : Rep K H e y) (o : Okd d) (os : Okd e) (z : PyData.eqv d e = false) (q : Q (.bl false) H) : rEqG K x y H Q := eqX_q h r o os (by rw [z]; exact q)
theorem neXT {K : PySem.W.Frag} {H : Hp} {Q : VK} {x y : V} {d e : PyData} (h : Rep K H d x) (r : Rep K H e y) (o : Okd d) (os : Okd e) (z : PyData.eqv d e = false) (q : Q (.bl true) H) : rNeG K x y H Q :=
  .inr (.inl ⟨d, e, h.dp, r.dp, o.shaped, os.shaped, by rw [z]; exact q⟩)
theorem neXF {K : PySem.W.Frag} {H : Hp} {Q : VK} {x y : V} {d e : PyData} (h : Rep K H d x) (r : Rep K H e y) (o : Okd d) (os : Okd e) (z : PyData.eqv d e = true) (q : Q (.bl false) H) : rNeG K x y H Q :=
  .inr (.inl ⟨d, e, h.dp, r.dp, o.shaped, os.shaped, by rw [z]; exact q⟩)
theorem nd_len {β : Type} [DecidableEq β] : ∀ {l m : List β}, l.Nodup → (∀ x ∈ l, x ∈ m) → l.length ≤ m.length
  | [], _, _, _ => Nat.zero_le _
  | x :: l, m, h, s => by
    have hx := s x (List.mem_cons_self ..)
    have h1 := nd_len (l := l) (m := m.erase x) (List.nodup_cons.mp h).2 fun y hy => (List.mem_erase_of_ne (show y ≠ x from fun e => (List.nodup_cons.mp h).1 (by rw [← e]; exact hy))).mpr (s y (List.mem_cons_of_mem _ hy))
    rw [List.length_erase_of_mem hx] at h1
    have : 0 < m.length := List.length_pos_of_mem hx
    simp only [List.length_cons]
    omega
/-- a.get(y, z) -/
def Get2 (a : Addr) (y z : V) (Q : VK) (H : Hp) : Prop := ∃ o, DGet H a y o ∧ Q (o.getD z) H
theorem get2_g {σ : L2.St} {H : Hp} {Q : VK} {td ty tx : TE} (h : td σ H fun x H1 => ∃ a, x = .ref a ∧ IsD H1 a ∧ ty σ H1 fun y H2 => tx σ H2 fun z H3 => Get2 a y z Q H3) : tDGet2 td ty tx σ H Q := h
theorem dis_getD {K : PySem.W.Frag} {α : Type} {toD : α → PyData} {H : Hp} {a : Addr} {rr : List (Str × α)} {k : Str} {z : V} {d0 : α} {Q : VK} (h : DIs K H toD a rr) (hz : Rep K H (toD d0) z) (q : ∀ v, Rep K H (toD ((aget rr k).getD d0)) v → Q v H) : Get2 a (.str k) z Q H :=
  dis_get2 h (fun e => q z (by rw [e]; exact hz)) fun y v e hv => q v (by rw [e]; exact hv)
theorem RowOf.fr0 {K : PySem.W.Frag} {H H' : Hp} {x : V} {ds : List PyData} (h : RowOf K H x ds) (f : AN.Fr [] H H') : RowOf K H' x ds := by
  rcases h with h | ⟨a, xs, rfl, hs, hr⟩
  · exact .inl (h.up f)
  · exact .inr ⟨a, xs, rfl, f.sqL hs (by simp), hr.up f⟩
theorem ltI_q {K : PySem.W.Frag} {H : Hp} {Q : VK} {i j : Int} (q : Q (.bl (decide (i < j))) H) : rLt2 K (.int i) (.int j) H Q := .inl ⟨i, j, rfl, rfl, q⟩
theorem lenS_q {K : PySem.W.Frag} {H : Hp} {x : Str} {Q : VK} (h : x.length ≤ sizeLine) (q : Q (.int x.length) H) : rLenG K [.str x] H Q := .inl ⟨.str x, x.length, rfl, ⟨h, rfl⟩, q⟩
theorem cut_next {t : TS} {n b c : L2.St → Hp → Prop} {r : VK} {σ : L2.St} {H : Hp} (N : L2.St → Hp → Prop) (hN : ∀ σ' H', N σ' H' → n σ' H') (h : ∀ n' : L2.St → Hp → Prop, (∀ σ' H', N σ' H' → n' σ' H') → t ⟨n', r, b, c⟩ σ H) : t ⟨n, r, b, c⟩ σ H := h n hN
theorem cut_ite {k : Bool} {t u : TS} {n b c : L2.St → Hp → Prop} {r : VK} {σ : L2.St} {H : Hp} (N : L2.St → Hp → Prop) (hN : ∀ σ' H', N σ' H' → n σ' H') (h : ∀ n' : L2.St → Hp → Prop, (∀ σ' H', N σ' H' → n' σ' H') → if k = true then t ⟨n', r, b, c⟩ σ H else u ⟨n', r, b, c⟩ σ H) : if k = true then t ⟨n, r, b, c⟩ σ H else u ⟨n, r, b, c⟩ σ H := h n hN
theorem eqG_bl {K : PySem.W.Frag} {H : Hp} {Q : VK} {x y : Bool} (q : Q (.bl (decide (V.bl x = V.bl y))) H) : rEqG K (.bl x) (.bl y) H Q := .inl ⟨rfl, q⟩
theorem upd_back {H : Hp} {a : Addr} {o u : HO} (h : H a = some u) : upd (upd H a o) a u = H := by
  funext b
  unfold upd
  by_cases e : b = a
  · rw [if_pos e, e, h]
  · rw [if_neg e, if_neg e]
theorem Fr.more {H H1 H2 : Hp} {l l' : List Addr} (f : AN.Fr l H H1) (g : AN.Fr l' H1 H2) (h : ∀ b ∈ l', b ∈ l) : AN.Fr l H H2 := f.trans g fun b m => .inl (h b m)
theorem Fr.over2 {H H1 H2 : Hp} {p a : Addr} (f : AN.Fr [] H H1) (n : H p = none) (g : AN.Fr [p, a] H1 H2) : AN.Fr [a] H H2 := f.of0.trans g fun b m => by
  rcases List.mem_cons.mp m with rfl | m
  · exact .inr n
  · exact .inl m
theorem addG_lst {K : PySem.W.Frag} {H : Hp} {a b : Addr} {xs zs : List V} {Q : VK} (h : H a = some (.lst xs)) (h' : H b = some (.lst zs)) (hl : xs.length + zs.length ≤ sizeLine) (q : ∀ H' p, AN.Fr [] H H' → H p = none → H' p = some (.lst (xs ++ zs)) → Q (.ref p) H') : rAddG K (.ref a) (.ref b) H Q :=
  .inr (.inr (.inr ⟨a, b, xs, zs, rfl, rfl, h, h', hl, fun p hp => q _ p (AN.Fr.new hp) hp upd_same⟩))
theorem sortedR_q {K : PySem.W.Frag} {H : Hp} {a : Addr} {xs : List V} {ds : List PyData} {Q : VK} (h : H a = some (.lst xs)) (r : Reps K H ds xs) (al : PySem.W.AllAlike ds) (so : PySem.W.Sortable ds) (dp : ∀ d ∈ ds, d.depth ≤ 40)
    (q : ∀ H' p ys es, es.Perm ds → Asc es → AN.Fr [] H H' → H p = none → H' p = some (.lst ys) → Reps K H' es ys → Q (.ref p) H') : rSorted2 K [.ref a] H Q := .inr (.inl ⟨a, xs, ds, rfl, .of h, r, al, so, dp, q⟩)
theorem dpop_g {σ : L2.St} {H : Hp} {Q : VK} {td ty : TE} (h : td σ H fun x H1 => ∃ a, x = .ref a ∧ IsD H1 a ∧ ty σ H1 fun y H2 => ∃ kvs k v, H2 a = some (.dK kvs) ∧ y = kV k ∧ valV kvs k = some v ∧ Q v (upd H2 a (.dK (dropK kvs k)))) : tDPop1 td ty σ H Q := h
theorem seqI {k n : Nat} (h : k < n) : seqIndex? (k : Int) n = some k := by
  unfold seqIndex?
  simp
  omega
theorem popAt_q {H : Hp} {a : Addr} {xs : List V} {y : V} {j : Int} {k : Nat} {Q : VK} (h : H a = some (.lst xs)) (hj : j = ((k : Nat) : Int)) (e : xs[k]? = some y) (hl : xs.length < 1000000) (q : ∀ H', AN.Fr [a] H H' → H' a = some (.lst (xs.eraseIdx k)) → Q y H') : rPopAt (.ref a) [.int j] H Q := by
  subst hj
  have hk := (List.getElem?_eq_some_iff.mp e).1
  exact ⟨a, xs, k, k, y, rfl, rfl, h, by omega, by omega, seqI hk, e, q _ (AN.Fr.setL h) upd_same⟩
theorem srep {K : PySem.W.Frag} {H : Hp} {x : Str} {v : V} (h : Rep K H (.str x) v) : v = .str x := by unfold Rep at h; exact h
theorem rows_at {β : Type} {f : β → PyData} {l : List β} {i : Nat} {d : PyData} (h : (l.map f)[i]? = some d) : ∃ e, l[i]? = some e ∧ d = f e := by
  rw [List.getElem?_map] at h
  obtain ⟨e, h1, h2⟩ := Option.map_eq_some_iff.mp h
  exact ⟨e, h1, h2.symm⟩
theorem Reps.erase {K : PySem.W.Frag} {H : Hp} {ds : List PyData} {vs : List V} (h : Reps K H ds vs) (k : Nat) : Reps K H (ds.eraseIdx k) (vs.eraseIdx k) := by
  rw [List.eraseIdx_eq_take_drop_succ, List.eraseIdx_eq_take_drop_succ]
  exact (h.take k).append (h.drop (k + 1))
theorem g_m1 {σ : L2.St} {H : Hp} {Q : VK} {to te : TE} {r : V → List V → Hp → VK → Prop} (h : to σ H fun x H1 => (∃ a, x = .str a) ∧ te σ H1 fun y H2 => r x [y] H2 Q) : tM1 r to te σ H Q := h
/-- the law's names -/
def poolL : List Str := (["a", "b2", "sum", "left", "r", "k0", "carry", "z9z", "full", "tail", "n", "q8", "aa", "busy", "cnt", "p", "t4", "even2", "ab1", "head", "u", "v", "w", "lowest", "high", "mid", "s", "t", "e", "f", "g", "h", "i", "j", "k", "x", "y", "q7", "deep", "turn", "gate", "l5", "hold", "next1", "o", "c0", "d", "two", "zz1", "near", "far9", "last", "ring2", "aaaaaaaaaaa8", "b", "c1", "top2", "net3", "row", "col7", "zz_a", "one_two", "r0", "r1", "x1", "y2", "w3", "b7", "k_k", "cup", "pen", "lamp", "desk"] : List String).map Str.ofString
theorem pool_nd : poolL.Nodup := by decide +kernel
theorem pool_ok : ∀ n ∈ poolL, PyData.strOk n = true := by decide +kernel
theorem pool_len : poolL.length = 73 := rfl
end AN

/-! K13: rows of kinds, plainly. -/
namespace K13
open PySem PySem.Spec PyProof.Rows L2 AN
open PySem.W (dataLt dataLe alike alikeAll keyToks keyToksAll AllAlike Sortable EachIs)
abbrev Pr := Str × Str
def prD (p : Pr) : PyData := .tuple [.str p.1, .str p.2]
/-- a cause -/
inductive Cs where
  | all
  | ps (l : List Pr)
  deriving DecidableEq
def Cs.toD : Cs → PyData
  | .all => .str "always"
  | .ps l => .tuple (l.map prD)
abbrev Rw := List (Str × Cs)
def entD (e : Str × Cs) : PyData := .tuple [.str e.1, e.2.toD]
def rowD (r : Rw) : PyData := .tuple (r.map entD)
/-! ### one order -/
theorem cps_inj {x y : Str} (h : x.cps.toList = y.cps.toList) : x = y := PySem.W.str_of_cps h
theorem toks_pr (p : Pr) : keyToks (prD p) = [.inl 1, .inr p.1.cps.toList, .inl 1, .inr p.2.cps.toList, .inl 0] := by simp [prD, keyToks, keyToksAll]
theorem toks_inj {p q : Pr} (h : keyToks (prD p) = keyToks (prD q)) : p = q := by
  rw [toks_pr, toks_pr] at h
  simp only [List.cons.injEq, Sum.inr.injEq, true_and, and_true] at h
  exact Prod.ext (cps_inj h.1) (cps_inj h.2)
theorem map_prD : ∀ {l m : List Pr}, l.map prD = m.map prD → l = m
  | [], [], _ => rfl
  | [], _ :: _, h => by cases h
  | _ :: _, [], h => by cases h
  | a :: l, b :: m, h => by
    rw [List.map_cons, List.map_cons] at h
    injection h with h1 h2
    have e : a = b := by
      simp only [prD, PyData.tuple.injEq, List.cons.injEq, PyData.str.injEq, and_true] at h1
      exact Prod.ext h1.1 h1.2
    rw [e, map_prD h2]
theorem lt_tri {a b : PyData} (h : dataLt a b = false) (h' : dataLt b a = false) : keyToks a = keyToks b := PyProof.Rows.lex_total (O := itemOrd) _ _ h h'
theorem prD_inj {p q : Pr} (h : prD p = prD q) : p = q := by
  simp only [prD, PyData.tuple.injEq, List.cons.injEq, PyData.str.injEq, and_true] at h
  exact Prod.ext h.1 h.2
theorem perm_uniq : ∀ {l m : List PyData}, (∀ a ∈ l, ∀ b ∈ l, dataLt a b = false → dataLt b a = false → a = b) → l.Perm m → Asc l → Asc m → l = m
  | [], m, _, h, _, _ => (List.Perm.eq_nil h.symm).symm
  | x :: l, [], _, h, _, _ => absurd h.length_eq (by simp)
  | x :: l, y :: m, u, h, a1, a2 => by
    have hx : x ∈ y :: m := h.mem_iff.mp (List.mem_cons_self ..)
    have hy : y ∈ x :: l := h.mem_iff.mpr (List.mem_cons_self ..)
    have e : x = y := by
      rcases List.mem_cons.mp hx with e | hx'
      · exact e
      rcases List.mem_cons.mp hy with e | hy'
      · exact e.symm
      exact u x (List.mem_cons_self ..) y hy ((List.pairwise_cons.mp a2).1 x hx') ((List.pairwise_cons.mp a1).1 y hy')
    subst e
    rw [perm_uniq (fun a ha b hb => u a (List.mem_cons_of_mem _ ha) b (List.mem_cons_of_mem _ hb)) h.cons_inv (List.pairwise_cons.mp a1).2 (List.pairwise_cons.mp a2).2]
/-- in order -/
def srt (l : List Pr) : List Pr := l.mergeSort fun a b => dataLe false prD a b
theorem asc_srt (l : List Pr) : Asc ((srt l).map prD) := by
  have T := PySem.W.sortLe_total (listOrd itemOrd) false fun b : Pr => keyToks (prD b)
  have h := List.pairwise_mergeSort (le := dataLe false prD) (fun a b c h1 h2 => T.trans a b c h1 h2) (fun a b => (Bool.or_eq_true _ _).mpr (T.total a b)) l
  unfold Asc
  rw [List.pairwise_map]
  exact h.imp fun {a b} hab => by
    have q : (!dataLt (prD b) (prD a)) = true := hab
    simpa using q
theorem srt_perm (l : List Pr) : (srt l).Perm l := List.mergeSort_perm l _
theorem srt_of {es : List PyData} {l : List Pr} (h : es.Perm (l.map prD)) (a : Asc es) : es = (srt l).map prD := by
  refine perm_uniq (fun x hx y hy h1 h2 => ?_) (h.trans ((srt_perm l).map prD).symm) a (asc_srt l)
  obtain ⟨p, _, rfl⟩ := List.mem_map.mp (h.mem_iff.mp hx)
  obtain ⟨q, _, rfl⟩ := List.mem_map.mp (h.mem_iff.mp hy)
  rw [toks_inj (lt_tri h1 h2)]
theorem srt_eq {l m : List Pr} (h : l.Perm m) : srt l = srt m := by
  have e := srt_of (es := (srt l).map prD) (l := m) (((srt_perm l).trans h).map prD) (asc_srt l)
  exact map_prD e
/-- strictly in order -/
def Ord (l : List Pr) : Prop := l.Pairwise fun a b => dataLt (prD a) (prD b) = true
theorem lt_asymm {a b : PyData} (h : dataLt a b = true) : dataLt b a = false := by
  cases e : dataLt b a with
  | false => rfl
  | true => exact absurd (PyProof.Rows.lex_trans (O := itemOrd) _ _ _ h e) (by rw [PyProof.Rows.lex_irrefl (O := itemOrd)]; simp)
theorem ord_srt {l : List Pr} (h : l.Nodup) : Ord (srt l) := by
  have h1 := asc_srt l
  unfold Asc at h1
  rw [List.pairwise_map] at h1
  have h2 : (srt l).Nodup := (srt_perm l).nodup_iff.mpr h
  refine (h1.and h2).imp fun {a b} hab => ?_
  cases e : dataLt (prD a) (prD b) with
  | true => rfl
  | false => exact absurd (toks_inj (lt_tri e hab.1)) hab.2
theorem srt_ord {l : List Pr} (h : Ord l) : srt l = l := by
  have a : Asc (l.map prD) := by
    unfold Asc
    rw [List.pairwise_map]
    exact h.imp fun {a b} hab => lt_asymm hab
  exact map_prD (srt_of (List.Perm.refl _) a).symm
theorem Ord.nodup {l : List Pr} (h : Ord l) : l.Nodup := h.imp fun {a b} hab e => by
  subst e
  have := lt_asymm hab
  rw [hab] at this
  cases this
/-- each once, in the order of the first time -/
def add1 (l : List Pr) (p : Pr) : List Pr := if p ∈ l then l else l ++ [p]
def once (l : List Pr) : List Pr := l.foldl add1 []
theorem add1_mem {l : List Pr} {p x : Pr} : x ∈ add1 l p ↔ x ∈ l ∨ x = p := by
  unfold add1
  split
  · constructor
    · exact .inl
    · rintro (h | rfl) <;> assumption
  · simp
theorem add1_nodup {l : List Pr} {p : Pr} (h : l.Nodup) : (add1 l p).Nodup := by
  unfold add1
  split
  · exact h
  · rename_i hn
    exact List.nodup_append.mpr ⟨h, by simp, fun a ha b hb e => by
      rw [List.mem_singleton] at hb
      subst hb e
      exact hn ha⟩
theorem fold_mem : ∀ (l acc : List Pr) {x : Pr}, x ∈ l.foldl add1 acc ↔ x ∈ acc ∨ x ∈ l
  | [], acc, x => by simp
  | p :: l, acc, x => by
    rw [List.foldl_cons, fold_mem l, add1_mem, List.mem_cons, or_assoc]
theorem fold_nodup : ∀ (l acc : List Pr), acc.Nodup → (l.foldl add1 acc).Nodup
  | [], acc, h => h
  | p :: l, acc, h => fold_nodup l _ (add1_nodup h)
theorem once_mem {l : List Pr} {x : Pr} : x ∈ once l ↔ x ∈ l := by unfold once; rw [fold_mem]; simp
theorem once_nodup (l : List Pr) : (once l).Nodup := fold_nodup l [] .nil
/-- two causes in one -/
def jc : Cs → Cs → Cs
  | .all, _ => .all
  | _, .all => .all
  | .ps a, .ps b => .ps (srt (once (a ++ b)))
theorem srt_mem {l : List Pr} {x : Pr} : x ∈ srt l ↔ x ∈ l := (srt_perm l).mem_iff
theorem srt_same {l m : List Pr} (h1 : l.Nodup) (h2 : m.Nodup) (h : ∀ x, x ∈ l ↔ x ∈ m) : srt l = srt m := srt_eq ((List.perm_ext_iff_of_nodup h1 h2).mpr h)
theorem jc_nil {b : List Pr} (h : Ord b) : jc (.ps []) (.ps b) = .ps b := by
  show Cs.ps (srt (once ([] ++ b))) = .ps b
  rw [srt_same (m := b) (once_nodup _) h.nodup (fun x => by rw [once_mem]; simp), srt_ord h]
/-- as the law joins -/
theorem jc_law {a b : List Pr} (ha : a.Nodup) (hb : b.Nodup) : jc (.ps a) (.ps b) = .ps (srt (a ++ b.filter fun p => !decide (p ∈ a))) := by
  show Cs.ps (srt (once (a ++ b))) = _
  congr 1
  refine srt_same (once_nodup _) ?_ fun x => ?_
  · refine List.nodup_append.mpr ⟨ha, hb.filter _, fun x hx y hy e => ?_⟩
    subst e
    simp at hy
    exact hy.2 hx
  · rw [once_mem]
    simp only [List.mem_append, List.mem_filter, Bool.not_eq_true', decide_eq_false_iff_not]
    constructor
    · rintro (h | h)
      · exact .inl h
      · by_cases hx : x ∈ a
        · exact .inl hx
        · exact .inr ⟨h, hx⟩
    · rintro (h | h)
      · exact .inl h
      · exact .inr h.1
/-- one within the other -/
def cw : Cs → Cs → Bool
  | _, .all => true
  | .all, _ => false
  | .ps a, .ps b => a.all fun p => decide (p ∈ b)
theorem cw_jc (a b c : Cs) : cw (jc a b) c = (cw a c && cw b c) := by
  cases c with
  | all => cases a <;> cases b <;> rfl
  | ps c =>
    cases a with
    | all => rfl
    | ps a =>
      cases b with
      | all => simp [jc, cw]
      | ps b =>
        rw [Bool.eq_iff_iff]
        simp only [jc, cw, List.all_eq_true, srt_mem, once_mem, Bool.and_eq_true, List.mem_append, decide_eq_true_eq]
        constructor
        · exact fun h => ⟨fun x hx => h x (.inl hx), fun x hx => h x (.inr hx)⟩
        · rintro ⟨h1, h2⟩ x (hx | hx)
          · exact h1 x hx
          · exact h2 x hx
/-! ### rows -/
def cof (r : Rw) (n : Str) : Cs := (aget r n).getD (.ps [])
def jput (cs : Rw) (e : Str × Cs) : Rw := aput cs e.1 (jc ((aget cs e.1).getD (.ps [])) e.2)
def jcs (rs : List Rw) : Rw := rs.foldl (fun cs r => r.foldl jput cs) []
def jrow (ons : List Str) (rs : List Rw) : Rw := ons.filterMap fun n => (aget (jcs rs) n).bind fun c => if c = .ps [] then none else some (n, c)
def lval (o : Option Cs) (c : Cs) : Cs := match o, c with
  | none, c => c
  | some .all, _ => .all
  | some (.ps _), .all => .all
  | some (.ps a), .ps b => .ps (srt (a ++ b.filter fun p => !decide (p ∈ a)))
def lput (found : Rw) (e : Str × Cs) : Rw := match aget found e.1 with
  | some .all => found
  | o => aput found e.1 (lval o e.2)
def ljoin (one other : Rw) : Rw := other.foldl lput one
def rowT (ons : List Str) (r : Rw) : Rw := ons.filterMap fun n => (aget r n).map fun c => (n, c)
def lin (row other : Rw) : Bool := row.all fun e => match aget other e.1 with | none => false | some c => cw e.2 c
def iw (row other : Rw) : Bool := row.all fun e => !decide (cof other e.1 = .ps []) && cw e.2 (cof other e.1)
def OkC (pairs : List Pr) : Cs → Prop
  | .all => True
  | .ps l => l ≠ [] ∧ Ord l ∧ ∀ x ∈ l, x ∈ pairs
structure OkR (ons : List Str) (pairs : List Pr) (r : Rw) : Prop where
  nd : (r.map (·.1)).Nodup
  ok : ∀ e ∈ r, e.1 ∈ ons ∧ OkC pairs e.2
section
variable {ons : List Str} {pairs : List Pr} {r r' x : Rw} {n : Str} {a b c : Cs}
theorem OkC.ne (h : OkC pairs c) : c ≠ .ps [] := by
  cases c with
  | all => simp
  | ps l => exact fun e => h.1 (by cases e; rfl)
theorem OkC.jc (ha : OkC pairs a) (hb : OkC pairs b) : OkC pairs (jc a b) := by
  cases a with
  | all => trivial
  | ps a =>
    cases b with
    | all => trivial
    | ps b =>
      refine ⟨fun e => ?_, ord_srt (once_nodup _), fun x hx => ?_⟩
      · cases a with
        | nil => exact ha.1 rfl
        | cons p a =>
          have : p ∈ srt (once ((p :: a) ++ b)) := by rw [srt_mem, once_mem]; simp
          rw [e] at this
          cases this
      · rw [srt_mem, once_mem, List.mem_append] at hx
        exact hx.elim (ha.2.2 x) (hb.2.2 x)
theorem jc_unit (h : OkC pairs c) : jc (.ps []) c = c := by
  cases c with
  | all => rfl
  | ps l => exact jc_nil h.2.1
theorem lval_jc (ha : OkC pairs a) (hb : OkC pairs b) : lval (some a) b = jc a b := by
  cases a with
  | all => rfl
  | ps a =>
    cases b with
    | all => rfl
    | ps b => exact (jc_law ha.2.1.nodup hb.2.1.nodup).symm
/-- two perhaps-causes in one -/
def oj : Option Cs → Option Cs → Option Cs
  | none, o => o
  | some a, none => some a
  | some a, some b => some (jc a b)
theorem OkR.get (h : OkR ons pairs r) (e : aget r n = some c) : n ∈ ons ∧ OkC pairs c := h.ok _ (aget_some e)
theorem lput_get (h : OkR ons pairs r) (hc : OkC pairs c) (n m : Str) : aget (lput r (n, c)) m = if m = n then oj (aget r n) (some c) else aget r m := by
  unfold lput
  cases e : aget r n with
  | none =>
    simp only
    rw [aget_put]
    rfl
  | some a =>
    have ha := (h.get e).2
    cases a with
    | all =>
      simp only
      by_cases z : m = n
      · subst z; rw [if_pos rfl, e]; rfl
      · rw [if_neg z]
    | ps a =>
      simp only
      rw [aget_put, lval_jc ha hc]
      rfl
theorem lput_ok (h : OkR ons pairs r) (hn : n ∈ ons) (hc : OkC pairs c) : OkR ons pairs (lput r (n, c)) := by
  unfold lput
  have go : ∀ y, OkC pairs y → OkR ons pairs (aput r n y) := fun y hy => ⟨aput_nodup h.nd _ _, fun e he => by
    rcases aput_mem he with rfl | he
    · exact ⟨hn, hy⟩
    · exact h.ok e he⟩
  cases e : aget r n with
  | none => exact go _ hc
  | some a =>
    have ha := (h.get e).2
    cases a with
    | all => exact h
    | ps a =>
      simp only
      rw [lval_jc ha hc]
      exact go _ (ha.jc hc)
theorem join_ok : ∀ {r' r : Rw}, OkR ons pairs r → OkR ons pairs r' → OkR ons pairs (ljoin r r')
  | [], r, h, _ => h
  | e :: r', r, h, h' => by
    have he := h'.ok e (List.mem_cons_self ..)
    exact join_ok (r' := r') (lput_ok h he.1 he.2) ⟨(List.nodup_cons.mp h'.nd).2, fun e he => h'.ok e (List.mem_cons_of_mem _ he)⟩
theorem join_get : ∀ {r' r : Rw}, OkR ons pairs r → OkR ons pairs r' → ∀ m, aget (ljoin r r') m = oj (aget r m) (aget r' m)
  | [], r, h, _, m => by
    show aget r m = oj (aget r m) none
    cases aget r m <;> rfl
  | (n, c) :: r', r, h, h', m => by
    have he := h'.ok _ (List.mem_cons_self ..)
    have hr : OkR ons pairs r' := ⟨(List.nodup_cons.mp h'.nd).2, fun e he => h'.ok e (List.mem_cons_of_mem _ he)⟩
    show aget (ljoin (lput r (n, c)) r') m = _
    rw [join_get (lput_ok h he.1 he.2) hr, lput_get h he.2, aget_cons]
    by_cases z : m = n
    · subst z
      have hn : aget r' m = none := by
        cases q : aget r' m with
        | none => rfl
        | some y => exact absurd (aget_isSome.mp (by rw [q]; rfl)) (List.nodup_cons.mp h'.nd).1
      rw [if_pos rfl, if_pos rfl, hn]
      cases aget r m <;> rfl
    · rw [if_neg z, if_neg fun y => z y.symm]
theorem aget_rowT : ∀ {ons : List Str}, n ∈ ons → ∀ r : Rw, aget (rowT ons r) n = aget r n
  | m :: ons, h, r => by
    unfold rowT
    rw [List.filterMap_cons]
    cases e : aget r m with
    | none =>
      simp only [Option.map_none]
      rcases List.mem_cons.mp h with z | h
      · subst z
        rw [e]
        cases q : aget (rowT ons r) n with
        | none => exact q
        | some c =>
          have m1 := aget_some q
          unfold rowT at m1
          obtain ⟨k, hk, ek⟩ := List.mem_filterMap.mp m1
          obtain ⟨y, ey, e2⟩ := Option.map_eq_some_iff.mp ek
          cases e2
          rw [e] at ey
          cases ey
      · exact aget_rowT h r
    | some c =>
      simp only [Option.map_some]
      rw [aget_cons]
      by_cases z : m = n
      · subst z; rw [if_pos rfl, e]
      · rw [if_neg z]
        rcases List.mem_cons.mp h with y | h
        · exact absurd y.symm z
        · exact aget_rowT h r
theorem rowT_keys {ons : List Str} (h : ons.Nodup) (r : Rw) : ((rowT ons r).map (·.1)).Nodup := by
  have e : (rowT ons r).map (·.1) = ons.filter fun n => (aget r n).isSome := by
    unfold rowT
    induction ons with
    | nil => rfl
    | cons m ons ih =>
      rw [List.filterMap_cons, List.filter_cons]
      cases q : aget r m with
      | none => simpa using ih (List.nodup_cons.mp h).2
      | some c => simpa using ih (List.nodup_cons.mp h).2
  rw [e]
  exact h.filter _
theorem rowT_mem {ons : List Str} {r : Rw} {e : Str × Cs} (h : e ∈ rowT ons r) : e.1 ∈ ons ∧ aget r e.1 = some e.2 := by
  unfold rowT at h
  obtain ⟨k, hk, ek⟩ := List.mem_filterMap.mp h
  obtain ⟨y, ey, e2⟩ := Option.map_eq_some_iff.mp ek
  cases e2
  exact ⟨hk, ey⟩
theorem rowT_ok (hn : ons.Nodup) (h : OkR ons pairs r) : OkR ons pairs (rowT ons r) := ⟨rowT_keys hn r, fun e he => by
  obtain ⟨h1, h2⟩ := rowT_mem he
  exact h.get h2⟩
/-- the program's join -/
theorem jput_ok (h : OkR ons pairs r) (hn : n ∈ ons) (hc : OkC pairs c) : OkR ons pairs (jput r (n, c)) := by
  refine ⟨aput_nodup h.nd _ _, fun e he => ?_⟩
  rcases aput_mem he with rfl | he
  · refine ⟨hn, ?_⟩
    show OkC pairs (jc ((aget r n).getD (.ps [])) c)
    cases q : aget r n with
    | none => rw [Option.getD_none, jc_unit hc]; exact hc
    | some a => exact (h.get q).2.jc hc
  · exact h.ok e he
theorem jfold_ok : ∀ {r' r : Rw}, OkR ons pairs r → OkR ons pairs r' → OkR ons pairs (r'.foldl jput r)
  | [], r, h, _ => h
  | e :: r', r, h, h' => by
    have he := h'.ok e (List.mem_cons_self ..)
    exact jfold_ok (r' := r') (jput_ok h he.1 he.2) ⟨(List.nodup_cons.mp h'.nd).2, fun e he => h'.ok e (List.mem_cons_of_mem _ he)⟩
theorem jfold_get : ∀ {r' r : Rw}, OkR ons pairs r → OkR ons pairs r' → ∀ m, aget (r'.foldl jput r) m = oj (aget r m) (aget r' m)
  | [], r, h, _, m => by
    show aget r m = oj (aget r m) none
    cases aget r m <;> rfl
  | (n, c) :: r', r, h, h', m => by
    have he := h'.ok _ (List.mem_cons_self ..)
    have hr : OkR ons pairs r' := ⟨(List.nodup_cons.mp h'.nd).2, fun e he => h'.ok e (List.mem_cons_of_mem _ he)⟩
    rw [List.foldl_cons, jfold_get (jput_ok h he.1 he.2) hr, aget_cons]
    show oj (aget (aput r n (jc ((aget r n).getD (.ps [])) c)) m) _ = _
    rw [aget_put]
    by_cases z : m = n
    · subst z
      have hn : aget r' m = none := by
        cases q : aget r' m with
        | none => rfl
        | some y => exact absurd (aget_isSome.mp (by rw [q]; rfl)) (List.nodup_cons.mp h'.nd).1
      rw [if_pos rfl, if_pos rfl, hn]
      cases q : aget r m with
      | none => rw [Option.getD_none, jc_unit he.2]; rfl
      | some a => rfl
    · rw [if_neg z, if_neg fun y => z y.symm]
theorem joint_same (hn : ons.Nodup) : ∀ {rs : List Rw}, (∀ r ∈ rs, OkR ons pairs r) → ∀ {u v : Rw}, OkR ons pairs u → OkR ons pairs v → (∀ m ∈ ons, aget u m = aget v m) →
    ∀ m ∈ ons, aget ((rs.map (rowT ons)).foldl (fun cs r => r.foldl jput cs) u) m = aget (rs.foldl ljoin v) m
  | [], _, u, v, _, _, e, m, hm => e m hm
  | r :: rs, h, u, v, hu, hv, e, m, hm => by
    have hr := h r (List.mem_cons_self ..)
    refine joint_same hn (fun r h' => h r (List.mem_cons_of_mem _ h')) (jfold_ok hu (rowT_ok hn hr)) (join_ok hv hr) (fun k hk => ?_) m hm
    rw [jfold_get hu (rowT_ok hn hr), join_get hv hr, e k hk, aget_rowT hk]
theorem foldjoin_ok : ∀ {rs : List Rw}, (∀ r ∈ rs, OkR ons pairs r) → ∀ {v : Rw}, OkR ons pairs v → OkR ons pairs (rs.foldl ljoin v)
  | [], _, v, hv => hv
  | r :: rs, h, v, hv => foldjoin_ok (fun r h' => h r (List.mem_cons_of_mem _ h')) (join_ok hv (h r (List.mem_cons_self ..)))
theorem ok_nil : OkR ons pairs [] := ⟨.nil, fun e he => by cases he⟩
theorem fm_congr {β γ : Type} {f g : β → Option γ} : ∀ {l : List β}, (∀ x ∈ l, f x = g x) → l.filterMap f = l.filterMap g
  | [], _ => rfl
  | x :: l, h => by
    rw [List.filterMap_cons, List.filterMap_cons, h x (List.mem_cons_self ..), fm_congr fun y hy => h y (List.mem_cons_of_mem _ hy)]
theorem joint_due (hn : ons.Nodup) {rs : List Rw} (h : ∀ r ∈ rs, OkR ons pairs r) : jrow ons (rs.map (rowT ons)) = rowT ons (rs.foldl ljoin []) := by
  show ons.filterMap (fun n => (aget (jcs (rs.map (rowT ons))) n).bind fun c => if c = .ps [] then none else some (n, c)) = ons.filterMap (fun n => (aget (rs.foldl ljoin []) n).map fun c => (n, c))
  refine fm_congr fun m hm => ?_
  have e := joint_same hn h ok_nil ok_nil (fun _ _ => rfl) m hm
  have hj := foldjoin_ok h (ok_nil (ons := ons) (pairs := pairs))
  show (aget ((rs.map (rowT ons)).foldl (fun cs r => r.foldl jput cs) []) m).bind _ = _
  rw [e]
  cases q : aget (rs.foldl ljoin []) m with
  | none => rfl
  | some c =>
    simp only [Option.bind_some, Option.map_some]
    rw [if_neg (hj.get q).2.ne]
/-! within -/
theorem lin_iff (h : OkR ons pairs r) : lin r x = true ↔ ∀ n c, aget r n = some c → ∃ c', aget x n = some c' ∧ cw c c' = true := by
  unfold lin
  rw [List.all_eq_true]
  constructor
  · intro g n c e
    have := g (n, c) (aget_some e)
    simp only at this
    cases q : aget x n with
    | none => rw [q] at this; cases this
    | some c' => rw [q] at this; exact ⟨c', rfl, this⟩
  · intro g e he
    obtain ⟨c', h1, h2⟩ := g e.1 e.2 (aget_of_mem h.nd he)
    rw [h1]; exact h2
theorem iw_lin (hn : ons.Nodup) (h : OkR ons pairs r) (hx : OkR ons pairs x) : iw (rowT ons r) (rowT ons x) = lin r x := by
  rw [Bool.eq_iff_iff, lin_iff h]
  unfold iw
  rw [List.all_eq_true]
  constructor
  · intro g n c e
    have hm := (h.get e).1
    have hmem : (n, c) ∈ rowT ons r := aget_some (by rw [aget_rowT hm]; exact e)
    have := g _ hmem
    simp only [cof, aget_rowT hm, Bool.and_eq_true, Bool.not_eq_true', decide_eq_false_iff_not] at this
    cases q : aget x n with
    | none => rw [q] at this; exact absurd rfl this.1
    | some c' => rw [q] at this; exact ⟨c', rfl, this.2⟩
  · intro g e he
    obtain ⟨hm, e1⟩ := rowT_mem he
    obtain ⟨c', h1, h2⟩ := g e.1 e.2 e1
    simp only [cof, aget_rowT hm, h1, Option.getD_some, h2, Bool.and_true, Bool.not_eq_true', decide_eq_false_iff_not]
    exact (hx.get h1).2.ne
theorem lin_join (h : OkR ons pairs r) (h' : OkR ons pairs r') : lin (ljoin r r') x = (lin r x && lin r' x) := by
  rw [Bool.eq_iff_iff, Bool.and_eq_true, lin_iff (join_ok h h'), lin_iff h, lin_iff h']
  constructor
  · intro g
    constructor
    · intro n c e
      have j := join_get h h' n
      rw [e] at j
      cases q : aget r' n with
      | none => rw [q] at j; exact g n c j
      | some d =>
        rw [q] at j
        obtain ⟨c', h1, h2⟩ := g n _ j
        rw [cw_jc, Bool.and_eq_true] at h2
        exact ⟨c', h1, h2.1⟩
    · intro n c e
      have j := join_get h h' n
      rw [e] at j
      cases q : aget r n with
      | none => rw [q] at j; exact g n c j
      | some d =>
        rw [q] at j
        obtain ⟨c', h1, h2⟩ := g n _ j
        rw [cw_jc, Bool.and_eq_true] at h2
        exact ⟨c', h1, h2.2⟩
  · rintro ⟨g1, g2⟩ n c e
    have j := join_get h h' n
    rw [e] at j
    cases q : aget r n with
    | none =>
      rw [q] at j
      exact g2 n c j.symm
    | some a =>
      cases q2 : aget r' n with
      | none =>
        rw [q, q2] at j
        exact g1 n c (by rw [q]; exact j.symm)
      | some b =>
        rw [q, q2] at j
        obtain ⟨c1, h1, h2⟩ := g1 n a q
        obtain ⟨c2, h3, h4⟩ := g2 n b q2
        rw [h1] at h3
        cases h3
        have e3 : c = jc a b := Option.some.inj j
        exact ⟨c1, h1, by rw [e3, cw_jc, h2, h4]; rfl⟩
theorem lin_fold : ∀ {rs : List Rw}, (∀ r ∈ rs, OkR ons pairs r) → ∀ {v : Rw}, OkR ons pairs v → lin (rs.foldl ljoin v) x = (lin v x && rs.all fun r => lin r x)
  | [], _, v, hv => by simp
  | r :: rs, h, v, hv => by
    rw [List.foldl_cons, lin_fold (fun r h' => h r (List.mem_cons_of_mem _ h')) (join_ok hv (h r (List.mem_cons_self ..))), lin_join hv (h r (List.mem_cons_self ..)), List.all_cons, Bool.and_assoc]
theorem lin_joint {rs : List Rw} (h : ∀ r ∈ rs, OkR ons pairs r) : lin (rs.foldl ljoin []) x = rs.all fun r => lin r x := by
  rw [lin_fold h ok_nil]; rfl
end
/-! ### the reader of the form -/
def memS (d : PyData) (ns : List Str) : Bool := match d with
  | .str x => decide (x ∈ ns)
  | _ => false
theorem any_memS (d : PyData) (ns : List Str) : ((ns.map PyData.str).any fun z => PyData.eqv z d) = memS d ns := by
  unfold memS
  induction ns with
  | nil => cases d <;> simp
  | cons n ns ih =>
    rw [List.map_cons, List.any_cons, ih]
    cases d <;> simp only [PyData.eqv, Bool.false_or]
    · rw [Bool.eq_iff_iff]
      simp only [Bool.or_eq_true, beq_iff_eq, decide_eq_true_eq, List.mem_cons]
      constructor
      · rintro (h | h)
        · exact .inl h.symm
        · exact .inr h
      · rintro (h | h)
        · exact .inl h.symm
        · exact .inr h
def okPair (blocks names : List Str) : PyData → Bool
  | .tuple [a, b] => memS a blocks && memS b names
  | _ => false
/-- each before the next -/
def steps : List PyData → Bool
  | d :: e :: r => dataLt d e && steps (e :: r)
  | _ => true
def okCause (blocks names : List Str) : PyData → Bool
  | .str x => decide (x = "always")
  | .tuple ds => !ds.isEmpty && ds.all (okPair blocks names) && steps ds
  | _ => false
def okGo (blocks names : List Str) : Nat → List PyData → Bool
  | _, [] => true
  | least, .tuple [.str x, c] :: r => decide (x ∈ names) && decide (least ≤ names.idxOf x) && okCause blocks names c && okGo blocks names (names.idxOf x + 1) r
  | _, _ => false
def okRow (blocks names : List Str) : PyData → Bool
  | .tuple es => okGo blocks names 0 es
  | _ => false
/-! ### causes as data -/
def Cs.size : Cs → Nat
  | .all => 0
  | .ps l => l.length
def prK (p : Pr) : List L2.Key := [.inr p.1, .inr p.2]
theorem prK_D (p : Pr) : PyData.tuple ((prK p).map kD) = prD p := rfl
theorem prK_inj : ∀ p q : Pr, prK p = prK q → p = q := fun p q h => by
  simp only [prK, List.cons.injEq, Sum.inr.injEq, and_true] at h
  exact Prod.ext h.1 h.2
def strs2 (l : List Pr) : Prop := ∀ p ∈ l, PyData.strOk p.1 = true ∧ PyData.strOk p.2 = true
theorem okd_ps {l : List Pr} : Okd (Cs.ps l).toD ↔ strs2 l := by
  have h1 : pls (l.map prD) = true ↔ strs2 l := by
    rw [pls_all]
    unfold strs2
    constructor
    · intro h p hp
      have := h _ (List.mem_map.mpr ⟨p, hp, rfl⟩)
      simpa [prD, pl, pls] using this
    · intro h d hd
      obtain ⟨p, hp, rfl⟩ := List.mem_map.mp hd
      simpa [prD, pl, pls] using h p hp
  have h2 : PyData.depthAll (l.map prD) ≤ 1 := depthAll_le.mpr fun d hd => by
    obtain ⟨p, hp, rfl⟩ := List.mem_map.mp hd
    simp [prD, PyData.depth, PyData.depthAll]
  constructor
  · intro h
    exact h1.mp (by simpa [pl, Cs.toD] using h.1)
  · intro h
    exact ⟨by simpa [pl, Cs.toD] using h1.mpr h, by show PyData.depth (.tuple (l.map prD)) ≤ 40; simp only [PyData.depth]; omega⟩
theorem okd_all : Okd Cs.all.toD := ⟨by show pl (.str "always") = true; decide +kernel, by decide⟩
/-- as the program gathers -/
theorem once_keys (l acc : List Pr) (kv : List (List L2.Key × Unit)) (h : kv.map (·.1) = acc.map prK) : ((l.foldl (fun m p => aput m (prK p) ()) kv).map (·.1)) = (l.foldl add1 acc).map prK := by
  induction l generalizing acc kv with
  | nil => exact h
  | cons p l ih =>
    rw [List.foldl_cons, List.foldl_cons]
    refine ih _ _ ?_
    rw [aput_keys, h]
    unfold add1
    by_cases z : p ∈ acc
    · rw [if_pos z, if_pos (List.mem_map.mpr ⟨p, z, rfl⟩)]
    · rw [if_neg z, if_neg fun y => by
        obtain ⟨q, hq, e⟩ := List.mem_map.mp y
        rw [prK_inj _ _ e] at hq
        exact z hq]
      simp
theorem alike_prs (l : List Pr) : AllAlike (l.map prD) := fun d hd e he => by
  obtain ⟨p, _, rfl⟩ := List.mem_map.mp hd
  obtain ⟨q, _, rfl⟩ := List.mem_map.mp he
  simp [prD, alike, alikeAll]
theorem sortable_prs (l : List Pr) : Sortable (l.map prD) := .inl fun d hd => by
  obtain ⟨p, _, rfl⟩ := List.mem_map.mp hd
  exact ⟨_, _, rfl⟩
/-- what is known of the script's names -/
structure Ctx (ons : List Str) (pairs : List Pr) : Prop where
  nd : ons.Nodup
  on8 : ons.length ≤ 8
  p16 : pairs.length ≤ 16
  st : strs2 pairs
  os : ∀ n ∈ ons, PyData.strOk n = true
theorem OkC.okd {ons : List Str} {pairs : List Pr} {c : Cs} (C : Ctx ons pairs) (h : OkC pairs c) : Okd c.toD := by
  cases c with
  | all => exact okd_all
  | ps l => exact okd_ps.mpr fun p hp => C.st p (h.2.2 p hp)
theorem OkC.size {ons : List Str} {pairs : List Pr} {c : Cs} (C : Ctx ons pairs) (h : OkC pairs c) : c.size ≤ 16 := by
  cases c with
  | all => exact Nat.zero_le _
  | ps l => exact Nat.le_trans (nd_len h.2.1.nodup h.2.2) C.p16
theorem OkR.len {ons : List Str} {pairs : List Pr} {r : Rw} (C : Ctx ons pairs) (h : OkR ons pairs r) : r.length ≤ 8 := by
  have := nd_len h.nd (m := ons) fun x hx => by
    obtain ⟨e, he, rfl⟩ := List.mem_map.mp hx
    exact (h.ok e he).1
  rw [List.length_map] at this
  exact Nat.le_trans this C.on8
theorem okd_nil : Okd (Cs.ps []).toD := okd_ps.mpr fun p hp => by cases hp
theorem cs_eqv {a b : Cs} (ha : Okd a.toD) (hb : Okd b.toD) : PyData.eqv a.toD b.toD = decide (a = b) := by
  rw [Bool.eq_iff_iff, eqv_pl _ _ ha.1 hb.1, decide_eq_true_eq]
  constructor
  · intro h
    cases a <;> cases b <;> simp only [Cs.toD, PyData.tuple.injEq, reduceCtorEq] at h
    · rfl
    · rw [map_prD h]
  · rintro rfl; rfl
abbrev Op := Str × Int × Int
def opD (o : Op) : PyData := .tuple [.str o.1, .int o.2.1, .int o.2.2]
def opsD (ops : List Op) : PyData := .tuple (ops.map opD)
def SN (l : List Str) : Prop := ∀ n ∈ l, PyData.strOk n = true
def Sm (d : PyData) : Prop := ∀ ds, d = .tuple ds → ds.length ≤ 900
/-- the neighbours' comparisons -/
def lts (ds : List PyData) : List Bool := (List.range (ds.length - 1)).map fun k => dataLt (ds.getD k .none) (ds.getD (k + 1) .none)
theorem steps_lts : ∀ ds : List PyData, (lts ds).all id = steps ds
  | [] => rfl
  | [_] => rfl
  | d :: e :: r => by
    have ih := steps_lts (e :: r)
    have h : lts (d :: e :: r) = dataLt d e :: lts (e :: r) := by
      unfold lts
      simp only [List.length_cons, Nat.add_sub_cancel]
      rw [List.range_succ_eq_map, List.map_cons, List.map_map]
      rfl
    rw [h, List.all_cons, ih]
    rfl
theorem okPair_shape {blocks names : List Str} {d : PyData} (h : okPair blocks names d = true) : ∃ p : Pr, d = prD p ∧ p.1 ∈ blocks ∧ p.2 ∈ names := by
  unfold okPair at h
  split at h
  · rename_i a b
    rw [Bool.and_eq_true] at h
    unfold memS at h
    obtain ⟨h1, h2⟩ := h
    split at h1
    · split at h2
      · rename_i x _ y
        exact ⟨(x, y), rfl, by simpa using h1, by simpa using h2⟩
      · cases h2
    · cases h1
  · cases h
theorem kitB_str : ∀ d : PyData, kitB (tyD d) "str" = some (tyD d == "str") := by
  intro d
  cases d <;> (simp only [tyD]; decide +kernel)
end K13

namespace K13
open PySem PySem.Spec PyProof.Rows L2 AN
open PySem.W (dataLt dataLe alike alikeAll keyToks keyToksAll AllAlike Sortable EachIs)
/-! ### the law's pairs -/
theorem lt_block {b b' n n' : Str} (h : dataLt (.str b) (.str b') = true) : dataLt (prD (b, n)) (prD (b', n')) = true := by
  have hne : PyData.eqv (.str b) (.str b') = false := by
    cases e : PyData.eqv (.str b) (.str b') with
    | false => rfl
    | true =>
      simp only [PyData.eqv, beq_iff_eq] at e
      subst e
      have : dataLt (.str b) (.str b) = false := PyProof.Rows.lex_irrefl (O := itemOrd) _
      rw [this] at h
      cases h
  unfold prD
  rw [PySem.W.dataLt_pair (by simp [alike]) (by simp [alike]), hne]
  simpa using h
def prsOf (bs ns : List Str) : List Pr := bs.flatMap fun b => srt (ns.map fun n => (b, n))
theorem prs_mem {bs ns : List Str} {p : Pr} : p ∈ prsOf bs ns ↔ p.1 ∈ bs ∧ p.2 ∈ ns := by
  unfold prsOf
  rw [List.mem_flatMap]
  constructor
  · rintro ⟨b, hb, hp⟩
    rw [srt_mem] at hp
    obtain ⟨n, hn, rfl⟩ := List.mem_map.mp hp
    exact ⟨hb, hn⟩
  · rintro ⟨h1, h2⟩
    exact ⟨p.1, h1, by rw [srt_mem]; exact List.mem_map.mpr ⟨p.2, h2, rfl⟩⟩
def AscS (bs : List Str) : Prop := bs.Pairwise fun a b => dataLt (.str a) (.str b) = true
theorem prs_ord {bs ns : List Str} (h : AscS bs) (hn : ns.Nodup) : Ord (prsOf bs ns) := by
  unfold Ord prsOf
  rw [List.pairwise_flatMap]
  refine ⟨fun b hb => ?_, ?_⟩
  · refine ord_srt ?_
    rw [List.Nodup, List.pairwise_map]
    exact hn.imp fun {a b} hab e => hab (by cases e; rfl)
  · refine h.imp fun {a b} hab x hx y hy => ?_
    rw [srt_mem] at hx hy
    obtain ⟨n, _, rfl⟩ := List.mem_map.mp hx
    obtain ⟨m, _, rfl⟩ := List.mem_map.mp hy
    exact lt_block hab
theorem prs_len {bs ns : List Str} : (prsOf bs ns).length = bs.length * ns.length := by
  unfold prsOf
  induction bs with
  | nil => simp
  | cons b bs ih =>
    rw [List.flatMap_cons, List.length_append, ih, (srt_perm _).length_eq, List.length_map, List.length_cons, Nat.succ_mul, Nat.add_comm]
theorem prs_snoc {bs ns : List Str} {b : Str} : prsOf (bs ++ [b]) ns = prsOf bs ns ++ srt (ns.map fun n => (b, n)) := by
  unfold prsOf
  rw [List.flatMap_append]
  simp
theorem asc_strs {blocks : List Str} {es : List PyData} (h : es.Perm (blocks.map .str)) (a : Asc es) (nd : blocks.Nodup) : ∃ bs : List Str, es = bs.map .str ∧ bs.Perm blocks ∧ AscS bs := by
  have hall : ∀ {es : List PyData}, (∀ e ∈ es, e ∈ blocks.map PyData.str) → ∃ bs : List Str, es = bs.map .str := fun {es} => by
    induction es with
    | nil => exact fun _ => ⟨[], rfl⟩
    | cons e es ih =>
      intro h
      obtain ⟨b, _, rfl⟩ := List.mem_map.mp (h e (List.mem_cons_self ..))
      obtain ⟨bs, rfl⟩ := ih fun e he => h e (List.mem_cons_of_mem _ he)
      exact ⟨b :: bs, rfl⟩
  obtain ⟨bs, rfl⟩ := hall fun e he => h.mem_iff.mp he
  have hp : bs.Perm blocks := by
    have : ∀ {l m : List Str}, (l.map PyData.str).Perm (m.map PyData.str) → l.Perm m := fun {l m} h => by
      have h2 := h.map (fun d : PyData => match d with | .str x => x | _ => "")
      rw [List.map_map, List.map_map] at h2
      simpa [Function.comp_def] using h2
    exact this h
  refine ⟨bs, rfl, hp, ?_⟩
  unfold Asc at a
  rw [List.pairwise_map] at a
  have nb : bs.Nodup := hp.nodup_iff.mpr nd
  refine (a.and nb).imp fun {x y} hxy => ?_
  cases e : dataLt (.str x) (.str y) with
  | true => rfl
  | false =>
    have := lt_tri e hxy.1
    simp only [keyToks, List.cons.injEq, Sum.inr.injEq, and_true] at this
    exact absurd (cps_inj this) hxy.2
theorem steps_ord : ∀ {l : List Pr}, Ord l → steps (l.map prD) = true
  | [], _ => rfl
  | [_], _ => rfl
  | a :: b :: l, h => by
    have h1 := (List.pairwise_cons.mp h).1 b (List.mem_cons_self ..)
    have h2 := steps_ord (l := b :: l) (List.pairwise_cons.mp h).2
    show (dataLt (prD a) (prD b) && steps (prD b :: l.map prD)) = true
    rw [h1]
    exact h2
theorem okCause_ok {blocks names : List Str} {pairs : List Pr} {c : Cs} (h : OkC pairs c) (hp : ∀ p ∈ pairs, p.1 ∈ blocks ∧ p.2 ∈ names) : okCause blocks names c.toD = true := by
  cases c with
  | all => simp [okCause, Cs.toD]
  | ps l =>
    have h1 : (l.map prD).isEmpty = false := by
      cases l with
      | nil => exact absurd rfl h.1
      | cons _ _ => rfl
    have h2 : (l.map prD).all (okPair blocks names) = true := List.all_eq_true.mpr fun d hd => by
      obtain ⟨p, hp', rfl⟩ := List.mem_map.mp hd
      have := hp p (h.2.2 p hp')
      simp [prD, okPair, memS, this.1, this.2]
    show (!(l.map prD).isEmpty && (l.map prD).all (okPair blocks names) && steps (l.map prD)) = true
    rw [h1, h2, steps_ord h.2.1]
    rfl
theorem okGo_rowT {blocks ons : List Str} {pairs : List Pr} {r : Rw} (nd : ons.Nodup) (hr : OkR ons pairs r) (hp : ∀ p ∈ pairs, p.1 ∈ blocks ∧ p.2 ∈ ons) : ∀ (suf pre : List Str) (l : Nat), ons = pre ++ suf → l ≤ pre.length → okGo blocks ons l ((rowT suf r).map entD) = true
  | [], pre, l, e, hl => by simp [rowT, okGo]
  | n :: suf, pre, l, e, hl => by
    have e2 : ons = (pre ++ [n]) ++ suf := by rw [e]; simp
    have ih := okGo_rowT nd hr hp suf (pre ++ [n])
    unfold rowT
    rw [List.filterMap_cons]
    cases q : aget r n with
    | none =>
      simp only [Option.map_none]
      exact ih l e2 (by simp; omega)
    | some c =>
      simp only [Option.map_some]
      have hn : n ∈ ons := by rw [e]; simp
      have hnp : n ∉ pre := fun z => by
        rw [e, List.nodup_append] at nd
        exact nd.2.2 n z n (List.mem_cons_self ..) rfl
      have hi : ons.idxOf n = pre.length := by
        rw [e, List.idxOf_append, if_neg hnp]
        simp
      rw [List.map_cons]
      show okGo blocks ons l (.tuple [.str n, c.toD] :: _) = true
      have hc := okCause_ok (hr.get q).2 hp
      have hr2 := ih (pre.length + 1) e2 (by simp)
      unfold rowT at hr2
      simp only [okGo, hn, hi, hc, hr2, decide_true, Bool.true_and, Bool.and_true, decide_eq_true_eq]
      exact hl
theorem okRow_rowT {blocks ons : List Str} {pairs : List Pr} {r : Rw} (nd : ons.Nodup) (hr : OkR ons pairs r) (hp : ∀ p ∈ pairs, p.1 ∈ blocks ∧ p.2 ∈ ons) : okRow blocks ons (rowD (rowT ons r)) = true :=
  okGo_rowT nd hr hp ons [] 0 rfl (Nat.le_refl _)
end K13

namespace K13
open PySem PySem.Spec PyProof.Rows L2 AN
def topS (i : Nat) : Stmt := PySem.Challenge.pw_asknest_k13_joint_row_least.main.body.getD i (.Pass ⟨0, 0, 0, 0⟩)
abbrev s_cause_of : Stmt := topS 2
abbrev N_cause_of : List Str := ["row", "name", "operation", "cause"]
theorem sc_cause_of : FnScope N_cause_of ["row", "name"] (defScope s_cause_of) := ⟨rfl, rfl, rfl, by decide +kernel, rfl, by decide +kernel, by decide +kernel⟩
abbrev s_joint_cause : Stmt := topS 3
abbrev N_joint_cause : List Str := ["one", "other", "found", "pair"]
theorem sc_joint_cause : FnScope N_joint_cause ["one", "other"] (defScope s_joint_cause) := ⟨rfl, rfl, rfl, by decide +kernel, rfl, by decide +kernel, by decide +kernel⟩
abbrev s_joint_row : Stmt := topS 4
abbrev N_joint_row : List Str := ["operations", "rows", "causes", "row", "name", "cause", "found", "operation"]
theorem sc_joint_row : FnScope N_joint_row ["operations", "rows"] (defScope s_joint_row) := ⟨rfl, rfl, rfl, by decide +kernel, rfl, by decide +kernel, by decide +kernel⟩
abbrev s_cause_within : Stmt := topS 5
abbrev N_cause_within : List Str := ["one", "other", "pair"]
theorem sc_cause_within : FnScope N_cause_within ["one", "other"] (defScope s_cause_within) := ⟨rfl, rfl, rfl, by decide +kernel, rfl, by decide +kernel, by decide +kernel⟩
abbrev s_is_within : Stmt := topS 6
abbrev N_is_within : List Str := ["row", "other", "name", "cause", "wider"]
theorem sc_is_within : FnScope N_is_within ["row", "other"] (defScope s_is_within) := ⟨rfl, rfl, rfl, by decide +kernel, rfl, by decide +kernel, by decide +kernel⟩
abbrev s_is_pair : Stmt := topS 7
abbrev N_is_pair : List Str := ["blocks", "names", "pair"]
theorem sc_is_pair : FnScope N_is_pair ["blocks", "names", "pair"] (defScope s_is_pair) := ⟨rfl, rfl, rfl, by decide +kernel, rfl, by decide +kernel, by decide +kernel⟩
abbrev s_is_cause : Stmt := topS 8
abbrev N_is_cause : List Str := ["blocks", "names", "cause", "pair", "k"]
theorem sc_is_cause : FnScope N_is_cause ["blocks", "names", "cause"] (defScope s_is_cause) := ⟨rfl, rfl, rfl, by decide +kernel, rfl, by decide +kernel, by decide +kernel⟩
abbrev s_is_row : Stmt := topS 9
abbrev N_is_row : List Str := ["operations", "blocks", "row", "names", "least", "entry", "operation"]
theorem sc_is_row : FnScope N_is_row ["operations", "blocks", "row"] (defScope s_is_row) := ⟨rfl, rfl, rfl, by decide +kernel, rfl, by decide +kernel, by decide +kernel⟩
abbrev s_law_begin : Stmt := topS 11
abbrev N_law_begin : List Str := ["script", "cell"]
theorem sc_law_begin : FnScope N_law_begin ["script"] (defScope s_law_begin) := ⟨rfl, rfl, rfl, by decide +kernel, rfl, by decide +kernel, by decide +kernel⟩
abbrev s_law_draw : Stmt := topS 12
abbrev N_law_draw : List Str := ["d", "many", "found", "size", "cell"]
theorem sc_law_draw : FnScope N_law_draw ["d", "many"] (defScope s_law_draw) := ⟨rfl, rfl, rfl, by decide +kernel, rfl, by decide +kernel, by decide +kernel⟩
abbrev s_law_pick : Stmt := topS 13
abbrev N_law_pick : List Str := ["d", "row"]
theorem sc_law_pick : FnScope N_law_pick ["d", "row"] (defScope s_law_pick) := ⟨rfl, rfl, rfl, by decide +kernel, rfl, by decide +kernel, by decide +kernel⟩
abbrev s_law_pop : Stmt := topS 14
abbrev N_law_pop : List Str := ["d", "row"]
theorem sc_law_pop : FnScope N_law_pop ["d", "row"] (defScope s_law_pop) := ⟨rfl, rfl, rfl, by decide +kernel, rfl, by decide +kernel, by decide +kernel⟩
abbrev s_law_shuffled : Stmt := topS 15
abbrev N_law_shuffled : List Str := ["d", "row", "left", "found", "k"]
theorem sc_law_shuffled : FnScope N_law_shuffled ["d", "row"] (defScope s_law_shuffled) := ⟨rfl, rfl, rfl, by decide +kernel, rfl, by decide +kernel, by decide +kernel⟩
abbrev s_law_pool : Stmt := topS 16
abbrev N_law_pool : List Str := ["text"]
theorem sc_law_pool : FnScope N_law_pool [] (defScope s_law_pool) := ⟨rfl, rfl, rfl, by decide +kernel, rfl, by decide +kernel, by decide +kernel⟩
abbrev s_law_join : Stmt := topS 17
abbrev N_law_join : List Str := ["one", "other", "found", "p", "pair"]
theorem sc_law_join : FnScope N_law_join ["one", "other"] (defScope s_law_join) := ⟨rfl, rfl, rfl, by decide +kernel, rfl, by decide +kernel, by decide +kernel⟩
abbrev s_law_row_tuple : Stmt := topS 18
abbrev N_law_row_tuple : List Str := ["program", "row", "p"]
theorem sc_law_row_tuple : FnScope N_law_row_tuple ["program", "row"] (defScope s_law_row_tuple) := ⟨rfl, rfl, rfl, by decide +kernel, rfl, by decide +kernel, by decide +kernel⟩
abbrev s_law_says : Stmt := topS 19
abbrev N_law_says : List Str := ["told", "due"]
theorem sc_law_says : FnScope N_law_says ["told", "due"] (defScope s_law_says) := ⟨rfl, rfl, rfl, by decide +kernel, rfl, by decide +kernel, by decide +kernel⟩
abbrev s_law_some_row : Stmt := topS 20
abbrev N_law_some_row : List Str := ["d", "ops", "pairs", "found", "p", "way", "cause", "pair"]
theorem sc_law_some_row : FnScope N_law_some_row ["d", "ops", "pairs"] (defScope s_law_some_row) := ⟨rfl, rfl, rfl, by decide +kernel, rfl, by decide +kernel, by decide +kernel⟩
abbrev s_law_less : Stmt := topS 21
abbrev N_law_less : List Str := ["d", "row", "pairs", "found", "p", "at"]
theorem sc_law_less : FnScope N_law_less ["d", "row", "pairs"] (defScope s_law_less) := ⟨rfl, rfl, rfl, by decide +kernel, rfl, by decide +kernel, by decide +kernel⟩
abbrev s_law_some_rows : Stmt := topS 22
abbrev N_law_some_rows : List Str := ["d", "ops", "pairs", "rows", "k", "row", "way"]
theorem sc_law_some_rows : FnScope N_law_some_rows ["d", "ops", "pairs"] (defScope s_law_some_rows) := ⟨rfl, rfl, rfl, by decide +kernel, rfl, by decide +kernel, by decide +kernel⟩
abbrev s_law_inside : Stmt := topS 23
abbrev N_law_inside : List Str := ["row", "other", "p", "pair"]
theorem sc_law_inside : FnScope N_law_inside ["row", "other"] (defScope s_law_inside) := ⟨rfl, rfl, rfl, by decide +kernel, rfl, by decide +kernel, by decide +kernel⟩
abbrev s_law_fits_cause : Stmt := topS 24
abbrev N_law_fits_cause : List Str := ["names", "blocks", "cause", "k", "pair"]
theorem sc_law_fits_cause : FnScope N_law_fits_cause ["names", "blocks", "cause"] (defScope s_law_fits_cause) := ⟨rfl, rfl, rfl, by decide +kernel, rfl, by decide +kernel, by decide +kernel⟩
abbrev s_law_fits_row : Stmt := topS 25
abbrev N_law_fits_row : List Str := ["names", "blocks", "thing", "last", "entry", "place"]
theorem sc_law_fits_row : FnScope N_law_fits_row ["names", "blocks", "thing"] (defScope s_law_fits_row) := ⟨rfl, rfl, rfl, by decide +kernel, rfl, by decide +kernel, by decide +kernel⟩
abbrev s_law_bent_entry : Stmt := topS 26
abbrev N_law_bent_entry : List Str := ["d", "ops", "blocks", "entry", "p", "cause", "names", "way", "others", "at", "pair", "q"]
theorem sc_law_bent_entry : FnScope N_law_bent_entry ["d", "ops", "blocks", "entry"] (defScope s_law_bent_entry) := ⟨rfl, rfl, rfl, by decide +kernel, rfl, by decide +kernel, by decide +kernel⟩
abbrev s_law_bent : Stmt := topS 27
abbrev N_law_bent : List Str := ["d", "ops", "blocks", "row", "way", "odd", "at"]
theorem sc_law_bent : FnScope N_law_bent ["d", "ops", "blocks", "row"] (defScope s_law_bent) := ⟨rfl, rfl, rfl, by decide +kernel, rfl, by decide +kernel, by decide +kernel⟩
abbrev s_law_order_holds : Stmt := topS 28
abbrev N_law_order_holds : List Str := ["ops", "rows", "every", "joint", "told", "k", "due", "j", "row"]
theorem sc_law_order_holds : FnScope N_law_order_holds ["ops", "rows", "every", "joint"] (defScope s_law_order_holds) := ⟨rfl, rfl, rfl, by decide +kernel, rfl, by decide +kernel, by decide +kernel⟩
abbrev s_law : Stmt := topS 29
abbrev N_law : List Str := ["script", "d", "names", "ops", "blocks", "pairs", "block", "rows", "joint", "row", "told", "every", "k", "others", "around", "thing", "due", "p"]
theorem sc_law : FnScope N_law ["script"] (defScope s_law) := ⟨rfl, rfl, rfl, by decide +kernel, rfl, by decide +kernel, by decide +kernel⟩
structure Top (K : PySem.W.Frag) (mg : Str → Option Value) : Prop where
  m_abs : mg "abs" = none
  m_all : mg "all" = none
  m_bool : mg "bool" = none
  m_dict : mg "dict" = none
  m_int : mg "int" = none
  m_isinstance : mg "isinstance" = none
  m_len : mg "len" = none
  m_list : mg "list" = none
  m_range : mg "range" = none
  m_sorted : mg "sorted" = none
  m_str : mg "str" = none
  m_tuple : mg "tuple" = none
  g_ALWAYS : ∃ t : Tok, mg "ALWAYS" = some (.str "always" t)
  d_cause_of : Def K mg "cause_of" s_cause_of ["row", "name"]
  d_joint_cause : Def K mg "joint_cause" s_joint_cause ["one", "other"]
  d_joint_row : Def K mg "joint_row" s_joint_row ["operations", "rows"]
  d_cause_within : Def K mg "cause_within" s_cause_within ["one", "other"]
  d_is_within : Def K mg "is_within" s_is_within ["row", "other"]
  d_is_pair : Def K mg "is_pair" s_is_pair ["blocks", "names", "pair"]
  d_is_cause : Def K mg "is_cause" s_is_cause ["blocks", "names", "cause"]
  d_is_row : Def K mg "is_row" s_is_row ["operations", "blocks", "row"]
  d_law_begin : Def K mg "_law_begin" s_law_begin ["script"]
  d_law_draw : Def K mg "_law_draw" s_law_draw ["d", "many"]
  d_law_pick : Def K mg "_law_pick" s_law_pick ["d", "row"]
  d_law_pop : Def K mg "_law_pop" s_law_pop ["d", "row"]
  d_law_shuffled : Def K mg "_law_shuffled" s_law_shuffled ["d", "row"]
  d_law_pool : Def K mg "_law_pool" s_law_pool []
  d_law_join : Def K mg "_law_join" s_law_join ["one", "other"]
  d_law_row_tuple : Def K mg "_law_row_tuple" s_law_row_tuple ["program", "row"]
  d_law_says : Def K mg "_law_says" s_law_says ["told", "due"]
  d_law_some_row : Def K mg "_law_some_row" s_law_some_row ["d", "ops", "pairs"]
  d_law_less : Def K mg "_law_less" s_law_less ["d", "row", "pairs"]
  d_law_some_rows : Def K mg "_law_some_rows" s_law_some_rows ["d", "ops", "pairs"]
  d_law_inside : Def K mg "_law_inside" s_law_inside ["row", "other"]
  d_law_fits_cause : Def K mg "_law_fits_cause" s_law_fits_cause ["names", "blocks", "cause"]
  d_law_fits_row : Def K mg "_law_fits_row" s_law_fits_row ["names", "blocks", "thing"]
  d_law_bent_entry : Def K mg "_law_bent_entry" s_law_bent_entry ["d", "ops", "blocks", "entry"]
  d_law_bent : Def K mg "_law_bent" s_law_bent ["d", "ops", "blocks", "row"]
  d_law_order_holds : Def K mg "_law_order_holds" s_law_order_holds ["ops", "rows", "every", "joint"]
  d_law : Def K mg "law" s_law ["script"]
section
variable {P : Program} {w : World} {K : PySem.W.Frag} {mg : Str → Option Value} {base : Heap}
local macro_rules | `(tactic| regloopunroll_open) => `(tactic| (repeat (first | kct_strs | regstrif_slice | kfm_turns | ((with_reducible refine' ixL_q ?h ?e ?j ?_); (case j => exact rfl); (case h => first | assumption | exact SqL.of (by regstrif_fact)); (case e => first | exact rfl | assumption)) | (with_reducible first | refine rI0_int ?_ | refine ipI_int ?_ | refine addG_int ?_ | refine intOf_int ?_ | refine intOf_bl ?_ | refine absOf_int ?_ | refine rU_int ?_ | refine eqG_int ?_ | refine neG_int ?_ | refine neG_str ?_ | refine ltI_q ?_ | refine lenS_q (by decide +kernel) ?_) | ((with_reducible refine' rI_int ?c ?_); (case c => (first | exact Int.mul_pos (by decide) (Int.pow_pos (by decide)) | omega | exact ⟨by omega, by omega⟩ | exact Or.inl ⟨by omega, by omega⟩ | exact Or.inr ⟨by omega, by omega⟩ | exact ⟨by omega, by omega, by decide⟩ | decide))) | (first | ((with_reducible refine' tupOf_rep ?h ?_); (case h => lcg_src)) | ((with_reducible refine' tupOf_lst ?h ?_); (case h => regstrif_fact); intro _ _ _ _ _)) | ((with_reducible refine' isi_rep ?h ?e ?_); (case h => lcg_src); (case e => first | exact (show kitB "tuple" _ = some true by decide +kernel) | exact (show kitB "tuple" _ = some false by decide +kernel) | exact (show kitB "int" _ = some true by decide +kernel) | exact (show kitB "int" _ = some false by decide +kernel) | exact (show kitB "str" _ = some true by decide +kernel) | exact (show kitB "str" _ = some false by decide +kernel) | exact (show kitB "bool" _ = some true by decide +kernel) | exact (show kitB "bool" _ = some false by decide +kernel))) | ((with_reducible refine' draw_q ?h ?a ?b ?_); (case h => regstrif_gather); (case a => first | decide | omega); (case b => first | decide | omega); intro _ _ _ _ _) | ((with_reducible refine' setD_q ?h ?x ?l ?_); (case h => regstrif_fact); (case x => (first | exact (show V.str _ = kV (Sum.inr _) from rfl) | exact (show V.int _ = kV (Sum.inl _) from rfl))); (case l => assumption); intro _ _ _) | ((with_reducible first | refine' inD_q ?h ?x ?_ | refine' notInD_q ?h ?x ?_); (case h => regstrif_fact); (case x => (first | exact (show V.str _ = kV (Sum.inr _) from rfl) | exact (show V.int _ = kV (Sum.inl _) from rfl)))) | (with_reducible refine g_dnew (fun _ _ _ _ _ => ?_)) | ((with_reducible refine' lst_ty ?h ?_); (case h => regstrif_fact)) | ((with_reducible refine' append_q ?h ?l ?_); (case h => regstrif_fact); (case l => assumption); intro _ _ _) | ((with_reducible refine' pop_q ?h ?_); (case h => regstrif_fact); intro _ _ _) | ((with_reducible refine' gTup2_rep ?h ?_); (case h => lcg_src); intro _ _ _ _) | ((with_reducible refine' gTup3_rep ?h ?_); (case h => lcg_src); intro _ _ _ _ _ _) | ((with_reducible refine' setL_q ?h ?j ?k ?_); (case j => exact rfl); (case h => regstrif_fact); (case k => first | exact Nat.le_of_ble_eq_true rfl | assumption); intro _ _ _) | ((with_reducible refine' len_lst ?h ?_); (case h => lsm_bools)) | ((with_reducible refine' len_tup ?h ?_); (case h => lcg_src)) | ((with_reducible refine' g_aug ?e ?_); (case e => exact rfl)) | ((with_reducible refine' getL_q ?h ?e ?j ?_); (case j => exact rfl); (case h => lsm_bools); (case e => first | exact rfl | assumption)) | ((with_reducible refine' setL1_q ?h ?j ?k ?_); (case j => exact rfl); (case h => regstrif_fact); (case k => first | exact Nat.le_of_ble_eq_true rfl | assumption); intro _ _ _) | ((with_reducible refine' newR ?k ?r ?l ?_); (case k => assumption); (case r => lcg_sub); (case l => exact Nat.le_of_ble_eq_true rfl); intro _ _ _ _) | (with_reducible refine newT (Nat.le_of_ble_eq_true rfl) (fun _ _ _ _ _ => ?_)) | (with_reducible refine newL (Nat.le_of_ble_eq_true rfl) (fun _ _ _ _ _ => ?_)) | ((with_reducible refine' in_rep ?h ?e1 ?e2 ?e3 ?e4 ?_); (case h => lcg_src); (case e1 => exact rfl); (case e2 => exact rfl); (case e3 => exact rfl); (case e4 => first | exact (show _ = true by decide +kernel) | exact (show _ = false by decide +kernel))) | with_reducible refine eqG_str ?_ | (first | ((with_reducible refine' ifT ?e ?_); (case e => (with_reducible rfl))) | ((with_reducible refine' ifF ?e ?_); (case e => decide +kernel)) | ((with_reducible refine' ifNF ?e ?_); (case e => (with_reducible rfl))) | ((with_reducible refine' ifNT ?e ?_); (case e => decide +kernel)) | with_reducible refine iteN1 ?_ | with_reducible refine iteN0 ?_ | with_reducible refine iteT ?_ | with_reducible refine iteF ?_))))
local macro_rules | `(tactic| kpf_close) => `(tactic| (repeat (first | (first | (with_reducible first | refine g_seq ?_ | refine g_next ?_ | refine g_asg ?_ | refine g_name ?_ | refine g_c ?_ | refine g_op ?_ | refine g_tup ?_ | refine g_lst ?_ | refine g_nil ?_ | refine g_cons ?_ | refine g_ret ?_ | refine g_retN ?_ | refine g_test ?_ | refine g_b ?_ | refine g_drop ?_ | refine g_bl ?_ | refine g_and ?_ | refine g_or ?_ | refine g_not ?_ | refine g_andV ?_ | refine g_orV ?_ | refine g_cb ?_ | refine g_call ?_ | refine g_un ?_ | refine g_if ?_ | refine g_sub ?_ | refine g_yes ?_ | refine g_tapp ?_ | refine g_tapp0 ?_ | refine g_sl ?_ | refine g_nopart ?_ | refine g_part ?_ | refine g_int ?_ | refine g_augs ?_ | refine g_forR1 ?_ | refine g_lcR1 ?_) | ((with_reducible refine' g_var ?e ?_); (case e => exact rfl))) | regstrif_slice | kfm_turns | ((with_reducible refine' ixL_q ?h ?e ?j ?_); (case j => exact rfl); (case h => first | assumption | exact SqL.of (by regstrif_fact)); (case e => first | exact rfl | assumption)) | (with_reducible first | refine rI0_int ?_ | refine ipI_int ?_ | refine addG_int ?_ | refine intOf_int ?_ | refine intOf_bl ?_ | refine absOf_int ?_ | refine rU_int ?_ | refine eqG_int ?_ | refine neG_int ?_ | refine neG_str ?_ | refine ltI_q ?_ | refine lenS_q (by decide +kernel) ?_) | ((with_reducible refine' rI_int ?c ?_); (case c => (first | exact Int.mul_pos (by decide) (Int.pow_pos (by decide)) | omega | exact ⟨by omega, by omega⟩ | exact Or.inl ⟨by omega, by omega⟩ | exact Or.inr ⟨by omega, by omega⟩ | exact ⟨by omega, by omega, by decide⟩ | decide))) | (first | ((with_reducible refine' tupOf_rep ?h ?_); (case h => lcg_src)) | ((with_reducible refine' tupOf_lst ?h ?_); (case h => regstrif_fact); intro _ _ _ _ _)) | ((with_reducible refine' isi_rep ?h ?e ?_); (case h => lcg_src); (case e => first | exact (show kitB "tuple" _ = some true by decide +kernel) | exact (show kitB "tuple" _ = some false by decide +kernel) | exact (show kitB "int" _ = some true by decide +kernel) | exact (show kitB "int" _ = some false by decide +kernel) | exact (show kitB "str" _ = some true by decide +kernel) | exact (show kitB "str" _ = some false by decide +kernel) | exact (show kitB "bool" _ = some true by decide +kernel) | exact (show kitB "bool" _ = some false by decide +kernel))) | ((with_reducible refine' draw_q ?h ?a ?b ?_); (case h => regstrif_gather); (case a => first | decide | omega); (case b => first | decide | omega); intro _ _ _ _ _) | ((with_reducible refine' setD_q ?h ?x ?l ?_); (case h => regstrif_fact); (case x => (first | exact (show V.str _ = kV (Sum.inr _) from rfl) | exact (show V.int _ = kV (Sum.inl _) from rfl))); (case l => assumption); intro _ _ _) | ((with_reducible first | refine' inD_q ?h ?x ?_ | refine' notInD_q ?h ?x ?_); (case h => regstrif_fact); (case x => (first | exact (show V.str _ = kV (Sum.inr _) from rfl) | exact (show V.int _ = kV (Sum.inl _) from rfl)))) | (with_reducible refine g_dnew (fun _ _ _ _ _ => ?_)) | ((with_reducible refine' lst_ty ?h ?_); (case h => regstrif_fact)) | ((with_reducible refine' append_q ?h ?l ?_); (case h => regstrif_fact); (case l => assumption); intro _ _ _) | ((with_reducible refine' pop_q ?h ?_); (case h => regstrif_fact); intro _ _ _) | ((with_reducible refine' gTup2_rep ?h ?_); (case h => lcg_src); intro _ _ _ _) | ((with_reducible refine' gTup3_rep ?h ?_); (case h => lcg_src); intro _ _ _ _ _ _) | ((with_reducible refine' setL_q ?h ?j ?k ?_); (case j => exact rfl); (case h => regstrif_fact); (case k => first | exact Nat.le_of_ble_eq_true rfl | assumption); intro _ _ _) | ((with_reducible refine' len_lst ?h ?_); (case h => lsm_bools)) | ((with_reducible refine' len_tup ?h ?_); (case h => lcg_src)) | ((with_reducible refine' g_aug ?e ?_); (case e => exact rfl)) | ((with_reducible refine' getL_q ?h ?e ?j ?_); (case j => exact rfl); (case h => lsm_bools); (case e => first | exact rfl | assumption)) | ((with_reducible refine' setL1_q ?h ?j ?k ?_); (case j => exact rfl); (case h => regstrif_fact); (case k => first | exact Nat.le_of_ble_eq_true rfl | assumption); intro _ _ _) | ((with_reducible refine' newR ?k ?r ?l ?_); (case k => assumption); (case r => lcg_sub); (case l => exact Nat.le_of_ble_eq_true rfl); intro _ _ _ _) | (with_reducible refine newT (Nat.le_of_ble_eq_true rfl) (fun _ _ _ _ _ => ?_)) | (with_reducible refine newL (Nat.le_of_ble_eq_true rfl) (fun _ _ _ _ _ => ?_)) | ((with_reducible refine' in_rep ?h ?e1 ?e2 ?e3 ?e4 ?_); (case h => lcg_src); (case e1 => exact rfl); (case e2 => exact rfl); (case e3 => exact rfl); (case e4 => first | exact (show _ = true by decide +kernel) | exact (show _ = false by decide +kernel))) | with_reducible refine eqG_str ?_ | (first | ((with_reducible refine' ifT ?e ?_); (case e => (with_reducible rfl))) | ((with_reducible refine' ifF ?e ?_); (case e => decide +kernel)) | ((with_reducible refine' ifNF ?e ?_); (case e => (with_reducible rfl))) | ((with_reducible refine' ifNT ?e ?_); (case e => decide +kernel)) | with_reducible refine iteN1 ?_ | with_reducible refine iteN0 ?_ | with_reducible refine iteT ?_ | with_reducible refine iteF ?_))))
local macro_rules | `(tactic| lcg_src) => `(tactic| (repeat' (first | exact rep_as (by assumption) | exact rep_int | exact rep_str | exact rep_bl | exact rep_non | (with_reducible refine' Rep.up ?_ (by assumption)))))
local macro_rules | `(tactic| lcg_sub) => `(tactic| (repeat' (first | (with_reducible exact reps_nil) | (with_reducible refine' reps_cons ?_ ?_) | exact rep_as (by assumption) | exact reps_as (by assumption) | exact rep_int | exact rep_str | exact rep_bl | exact rep_non | (with_reducible refine' Rep.up ?_ (by assumption)) | (with_reducible refine' Reps.up ?_ (by assumption)))))
local macro_rules | `(tactic| lcg_off) => `(tactic| (repeat' (first | exact Fr.refl _ _ | exact fr_as (by assumption) | refine Fr.step0 ?_ (by assumption) | refine Fr.step ?_ (by assumption))))
local macro_rules | `(tactic| regstrif_fact) => `(tactic| (repeat' (first | exact at_as (by assumption) | refine' Fr.at (by assumption) ?_ | refine' Fr.at1 (by assumption) ?_ (by first | assumption | exact Ne.symm (by assumption)))))
local macro_rules | `(tactic| regstrif_gather) => `(tactic| (repeat' (first | exact dok_as (by assumption) | refine' DrawOk.fr0 ?_ (by assumption) | refine' DrawOk.fr1 ?_ (by assumption) (by assumption) (by assumption))))
local macro_rules | `(tactic| regstrif_slice) => `(tactic| (dsimp only [List.set, List.cons_append, List.nil_append, List.append_nil, Option.isSome_none, Option.isSome_some, Option.getD_none, Option.getD_some, Bool.not_true, Bool.not_false]))
local macro_rules | `(tactic| kpt_turns) => `(tactic| dsimp only [cxOf, List.map, List.cons_append, List.nil_append])
local macro_rules | `(tactic| kpc_turns) => `(tactic| (repeat (first | kct_strs | regstrif_slice)))
local macro_rules | `(tactic| kfm_turns) => `(tactic| ((with_reducible refine' ix_get ?h ?j ?e ?_); (case h => lcg_src); (case j => exact rfl); (case e => exact rfl); (first | with_reducible refine get_str ?_ | with_reducible refine get_int ?_ | with_reducible refine get_bl ?_ | refine get_any (fun _ _ => ?_))))
local macro_rules | `(tactic| lsm_bools) => `(tactic| (first | assumption | exact SqL.of (by regstrif_fact)))
local macro_rules | `(tactic| kct_strs) => `(tactic| (first | (with_reducible first | refine g_seq ?_ | refine g_next ?_ | refine g_asg ?_ | refine g_name ?_ | refine g_c ?_ | refine g_op ?_ | refine g_tup ?_ | refine g_lst ?_ | refine g_nil ?_ | refine g_cons ?_ | refine g_ret ?_ | refine g_retN ?_ | refine g_ifs ?_ | refine g_test ?_ | refine g_b ?_ | refine g_drop ?_ | refine g_bl ?_ | refine g_and ?_ | refine g_or ?_ | refine g_not ?_ | refine g_andV ?_ | refine g_orV ?_ | refine g_cb ?_ | refine g_call ?_ | refine g_un ?_ | refine g_if ?_ | refine g_sub ?_ | refine g_yes ?_ | refine g_tapp ?_ | refine g_tapp0 ?_ | refine g_sl ?_ | refine g_nopart ?_ | refine g_part ?_ | refine g_int ?_ | refine g_augs ?_ | refine g_forR1 ?_ | refine g_lcR1 ?_) | ((with_reducible refine' g_var ?e ?_); (case e => exact rfl))))

theorem row_at {r : Rw} {i : Nat} {d : PyData} (h : (r.map entD)[i]? = some d) : ∃ n c, r[i]? = some (n, c) ∧ d = entD (n, c) := by
  rw [List.getElem?_map] at h
  obtain ⟨e, h1, h2⟩ := Option.map_eq_some_iff.mp h
  exact ⟨e.1, e.2, h1, h2.symm⟩
def spCauseOf (K : PySem.W.Frag) : Sp := fun vs H Q _ => ∃ x r n, vs = [x, .str n] ∧ Rep K H (rowD r) x ∧ ∀ H' v, Fr [] H H' → Rep K H' (cof r n).toD v → Q v H'
theorem ok_cause_of (T : Top K mg) : Cal P w K mg base CX0 1 "cause_of" ["row", "name"] (spCauseOf K) := by
  refine T.d_cause_of.cal sc_cause_of [none, none] rfl (fun vs H Q E h => ?_) (fun f cdv A outer s H vs Q E hk hr h => ?_)
  · obtain ⟨x, r, n, rfl, _⟩ := h; rfl
  obtain ⟨x, r, n, rfl, hx, q⟩ := h
  have hu := hu_of hr
  refine ⟨_, (pss_cons (ps_for PassesOwn.never rfl (pi_seqK (K := K) rfl (pv 0)) (pg_tupK (K := K) (n := 2) rfl rfl (pgs_cons (pg_name (i := 2) sc_cause_of.nd rfl (Or.inl rfl)) (pgs_cons (pg_name (i := 3) sc_cause_of.nd rfl (Or.inl rfl)) pgs_nil))) (pss_one (ps_if (pt_cmpR (op_eqGK (K := K) rfl hr.units) (pv 2) (pv 1) (nomark _)) (pss_one (ps_ret (pv 3))) pss_nil))) (pss_one (ps_ret (pe_tup pa_nil)))), ?_⟩
  kpt_turns
  regloopunroll_open
  refine g_forT ?_
  regloopunroll_open
  refine forT_rep hx (fun i σ' H' => Fr [] H H' ∧ aget (r.take i) n = none ∧ ∃ o1 o2, σ' = [some x, some (.str n), o1, o2]) ⟨Fr.refl _ _, rfl, _, _, rfl⟩ (fun i σ' H' p => ⟨_, p.1⟩) (fun i d y σ' H' hd hy p => ?_) (fun σ' H' p => ?_)
  · obtain ⟨fr, hn, o1, o2, rfl⟩ := p
    obtain ⟨m, c, e, rfl⟩ := row_at hd
    have e1 : aget (r.take (i + 1)) n = if m = n then some c else none := by
      rw [List.take_add_one, e, aget_app, hn]
      simp [aget_cons, aget_nil]
    regloopunroll_open
    rename_i v1 v2 h1 h2
    cases srep h1
    regloopunroll_open
    refine ifD (fun z => ?_) (fun z => ?_)
    · have z' : m = n := by simpa using z
      regloopunroll_open
      refine q H' v2 fr ?_
      have : aget r n = some c := by
        have := aget_app n (r.take (i + 1)) (r.drop (i + 1))
        rw [List.take_append_drop, e1, if_pos z'] at this
        simpa using this
      unfold cof
      rw [this]
      exact h2
    · have z' : ¬ m = n := by simpa using z
      rw [if_neg z'] at e1
      regloopunroll_open
      exact ⟨fr, e1, _, _, rfl⟩
  · obtain ⟨fr, hn, o1, o2, rfl⟩ := p
    regloopunroll_open
    rename_i H2 v2 f2 r2
    refine q H2 _ (fr.step f2) ?_
    rw [List.length_map, List.take_length] at hn
    unfold cof
    rw [hn]
    exact r2

def spJC (K : PySem.W.Frag) : Sp := fun vs H Q _ => ∃ x y a b, vs = [x, y] ∧ Rep K H (Cs.toD a) x ∧ Rep K H (Cs.toD b) y ∧ Okd (Cs.toD a) ∧ Okd (Cs.toD b) ∧ a.size + b.size ≤ 900 ∧ ∀ H' v, Fr [] H H' → Rep K H' (jc a b).toD v → Q v H'
theorem ok_joint_cause (T : Top K mg) : Cal P w K mg base CX0 1 "joint_cause" ["one", "other"] (spJC K) := by
  refine T.d_joint_cause.cal sc_joint_cause [none, none] rfl (fun vs H Q E h => ?_) (fun f cdv A outer s H vs Q E hk hr h => ?_)
  · obtain ⟨x, y, a, b, rfl, _⟩ := h; rfl
  obtain ⟨x, y, a, b, rfl, hx, hy, oa, ob, hz, q⟩ := h
  have hu := hu_of hr
  refine ⟨_, (pss_cons (ps_if (PW.pt (pw_or (pt_cmpR (op_eqGK (K := K) rfl hr.units) (pv 0) (pe_glob (v := .str "always") (by rfl) T.g_ALWAYS.choose_spec ⟨_, rfl⟩) (nomark _)) (pw_or1 (pt_cmpR (op_eqGK (K := K) rfl hr.units) (pv 1) (pe_glob (v := .str "always") (by rfl) T.g_ALWAYS.choose_spec ⟨_, rfl⟩) (nomark _))))) (pss_one (ps_ret (pe_glob (v := .str "always") (by rfl) T.g_ALWAYS.choose_spec ⟨_, rfl⟩))) pss_nil) (pss_cons (ps_set (i := 2) sc_joint_cause.nd rfl (Or.inl rfl) pe_dnewT) (pss_cons (ps_for PassesOwn.never rfl (pi_seqK (K := K) rfl (pe_op (op_addGK (K := K) rfl) (pv 0) (pv 1))) (pg_name (i := 3) sc_joint_cause.nd rfl (Or.inl rfl)) (pss_one (ps_asg pe_bl (pg_sub (pv 2) (pv 3) (set_G hu))))) (pss_one (ps_ret (pe_callTy (call_tupGK (K := K) rfl) (by rfl) T.m_tuple (by decide +kernel) (pa_cons (pe_callB (call_sorted2K (K := K) rfl rfl hr.u65) (by rfl) T.m_sorted (by decide +kernel) (pa_cons (pv 2) pa_nil)) pa_nil))))))), ?_⟩
  kpt_turns
  regloopunroll_open
  cases a with
  | all =>
    refine eqXT hx rep_str oa okd_all (by decide +kernel) ?_
    regloopunroll_open
    exact q H _ (Fr.refl _ _) rep_str
  | ps a =>
    refine eqXF hx rep_str oa okd_all rfl ?_
    regloopunroll_open
    cases b with
    | all =>
      refine eqXT hy rep_str ob okd_all (by decide +kernel) ?_
      regloopunroll_open
      exact q H _ (Fr.refl _ _) rep_str
    | ps b =>
      refine eqXF hy rep_str ob okd_all rfl ?_
      regloopunroll_open
      refine tw_new (K := K) (toD := fun _ : Unit => PyData.bool true) (fun H1 p f1 np t1 => ?_)
      regloopunroll_open
      refine g_forT ?_
      regloopunroll_open
      refine addG_tup (hx.up f1) (hy.up f1) (by simpa [Cs.size] using Nat.le_trans hz (by decide)) (fun H2 v2 f2 r2 => ?_)
      rw [← List.map_append] at r2
      have hkeys := fun i => once_keys ((a ++ b).take i) [] [] rfl
      have hlen : ∀ i, (((a ++ b).take i).foldl (fun m p => aput m (prK p) ()) ([] : List (List L2.Key × Unit))).length ≤ 900 := fun i => by
        have e := congrArg List.length (hkeys i)
        rw [List.length_map, List.length_map] at e
        rw [e]
        have h1 : ∀ (l acc : List Pr), (l.foldl add1 acc).length ≤ acc.length + l.length := fun l => by
          induction l with
          | nil => intro acc; simp
          | cons p l ih =>
            intro acc
            rw [List.foldl_cons, List.length_cons]
            have := ih (add1 acc p)
            have h2 : (add1 acc p).length ≤ acc.length + 1 := by unfold add1; split <;> simp
            omega
        have h2 := h1 ((a ++ b).take i) []
        rw [List.length_take, List.length_append] at h2
        simp only [Cs.size] at hz
        simp only [List.length_nil] at h2
        omega
      refine forT_rep r2 (fun i σ' H' => Fr [p] H2 H' ∧ TW K H' (fun _ : Unit => PyData.bool true) p (((a ++ b).take i).foldl (fun m p => aput m (prK p) ()) []) ∧ ∃ o, σ' = [some x, some y, some (.ref p), o]) ⟨Fr.refl _ _, t1.fr f2 (by simp), _, rfl⟩ (fun i σ' H' p => ⟨_, p.1⟩) (fun i d y' σ' H' hd hy' p' => ?_) (fun σ' H' p' => ?_)
      · obtain ⟨fr, t, o, rfl⟩ := p'
        rw [List.getElem?_map] at hd
        obtain ⟨pr, e, rfl⟩ := Option.map_eq_some_iff.mp hd
        regloopunroll_open
        refine tw_set (k := prK pr) (c := ()) t hy' rep_bl (Nat.lt_of_le_of_lt (hlen i) (by decide)) (fun H3 f3 t3 => ?_)
        regloopunroll_open
        refine ⟨fr.step f3, ?_, _, rfl⟩
        rw [List.take_add_one, e, Option.toList_some, List.foldl_append]
        exact t3
      · obtain ⟨fr, t, o, rfl⟩ := p'
        rw [List.length_map, List.take_length] at t
        have hk1 := once_keys (a ++ b) [] [] rfl
        have hl1 := hlen (a ++ b).length
        rw [List.take_length] at hl1
        have e1 : (((a ++ b).foldl (fun m p => aput m (prK p) ()) ([] : List (List L2.Key × Unit))).map fun p => PyData.tuple (p.1.map kD)) = (once (a ++ b)).map prD := by
          have := congrArg (List.map fun k : List L2.Key => PyData.tuple (k.map kD)) hk1
          rw [List.map_map, List.map_map] at this
          exact this
        regloopunroll_open
        refine tw_sorted t (by rw [e1]; exact alike_prs _) (by rw [e1]; exact sortable_prs _) (Nat.lt_of_le_of_lt hl1 (by decide)) (fun H4 p4 ys es hperm hasc f4 n4 e4 r4 => ?_)
        rw [e1] at hperm
        have e2 := srt_of hperm hasc
        regloopunroll_open
        rename_i H5 p5 f5 n5 e5
        refine q H5 _ (((f1.step0 f2).over np fr).step0 f4 |>.step0 f5) ?_
        refine rep_tup e5 ?_
        rw [e2] at r4
        exact r4.up f5

def spJR (K : PySem.W.Frag) : Sp := fun vs H Q _ => ∃ x y ops rs pairs, vs = [x, y] ∧ Rep K H (opsD ops) x ∧ Rep K H (.tuple (rs.map rowD)) y ∧ Ctx (ops.map (·.1)) pairs ∧ (∀ r ∈ rs, OkR (ops.map (·.1)) pairs r) ∧ ∀ H' v, Fr [] H H' → Rep K H' (rowD (jrow (ops.map (·.1)) rs)) v → Q v H'
theorem ok_joint_row (T : Top K mg) : Cal P w K mg base CX0 2 "joint_row" ["operations", "rows"] (spJR K) := by
  refine T.d_joint_row.cal sc_joint_row [none, none, none, none, none, none] rfl (fun vs H Q E h => ?_) (fun f cdv A outer s H vs Q E hk hr h => ?_)
  · obtain ⟨x, y, ops, rs, pairs, rfl, _⟩ := h; rfl
  obtain ⟨x, y, ops, rs, pairs, rfl, hx, hy, C, hrs, q⟩ := h
  have hu := hu_of hr
  have C_joint_cause := ok_joint_cause (P := P) (w := w) (base := base) T
  refine ⟨_, (pss_cons (ps_set (i := 2) sc_joint_row.nd rfl (Or.inl rfl) pe_dnewK) (pss_cons (ps_for PassesOwn.never rfl (pi_seqK (K := K) rfl (pv 1)) (pg_name (i := 3) sc_joint_row.nd rfl (Or.inl rfl)) (pss_one (ps_for PassesOwn.never rfl (pi_seqK (K := K) rfl (pv 3)) (pg_tupK (K := K) (n := 2) rfl rfl (pgs_cons (pg_name (i := 4) sc_joint_row.nd rfl (Or.inl rfl)) (pgs_cons (pg_name (i := 5) sc_joint_row.nd rfl (Or.inl rfl)) pgs_nil))) (pss_one (ps_asg (pe_cal C_joint_cause (hr.mono (by omega)) (by rfl) pass0 (pa_cons (pe_dget2 hu (pv 2) (pv 4) (pe_tup pa_nil) ⟨rfl, rfl, rfl, rfl⟩) (pa_cons (pv 5) pa_nil))) (pg_sub (pv 2) (pv 4) (set_G hu))))))) (pss_cons (ps_set (i := 6) sc_joint_row.nd rfl (Or.inl rfl) (pe_lst pa_nil)) (pss_cons (ps_for PassesOwn.never rfl (pi_seqK (K := K) rfl (pv 0)) (pg_name (i := 7) sc_joint_row.nd rfl (Or.inl rfl)) (pss_one (ps_if (PW.pt (pw_and (pt_cmpR (op_in2K (K := K) rfl hr.u65) (pe_ix (ix_GK (K := K) rfl hu) (pv 7) pe_int (fun _ _ => rfl)) (pv 2) (by rfl)) (pw_and1 (pt_cmpR (op_neGK (K := K) rfl hr.units) (pe_ix (ix_GK (K := K) rfl hu) (pv 2) (pe_ix (ix_GK (K := K) rfl hu) (pv 7) pe_int (fun _ _ => rfl)) (fun _ _ => rfl)) (pe_tup pa_nil) (nomark _))))) (pss_one (ps_expr (pe_bm PySem.F.plainAttrs_list PySem.F.slot_list_append PySem.F.type_list_append mt_append (pv 6) (pa_cons (pe_tup (pa_cons (pe_ix (ix_GK (K := K) rfl hu) (pv 7) pe_int (fun _ _ => rfl)) (pa_cons (pe_ix (ix_GK (K := K) rfl hu) (pv 2) (pe_ix (ix_GK (K := K) rfl hu) (pv 7) pe_int (fun _ _ => rfl)) (fun _ _ => rfl)) pa_nil))) pa_nil)))) pss_nil))) (pss_one (ps_ret (pe_callTy (call_tupGK (K := K) rfl) (by rfl) T.m_tuple (by decide +kernel) (pa_cons (pv 6) pa_nil)))))))), ?_⟩
  kpt_turns
  regloopunroll_open
  rename_i H1 p f1 np e1
  have t1 : DW K H1 Cs.toD p [] := ⟨[], e1, DR.nil⟩
  refine g_forT ?_
  regloopunroll_open
  refine forT_rep (hy.up f1) (fun i σ' H' => Fr [p] H1 H' ∧ DW K H' Cs.toD p ((rs.take i).foldl (fun cs r => r.foldl jput cs) []) ∧ OkR (ops.map (·.1)) pairs ((rs.take i).foldl (fun cs r => r.foldl jput cs) []) ∧ ∃ o1 o2 o3 o4 o5, σ' = [some x, some y, some (.ref p), o1, o2, o3, o4, o5]) ⟨Fr.refl _ _, t1, ok_nil, _, _, _, _, _, rfl⟩ (fun i σ' H' p => ⟨_, p.1⟩) (fun i d yr σ' H' hd hyr p' => ?_) (fun σ' H' p' => ?_)
  · obtain ⟨fr, t, hok, o1, o2, o3, o4, o5, rfl⟩ := p'
    obtain ⟨r, er, rfl⟩ := rows_at hd
    have hr1 := hrs r (List.mem_of_getElem? er)
    have etake : (rs.take (i + 1)).foldl (fun cs r => r.foldl jput cs) [] = r.foldl jput ((rs.take i).foldl (fun cs r => r.foldl jput cs) []) := by
      rw [List.take_add_one, er, Option.toList_some, List.foldl_append]; rfl
    generalize hcs : (rs.take i).foldl (fun cs r => r.foldl jput cs) [] = cs at t hok etake
    regloopunroll_open
    refine g_forT ?_
    regloopunroll_open
    refine forT_rep hyr (fun j σ2 H2 => Fr [p] H' H2 ∧ DW K H2 Cs.toD p ((r.take j).foldl jput cs) ∧ OkR (ops.map (·.1)) pairs ((r.take j).foldl jput cs) ∧ ∃ o2 o3, σ2 = [some x, some y, some (.ref p), some yr, o2, o3, o4, o5]) ⟨Fr.refl _ _, t, hok, _, _, rfl⟩ (fun i σ' H' p => ⟨_, p.1⟩) (fun j d2 y2 σ2 H2 hd2 hy2 p2 => ?_) (fun σ2 H2 p2 => ?_)
    · obtain ⟨fr2, t2, ok2, o2, o3, rfl⟩ := p2
      obtain ⟨n, c, e2, rfl⟩ := row_at hd2
      have hnc := hr1.ok _ (List.mem_of_getElem? e2)
      generalize hcs2 : (r.take j).foldl jput cs = cs2 at t2 ok2
      have estep : (r.take (j + 1)).foldl jput cs = aput cs2 n (jc ((aget cs2 n).getD (.ps [])) c) := by
        rw [List.take_add_one, e2, Option.toList_some, List.foldl_append, hcs2]; rfl
      have okstep : OkR (ops.map (·.1)) pairs ((r.take (j + 1)).foldl jput cs) := by rw [estep]; exact jput_ok ok2 hnc.1 hnc.2
      regloopunroll_open
      rename_i v1 v2 h1 h2
      cases srep h1
      regloopunroll_open
      refine get2_g ?_
      regloopunroll_open
      refine ⟨p, rfl, t2.is.isD, ?_⟩
      regloopunroll_open
      rename_i H3 v3 f3 r3
      have h2' := h2.up f3
      have t3 : DW K H3 Cs.toD p cs2 := t2.fr f3 (by simp)
      have hok3 : OkC pairs ((aget cs2 n).getD (.ps [])) ∨ (aget cs2 n).getD (.ps []) = .ps [] := by
        cases e : aget cs2 n with
        | none => exact .inr rfl
        | some a => exact .inl (ok2.get e).2
      refine dis_getD (d0 := Cs.ps []) t3.is r3 (fun v4 r4 => ?_)
      generalize (aget cs2 n).getD (.ps []) = a at hok3 r4 estep
      have oa : Okd a.toD := by
        rcases hok3 with h | rfl
        · exact h.okd C
        · exact okd_nil
      have sa : a.size ≤ 16 := by
        rcases hok3 with h | rfl
        · exact h.size C
        · exact Nat.zero_le _
      regloopunroll_open
      refine ⟨v4, v2, a, c, rfl, r4, h2', oa, hnc.2.okd C, by have : c.size ≤ 16 := hnc.2.size C; omega, fun H5 v5 f5 r5 => ?_⟩
      regloopunroll_open
      refine dw_set (y := jc a c) (t3.fr f5 (by simp)) r5 (by have := ok2.len C; omega) (fun H6 f6 t6 => ?_)
      regloopunroll_open
      refine ⟨((fr2.step0 f3).step0 f5).step f6, by rw [estep]; exact t6, okstep, _, _, rfl⟩
    · obtain ⟨fr2, t2, ok2, o2, o3, rfl⟩ := p2
      rw [List.length_map, List.take_length] at t2 ok2
      regloopunroll_open
      refine ⟨fr.step fr2, by rw [etake]; exact t2, by rw [etake]; exact ok2, _, _, _, _, _, rfl⟩
  · obtain ⟨fr, t, hok, o1, o2, o3, o4, o5, rfl⟩ := p'
    rw [List.length_map, List.take_length] at t hok
    regloopunroll_open
    rename_i H2 l f2 n2 e2
    have t2 := t.fr f2 (by simp)
    refine g_forT ?_
    regloopunroll_open
    have hlp : l ≠ p := fun z => by
      subst z
      obtain ⟨kvs, e, _⟩ := t2
      rw [e2] at e
      cases e
    let F := fun n => (aget (jcs rs) n).bind fun c => if c = .ps [] then none else some (n, c)
    refine forT_rep (((hx.up f1).up fr).up f2) (fun i σ3 H3 => Fr [l] H2 H3 ∧ (∃ us, H3 l = some (.lst us) ∧ Reps K H3 ((((ops.map (·.1)).take i).filterMap F).map entD) us) ∧ ∃ o1 o2 o3 o4, σ3 = [some x, some y, some (.ref p), o1, o2, o3, some (.ref l), o4]) ⟨Fr.refl _ _, ⟨[], e2, reps_nil⟩, _, _, _, _, rfl⟩ (fun i σ' H' p => ⟨_, p.1⟩) (fun i d y2 σ3 H3 hd hy2 p3 => ?_) (fun σ3 H3 p3 => ?_)
    · obtain ⟨fr3, ⟨us, e3, r3⟩, o1, o2, o3, o4, rfl⟩ := p3
      obtain ⟨o, eo, rfl⟩ := rows_at hd
      replace hy2 : Rep K H3 (.tuple [.str o.1, .int o.2.1, .int o.2.2]) y2 := hy2
      have t3 := t2.fr fr3 (by simpa using hlp.symm)
      have estep : ((ops.map (·.1)).take (i + 1)).filterMap F = ((ops.map (·.1)).take i).filterMap F ++ (F o.1).toList := by
        have e : (ops.map (·.1))[i]? = some o.1 := by rw [List.getElem?_map, eo]; rfl
        rw [List.take_add_one, e, Option.toList_some, List.filterMap_append]
        cases q : F o.1 <;> simp [List.filterMap_cons, q]
      have ecs : jcs rs = rs.foldl (fun cs r => r.foldl jput cs) [] := rfl
      rw [← ecs] at t3 hok
      regloopunroll_open
      refine dis_in t3.is ?_
      cases q1 : aget (jcs rs) o.1 with
      | none =>
        have eF : F o.1 = none := by show (aget (jcs rs) o.1).bind _ = none; rw [q1]; rfl
        rw [eF, Option.toList_none, List.append_nil] at estep
        regloopunroll_open
        exact ⟨fr3, ⟨us, e3, by rw [estep]; exact r3⟩, _, _, _, _, rfl⟩
      | some c =>
        have hc := (hok.get q1).2
        have eF : F o.1 = some (o.1, c) := by show (aget (jcs rs) o.1).bind _ = _; rw [q1]; exact if_neg hc.ne
        rw [eF, Option.toList_some] at estep
        regloopunroll_open
        refine dis_ix t3.is q1 (fun v4 r4 => ?_)
        regloopunroll_open
        rename_i H5 v5 f5 r5
        refine neXT (r4.up f5) r5 (hc.okd C) okd_nil (by rw [show PyData.tuple [] = (Cs.ps []).toD from rfl, cs_eqv (hc.okd C) okd_nil]; exact decide_eq_false hc.ne) ?_
        regloopunroll_open
        have hlus : us.length < sizeLine := by
          have h1 := r3.length
          rw [List.length_map] at h1
          have h2 := List.length_filterMap_le F ((ops.map (·.1)).take i)
          have h3 : ((ops.map (·.1)).take i).length ≤ (ops.map (·.1)).length := by rw [List.length_take]; omega
          have h4 : (ops.map (·.1)).length ≤ 8 := C.on8
          exact small1000 (by omega)
        refine dis_ix (t3.fr f5 (by simp)).is q1 (fun v6 r6 => ?_)
        regloopunroll_open
        rename_i H7 v7 f7 r7 H8 f8 e8
        refine ⟨((fr3.step0 f5).step0 f7).step f8, ⟨_, e8, ?_⟩, _, _, _, _, rfl⟩
        rw [estep, List.map_append]
        exact (((r3.up f5).up f7).up f8).append (reps_one (r7.up f8))
    · obtain ⟨fr3, ⟨us, e3, r3⟩, o1, o2, o3, o4, rfl⟩ := p3
      rw [List.length_map, ← List.length_map (f := (·.1)) (as := ops), List.take_length] at r3
      regloopunroll_open
      rename_i H4 p4 f4 n4 e4
      exact q H4 _ (((f1.over np fr).step0 (f2.over n2 fr3)).step0 f4) (rep_tup e4 (r3.up f4))

theorem any_prs {l : List Pr} {p : Pr} (h : strs2 l) (hp : PyData.strOk p.1 = true ∧ PyData.strOk p.2 = true) : ((l.map prD).any fun z => PyData.eqv z (prD p)) = decide (p ∈ l) := by
  have h1 : pls (l.map prD) = true := (okd_ps.mpr h).all.1
  rw [Bool.eq_iff_iff, any_pl h1 (by simpa [prD, pl, pls] using hp), decide_eq_true_eq]
  constructor
  · intro z
    obtain ⟨q, hq, e⟩ := List.mem_map.mp z
    rw [← prD_inj e]; exact hq
  · exact fun z => List.mem_map.mpr ⟨p, z, rfl⟩
def spCW (K : PySem.W.Frag) : Sp := fun vs H Q _ => ∃ x y a b, vs = [x, y] ∧ Rep K H (Cs.toD a) x ∧ Rep K H (Cs.toD b) y ∧ Okd (Cs.toD a) ∧ Okd (Cs.toD b) ∧ a.size ≤ 900 ∧ ∀ H', Fr [] H H' → Q (.bl (cw a b)) H'
theorem ok_cause_within (T : Top K mg) : Cal P w K mg base CX0 1 "cause_within" ["one", "other"] (spCW K) := by
  refine T.d_cause_within.cal sc_cause_within [none] rfl (fun vs H Q E h => ?_) (fun f cdv A outer s H vs Q E hk hr h => ?_)
  · obtain ⟨x, y, a, b, rfl, _⟩ := h; rfl
  obtain ⟨x, y, a, b, rfl, hx, hy, oa, ob, hz, q⟩ := h
  have hu := hu_of hr
  refine ⟨_, (pss_cons (ps_if (pt_cmpR (op_eqGK (K := K) rfl hr.units) (pv 1) (pe_glob (v := .str "always") (by rfl) T.g_ALWAYS.choose_spec ⟨_, rfl⟩) (nomark _)) (pss_one (ps_ret pe_bl)) pss_nil) (pss_cons (ps_if (pt_cmpR (op_eqGK (K := K) rfl hr.units) (pv 0) (pe_glob (v := .str "always") (by rfl) T.g_ALWAYS.choose_spec ⟨_, rfl⟩) (nomark _)) (pss_one (ps_ret pe_bl)) pss_nil) (pss_one (ps_ret (pe_callB (cr_all rfl) (by rfl) T.m_all (by decide +kernel) (pa_cons (pe_lc (own := [("pair", 2)]) (g := gName 2) rfl sc_cause_within.nd (pi_seqK (K := K) rfl (pv 0)) (blkOk_by (N := N_cause_within) (sc := defScope s_cause_within) (by decide +kernel)) (fun _ _ _ _ _ => pg_name (i := 2) sc_cause_within.nd rfl (Or.inl rfl)) (fun _ _ _ _ _ => pts_nil) (fun _ _ _ _ _ => (pe_cmpR (op_in2K (K := K) rfl hr.u65) (pv 2) (pv 1) (by rfl)))) pa_nil)))))), ?_⟩
  kpt_turns
  regloopunroll_open
  cases b with
  | all =>
    refine eqXT hy rep_str ob okd_all (by decide +kernel) ?_
    regloopunroll_open
    have e : cw a .all = true := by cases a <;> rfl
    have := q H (Fr.refl _ _)
    rw [e] at this
    exact this
  | ps b =>
    refine eqXF hy rep_str ob okd_all rfl ?_
    regloopunroll_open
    cases a with
    | all =>
      refine eqXT hx rep_str oa okd_all (by decide +kernel) ?_
      regloopunroll_open
      exact q H (Fr.refl _ _)
    | ps a =>
      refine eqXF hx rep_str oa okd_all rfl ?_
      regloopunroll_open
      refine g_lcT ?_
      regloopunroll_open
      have sa := okd_ps.mp oa
      have sb := okd_ps.mp ob
      refine lcT_rep hx (fun D i H' => Fr [] H H' ∧ H' D = some (.lst (((a.take i).map fun p => decide (p ∈ b)).map V.bl))) (fun D nD => ⟨Fr.new nD, upd_same⟩) (fun D i H' nD p => ⟨_, p.1⟩) (fun D i d y' H' nD hd hy' p' => ?_) (fun D H' nD p' => ?_)
      · obtain ⟨fr, eD⟩ := p'
        obtain ⟨pr, e, rfl⟩ := rows_at hd
        have hpr := List.mem_of_getElem? e
        regloopunroll_open
        refine ⟨rfl, ?_⟩
        regloopunroll_open
        refine inX_q hy' (.inl (hy.up fr)) ((okd_ps.mpr sa).all.mem (List.mem_map.mpr ⟨pr, hpr, rfl⟩)) (okd_ps.mpr sb).all ?_
        rw [any_prs sb (sa pr hpr)]
        regloopunroll_open
        refine ⟨_, eD, ?_, fr.updN nD eD, ?_⟩
        · have h1 : (a.take i).length ≤ a.length := by rw [List.length_take]; omega
          exact small1000 (by rw [List.length_map, List.length_map]; simp only [Cs.size] at hz; omega)
        · rw [upd_same, List.take_add_one, e]
          simp
      · obtain ⟨fr, eD⟩ := p'
        rw [List.length_map, List.take_length] at eD
        regloopunroll_open
        refine ⟨D, _, rfl, .of eD, ?_⟩
        regloopunroll_open
        have e : cw (.ps a) (.ps b) = (a.map fun p => decide (p ∈ b)).all id := by simp [cw, List.all_map, Function.comp_def]
        rw [← e]
        exact q H' fr

def spIW (K : PySem.W.Frag) : Sp := fun vs H Q _ => ∃ x y r r' ons pairs, vs = [x, y] ∧ Rep K H (rowD r) x ∧ Rep K H (rowD r') y ∧ Ctx ons pairs ∧ OkR ons pairs r ∧ OkR ons pairs r' ∧ ∀ H', Fr [] H H' → Q (.bl (iw r r')) H'
theorem ok_is_within (T : Top K mg) : Cal P w K mg base CX0 2 "is_within" ["row", "other"] (spIW K) := by
  refine T.d_is_within.cal sc_is_within [none, none, none] rfl (fun vs H Q E h => ?_) (fun f cdv A outer s H vs Q E hk hr h => ?_)
  · obtain ⟨x, y, a, b, on, ps, rfl, _⟩ := h; rfl
  obtain ⟨x, y, r, r', ons, pairs, rfl, hx, hy, C, ho, ho', q⟩ := h
  have hu := hu_of hr
  have C_cause_of := ok_cause_of (P := P) (w := w) (base := base) T
  have C_cause_within := ok_cause_within (P := P) (w := w) (base := base) T
  refine ⟨_, (pss_cons (ps_for PassesOwn.never rfl (pi_seqK (K := K) rfl (pv 0)) (pg_tupK (K := K) (n := 2) rfl rfl (pgs_cons (pg_name (i := 2) sc_is_within.nd rfl (Or.inl rfl)) (pgs_cons (pg_name (i := 3) sc_is_within.nd rfl (Or.inl rfl)) pgs_nil))) (pss_cons (ps_set (i := 4) sc_is_within.nd rfl (Or.inl rfl) (pe_cal C_cause_of (hr.mono (by omega)) (by rfl) pass0 (pa_cons (pv 1) (pa_cons (pv 2) pa_nil)))) (pss_one (ps_if (PW.pt (pw_or (pt_cmpR (op_eqGK (K := K) rfl hr.units) (pv 4) (pe_tup pa_nil) (nomark _)) (pw_or1 (pt_not (pt_val (pe_cal C_cause_within (hr.mono (by omega)) (by rfl) pass0 (pa_cons (pv 3) (pa_cons (pv 4) pa_nil)))))))) (pss_one (ps_ret pe_bl)) pss_nil)))) (pss_one (ps_ret pe_bl))), ?_⟩
  kpt_turns
  regloopunroll_open
  refine g_forT ?_
  regloopunroll_open
  let F := fun e : Str × Cs => !decide (cof r' e.1 = .ps []) && cw e.2 (cof r' e.1)
  have no : ∀ {e : Str × Cs}, e ∈ r → F e = false → ∀ H', Fr [] H H' → Q (.bl false) H' := fun {e} he hF H' f => by
    have := q H' f
    have e1 : iw r r' = false := by
      unfold iw
      rw [List.all_eq_false]
      exact ⟨e, he, by rw [show (!decide (cof r' e.1 = .ps []) && cw e.2 (cof r' e.1)) = F e from rfl, hF]; simp⟩
    rw [e1] at this
    exact this
  refine forT_rep hx (fun i σ' H' => Fr [] H H' ∧ ((r.take i).all F = true) ∧ ∃ o1 o2 o3, σ' = [some x, some y, o1, o2, o3]) ⟨Fr.refl _ _, rfl, _, _, _, rfl⟩ (fun i σ' H' p => ⟨_, p.1⟩) (fun i d y' σ' H' hd hy' p' => ?_) (fun σ' H' p' => ?_)
  · obtain ⟨fr, hall, o1, o2, o3, rfl⟩ := p'
    obtain ⟨n, c, e, rfl⟩ := row_at hd
    have hm := List.mem_of_getElem? e
    have hc := (ho.ok _ hm).2
    have estep : (r.take (i + 1)).all F = F (n, c) := by
      rw [List.take_add_one, e, Option.toList_some, List.all_append, hall]; simp
    regloopunroll_open
    rename_i v1 v2 h1 h2
    cases srep h1
    regloopunroll_open
    refine ⟨y, r', n, rfl, hy.up fr, fun H1 v3 f1 r3 => ?_⟩
    regloopunroll_open
    rename_i H2 v4 f2 r4
    have okw : Okd (cof r' n).toD := by
      unfold cof
      cases q1 : aget r' n with
      | none => exact okd_nil
      | some c' => exact (ho'.get q1).2.okd C
    by_cases hw : cof r' n = .ps []
    · refine eqXT (r3.up f2) r4 okw okd_nil (by rw [show PyData.tuple [] = (Cs.ps []).toD from rfl, cs_eqv okw okd_nil]; exact decide_eq_true hw) ?_
      regloopunroll_open
      exact no hm (by show (!decide (cof r' n = .ps []) && _) = false; rw [hw]; rfl) _ ((fr.step f1).step f2)
    · refine eqXF (r3.up f2) r4 okw okd_nil (by rw [show PyData.tuple [] = (Cs.ps []).toD from rfl, cs_eqv okw okd_nil]; exact decide_eq_false hw) ?_
      regloopunroll_open
      have eF : F (n, c) = cw c (cof r' n) := by show (!decide (cof r' n = .ps []) && _) = _; rw [decide_eq_false hw]; rfl
      refine ⟨v2, v3, c, cof r' n, rfl, (h2.up f1).up f2, r3.up f2, OkC.okd C hc, okw, by have : c.size ≤ 16 := OkC.size C hc; omega, fun H5 f5 => ?_⟩
      regloopunroll_open
      cases hcw : cw c (cof r' n) with
      | true =>
        regloopunroll_open
        exact ⟨((fr.step f1).step f2).step f5, by rw [estep, eF, hcw], _, _, _, rfl⟩
      | false =>
        regloopunroll_open
        exact no hm (by rw [eF, hcw]) _ (((fr.step f1).step f2).step f5)
  · obtain ⟨fr, hall, o1, o2, o3, rfl⟩ := p'
    rw [List.length_map, List.take_length] at hall
    regloopunroll_open
    have e1 : iw r r' = true := hall
    have := q H' fr
    rw [e1] at this
    exact this

theorem okds_strs {ns : List Str} (h : ∀ n ∈ ns, PyData.strOk n = true) : Okds (ns.map PyData.str) := ⟨pls_all.mpr fun d hd => by
    obtain ⟨n, hn, rfl⟩ := List.mem_map.mp hd
    simpa [pl] using h n hn, depthAll_le.mpr fun d hd => by
    obtain ⟨n, hn, rfl⟩ := List.mem_map.mp hd
    simp [PyData.depth]⟩
def spIsP (K : PySem.W.Frag) : Sp := fun vs H Q _ => ∃ x y z blocks names d, vs = [x, y, z] ∧ RowOf K H x (blocks.map .str) ∧ RowOf K H y (names.map .str) ∧ Rep K H d z ∧ SN blocks ∧ SN names ∧ Okd d ∧ ∀ H', Fr [] H H' → Q (.bl (okPair blocks names d)) H'
theorem ok_is_pair (T : Top K mg) : Cal P w K mg base CX0 1 "is_pair" ["blocks", "names", "pair"] (spIsP K) := by
  refine T.d_is_pair.cal sc_is_pair [] rfl (fun vs H Q E h => ?_) (fun f cdv A outer s H vs Q E hk hr h => ?_)
  · obtain ⟨x, y, z, b, n, d, rfl, _⟩ := h; rfl
  obtain ⟨x, y, z, blocks, names, d, rfl, hx, hy, hz, sb, sn, od, q⟩ := h
  have hu := hu_of hr
  refine ⟨_, (pss_cons (ps_if (PW.pt (pw_or (pt_not (pt_val (pe_callB (call_isiGK (K := K) rfl) (by rfl) T.m_isinstance (by decide +kernel) (pa_cons (pv 2) (pa_cons (pe_bltn (v := .ty "tuple") (u := .type "tuple") (by rfl) T.m_tuple (by decide +kernel) rfl) pa_nil))))) (pw_or1 (pt_cmpR (op_neGK (K := K) rfl hr.units) (pe_callB (call_lenGK (K := K) rfl) (by rfl) T.m_len (by decide +kernel) (pa_cons (pv 2) pa_nil)) pe_int (nomark _))))) (pss_one (ps_ret pe_bl)) pss_nil) (pss_one (ps_ret (pe_and (pe_cmpR (op_in2K (K := K) rfl hr.u65) (pe_ix (ix_GK (K := K) rfl hu) (pv 2) pe_int (fun _ _ => rfl)) (pv 0) (by rfl)) (pe_one (pe_cmpR (op_in2K (K := K) rfl hr.u65) (pe_ix (ix_GK (K := K) rfl hu) (pv 2) pe_int (fun _ _ => rfl)) (pv 1) (by rfl))))))), ?_⟩
  kpt_turns
  regloopunroll_open
  refine isi_rep hz (kitB_tuple d) ?_
  by_cases ht : ∃ ds, d = .tuple ds
  · obtain ⟨ds, rfl⟩ := ht
    have e : (tyD (.tuple ds) == "tuple") = true := rfl
    rw [e]
    regloopunroll_open
    refine iteN2 (fun hl => ?_) (fun hl => ?_)
    · have hl2 : ds.length ≠ 2 := fun z => hl (by rw [z]; rfl)
      regloopunroll_open
      have e2 : okPair blocks names (.tuple ds) = false := by
        match ds, hl2 with
        | [], _ => rfl
        | [_], _ => rfl
        | [_, _], h => exact absurd rfl h
        | _ :: _ :: _ :: _, _ => rfl
      have := q H (Fr.refl _ _)
      rw [e2] at this
      exact this
    · have hl2 : ds.length = 2 := by
        have := V.int.inj hl
        omega
      obtain ⟨a, b, rfl⟩ : ∃ a b, ds = [a, b] := by
        match ds, hl2 with
        | [a, b], _ => exact ⟨a, b, rfl⟩
      regloopunroll_open
      have oa : Okd a := od.all.mem (by simp)
      have ob : Okd b := od.all.mem (by simp)
      rename_i v1 h1
      refine inX_q h1 hx oa (okds_strs sb) ?_
      rw [any_memS]
      have hq := q H (Fr.refl _ _)
      rw [show okPair blocks names (.tuple [a, b]) = (memS a blocks && memS b names) from rfl] at hq
      refine ⟨_, rfl, ?_⟩
      cases hm : memS a blocks with
      | true =>
        rw [hm] at hq
        regloopunroll_open
        rename_i v2 h2
        refine inX_q h2 hy ob (okds_strs sn) ?_
        rw [any_memS]
        exact hq
      | false =>
        rw [hm] at hq
        exact iteF hq
  · have e : (tyD d == "tuple") = false := by
      cases d <;> first | rfl | exact absurd ⟨_, rfl⟩ ht
    rw [e]
    regloopunroll_open
    have e2 : okPair blocks names d = false := by
      cases d <;> first | rfl | exact absurd ⟨_, rfl⟩ ht
    have := q H (Fr.refl _ _)
    rw [e2] at this
    exact this

def spIsC (K : PySem.W.Frag) : Sp := fun vs H Q _ => ∃ x y z blocks names d, vs = [x, y, z] ∧ RowOf K H x (blocks.map .str) ∧ RowOf K H y (names.map .str) ∧ Rep K H d z ∧ SN blocks ∧ SN names ∧ Okd d ∧ Sm d ∧ ∀ H', Fr [] H H' → Q (.bl (okCause blocks names d)) H'
theorem ok_is_cause (T : Top K mg) : Cal P w K mg base CX0 2 "is_cause" ["blocks", "names", "cause"] (spIsC K) := by
  refine T.d_is_cause.cal sc_is_cause [none, none] rfl (fun vs H Q E h => ?_) (fun f cdv A outer s H vs Q E hk hr h => ?_)
  · obtain ⟨x, y, z, b, n, d, rfl, _⟩ := h; rfl
  obtain ⟨x, y, z, blocks, names, d, rfl, hx, hy, hz, sb, sn, od, sm, q⟩ := h
  have hu := hu_of hr
  have C_is_pair := ok_is_pair (P := P) (w := w) (base := base) T
  refine ⟨_, (pss_cons (ps_if (pt_val (pe_callB (call_isiGK (K := K) rfl) (by rfl) T.m_isinstance (by decide +kernel) (pa_cons (pv 2) (pa_cons (pe_bltn (v := .ty "str") (u := .type "str") (by rfl) T.m_str (by decide +kernel) rfl) pa_nil)))) (pss_one (ps_ret (pe_cmpR (op_eqGK (K := K) rfl hr.units) (pv 2) (pe_glob (v := .str "always") (by rfl) T.g_ALWAYS.choose_spec ⟨_, rfl⟩) (nomark _)))) pss_nil) (pss_cons (ps_if (PW.pt (pw_or (pt_not (pt_val (pe_callB (call_isiGK (K := K) rfl) (by rfl) T.m_isinstance (by decide +kernel) (pa_cons (pv 2) (pa_cons (pe_bltn (v := .ty "tuple") (u := .type "tuple") (by rfl) T.m_tuple (by decide +kernel) rfl) pa_nil))))) (pw_or1 (pt_cmpR (op_eqGK (K := K) rfl hr.units) (pe_callB (call_lenGK (K := K) rfl) (by rfl) T.m_len (by decide +kernel) (pa_cons (pv 2) pa_nil)) pe_int (nomark _))))) (pss_one (ps_ret pe_bl)) pss_nil) (pss_cons (ps_if (pt_not (pt_val (pe_callB (cr_all rfl) (by rfl) T.m_all (by decide +kernel) (pa_cons (pe_lc (own := [("pair", 3)]) (g := gName 3) rfl sc_is_cause.nd (pi_seqK (K := K) rfl (pv 2)) (blkOk_by (N := N_is_cause) (sc := defScope s_is_cause) (by decide +kernel)) (fun _ _ _ _ _ => pg_name (i := 3) sc_is_cause.nd rfl (Or.inl rfl)) (fun _ _ _ _ _ => pts_nil) (fun _ _ _ _ _ => (pe_cal C_is_pair (hr.mono (by omega)) (by rfl) pass0 (pa_cons (pv 0) (pa_cons (pv 1) (pa_cons (pv 3) pa_nil)))))) pa_nil)))) (pss_one (ps_ret pe_bl)) pss_nil) (pss_one (ps_ret (pe_callB (cr_all rfl) (by rfl) T.m_all (by decide +kernel) (pa_cons (pe_lc (own := [("k", 4)]) (g := gName 4) rfl sc_is_cause.nd (pi_range1 (by rfl) T.m_range (pa_cons (pe_op op_sub (pe_callB (call_lenGK (K := K) rfl) (by rfl) T.m_len (by decide +kernel) (pa_cons (pv 2) pa_nil)) pe_int) pa_nil)) (blkOk_by (N := N_is_cause) (sc := defScope s_is_cause) (by decide +kernel)) (fun _ _ _ _ _ => pg_name (i := 4) sc_is_cause.nd rfl (Or.inl rfl)) (fun _ _ _ _ _ => pts_nil) (fun _ _ _ _ _ => (pe_cmpR (op_lt2K (K := K) rfl hr.u65) (pe_ix (ix_GK (K := K) rfl hu) (pv 2) (pv 4) (fun _ _ => rfl)) (pe_ix (ix_GK (K := K) rfl hu) (pv 2) (pe_op (op_addGK (K := K) rfl) (pv 4) pe_int) (fun _ _ => rfl)) (nomark _)))) pa_nil))))))), ?_⟩
  kpt_turns
  regloopunroll_open
  refine isi_rep hz (kitB_str d) ?_
  regloopunroll_open
  have fin : ∀ k H', okCause blocks names d = k → Fr [] H H' → Q (.bl k) H' := fun k H' e f => by
    have := q H' f
    rw [e] at this
    exact this
  by_cases hs : ∃ t, d = .str t
  · obtain ⟨t, rfl⟩ := hs
    cases srep hz
    rw [show (tyD (.str t) == "str") = true from rfl]
    regloopunroll_open
    exact fin _ _ (by simp [okCause]) (Fr.refl _ _)
  · have e1 : (tyD d == "str") = false := by
      cases d <;> first | rfl | exact absurd ⟨_, rfl⟩ hs
    rw [e1]
    regloopunroll_open
    refine isi_rep hz (kitB_tuple d) ?_
    by_cases ht : ∃ ds, d = .tuple ds
    · obtain ⟨ds, rfl⟩ := ht
      rw [show (tyD (.tuple ds) == "tuple") = true from rfl]
      have hlen : ds.length ≤ 900 := sm ds rfl
      regloopunroll_open
      refine ifD (fun hl => ?_) (fun hl => ?_)
      · have hl2 : ds = [] := List.eq_nil_of_length_eq_zero (by have := V.int.inj hl; omega)
        subst hl2
        regloopunroll_open
        exact fin _ _ rfl (Fr.refl _ _)
      · have hl2 : ds.isEmpty = false := by
          cases ds with
          | nil => exact absurd rfl hl
          | cons _ _ => rfl
        have hl3 : 0 < ds.length := by
          cases ds with
          | nil => exact absurd rfl hl
          | cons _ _ => simp
        regloopunroll_open
        refine g_lcT ?_
        regloopunroll_open
        refine lcT_rep hz (fun D i H' => Fr [] H H' ∧ H' D = some (.lst (((ds.take i).map (okPair blocks names)).map V.bl))) (fun D nD => ⟨Fr.new nD, upd_same⟩) (fun D i H' nD p => ⟨_, p.1⟩) (fun D i e y' H' nD he hy' p' => ?_) (fun D H' nD p' => ?_)
        · obtain ⟨fr, eD⟩ := p'
          regloopunroll_open
          refine ⟨rfl, ?_⟩
          regloopunroll_open
          refine ⟨x, y, y', blocks, names, e, rfl, hx.fr0 fr, hy.fr0 fr, hy', sb, sn, od.all.mem (List.mem_of_getElem? he), fun H2 f2 => ?_⟩
          refine ⟨_, f2.at eD, ?_, (fr.step f2).updN nD (f2.at eD), ?_⟩
          · have h1 : (ds.take i).length ≤ ds.length := by rw [List.length_take]; omega
            exact small1000 (by rw [List.length_map, List.length_map]; omega)
          · rw [upd_same, List.take_add_one, he]
            simp
        · obtain ⟨fr, eD⟩ := p'
          rw [List.take_length] at eD
          regloopunroll_open
          refine ⟨D, _, rfl, .of eD, ?_⟩
          regloopunroll_open
          have eall : (ds.map (okPair blocks names)).all id = ds.all (okPair blocks names) := by rw [List.all_map]; rfl
          rw [eall]
          have eok : okCause blocks names (.tuple ds) = (ds.all (okPair blocks names) && steps ds) := by
            show (!ds.isEmpty && ds.all (okPair blocks names) && steps ds) = _
            rw [hl2]; rfl
          cases hall : ds.all (okPair blocks names) with
          | false =>
            regloopunroll_open
            exact fin _ _ (by rw [eok, hall]; rfl) fr
          | true =>
            regloopunroll_open
            have hps : ∀ i, i < ds.length → ∃ p : Pr, ds[i]? = some (prD p) := fun i hi => by
              obtain ⟨p, e, _⟩ := okPair_shape (List.all_eq_true.mp hall _ (List.getElem_mem hi))
              exact ⟨p, by rw [List.getElem?_eq_getElem hi, e]⟩
            refine lcR1_q (k := ds.length - 1) (by omega) (by omega) (fun D2 i H2 => Fr [] H' H2 ∧ H2 D2 = some (.lst (((lts ds).take i).map V.bl))) (fun D2 nD2 => ⟨Fr.new nD2, upd_same⟩) (fun D2 i H2 nD2 hi p2 => ?_) (fun D2 H2 nD2 p2 => ?_)
            · obtain ⟨fr2, eD2⟩ := p2
              obtain ⟨p, ep⟩ := hps i (by omega)
              obtain ⟨p', ep'⟩ := hps (i + 1) (by omega)
              have hz2 := (hz.up fr).up fr2
              regloopunroll_open
              refine ⟨rfl, ?_⟩
              regloopunroll_open
              refine ix_rep hz2 ep (fun v1 h1 => ?_)
              regloopunroll_open
              rw [show V.int ((i : Int) + 1) = V.int ((i + 1 : Nat) : Int) from congrArg V.int (by omega)]
              refine ix_rep hz2 ep' (fun v2 h2 => ?_)
              refine ltX_q h1 h2 (by simp [prD, PySem.W.alike, PySem.W.alikeAll]) (by simp [prD]) (od.all.mem (List.mem_of_getElem? ep)) ?_
              refine ⟨_, eD2, ?_, fr2.updN nD2 eD2, ?_⟩
              · have h3 : ((lts ds).take i).length ≤ i := by rw [List.length_take]; omega
                exact small1000 (by rw [List.length_map]; omega)
              · have e3 : (lts ds)[i]? = some (PySem.W.dataLt (prD p) (prD p')) := by
                  unfold lts
                  rw [List.getElem?_map, List.getElem?_range hi]
                  simp [List.getD, ep, ep']
                rw [upd_same, List.take_add_one, e3]
                simp
            · obtain ⟨fr2, eD2⟩ := p2
              have hll : (lts ds).length = ds.length - 1 := by simp [lts]
              rw [← hll, List.take_length] at eD2
              regloopunroll_open
              refine ⟨D2, _, rfl, .of eD2, ?_⟩
              regloopunroll_open
              rw [steps_lts]
              exact fin _ _ (by rw [eok, hall]; rfl) (fr.step fr2)
    · have e2 : (tyD d == "tuple") = false := by
        cases d <;> first | rfl | exact absurd ⟨_, rfl⟩ ht
      rw [e2]
      regloopunroll_open
      exact fin _ _ (by cases d <;> first | rfl | exact absurd ⟨_, rfl⟩ ht | exact absurd ⟨_, rfl⟩ hs) (Fr.refl _ _)

theorem indexS_q {K : PySem.W.Frag} {H : Hp} {a : Addr} {names : List Str} {x : Str} {Q : VK} (h : H a = some (.lst (names.map V.str))) (hx : x ∈ names) (sn : SN names) (q : Q (.int ((names.idxOf x : Nat) : Int)) H) : rIndexX K (.ref a) [.str x] H Q := by
  have hl : names.idxOf x < names.length := List.idxOf_lt_length_iff.mpr hx
  refine ⟨a, _, names.map .str, .str x, .str x, names.idxOf x, rfl, rfl, .of h, reps_strs _, rep_str, ⟨by simpa [pl] using sn x hx, by simp [PyData.depth]⟩, okds_strs sn, ?_, fun m hm e => ?_, q⟩
  · rw [List.getElem?_map, List.getElem?_eq_getElem hl]
    simp
  · rw [List.getElem?_map] at e
    obtain ⟨y, h1, h2⟩ := Option.map_eq_some_iff.mp e
    cases h2
    have h3 : names.idxOf x ≤ m := by
      have hm2 := (List.getElem?_eq_some_iff.mp h1).1
      have h4 := (List.getElem?_eq_some_iff.mp h1).2
      exact Nat.le_of_not_lt fun hlt => by
        have := List.not_of_lt_findIdx (p := (· == x)) (xs := names) (i := m) hlt
        simp [h4] at this
    omega
def Smr (d : PyData) : Prop := ∀ ds, d = .tuple ds → ∀ e ∈ ds, ∀ a c, e = .tuple [a, c] → Sm c
theorem memS_str {d : PyData} {ns : List Str} (h : memS d ns = true) : ∃ x, d = .str x ∧ x ∈ ns := by
  unfold memS at h
  split at h
  · exact ⟨_, rfl, by simpa using h⟩
  · cases h
theorem okGo_not {blocks names : List Str} {l : Nat} {e : PyData} {r : List PyData} (h : ∀ a c, e ≠ .tuple [a, c]) : okGo blocks names l (e :: r) = false := by
  unfold okGo
  split
  · rename_i h1; cases h1
  · rename_i h1; exact absurd (List.cons.inj h1).1 (h _ _)
  · rfl
theorem okGo_mem {blocks names : List Str} {l : Nat} {a c : PyData} {r : List PyData} (h : memS a names = false) : okGo blocks names l (.tuple [a, c] :: r) = false := by
  cases a <;> simp_all [okGo, memS]
theorem okGo_str {blocks names : List Str} {l : Nat} {x : Str} {c : PyData} {r : List PyData} (h : x ∈ names) : okGo blocks names l (.tuple [.str x, c] :: r) = (decide (l ≤ names.idxOf x) && okCause blocks names c && okGo blocks names (names.idxOf x + 1) r) := by
  simp [okGo, h, Bool.and_assoc]
theorem not2 {ds : List PyData} (h : ds.length ≠ 2) : ∀ a c, PyData.tuple ds ≠ .tuple [a, c] := fun a c e => h (by cases e; rfl)
theorem is2 {ds : List PyData} (h : ds.length = 2) : ∃ a b, ds = [a, b] := by
  match ds, h with
  | [a, b], _ => exact ⟨a, b, rfl⟩
def spIsR (K : PySem.W.Frag) : Sp := fun vs H Q _ => ∃ x y z ops blocks d, vs = [x, y, z] ∧ Rep K H (opsD ops) x ∧ RowOf K H y (blocks.map .str) ∧ Rep K H d z ∧ SN blocks ∧ SN (ops.map (·.1)) ∧ ops.length ≤ 900 ∧ Okd d ∧ Smr d ∧ ∀ H', Fr [] H H' → Q (.bl (okRow blocks (ops.map (·.1)) d)) H'
theorem ok_is_row (T : Top K mg) : Cal P w K mg base CX0 3 "is_row" ["operations", "blocks", "row"] (spIsR K) := by
  refine T.d_is_row.cal sc_is_row [none, none, none, none] rfl (fun vs H Q E h => ?_) (fun f cdv A outer s H vs Q E hk hr h => ?_)
  · obtain ⟨x, y, z, b, n, d, rfl, _⟩ := h; rfl
  obtain ⟨x, y, z, ops, blocks, d, rfl, hx, hy, hz, sb, sn, hl, od, sm, q⟩ := h
  have hu := hu_of hr
  have C_is_cause := ok_is_cause (P := P) (w := w) (base := base) T
  refine ⟨_, (pss_cons (ps_if (pt_not (pt_val (pe_callB (call_isiGK (K := K) rfl) (by rfl) T.m_isinstance (by decide +kernel) (pa_cons (pv 2) (pa_cons (pe_bltn (v := .ty "tuple") (u := .type "tuple") (by rfl) T.m_tuple (by decide +kernel) rfl) pa_nil))))) (pss_one (ps_ret pe_bl)) pss_nil) (pss_cons (ps_setLc (i := 3) (own := [("operation", 6)]) (g := gName 6) rfl sc_is_row.nd rfl rfl (sw_true rfl rfl rfl (by decide +kernel)) (pi_seqK (K := K) rfl (pv 0)) (blkOk_by (N := N_is_row) (sc := defScope s_is_row) (by decide +kernel)) (fun _ _ _ _ _ => pg_name (i := 6) sc_is_row.nd rfl (Or.inl rfl)) (fun _ _ _ _ _ => pts_nil) (fun _ _ _ _ _ => (pe_ix (ix_GK (K := K) rfl hu) (pv 6) pe_int (fun _ _ => rfl)))) (pss_cons (ps_set (i := 4) sc_is_row.nd rfl (Or.inl rfl) pe_int) (pss_cons (ps_for PassesOwn.never rfl (pi_seqK (K := K) rfl (pv 2)) (pg_name (i := 5) sc_is_row.nd rfl (Or.inl rfl)) (pss_cons (ps_if (PW.pt (pw_or (pt_not (pt_val (pe_callB (call_isiGK (K := K) rfl) (by rfl) T.m_isinstance (by decide +kernel) (pa_cons (pv 5) (pa_cons (pe_bltn (v := .ty "tuple") (u := .type "tuple") (by rfl) T.m_tuple (by decide +kernel) rfl) pa_nil))))) (pw_or1 (pt_cmpR (op_neGK (K := K) rfl hr.units) (pe_callB (call_lenGK (K := K) rfl) (by rfl) T.m_len (by decide +kernel) (pa_cons (pv 5) pa_nil)) pe_int (nomark _))))) (pss_one (ps_ret pe_bl)) pss_nil) (pss_cons (ps_if (PW.pt (pw_or (pt_cmpR (op_notIn2K (K := K) rfl hr.u65) (pe_ix (ix_GK (K := K) rfl hu) (pv 5) pe_int (fun _ _ => rfl)) (pv 3) (by rfl)) (pw_or1 (pt_cmpR (op_lt2K (K := K) rfl hr.u65) (pe_bm PySem.F.plainAttrs_list PySem.F.slot_list_index PySem.F.type_list_index (mt_indexK (K := K) rfl hr.u65) (pv 3) (pa_cons (pe_ix (ix_GK (K := K) rfl hu) (pv 5) pe_int (fun _ _ => rfl)) pa_nil)) (pv 4) (nomark _))))) (pss_one (ps_ret pe_bl)) pss_nil) (pss_cons (ps_set (i := 4) sc_is_row.nd rfl (Or.inl rfl) (pe_op (op_addGK (K := K) rfl) (pe_bm PySem.F.plainAttrs_list PySem.F.slot_list_index PySem.F.type_list_index (mt_indexK (K := K) rfl hr.u65) (pv 3) (pa_cons (pe_ix (ix_GK (K := K) rfl hu) (pv 5) pe_int (fun _ _ => rfl)) pa_nil)) pe_int)) (pss_one (ps_if (pt_not (pt_val (pe_cal C_is_cause (hr.mono (by omega)) (by rfl) pass0 (pa_cons (pv 1) (pa_cons (pv 3) (pa_cons (pe_ix (ix_GK (K := K) rfl hu) (pv 5) pe_int (fun _ _ => rfl)) pa_nil)))))) (pss_one (ps_ret pe_bl)) pss_nil)))))) (pss_one (ps_ret pe_bl)))))), ?_⟩
  kpt_turns
  regloopunroll_open
  refine isi_rep hz (kitB_tuple d) ?_
  have fin : ∀ k H', okRow blocks (ops.map (·.1)) d = k → Fr [] H H' → Q (.bl k) H' := fun k H' e f => by
    have := q H' f
    rw [e] at this
    exact this
  by_cases ht : ∃ ds, d = .tuple ds
  · obtain ⟨ds, rfl⟩ := ht
    rw [show (tyD (.tuple ds) == "tuple") = true from rfl]
    regloopunroll_open
    refine g_lcT ?_
    regloopunroll_open
    refine lcT_rep hx (fun D i H' => Fr [] H H' ∧ H' D = some (.lst (((ops.take i).map (·.1)).map V.str))) (fun D nD => ⟨Fr.new nD, upd_same⟩) (fun D i H' nD p => ⟨_, p.1⟩) (fun D i e y' H' nD he hy' p' => ?_) (fun D H1 nD p' => ?_)
    · obtain ⟨fr, eD⟩ := p'
      obtain ⟨o, eo, rfl⟩ := rows_at he
      replace hy' : Rep K H' (.tuple [.str o.1, .int o.2.1, .int o.2.2]) y' := hy'
      regloopunroll_open
      refine ⟨rfl, ?_⟩
      regloopunroll_open
      refine ⟨_, eD, ?_, fr.updN nD eD, ?_⟩
      · have h1 : (ops.take i).length ≤ ops.length := by rw [List.length_take]; omega
        exact small1000 (by rw [List.length_map, List.length_map]; omega)
      · rw [upd_same, List.take_add_one, eo]
        simp
    · obtain ⟨fr1, eD⟩ := p'
      rw [show (opsD ops) = .tuple (ops.map opD) from rfl] at hx
      rw [List.length_map, List.take_length] at eD
      generalize ops.map (·.1) = names at sn eD fin
      regloopunroll_open
      refine g_forT ?_
      regloopunroll_open
      refine forT_rep (hz.up fr1) (fun i σ' H' => Fr [] H1 H' ∧ ∃ (l : Nat) (o1 o2 : Option V), okGo blocks names 0 ds = okGo blocks names l (ds.drop i) ∧ σ' = [some x, some y, some z, some (.ref D), some (.int l), o1, o2]) ⟨Fr.refl _ _, 0, _, _, rfl, rfl⟩ (fun i σ' H' p => ⟨_, p.1⟩) (fun i e y' σ' H' he hy' p' => ?_) (fun σ' H' p' => ?_)
      · obtain ⟨fr2, l, o1, o2, hgo, rfl⟩ := p'
        have hdrop : ds.drop i = e :: ds.drop (i + 1) := by
          obtain ⟨hi, rfl⟩ := List.getElem?_eq_some_iff.mp he
          exact List.drop_eq_getElem_cons hi
        rw [hdrop] at hgo
        have oe := od.all.mem (List.mem_of_getElem? he)
        have hno : (∀ a c, e ≠ .tuple [a, c]) → okRow blocks names (.tuple ds) = false := fun h => by
          show okGo blocks names 0 ds = false
          rw [hgo, okGo_not h]
        regloopunroll_open
        refine isi_rep hy' (kitB_tuple e) ?_
        by_cases ht : ∃ es, e = .tuple es
        · obtain ⟨es, rfl⟩ := ht
          rw [show (tyD (.tuple es) == "tuple") = true from rfl]
          regloopunroll_open
          refine iteN2 (fun hl2 => ?_) (fun hl2 => ?_)
          · regloopunroll_open
            exact fin _ _ (hno (not2 fun z => hl2 (by rw [z]; rfl))) (fr1.step fr2)
          · obtain ⟨a, c, rfl⟩ := is2 (show es.length = 2 by have := V.int.inj hl2; omega)
            have oa : Okd a := oe.all.mem (by simp)
            have oc : Okd c := oe.all.mem (by simp)
            have eD2 := fr2.at eD
            regloopunroll_open
            rename_i v1 h1
            refine notInX_q h1 (.inr ⟨D, _, rfl, .of eD2, reps_strs _⟩) oa (okds_strs sn) ?_
            rw [any_memS]
            refine ⟨_, rfl, ?_⟩
            cases hm : memS a names with
            | false =>
              regloopunroll_open
              exact fin _ _ (by show okGo blocks names 0 ds = false; rw [hgo, okGo_mem hm]) (fr1.step fr2)
            | true =>
              obtain ⟨nm, rfl, hnm⟩ := memS_str hm
              rw [okGo_str hnm] at hgo
              regloopunroll_open
              refine indexS_q eD2 hnm sn ?_
              regloopunroll_open
              refine ifD (fun hlt => ?_) (fun hlt => ?_)
              · regloopunroll_open
                exact fin _ _ (by show okGo blocks names 0 ds = false; rw [hgo, decide_eq_false (by omega)]; rfl) (fr1.step fr2)
              · rw [decide_eq_true (show l ≤ names.idxOf nm by omega), Bool.true_and] at hgo
                regloopunroll_open
                refine indexS_q eD2 hnm sn ?_
                regloopunroll_open
                rename_i v2 h2
                refine ⟨y, .ref D, v2, blocks, names, c, rfl, (hy.fr0 fr1).fr0 fr2, .inr ⟨D, _, rfl, .of eD2, reps_strs _⟩, h2, sb, sn, oc, sm _ rfl _ (List.mem_of_getElem? he) _ _ rfl, fun H3 f3 => ?_⟩
                regloopunroll_open
                cases hcw : okCause blocks names c with
                | false =>
                  regloopunroll_open
                  exact fin _ _ (by show okGo blocks names 0 ds = false; rw [hgo, hcw]; rfl) ((fr1.step fr2).step f3)
                | true =>
                  rw [hcw, Bool.true_and] at hgo
                  regloopunroll_open
                  exact ⟨fr2.step f3, names.idxOf nm + 1, _, _, hgo, rfl⟩
        · have e1 : (tyD e == "tuple") = false := by
            cases e <;> first | rfl | exact absurd ⟨_, rfl⟩ ht
          rw [e1]
          regloopunroll_open
          exact fin _ _ (hno fun a c z => ht ⟨_, z⟩) (fr1.step fr2)
      · obtain ⟨fr2, l, o1, o2, hgo, rfl⟩ := p'
        rw [List.drop_length] at hgo
        regloopunroll_open
        exact fin _ _ (by show okGo blocks names 0 ds = true; rw [hgo]; simp [okGo]) (fr1.step fr2)
  · have e1 : (tyD d == "tuple") = false := by
      cases d <;> first | rfl | exact absurd ⟨_, rfl⟩ ht
    rw [e1]
    regloopunroll_open
    exact fin _ _ (by cases d <;> first | rfl | exact absurd ⟨_, rfl⟩ ht) (Fr.refl _ _)

theorem ok_law_draw (T : Top K mg) : Cal P w K mg base CX0 1 "_law_draw" ["d", "many"] spDraw := by
  refine T.d_law_draw.cal sc_law_draw [none, none, none] rfl (fun vs H Q E h => ?_) (fun f cdv A outer s H vs Q E hk hr h => ?_)
  · obtain ⟨a, c, m, rfl, _⟩ := h; rfl
  obtain ⟨a, c, m, rfl, ⟨ns, p, fo, sd, ha, hc, hne⟩, m0, m1, q⟩ := h
  have hu := hu_of hr
  have fin : ∀ (H' : Hp) (z f2 s2 : Int) (p2 : Nat), Fr [a] H H' → H' a = some (.lst [.ref c, .int (p2 : Int), .int f2, .int s2, .int 3]) → Q (.int (z % (m : Int))) H' := by
    intro H' z f2 s2 p2 f1 e1
    obtain ⟨k, e, hk⟩ := draw_mod z m m0
    rw [e]
    exact q H' k f1 ⟨ns, p2, f2, s2, e1, f1.at1 hc hne, hne⟩ hk
  refine ⟨_, (pss_cons (ps_if (pt_cmpR op_gt (pe_ix (ix_GK (K := K) rfl hu) (pv 0) pe_int (fun _ _ => rfl)) pe_int (nomark _)) (pss_cons (ps_set (i := 2) sc_law_draw.nd rfl (Or.inl rfl) (pe_ix (ix_GK (K := K) rfl hu) (pv 0) pe_int (fun _ _ => rfl))) (pss_cons (ps_asg (pe_op op_fdiv (pv 2) (pv 1)) (pg_sub (pv 0) pe_int (set_G hu))) (pss_one (ps_ret (pe_op op_mod (pe_callTy call_intG (by rfl) T.m_int (by decide +kernel) (pa_cons (pv 2) pa_nil)) (pv 1)))))) pss_nil) (pss_cons (ps_set (i := 3) sc_law_draw.nd rfl (Or.inl rfl) pe_int) (pss_cons (ps_if (pt_cmpR (op_lt2K (K := K) rfl hr.u65) (pe_ix (ix_GK (K := K) rfl hu) (pv 0) pe_int (fun _ _ => rfl)) (pe_callB (call_lenGK (K := K) rfl) (by rfl) T.m_len (by decide +kernel) (pa_cons (pe_ix (ix_GK (K := K) rfl hu) (pv 0) pe_int (fun _ _ => rfl)) pa_nil)) (nomark _)) (pss_cons (ps_set (i := 4) sc_law_draw.nd rfl (Or.inl rfl) (pe_ix (ix_GK (K := K) rfl hu) (pe_ix (ix_GK (K := K) rfl hu) (pv 0) pe_int (fun _ _ => rfl)) (pe_ix (ix_GK (K := K) rfl hu) (pv 0) pe_int (fun _ _ => rfl)) (fun _ _ => rfl))) (pss_one (ps_set (i := 3) sc_law_draw.nd rfl (Or.inl rfl) (pe_op (op_addGK (K := K) rfl) (pe_op op_mul pe_int (pe_callB call_absG (by rfl) T.m_abs (by decide +kernel) (pa_cons (pv 4) pa_nil))) (pe_callTy call_intG (by rfl) T.m_int (by decide +kernel) (pa_cons (pe_cmpR (op_lt2K (K := K) rfl hr.u65) (pv 4) pe_int (nomark _)) pa_nil)))))) pss_nil) (pss_cons (ps_augS (pv 0) pe_int get_list pe_int ip_add set_list) (pss_cons (ps_if (pt_cmpR op_ge (pv 3) (pe_op op_mul pe_int (pe_op op_pow pe_int pe_int)) (nomark _)) (pss_cons (ps_set (i := 2) sc_law_draw.nd rfl (Or.inl rfl) (pe_op op_mod (pe_callTy call_intG (by rfl) T.m_int (by decide +kernel) (pa_cons (pe_op op_fdiv (pv 3) pe_int) pa_nil)) (pe_op op_shl pe_int pe_int))) (pss_cons (ps_asg (pe_op op_fdiv (pv 2) (pv 1)) (pg_sub (pv 0) pe_int (set_G hu))) (pss_one (ps_ret (pe_op op_mod (pe_callTy call_intG (by rfl) T.m_int (by decide +kernel) (pa_cons (pv 2) pa_nil)) (pv 1)))))) pss_nil) (pss_cons (ps_asg (pe_op op_mod (pe_callTy call_intG (by rfl) T.m_int (by decide +kernel) (pa_cons (pe_op (op_addGK (K := K) rfl) (pe_op (op_addGK (K := K) rfl) (pe_op (op_addGK (K := K) rfl) (pe_op op_mul (pe_ix (ix_GK (K := K) rfl hu) (pv 0) pe_int (fun _ _ => rfl)) pe_int) (pe_op op_mul (pe_op op_mod (pe_callTy call_intG (by rfl) T.m_int (by decide +kernel) (pa_cons (pv 3) pa_nil)) pe_int) pe_int)) (pe_op op_mul (pe_ix (ix_GK (K := K) rfl hu) (pv 0) pe_int (fun _ _ => rfl)) pe_int)) pe_int) pa_nil)) pe_int) (pg_sub (pv 0) pe_int (set_G hu))) (pss_one (ps_ret (pe_op op_mod (pe_callTy call_intG (by rfl) T.m_int (by decide +kernel) (pa_cons (pe_op op_fdiv (pe_ix (ix_GK (K := K) rfl hu) (pv 0) pe_int (fun _ _ => rfl)) pe_int) pa_nil)) (pv 1)))))))))), ?_⟩
  kpt_turns
  regloopunroll_open
  refine ifD (fun h1 => ?_) (fun h1 => ?_)
  · regloopunroll_open
    exact fin _ _ _ _ _ (by lcg_off) (by assumption)
  · regloopunroll_open
    refine ifD (fun h2 => ?_) (fun h2 => ?_)
    · have hp : p < ns.length := by simpa using h2
      have hz : (ns.map V.int)[p]? = some (.int ns[p]) := by simp [hp]
      regloopunroll_open
      refine ifD (fun h3 => ?_) (fun h3 => ?_)
      all_goals regloopunroll_open
      all_goals exact fin _ _ _ _ (p + 1) (by lcg_off) (by assumption)
    · regloopunroll_open
      exact fin _ _ _ _ (p + 1) (by lcg_off) (by assumption)
theorem ok_law_pick (T : Top K mg) : Cal P w K mg base CX0 2 "_law_pick" ["d", "row"] (spPick K) := by
  refine T.d_law_pick.cal sc_law_pick [] rfl (fun vs H Q E h => ?_) (fun f cdv A outer s H vs Q E hk hr h => ?_)
  · obtain ⟨a, c, l, xs, rfl, _⟩ := h; rfl
  obtain ⟨a, c, l, xs, rfl, hd, hl, hne, h0, h1, q⟩ := h
  have hu := hu_of hr
  have C_law_draw := ok_law_draw (P := P) (w := w) (base := base) T
  refine ⟨_, (pss_one (ps_ret (pe_ix (ix_GK (K := K) rfl hu) (pv 1) (pe_cal C_law_draw (hr.mono (by omega)) (by rfl) pass0 (pa_cons (pv 0) (pa_cons (pe_callB (call_lenGK (K := K) rfl) (by rfl) T.m_len (by decide +kernel) (pa_cons (pv 1) pa_nil)) pa_nil))) (fun _ _ => rfl)))), ?_⟩
  kpt_turns
  regloopunroll_open
  rename_i H' k fr hd' hk
  have hl' := fr.sqL hl (by simpa using hne)
  have hk2 : k < xs.length := by omega
  have e : xs[k]? = some xs[k] := by simp [hk2]
  regloopunroll_open
  exact q _ k _ fr hd' e
theorem ok_law_begin (T : Top K mg) : Cal P w K mg base CX0 1 "_law_begin" ["script"] (spBegin K) := by
  refine T.d_law_begin.cal sc_law_begin [none] rfl (fun vs H Q E h => ?_) (fun f cdv A outer s H vs Q E hk hr h => ?_)
  · obtain ⟨a, l, rfl, _⟩ := h; rfl
  obtain ⟨a, ns, rfl, hs, hl, q⟩ := h
  have hu := hu_of hr
  refine ⟨_, (pss_one (ps_ret (pe_lst (pa_cons (pe_lc (own := [("cell", 1)]) (g := gName 1) rfl sc_law_begin.nd (pi_seqK (K := K) rfl (pv 0)) (blkOk_by (N := N_law_begin) (sc := defScope s_law_begin) (by decide +kernel)) (fun _ _ _ _ _ => pg_name (i := 1) sc_law_begin.nd rfl (Or.inl rfl)) (fun _ _ _ _ _ => pts_nil) (fun _ _ _ _ _ => (pe_callTy call_intG (by rfl) T.m_int (by decide +kernel) (pa_cons (pv 1) pa_nil)))) (pa_cons pe_int (pa_cons pe_int (pa_cons pe_int (pa_cons pe_int pa_nil)))))))), ?_⟩
  kpt_turns
  regloopunroll_open
  refine g_lcL ?_
  regloopunroll_open
  refine lcL_q hs (fun D i H' => Fr [] H H' ∧ H' D = some (.lst ((ns.take i).map V.int))) (fun D nD => ⟨Fr.new nD, by rw [upd_same]; rfl⟩) (fun D i H' nD p => p.1.sqL hs (by simp)) (fun D i x H' nD e p => ?_) (fun D H' nD p => ?_)
  · obtain ⟨f1, e1⟩ := p
    obtain ⟨z, hz, rfl⟩ : ∃ z, ns[i]? = some z ∧ V.int z = x := by simpa [List.getElem?_map, Option.map_eq_some_iff] using e
    regloopunroll_open
    refine ⟨rfl, ?_⟩
    regloopunroll_open
    refine ⟨_, e1, small1000 (by simp; omega), f1.updN nD e1, ?_⟩
    rw [upd_same, List.take_add_one, hz, List.map_append]
    rfl
  · obtain ⟨f1, e1⟩ := p
    regloopunroll_open
    rename_i H2 l f2 n2 e2
    rw [List.length_map, List.take_length] at e1
    exact q H2 l D (f1.step0 f2) (f1.free n2 (by simp)) nD ⟨ns, 0, 0, 7, e2, f2.at e1, fun z => by subst z; rw [e1] at n2; cases n2⟩

theorem steps_iff {ds : List PyData} : steps ds = true ↔ ∀ j, j + 1 < ds.length → PySem.W.dataLt (ds.getD j .none) (ds.getD (j + 1) .none) = true := by
  rw [← steps_lts, List.all_eq_true]
  unfold lts
  simp only [List.mem_map, List.mem_range, id]
  constructor
  · intro h j hj; exact h _ ⟨j, by omega, rfl⟩
  · rintro h b ⟨j, hj, rfl⟩; exact h j (by omega)
theorem getD_some {ds : List PyData} {i : Nat} {e : PyData} (h : ds[i]? = some e) : ds.getD i .none = e := by simp [List.getD, h]
def spFC (K : PySem.W.Frag) : Sp := fun vs H Q _ => ∃ x y z blocks names d, vs = [x, y, z] ∧ RowOf K H x (names.map .str) ∧ RowOf K H y (blocks.map .str) ∧ Rep K H d z ∧ SN blocks ∧ SN names ∧ Okd d ∧ Sm d ∧ Q (.bl (okCause blocks names d)) H
theorem ok_law_fits_cause (T : Top K mg) : Cal P w K mg base CX0 1 "_law_fits_cause" ["names", "blocks", "cause"] (spFC K) := by
  refine T.d_law_fits_cause.cal sc_law_fits_cause [none, none] rfl (fun vs H Q E h => ?_) (fun f cdv A outer s H vs Q E hk hr h => ?_)
  · obtain ⟨x, y, z, b, n, d, rfl, _⟩ := h; rfl
  obtain ⟨x, y, z, blocks, names, d, rfl, hx, hy, hz, sb, sn, od, sm, q⟩ := h
  have hu := hu_of hr
  refine ⟨_, (pss_cons (ps_if (pt_not (pt_val (pe_callB (call_isiGK (K := K) rfl) (by rfl) T.m_isinstance (by decide +kernel) (pa_cons (pv 2) (pa_cons (pe_bltn (v := .ty "tuple") (u := .type "tuple") (by rfl) T.m_tuple (by decide +kernel) rfl) pa_nil))))) (pss_one (ps_ret (pe_cmpR (op_eqGK (K := K) rfl hr.units) (pv 2) pe_str (nomark _)))) pss_nil) (pss_cons (ps_for PassesOwn.never rfl (pi_range1 (by rfl) T.m_range (pa_cons (pe_callB (call_lenGK (K := K) rfl) (by rfl) T.m_len (by decide +kernel) (pa_cons (pv 2) pa_nil)) pa_nil)) (pg_name (i := 3) sc_law_fits_cause.nd rfl (Or.inl rfl)) (pss_cons (ps_set (i := 4) sc_law_fits_cause.nd rfl (Or.inl rfl) (pe_ix (ix_GK (K := K) rfl hu) (pv 2) (pv 3) (fun _ _ => rfl))) (pss_cons (ps_if (PW.pt (pw_or (pt_not (pt_val (pe_callB (call_isiGK (K := K) rfl) (by rfl) T.m_isinstance (by decide +kernel) (pa_cons (pv 4) (pa_cons (pe_bltn (v := .ty "tuple") (u := .type "tuple") (by rfl) T.m_tuple (by decide +kernel) rfl) pa_nil))))) (pw_or1 (pt_cmpR (op_neGK (K := K) rfl hr.units) (pe_callB (call_lenGK (K := K) rfl) (by rfl) T.m_len (by decide +kernel) (pa_cons (pv 4) pa_nil)) pe_int (nomark _))))) (pss_one (ps_ret pe_bl)) pss_nil) (pss_cons (ps_if (PW.pt (pw_or (pt_cmpR (op_notIn2K (K := K) rfl hr.u65) (pe_ix (ix_GK (K := K) rfl hu) (pv 4) pe_int (fun _ _ => rfl)) (pv 1) (by rfl)) (pw_or1 (pt_cmpR (op_notIn2K (K := K) rfl hr.u65) (pe_ix (ix_GK (K := K) rfl hu) (pv 4) pe_int (fun _ _ => rfl)) (pv 0) (by rfl))))) (pss_one (ps_ret pe_bl)) pss_nil) (pss_one (ps_if (PW.pt (pw_and (pt_cmpR op_gt (pv 3) pe_int (nomark _)) (pw_and1 (pt_not (pt_cmpR (op_lt2K (K := K) rfl hr.u65) (pe_ix (ix_GK (K := K) rfl hu) (pv 2) (pe_op op_sub (pv 3) pe_int) (fun _ _ => rfl)) (pv 4) (nomark _)))))) (pss_one (ps_ret pe_bl)) pss_nil)))))) (pss_one (ps_ret (pe_cmpR op_gt (pe_callB (call_lenGK (K := K) rfl) (by rfl) T.m_len (by decide +kernel) (pa_cons (pv 2) pa_nil)) pe_int (nomark _)))))), ?_⟩
  kpt_turns
  regloopunroll_open
  refine isi_rep hz (kitB_tuple d) ?_
  have fin : ∀ k, okCause blocks names d = k → Q (.bl k) H := fun k e => by rw [← e]; exact q
  by_cases ht : ∃ ds, d = .tuple ds
  · obtain ⟨ds, rfl⟩ := ht
    rw [show (tyD (.tuple ds) == "tuple") = true from rfl]
    have hlen : ds.length ≤ 900 := sm ds rfl
    have eok : okCause blocks names (.tuple ds) = (!ds.isEmpty && ds.all (okPair blocks names) && steps ds) := rfl
    regloopunroll_open
    refine forR1_q (k := ds.length) rfl (by omega) (fun i σ' H' => H' = H ∧ (∀ j, j < i → ∃ e, ds[j]? = some e ∧ okPair blocks names e = true) ∧ (∀ j, j + 1 < i → PySem.W.dataLt (ds.getD j .none) (ds.getD (j + 1) .none) = true) ∧ ∃ o1 o2, σ' = [some x, some y, some z, o1, o2]) ⟨rfl, fun j hj => absurd hj (by omega), fun j hj => absurd hj (by omega), _, _, rfl⟩ (fun i σ' H' hi p => ?_) (fun σ' H' p => ?_)
    · obtain ⟨rfl, hall, hst, o1, o2, rfl⟩ := p
      have he : ds[i]? = some ds[i] := List.getElem?_eq_getElem hi
      generalize ds[i] = e at he
      have oe := od.all.mem (List.mem_of_getElem? he)
      have hno : okPair blocks names e = false → okCause blocks names (.tuple ds) = false := fun h => by
        rw [eok, show ds.all (okPair blocks names) = false from List.all_eq_false.mpr ⟨e, List.mem_of_getElem? he, by rw [h]; simp⟩]
        simp
      regloopunroll_open
      refine ix_rep hz he (fun v hv => ?_)
      regloopunroll_open
      refine isi_rep hv (kitB_tuple e) ?_
      by_cases ht : ∃ es, e = .tuple es
      · obtain ⟨es, rfl⟩ := ht
        rw [show (tyD (.tuple es) == "tuple") = true from rfl]
        regloopunroll_open
        refine iteN2 (fun hl2 => ?_) (fun hl2 => ?_)
        · regloopunroll_open
          exact fin _ (hno (by
            cases hq : okPair blocks names (.tuple es) with
            | false => rfl
            | true =>
              obtain ⟨p, ep, _⟩ := okPair_shape hq
              exact absurd ep (not2 (fun z => hl2 (by rw [z]; rfl)) _ _)))
        · obtain ⟨a, c, rfl⟩ := is2 (show es.length = 2 by have := V.int.inj hl2; omega)
          have oa : Okd a := oe.all.mem (by simp)
          have oc : Okd c := oe.all.mem (by simp)
          have epr : okPair blocks names (.tuple [a, c]) = (memS a blocks && memS c names) := rfl
          regloopunroll_open
          rename_i v1 h1
          refine notInX_q h1 hy oa (okds_strs sb) ?_
          rw [any_memS]
          refine ⟨_, rfl, ?_⟩
          cases hm : memS a blocks with
          | false =>
            regloopunroll_open
            exact fin _ (hno (by rw [epr, hm]; rfl))
          | true =>
            regloopunroll_open
            rename_i v2 h2
            refine notInX_q h2 hx oc (okds_strs sn) ?_
            rw [any_memS]
            refine ⟨_, rfl, ?_⟩
            cases hm2 : memS c names with
            | false =>
              regloopunroll_open
              exact fin _ (hno (by rw [epr, hm, hm2]; rfl))
            | true =>
              have hpr : okPair blocks names (.tuple [a, c]) = true := by rw [epr, hm, hm2]; rfl
              obtain ⟨pr, epr2, _⟩ := okPair_shape hpr
              have nall : ∀ j, j < i + 1 → ∃ e, ds[j]? = some e ∧ okPair blocks names e = true := fun j hj => by
                by_cases hji : j = i
                · subst hji; exact ⟨_, he, hpr⟩
                · exact hall j (by omega)
              regloopunroll_open
              refine ifD (fun hpos => ?_) (fun hpos => ?_)
              · have hpos' : 0 < i := by omega
                obtain ⟨e0, he0, hq0⟩ := hall (i - 1) (by omega)
                obtain ⟨pr0, ep0, _⟩ := okPair_shape hq0
                regloopunroll_open
                rw [show V.int ((i : Int) - 1) = V.int ((i - 1 : Nat) : Int) from congrArg V.int (by omega)]
                refine ix_rep hz he0 (fun v3 h3 => ?_)
                regloopunroll_open
                refine ltX_q h3 hv (by rw [ep0, epr2]; simp [prD, PySem.W.alike, PySem.W.alikeAll]) (by rw [ep0]; simp [prD]) (od.all.mem (List.mem_of_getElem? he0)) ?_
                refine ⟨_, rfl, ?_⟩
                have elt : PySem.W.dataLt (ds.getD (i - 1) .none) (ds.getD (i - 1 + 1) .none) = PySem.W.dataLt e0 (.tuple [a, c]) := by rw [getD_some he0, getD_some (show ds[i - 1 + 1]? = _ by rw [show i - 1 + 1 = i by omega]; exact he)]
                cases hlt : PySem.W.dataLt e0 (.tuple [a, c]) with
                | false =>
                  regloopunroll_open
                  refine fin _ ?_
                  have : steps ds = false := by
                    cases hs : steps ds with
                    | false => rfl
                    | true => have := steps_iff.mp hs (i - 1) (by omega); rw [elt, hlt] at this; cases this
                  rw [eok, this, Bool.and_false]
                | true =>
                  regloopunroll_open
                  refine ⟨rfl, nall, fun j hj => ?_, _, _, rfl⟩
                  by_cases hji : j = i - 1
                  · subst hji; rw [elt, hlt]
                  · exact hst j (by omega)
              · regloopunroll_open
                exact ⟨rfl, nall, fun j hj => absurd hj (by omega), _, _, rfl⟩
      · have e1 : (tyD e == "tuple") = false := by
          cases e <;> first | rfl | exact absurd ⟨_, rfl⟩ ht
        rw [e1]
        regloopunroll_open
        exact fin _ (hno (by cases e <;> first | rfl | exact absurd ⟨_, rfl⟩ ht))
    · obtain ⟨rfl, hall, hst, o1, o2, rfl⟩ := p
      regloopunroll_open
      refine fin _ ?_
      rw [eok, show ds.all (okPair blocks names) = true from List.all_eq_true.mpr fun e he => by
        obtain ⟨j, hj, rfl⟩ := List.mem_iff_getElem.mp he
        obtain ⟨e, h1, h2⟩ := hall j hj
        rw [List.getElem?_eq_getElem hj] at h1
        cases h1
        exact h2, steps_iff.mpr hst]
      cases ds <;> simp
  · have e1 : (tyD d == "tuple") = false := by
      cases d <;> first | rfl | exact absurd ⟨_, rfl⟩ ht
    rw [e1]
    regloopunroll_open
    refine eqX_q hz rep_str od okd_all ?_
    refine fin _ ?_
    cases d <;> first | exact absurd ⟨_, rfl⟩ ht | rfl | (simp only [okCause, PyData.eqv]; rw [Bool.eq_iff_iff]; simp)

def spFR (K : PySem.W.Frag) : Sp := fun vs H Q _ => ∃ D y z blocks names d, vs = [.ref D, y, z] ∧ H D = some (.lst (names.map V.str)) ∧ RowOf K H y (blocks.map .str) ∧ Rep K H d z ∧ SN blocks ∧ SN names ∧ Okd d ∧ Smr d ∧ Q (.bl (okRow blocks names d)) H
theorem ok_law_fits_row (T : Top K mg) : Cal P w K mg base CX0 2 "_law_fits_row" ["names", "blocks", "thing"] (spFR K) := by
  refine T.d_law_fits_row.cal sc_law_fits_row [none, none, none] rfl (fun vs H Q E h => ?_) (fun f cdv A outer s H vs Q E hk hr h => ?_)
  · obtain ⟨x, y, z, b, n, d, rfl, _⟩ := h; rfl
  obtain ⟨D, y, z, blocks, names, d, rfl, eD, hy, hz, sb, sn, od, sm, q⟩ := h
  have hu := hu_of hr
  have C_law_fits_cause := ok_law_fits_cause (P := P) (w := w) (base := base) T
  refine ⟨_, (pss_cons (ps_if (pt_not (pt_val (pe_callB (call_isiGK (K := K) rfl) (by rfl) T.m_isinstance (by decide +kernel) (pa_cons (pv 2) (pa_cons (pe_bltn (v := .ty "tuple") (u := .type "tuple") (by rfl) T.m_tuple (by decide +kernel) rfl) pa_nil))))) (pss_one (ps_ret pe_bl)) pss_nil) (pss_cons (ps_set (i := 3) sc_law_fits_row.nd rfl (Or.inl rfl) (pe_un un_neg pe_int)) (pss_cons (ps_for PassesOwn.never rfl (pi_seqK (K := K) rfl (pv 2)) (pg_name (i := 4) sc_law_fits_row.nd rfl (Or.inl rfl)) (pss_cons (ps_if (PW.pt (pw_or (pt_not (pt_val (pe_callB (call_isiGK (K := K) rfl) (by rfl) T.m_isinstance (by decide +kernel) (pa_cons (pv 4) (pa_cons (pe_bltn (v := .ty "tuple") (u := .type "tuple") (by rfl) T.m_tuple (by decide +kernel) rfl) pa_nil))))) (pw_or (pt_cmpR (op_neGK (K := K) rfl hr.units) (pe_callB (call_lenGK (K := K) rfl) (by rfl) T.m_len (by decide +kernel) (pa_cons (pv 4) pa_nil)) pe_int (nomark _)) (pw_or1 (pt_cmpR (op_notIn2K (K := K) rfl hr.u65) (pe_ix (ix_GK (K := K) rfl hu) (pv 4) pe_int (fun _ _ => rfl)) (pv 0) (by rfl)))))) (pss_one (ps_ret pe_bl)) pss_nil) (pss_cons (ps_set (i := 5) sc_law_fits_row.nd rfl (Or.inl rfl) (pe_bm PySem.F.plainAttrs_list PySem.F.slot_list_index PySem.F.type_list_index (mt_indexK (K := K) rfl hr.u65) (pv 0) (pa_cons (pe_ix (ix_GK (K := K) rfl hu) (pv 4) pe_int (fun _ _ => rfl)) pa_nil))) (pss_cons (ps_if (PW.pt (pw_or (pt_cmpR op_le (pv 5) (pv 3) (nomark _)) (pw_or1 (pt_not (pt_val (pe_cal C_law_fits_cause (hr.mono (by omega)) (by rfl) pass0 (pa_cons (pv 0) (pa_cons (pv 1) (pa_cons (pe_ix (ix_GK (K := K) rfl hu) (pv 4) pe_int (fun _ _ => rfl)) pa_nil))))))))) (pss_one (ps_ret pe_bl)) pss_nil) (pss_one (ps_set (i := 3) sc_law_fits_row.nd rfl (Or.inl rfl) (pv 5))))))) (pss_one (ps_ret pe_bl))))), ?_⟩
  kpt_turns
  regloopunroll_open
  refine isi_rep hz (kitB_tuple d) ?_
  have fin : ∀ k, okRow blocks names d = k → Q (.bl k) H := fun k e => by rw [← e]; exact q
  by_cases ht : ∃ ds, d = .tuple ds
  · obtain ⟨ds, rfl⟩ := ht
    rw [show (tyD (.tuple ds) == "tuple") = true from rfl]
    regloopunroll_open
    refine g_forT ?_
    regloopunroll_open
    refine forT_rep hz (fun i σ' H' => H' = H ∧ ∃ (l : Nat) (o1 o2 : Option V), okGo blocks names 0 ds = okGo blocks names l (ds.drop i) ∧ σ' = [some (.ref D), some y, some z, some (.int ((l : Int) - 1)), o1, o2]) ⟨rfl, 0, _, _, rfl, rfl⟩ (fun i σ' H' p => ⟨[], by rw [p.1]; exact Fr.refl _ _⟩) (fun i e y' σ' H' he hy' p' => ?_) (fun σ' H' p' => ?_)
    · obtain ⟨rfl, l, o1, o2, hgo, rfl⟩ := p'
      have hdrop : ds.drop i = e :: ds.drop (i + 1) := by
        obtain ⟨hi, rfl⟩ := List.getElem?_eq_some_iff.mp he
        exact List.drop_eq_getElem_cons hi
      rw [hdrop] at hgo
      have oe := od.all.mem (List.mem_of_getElem? he)
      have hno : (∀ a c, e ≠ .tuple [a, c]) → okRow blocks names (.tuple ds) = false := fun h => by
        show okGo blocks names 0 ds = false
        rw [hgo, okGo_not h]
      regloopunroll_open
      refine isi_rep hy' (kitB_tuple e) ?_
      by_cases ht : ∃ es, e = .tuple es
      · obtain ⟨es, rfl⟩ := ht
        rw [show (tyD (.tuple es) == "tuple") = true from rfl]
        regloopunroll_open
        refine iteN2 (fun hl2 => ?_) (fun hl2 => ?_)
        · regloopunroll_open
          exact fin _ (hno (not2 fun z => hl2 (by rw [z]; rfl)))
        · obtain ⟨a, c, rfl⟩ := is2 (show es.length = 2 by have := V.int.inj hl2; omega)
          have oa : Okd a := oe.all.mem (by simp)
          have oc : Okd c := oe.all.mem (by simp)
          regloopunroll_open
          rename_i v1 h1
          refine notInX_q h1 (.inr ⟨D, _, rfl, .of eD, reps_strs _⟩) oa (okds_strs sn) ?_
          rw [any_memS]
          refine ⟨_, rfl, ?_⟩
          cases hm : memS a names with
          | false =>
            regloopunroll_open
            exact fin _ (by show okGo blocks names 0 ds = false; rw [hgo, okGo_mem hm])
          | true =>
            obtain ⟨nm, rfl, hnm⟩ := memS_str hm
            rw [okGo_str hnm] at hgo
            regloopunroll_open
            refine indexS_q eD hnm sn ?_
            regloopunroll_open
            refine ifD (fun hlt => ?_) (fun hlt => ?_)
            · regloopunroll_open
              exact fin _ (by show okGo blocks names 0 ds = false; rw [hgo, decide_eq_false (by omega)]; rfl)
            · rw [decide_eq_true (show l ≤ names.idxOf nm by omega), Bool.true_and] at hgo
              regloopunroll_open
              rename_i v2 h2
              refine ⟨.ref D, y, v2, blocks, names, c, rfl, .inr ⟨D, _, rfl, .of eD, reps_strs _⟩, hy, h2, sb, sn, oc, sm _ rfl _ (List.mem_of_getElem? he) _ _ rfl, ?_⟩
              regloopunroll_open
              cases hcw : okCause blocks names c with
              | false =>
                regloopunroll_open
                exact fin _ (by show okGo blocks names 0 ds = false; rw [hgo, hcw]; rfl)
              | true =>
                rw [hcw, Bool.true_and] at hgo
                regloopunroll_open
                exact ⟨rfl, names.idxOf nm + 1, _, _, hgo, by rw [show ((names.idxOf nm + 1 : Nat) : Int) - 1 = ((names.idxOf nm : Nat) : Int) by omega]⟩
      · have e1 : (tyD e == "tuple") = false := by
          cases e <;> first | rfl | exact absurd ⟨_, rfl⟩ ht
        rw [e1]
        regloopunroll_open
        exact fin _ (hno fun a c z => ht ⟨_, z⟩)
    · obtain ⟨rfl, l, o1, o2, hgo, rfl⟩ := p'
      rw [List.drop_length] at hgo
      regloopunroll_open
      exact fin _ (by show okGo blocks names 0 ds = true; rw [hgo]; simp [okGo])
  · have e1 : (tyD d == "tuple") = false := by
      cases d <;> first | rfl | exact absurd ⟨_, rfl⟩ ht
    rw [e1]
    regloopunroll_open
    exact fin _ (by cases d <;> first | rfl | exact absurd ⟨_, rfl⟩ ht)

theorem lput_none {cur : Rw} {n : Str} {c : Cs} (h : aget cur n = none) : lput cur (n, c) = aput cur n c := by simp [lput, h, lval]
theorem lput_all {cur : Rw} {n : Str} {c : Cs} (h : aget cur n = some .all) : lput cur (n, c) = cur := by simp [lput, h]
theorem lput_ps {cur : Rw} {n : Str} {c : Cs} {a : List Pr} (h : aget cur n = some (.ps a)) : lput cur (n, c) = aput cur n (lval (some (.ps a)) c) := by simp [lput, h]
theorem depth_prs {l : List Pr} : ∀ d ∈ l.map prD, d.depth ≤ 40 := fun d hd => by
  obtain ⟨p, hp, rfl⟩ := List.mem_map.mp hd
  simp [prD, PyData.depth, PyData.depthAll]
def spJoin (K : PySem.W.Frag) : Sp := fun vs H Q _ => ∃ a b r r' ons pairs, vs = [.ref a, .ref b] ∧ DIs K H Cs.toD a r ∧ DW K H Cs.toD b r' ∧ Ctx ons pairs ∧ OkR ons pairs r ∧ OkR ons pairs r' ∧ ∀ H' p, Fr [] H H' → H p = none → DW K H' Cs.toD p (ljoin r r') → Q (.ref p) H'
theorem ok_law_join (T : Top K mg) : Cal P w K mg base CX0 1 "_law_join" ["one", "other"] (spJoin K) := by
  refine T.d_law_join.cal sc_law_join [none, none, none] rfl (fun vs H Q E h => ?_) (fun f cdv A outer s H vs Q E hk hr h => ?_)
  · obtain ⟨a, b, r, r', ons, pairs, rfl, _⟩ := h; rfl
  obtain ⟨a, b, r, r', ons, pairs, rfl, ha, hb, C, ho, ho', q⟩ := h
  have hu := hu_of hr
  refine ⟨_, (pss_cons (ps_set (i := 2) sc_law_join.nd rfl (Or.inr rfl) (pe_callTy call_dictG (by rfl) T.m_dict (by decide +kernel) (pa_cons (pv 0) pa_nil))) (pss_cons (ps_lock (ps_for PassesOwn.never rfl (pi_keys (pv 1)) (pg_name (i := 3) sc_law_join.nd rfl (Or.inr rfl)) (pss_one (ps_if (pt_cmpR (op_notIn2K (K := K) rfl hr.u65) (pv 3) (pv 2) (by rfl)) (pss_one (ps_asg (pe_ix (ix_GK (K := K) rfl hu) (pv 1) (pv 3) (fun _ _ => rfl)) (pg_sub (pv 2) (pv 3) (set_G hu)))) (pss_one (ps_if (pt_cmpR (op_neGK (K := K) rfl hr.units) (pe_ix (ix_GK (K := K) rfl hu) (pv 2) (pv 3) (fun _ _ => rfl)) pe_str (nomark _)) (pss_one (ps_if (pt_cmpR (op_eqGK (K := K) rfl hr.units) (pe_ix (ix_GK (K := K) rfl hu) (pv 1) (pv 3) (fun _ _ => rfl)) pe_str (nomark _)) (pss_one (ps_asg pe_str (pg_sub (pv 2) (pv 3) (set_G hu)))) (pss_one (ps_asg (pe_callTy (call_tupGK (K := K) rfl) (by rfl) T.m_tuple (by decide +kernel) (pa_cons (pe_callB (call_sorted2K (K := K) rfl rfl hr.u65) (by rfl) T.m_sorted (by decide +kernel) (pa_cons (pe_op (op_addGK (K := K) rfl) (pe_callTy (call_listGK (K := K) rfl rfl) (by rfl) T.m_list (by decide +kernel) (pa_cons (pe_ix (ix_GK (K := K) rfl hu) (pv 2) (pv 3) (fun _ _ => rfl)) pa_nil)) (pe_lc (own := [("pair", 4)]) (g := gName 4) rfl sc_law_join.nd (pi_seqK (K := K) rfl (pe_ix (ix_GK (K := K) rfl hu) (pv 1) (pv 3) (fun _ _ => rfl))) (blkOk_by (N := N_law_join) (sc := defScope s_law_join) (by decide +kernel)) (fun _ _ _ _ _ => pg_name (i := 4) sc_law_join.nd rfl (Or.inl rfl)) (fun _ _ _ _ _ => pts_one (pt_cmpR (op_notIn2K (K := K) rfl hr.u65) (pv 4) (pe_ix (ix_GK (K := K) rfl hu) (pv 2) (pv 3) (fun _ _ => rfl)) (by rfl))) (fun _ _ _ _ _ => (pv 4)))) pa_nil)) pa_nil)) (pg_sub (pv 2) (pv 3) (set_G hu)))))) pss_nil)))))) (pss_one (ps_ret (pv 2))))), ?_⟩
  kpt_turns
  regloopunroll_open
  refine dw_dict ha (fun H1 p f1 np t1 => ?_)
  regloopunroll_open
  have hb1 := hb.fr f1 (by simp)
  obtain ⟨kvs, eb, rb⟩ := hb1
  have hbp : p ≠ b := fun z => by
    subst z
    obtain ⟨k0, e0, _⟩ := hb
    rw [np] at e0
    cases e0
  refine forK_q (d := b) rfl eb (fun o j σ' H' => Fr [p] (upd H1 b (.frz o (.dK kvs))) H' ∧ DW K H' Cs.toD p ((r'.take j).foldl lput r) ∧ OkR ons pairs ((r'.take j).foldl lput r) ∧ ∃ o1 o2, σ' = [some (.ref a), some (.ref b), some (.ref p), o1, o2])
    (fun o => ⟨Fr.refl _ _, t1.fr (Fr.lock eb) (by simpa using hbp), ho, _, _, rfl⟩) (fun o j σ' H' p' => p'.1.at1 upd_same hbp.symm) (fun o j k v σ' H' e p' => ?_) (fun o σ' H' p' => ?_)
  · obtain ⟨fr, t, hok, o1, o2, rfl⟩ := p'
    have hj := (List.getElem?_eq_some_iff.mp e).1
    rw [← rb.length] at hj
    have er : r'[j]? = some r'[j] := List.getElem?_eq_getElem hj
    generalize r'[j] = ec at er
    obtain ⟨n, c⟩ := ec
    obtain ⟨v', ev', _⟩ := rb.at er
    rw [e] at ev'
    cases ev'
    have hnc := ho'.ok _ (List.mem_of_getElem? er)
    have hoth : DIs K H' Cs.toD b r' := (DIs.lock eb ⟨kvs, .inl eb, rb⟩).fr fr (by simpa using hbp.symm)
    have eget : aget r' n = some c := aget_of_mem ho'.nd (List.mem_of_getElem? er)
    have estep : (r'.take (j + 1)).foldl lput r = lput ((r'.take j).foldl lput r) (n, c) := by
      rw [List.take_add_one, er, Option.toList_some, List.foldl_append]; rfl
    generalize hcur : (r'.take j).foldl lput r = cur at t hok estep
    have okstep : OkR ons pairs (lput cur (n, c)) := lput_ok hok hnc.1 hnc.2
    have hl8 : cur.length < 1000 := by have := hok.len C; omega
    show gName 3 (V.str n) _ _ _
    regloopunroll_open
    refine dis_notIn t.is ?_
    cases q1 : aget cur n with
    | none =>
      regloopunroll_open
      refine dis_ix hoth eget (fun v4 r4 => ?_)
      regloopunroll_open
      refine dw_set (y := c) t r4 hl8 (fun H6 f6 t6 => ?_)
      regloopunroll_open
      exact ⟨fr.step f6, by rw [estep, lput_none q1]; exact t6, by rw [estep]; exact okstep, _, _, rfl⟩
    | some c0 =>
      have hc0 := (hok.get q1).2
      regloopunroll_open
      refine dis_ix t.is q1 (fun v4 r4 => ?_)
      cases c0 with
      | all =>
        refine neXF r4 rep_str okd_all okd_all (by decide +kernel) ?_
        regloopunroll_open
        exact ⟨fr, by rw [estep, lput_all q1]; exact t, by rw [estep]; exact okstep, _, _, rfl⟩
      | ps a0 =>
        refine neXT r4 rep_str (hc0.okd C) okd_all rfl ?_
        regloopunroll_open
        refine dis_ix hoth eget (fun v5 r5 => ?_)
        cases c with
        | all =>
          refine eqXT r5 rep_str okd_all okd_all (by decide +kernel) ?_
          regloopunroll_open
          refine dw_set (y := Cs.all) t rep_str hl8 (fun H6 f6 t6 => ?_)
          regloopunroll_open
          exact ⟨fr.step f6, by rw [estep, lput_ps q1]; exact t6, by rw [estep]; exact okstep, _, _, rfl⟩
        | ps b0 =>
          refine eqXF r5 rep_str (hnc.2.okd C) okd_all rfl ?_
          have sa := okd_ps.mp (hc0.okd C)
          have sb := okd_ps.mp (hnc.2.okd C)
          have la : a0.length ≤ 16 := hc0.size C
          have lb : b0.length ≤ 16 := OkC.size C hnc.2
          regloopunroll_open
          refine dis_ix t.is q1 (fun v6 r6 => ?_)
          regloopunroll_open
          refine listT_q r6 (fun H7 l7 us f7 n7 e7 r7 => ?_)
          regloopunroll_open
          refine g_lcT ?_
          regloopunroll_open
          refine dis_ix (hoth.fr f7 (by simp)) eget (fun v8 r8 => ?_)
          refine lcT_rep r8 (fun D i H' => Fr [] H7 H' ∧ ∃ ws, H' D = some (.lst ws) ∧ Reps K H' (((b0.take i).filter fun p => !decide (p ∈ a0)).map prD) ws) (fun D nD => ⟨Fr.new nD, [], upd_same, reps_nil⟩) (fun D i H' nD p => ⟨_, p.1⟩) (fun D i d y' H9 nD hd hy' p' => ?_) (fun D H9 nD p' => ?_)
          · obtain ⟨fr9, ws, eD, rw9⟩ := p'
            obtain ⟨pr, e, rfl⟩ := rows_at hd
            have hpr := List.mem_of_getElem? e
            regloopunroll_open
            refine ⟨rfl, ?_⟩
            regloopunroll_open
            refine dis_ix ((t.fr f7 (by simp)).fr fr9 (by simp)).is q1 (fun v9 r9 => ?_)
            refine notInX_q hy' (.inl r9) ((okd_ps.mpr sb).all.mem (List.mem_map.mpr ⟨pr, hpr, rfl⟩)) (okd_ps.mpr sa).all ?_
            rw [any_prs sa (sb pr hpr)]
            refine ⟨_, rfl, ?_⟩
            by_cases hm : pr ∈ a0
            · rw [decide_eq_true hm]
              regloopunroll_open
              exact ⟨fr9, ws, eD, by rw [List.take_add_one, e]; simpa [hm] using rw9⟩
            · rw [decide_eq_false hm]
              regloopunroll_open
              refine ⟨_, eD, ?_, fr9.updN nD eD, _, upd_same, ?_⟩
              · have h0 := rw9.length
                rw [List.length_map] at h0
                have h1 := List.length_filter_le (fun p => !decide (p ∈ a0)) (b0.take i)
                have h2 : (b0.take i).length ≤ b0.length := by rw [List.length_take]; omega
                exact small1000 (by omega)
              · rw [List.take_add_one, e, Option.toList_some, List.filter_append, List.map_append]
                have g : Fr [D] H9 (upd H9 D (.lst (ws ++ [y']))) := Fr.setL eD
                refine (rw9.up g).append ?_
                simpa [hm] using reps_one (hy'.up g)
          · obtain ⟨fr9, ws, eD, rw9⟩ := p'
            rw [List.length_map, List.take_length] at rw9
            have hsum : us.length + ws.length ≤ sizeLine := by
              have h0 := rw9.length
              have h1 := r7.length
              rw [List.length_map] at h0 h1
              have h2 := List.length_filter_le (fun p => !decide (p ∈ a0)) b0
              exact Nat.le_of_lt (small1000 (by omega))
            regloopunroll_open
            refine addG_lst (fr9.at e7) eD hsum (fun H10 l10 f10 n10 e10 => ?_)
            have r10 : Reps K H10 ((a0 ++ b0.filter fun p => !decide (p ∈ a0)).map prD) (us ++ ws) := by
              rw [List.map_append]
              exact ((r7.up fr9).append rw9).up f10
            regloopunroll_open
            refine sortedR_q e10 r10 (alike_prs _) (sortable_prs _) depth_prs (fun H11 l11 ys es hp ha f11 n11 e11 r11 => ?_)
            have e2 := srt_of hp ha
            regloopunroll_open
            rename_i H12 p12 f12 n12 e12
            refine dw_set (y := .ps (srt (a0 ++ b0.filter fun p => !decide (p ∈ a0)))) (((((t.fr f7 (by simp)).fr fr9 (by simp)).fr f10 (by simp)).fr f11 (by simp)).fr f12 (by simp)) (rep_tup e12 (by rw [e2] at r11; exact r11.up f12)) hl8 (fun H13 f13 t13 => ?_)
            regloopunroll_open
            exact ⟨(((((fr.step0 f7).step0 fr9).step0 f10).step0 f11).step0 f12).step f13, by rw [estep, lput_ps q1]; exact t13, by rw [estep]; exact okstep, _, _, rfl⟩
  · obtain ⟨fr, t, hok, o1, o2, rfl⟩ := p'
    have hlen : kvs.length = r'.length := rb.length.symm
    rw [hlen, List.take_length] at t
    have hb' : H' b = some (.frz o (.dK kvs)) := fr.at1 upd_same hbp.symm
    have g : Fr [b] H' (upd H' b (.dK kvs)) := Fr.set hb' (fun _ z => by cases z) (fun _ _ z => by cases z)
    regloopunroll_open
    exact q _ p (f1.over np (Fr.unlock eb fr)) np (t.fr g (by simpa using hbp))

theorem rowT_snoc {ons : List Str} {r : Rw} {i : Nat} {n : Str} (h : ons[i]? = some n) : rowT (ons.take (i + 1)) r = rowT (ons.take i) r ++ (match aget r n with | none => [] | some c => [(n, c)]) := by
  unfold rowT
  rw [List.take_add_one, h, Option.toList_some, List.filterMap_append]
  cases q : aget r n <;> simp [List.filterMap_cons, q]
def spRT (K : PySem.W.Frag) : Sp := fun vs H Q _ => ∃ x a ops r, vs = [x, .ref a] ∧ Rep K H (.tuple [.int 0, opsD ops]) x ∧ DIs K H Cs.toD a r ∧ ops.length ≤ 900 ∧ ∀ H' v, Fr [] H H' → Rep K H' (rowD (rowT (ops.map (·.1)) r)) v → Q v H'
theorem ok_law_row_tuple (T : Top K mg) : Cal P w K mg base CX0 1 "_law_row_tuple" ["program", "row"] (spRT K) := by
  refine T.d_law_row_tuple.cal sc_law_row_tuple [none] rfl (fun vs H Q E h => ?_) (fun f cdv A outer s H vs Q E hk hr h => ?_)
  · obtain ⟨x, a, ops, r, rfl, _⟩ := h; rfl
  obtain ⟨x, a, ops, r, rfl, hx, ha, hl, q⟩ := h
  have hu := hu_of hr
  refine ⟨_, (pss_one (ps_ret (pe_callTy (call_tupGK (K := K) rfl) (by rfl) T.m_tuple (by decide +kernel) (pa_cons (pe_lc (own := [("p", 2)]) (g := gName 2) rfl sc_law_row_tuple.nd (pi_seqK (K := K) rfl (pe_ix (ix_GK (K := K) rfl hu) (pv 0) pe_int (fun _ _ => rfl))) (blkOk_by (N := N_law_row_tuple) (sc := defScope s_law_row_tuple) (by decide +kernel)) (fun _ _ _ _ _ => pg_name (i := 2) sc_law_row_tuple.nd rfl (Or.inl rfl)) (fun _ _ _ _ _ => pts_one (pt_cmpR (op_in2K (K := K) rfl hr.u65) (pe_ix (ix_GK (K := K) rfl hu) (pv 2) pe_int (fun _ _ => rfl)) (pv 1) (by rfl))) (fun _ _ _ _ _ => (pe_tup (pa_cons (pe_ix (ix_GK (K := K) rfl hu) (pv 2) pe_int (fun _ _ => rfl)) (pa_cons (pe_ix (ix_GK (K := K) rfl hu) (pv 1) (pe_ix (ix_GK (K := K) rfl hu) (pv 2) pe_int (fun _ _ => rfl)) (fun _ _ => rfl)) pa_nil))))) pa_nil)))), ?_⟩
  kpt_turns
  regloopunroll_open
  refine g_lcT ?_
  regloopunroll_open
  rename_i v1 h1
  refine lcT_rep h1 (fun D i H' => Fr [] H H' ∧ ∃ ws, H' D = some (.lst ws) ∧ Reps K H' ((rowT ((ops.map (·.1)).take i) r).map entD) ws) (fun D nD => ⟨Fr.new nD, [], upd_same, reps_nil⟩) (fun D i H' nD p => ⟨_, p.1⟩) (fun D i e y' H' nD he hy' p' => ?_) (fun D H1 nD p' => ?_)
  · obtain ⟨fr, ws, eD, rw1⟩ := p'
    obtain ⟨o, eo, rfl⟩ := rows_at he
    replace hy' : Rep K H' (.tuple [.str o.1, .int o.2.1, .int o.2.2]) y' := hy'
    have estep := rowT_snoc (r := r) (show (ops.map (·.1))[i]? = some o.1 by rw [List.getElem?_map, eo]; rfl)
    regloopunroll_open
    refine ⟨rfl, ?_⟩
    regloopunroll_open
    refine dis_in (ha.fr fr (by simp)) ?_
    cases q1 : aget r o.1 with
    | none =>
      rw [q1] at estep
      regloopunroll_open
      exact ⟨fr, ws, eD, by rw [estep, List.append_nil]; exact rw1⟩
    | some c =>
      rw [q1] at estep
      regloopunroll_open
      refine dis_ix (ha.fr fr (by simp)) q1 (fun v4 r4 => ?_)
      regloopunroll_open
      rename_i H3 v3 f3 r3
      refine ⟨_, f3.at eD, ?_, (fr.step f3).updN nD (f3.at eD), _, upd_same, ?_⟩
      · have h1 := rw1.length
        rw [List.length_map] at h1
        have h2 : (rowT ((ops.map (·.1)).take i) r).length ≤ ((ops.map (·.1)).take i).length := List.length_filterMap_le _ _
        have h3 : ((ops.map (·.1)).take i).length ≤ ops.length := by rw [List.length_take, List.length_map]; omega
        exact small1000 (by omega)
      · rw [estep, List.map_append]
        have g : Fr [D] H3 (upd H3 D (.lst (ws ++ [v3]))) := Fr.setL (f3.at eD)
        exact ((rw1.up f3).up g).append (reps_one (r3.up g))
  · obtain ⟨fr, ws, eD, rw1⟩ := p'
    rw [List.length_map, ← List.length_map (f := (·.1)) (as := ops), List.take_length] at rw1
    regloopunroll_open
    rename_i H3 p3 f3 n3 e3
    exact q H3 _ (fr.step f3) (rep_tup e3 (rw1.up f3))
def spSays : Sp := fun vs H Q _ => ∃ x y : Bool, vs = [.bl x, .bl y] ∧ Q (.bl (decide (x = y))) H
theorem ok_law_says (T : Top K mg) : Cal P w K mg base CX0 1 "_law_says" ["told", "due"] spSays := by
  refine T.d_law_says.cal sc_law_says [] rfl (fun vs H Q E h => ?_) (fun f cdv A outer s H vs Q E hk hr h => ?_)
  · obtain ⟨x, y, rfl, _⟩ := h; rfl
  obtain ⟨x, y, rfl, q⟩ := h
  have hu := hu_of hr
  refine ⟨_, (pss_one (ps_ret (pe_and (pe_callB (call_isiGK (K := K) rfl) (by rfl) T.m_isinstance (by decide +kernel) (pa_cons (pv 0) (pa_cons (pe_bltn (v := .ty "bool") (u := .type "bool") (by rfl) T.m_bool (by decide +kernel) rfl) pa_nil))) (pe_one (pe_cmpR (op_eqGK (K := K) rfl hr.units) (pv 0) (pv 1) (nomark _)))))), ?_⟩
  kpt_turns
  regloopunroll_open
  refine eqG_bl ?_
  rw [show decide (V.bl x = V.bl y) = decide (x = y) by cases x <;> cases y <;> rfl]
  exact q
def spIn (K : PySem.W.Frag) : Sp := fun vs H Q _ => ∃ a b r r' ons pairs, vs = [.ref a, .ref b] ∧ DW K H Cs.toD a r ∧ DIs K H Cs.toD b r' ∧ Ctx ons pairs ∧ OkR ons pairs r ∧ OkR ons pairs r' ∧ Q (.bl (lin r r')) H
theorem ok_law_inside (T : Top K mg) : Cal P w K mg base CX0 1 "_law_inside" ["row", "other"] (spIn K) := by
  refine T.d_law_inside.cal sc_law_inside [none, none] rfl (fun vs H Q E h => ?_) (fun f cdv A outer s H vs Q E hk hr h => ?_)
  · obtain ⟨a, b, r, r', ons, pairs, rfl, _⟩ := h; rfl
  obtain ⟨a, b, r, r', ons, pairs, rfl, ha, hb, C, ho, ho', q⟩ := h
  have hu := hu_of hr
  refine ⟨_, (pss_cons (ps_lock (ps_for PassesOwn.never rfl (pi_keys (pv 0)) (pg_name (i := 2) sc_law_inside.nd rfl (Or.inl rfl)) (pss_cons (ps_if (pt_cmpR (op_notIn2K (K := K) rfl hr.u65) (pv 2) (pv 1) (by rfl)) (pss_one (ps_ret pe_bl)) pss_nil) (pss_one (ps_if (pt_cmpR (op_neGK (K := K) rfl hr.units) (pe_ix (ix_GK (K := K) rfl hu) (pv 1) (pv 2) (fun _ _ => rfl)) pe_str (nomark _)) (pss_cons (ps_if (pt_cmpR (op_eqGK (K := K) rfl hr.units) (pe_ix (ix_GK (K := K) rfl hu) (pv 0) (pv 2) (fun _ _ => rfl)) pe_str (nomark _)) (pss_one (ps_ret pe_bl)) pss_nil) (pss_one (ps_for PassesOwn.never rfl (pi_seqK (K := K) rfl (pe_ix (ix_GK (K := K) rfl hu) (pv 0) (pv 2) (fun _ _ => rfl))) (pg_name (i := 3) sc_law_inside.nd rfl (Or.inl rfl)) (pss_one (ps_if (pt_cmpR (op_notIn2K (K := K) rfl hr.u65) (pv 3) (pe_ix (ix_GK (K := K) rfl hu) (pv 1) (pv 2) (fun _ _ => rfl)) (by rfl)) (pss_one (ps_ret pe_bl)) pss_nil))))) pss_nil))))) (pss_one (ps_ret pe_bl))), ?_⟩
  kpt_turns
  regloopunroll_open
  obtain ⟨kvs, ea, ra⟩ := id ha
  let F := fun e : Str × Cs => match aget r' e.1 with | none => false | some c => cw e.2 c
  have no : ∀ {e : Str × Cs} {o : Obj}, e ∈ r → F e = false → upd H a (.frz o (.dK kvs)) a = some (.frz o (.dK kvs)) ∧ Q (.bl false) (upd (upd H a (.frz o (.dK kvs))) a (.dK kvs)) := fun {e o} he hF => by
    rw [upd_back ea]
    refine ⟨upd_same, ?_⟩
    have e1 : lin r r' = false := List.all_eq_false.mpr ⟨e, he, by show ¬ (F e = true); rw [hF]; simp⟩
    rw [e1] at q
    exact q
  refine forK_q (d := a) rfl ea (fun o j σ' H' => H' = upd H a (.frz o (.dK kvs)) ∧ (r.take j).all F = true ∧ ∃ o1 o2, σ' = [some (.ref a), some (.ref b), o1, o2])
    (fun o => ⟨rfl, rfl, _, _, rfl⟩) (fun o j σ' H' p' => by rw [p'.1]; exact upd_same) (fun o j k v σ' H' e p' => ?_) (fun o σ' H' p' => ?_)
  · obtain ⟨rfl, hall, o1, o2, rfl⟩ := p'
    have hj := (List.getElem?_eq_some_iff.mp e).1
    rw [← ra.length] at hj
    have er : r[j]? = some r[j] := List.getElem?_eq_getElem hj
    generalize r[j] = ec at er
    obtain ⟨n, c⟩ := ec
    obtain ⟨v', ev', _⟩ := ra.at er
    rw [e] at ev'
    cases ev'
    have hm := List.mem_of_getElem? er
    have hnc := ho.ok _ hm
    have hrow := DIs.lock (o := o) ea ha.is
    have hoth := DIs.lock (o := o) ea hb
    have eget : aget r n = some c := aget_of_mem ho.nd hm
    have estep : (r.take (j + 1)).all F = F (n, c) := by
      rw [List.take_add_one, er, Option.toList_some, List.all_append, hall]; simp
    show gName 2 (V.str n) _ _ _
    regloopunroll_open
    refine dis_notIn hoth ?_
    cases q1 : aget r' n with
    | none =>
      regloopunroll_open
      exact no hm (by show (match aget r' n with | none => false | some c' => cw c c') = false; rw [q1])
    | some c1 =>
      have hc1 := (ho'.get q1).2
      have eF : F (n, c) = cw c c1 := by show (match aget r' n with | none => false | some c' => cw c c') = _; rw [q1]
      regloopunroll_open
      refine dis_ix hoth q1 (fun v4 r4 => ?_)
      cases c1 with
      | all =>
        refine neXF r4 rep_str okd_all okd_all (by decide +kernel) ?_
        regloopunroll_open
        exact ⟨rfl, by rw [estep, eF]; cases c <;> rfl, _, _, rfl⟩
      | ps b0 =>
        refine neXT r4 rep_str (hc1.okd C) okd_all rfl ?_
        regloopunroll_open
        refine dis_ix hrow eget (fun v5 r5 => ?_)
        cases c with
        | all =>
          refine eqXT r5 rep_str okd_all okd_all (by decide +kernel) ?_
          regloopunroll_open
          exact no hm eF
        | ps a0 =>
          refine eqXF r5 rep_str (hnc.2.okd C) okd_all rfl ?_
          have sa := okd_ps.mp (hnc.2.okd C)
          have sb := okd_ps.mp (hc1.okd C)
          regloopunroll_open
          refine g_forT ?_
          regloopunroll_open
          refine dis_ix hrow eget (fun v6 r6 => ?_)
          refine forT_rep r6 (fun i σ' H' => H' = upd H a (.frz o (.dK kvs)) ∧ (a0.take i).all (fun p => decide (p ∈ b0)) = true ∧ ∃ o2, σ' = [some (.ref a), some (.ref b), some (.str n), o2]) ⟨rfl, rfl, _, rfl⟩ (fun i σ' H' p => ⟨[], by rw [p.1]; exact Fr.refl _ _⟩) (fun i d y' σ' H' hd hy' p2 => ?_) (fun σ' H' p2 => ?_)
          · obtain ⟨rfl, hall2, o3, rfl⟩ := p2
            obtain ⟨pr, epr, rfl⟩ := rows_at hd
            have hpr := List.mem_of_getElem? epr
            regloopunroll_open
            refine dis_ix hoth q1 (fun v9 r9 => ?_)
            refine notInX_q hy' (.inl r9) ((okd_ps.mpr sa).all.mem (List.mem_map.mpr ⟨pr, hpr, rfl⟩)) (okd_ps.mpr sb).all ?_
            rw [any_prs sb (sa pr hpr)]
            refine ⟨_, rfl, ?_⟩
            by_cases hin : pr ∈ b0
            · rw [decide_eq_true hin]
              regloopunroll_open
              exact ⟨rfl, by rw [List.take_add_one, epr, Option.toList_some, List.all_append, hall2]; simp [hin], _, rfl⟩
            · rw [decide_eq_false hin]
              regloopunroll_open
              exact no hm (by rw [eF]; exact List.all_eq_false.mpr ⟨pr, hpr, by simp [hin]⟩)
          · obtain ⟨rfl, hall2, o3, rfl⟩ := p2
            rw [List.length_map, List.take_length] at hall2
            regloopunroll_open
            exact ⟨rfl, by rw [estep, eF]; exact hall2, _, _, rfl⟩
  · obtain ⟨rfl, hall, o1, o2, rfl⟩ := p'
    rw [ra.length.symm, List.take_length] at hall
    regloopunroll_open
    rw [upd_back ea]
    have e1 : lin r r' = true := hall
    rw [e1] at q
    exact q

def PL (K : PySem.W.Frag) (H : Hp) (l : Addr) (pairs : List Pr) : Prop := ∃ us, H l = some (.lst us) ∧ Reps K H (pairs.map prD) us
theorem PL.fr {K : PySem.W.Frag} {H H' : Hp} {l : Addr} {m : List Addr} {pairs : List Pr} (h : PL K H l pairs) (f : Fr m H H') (n : l ∉ m) : PL K H' l pairs := let ⟨us, e, r⟩ := h; ⟨us, f.keep _ _ e n, r.up f⟩
theorem put_ok {ons : List Str} {pairs : List Pr} {r : Rw} {n : Str} {c : Cs} (h : OkR ons pairs r) (hn : n ∈ ons) (hc : OkC pairs c) : OkR ons pairs (aput r n c) := ⟨aput_nodup h.nd _ _, fun e he => by
  rcases aput_mem he with rfl | he
  · exact ⟨hn, hc⟩
  · exact h.ok e he⟩
theorem okc_sub {pairs l : List Pr} (ho : Ord pairs) (s : l.Sublist pairs) (h : l ≠ []) : OkC pairs (.ps l) := ⟨h, ho.sublist s, fun x hx => s.subset hx⟩
def spSomeRow (K : PySem.W.Frag) : Sp := fun vs H Q _ => ∃ a c x l ops pairs, vs = [.ref a, x, .ref l] ∧ DrawOk H a c ∧ Rep K H (opsD ops) x ∧ PL K H l pairs ∧ l ≠ a ∧ Ctx (ops.map (·.1)) pairs ∧ Ord pairs ∧ ∀ H' p r, Fr [a] H H' → DrawOk H' a c → H p = none → DW K H' Cs.toD p r → OkR (ops.map (·.1)) pairs r → Q (.ref p) H'
theorem ok_law_some_row (T : Top K mg) : Cal P w K mg base CX0 3 "_law_some_row" ["d", "ops", "pairs"] (spSomeRow K) := by
  refine T.d_law_some_row.cal sc_law_some_row [none, none, none, none, none] rfl (fun vs H Q E h => ?_) (fun f cdv A outer s H vs Q E hk hr h => ?_)
  · obtain ⟨a, c, x, l, ops, pairs, rfl, _⟩ := h; rfl
  obtain ⟨a, c, x, l, ops, pairs, rfl, hd, hx, hp, hla, C, hord, q⟩ := h
  have hu := hu_of hr
  have C_law_draw := ok_law_draw (P := P) (w := w) (base := base) T
  have C_law_pick := ok_law_pick (P := P) (w := w) (base := base) T
  refine ⟨_, (pss_cons (ps_set (i := 3) sc_law_some_row.nd rfl (Or.inl rfl) pe_dnewK) (pss_cons (ps_for PassesOwn.never rfl (pi_seqK (K := K) rfl (pv 1)) (pg_name (i := 4) sc_law_some_row.nd rfl (Or.inl rfl)) (pss_cons (ps_set (i := 5) sc_law_some_row.nd rfl (Or.inl rfl) (pe_cal C_law_draw (hr.mono (by omega)) (by rfl) pass0 (pa_cons (pv 0) (pa_cons pe_int pa_nil)))) (pss_cons (ps_set (i := 6) sc_law_some_row.nd rfl (Or.inl rfl) (pe_tup pa_nil)) (pss_cons (ps_if (pt_cmpR (op_eqGK (K := K) rfl hr.units) (pv 5) pe_int (nomark _)) (pss_one (ps_set (i := 6) sc_law_some_row.nd rfl (Or.inl rfl) pe_str)) (pss_one (ps_if (pt_cmpR (op_eqGK (K := K) rfl hr.units) (pv 5) pe_int (nomark _)) (pss_one (ps_set (i := 6) sc_law_some_row.nd rfl (Or.inl rfl) (pe_callTy (call_tupGK (K := K) rfl) (by rfl) T.m_tuple (by decide +kernel) (pa_cons (pe_lc (own := [("pair", 7)]) (g := gName 7) rfl sc_law_some_row.nd (pi_seqK (K := K) rfl (pv 2)) (blkOk_by (N := N_law_some_row) (sc := defScope s_law_some_row) (by decide +kernel)) (fun _ _ _ _ _ => pg_name (i := 7) sc_law_some_row.nd rfl (Or.inl rfl)) (fun _ _ _ _ _ => pts_one (pt_cmpR (op_eqGK (K := K) rfl hr.units) (pe_cal C_law_draw (hr.mono (by omega)) (by rfl) pass0 (pa_cons (pv 0) (pa_cons pe_int pa_nil))) pe_int (nomark _))) (fun _ _ _ _ _ => (pv 7))) pa_nil)))) (pss_one (ps_if (PW.pt (pw_and (pt_cmpR (op_eqGK (K := K) rfl hr.units) (pv 5) pe_int (nomark _)) (pw_and1 (pt_cmpR op_gt (pe_callB (call_lenGK (K := K) rfl) (by rfl) T.m_len (by decide +kernel) (pa_cons (pv 2) pa_nil)) pe_int (nomark _))))) (pss_one (ps_set (i := 6) sc_law_some_row.nd rfl (Or.inl rfl) (pe_tup (pa_cons (pe_cal C_law_pick (hr.mono (by omega)) (by rfl) pass0 (pa_cons (pv 0) (pa_cons (pv 2) pa_nil))) pa_nil)))) pss_nil))))) (pss_one (ps_if (pt_cmpR op_gt (pe_callB (call_lenGK (K := K) rfl) (by rfl) T.m_len (by decide +kernel) (pa_cons (pv 6) pa_nil)) pe_int (nomark _)) (pss_one (ps_asg (pv 6) (pg_sub (pv 3) (pe_ix (ix_GK (K := K) rfl hu) (pv 4) pe_int (fun _ _ => rfl)) (set_G hu)))) pss_nil)))))) (pss_one (ps_ret (pv 3))))), ?_⟩
  kpt_turns
  regloopunroll_open
  rename_i H1 p f1 np e1
  have t1 : DW K H1 Cs.toD p [] := ⟨[], e1, DR.nil⟩
  have hpa : p ≠ a := hd.neL np
  have hpc : p ≠ c := hd.neC np
  have hpl : p ≠ l := fun z => by
    subst z
    obtain ⟨us, e, _⟩ := hp
    rw [np] at e
    cases e
  have p16 : pairs.length ≤ 16 := C.p16
  refine g_forT ?_
  regloopunroll_open
  refine forT_rep (hx.up f1) (fun i σ' H' => Fr [p, a] H1 H' ∧ DrawOk H' a c ∧ (∃ r, DW K H' Cs.toD p r ∧ OkR (ops.map (·.1)) pairs r) ∧ ∃ o1 o2 o3, σ' = [some (.ref a), some x, some (.ref l), some (.ref p), o1, o2, o3, none]) ⟨Fr.refl _ _, hd.fr0 f1, ⟨[], t1, ok_nil⟩, _, _, _, rfl⟩ (fun i σ' H' p' => ⟨_, p'.1⟩) (fun i d y σ' H' hdd hy p' => ?_) (fun σ' H' p' => ?_)
  · obtain ⟨fr, hd1, ⟨r, t, hok⟩, o1, o2, o3, rfl⟩ := p'
    obtain ⟨o, eo, rfl⟩ := rows_at hdd
    replace hy : Rep K H' (.tuple [.str o.1, .int o.2.1, .int o.2.2]) y := hy
    have hon : o.1 ∈ ops.map (·.1) := List.mem_map.mpr ⟨o, List.mem_of_getElem? eo, rfl⟩
    regloopunroll_open
    rename_i H2 k2 f2 hd2 hk2 H3 v3 f3 r3
    have g3 : Fr [p, a] H1 H3 := (fr.more f2 (by simp)).step0 f3
    have hd3 : DrawOk H3 a c := hd2.fr0 f3
    have t3 : DW K H3 Cs.toD p r := (t.fr f2 (by simpa using hpa)).fr f3 (by simp)
    have hp3 : PL K H3 l pairs := (hp.fr f1 (by simp)).fr g3 (by simpa using ⟨hpl.symm, hla⟩)
    refine cut_ite (fun σ' H' => ∃ v c0, σ' = [some (.ref a), some x, some (.ref l), some (.ref p), some y, some (.int k2), some v, none] ∧ Fr [a] H3 H' ∧ DrawOk H' a c ∧ Rep K H' (Cs.toD c0) v ∧ (c0 = .ps [] ∨ OkC pairs c0)) (fun σ' H' p2 => ?_) (fun n' hn => ?_)
    · obtain ⟨v, c0, rfl, f4, hd4, r4, hc⟩ := p2
      have t4 : DW K H' Cs.toD p r := t3.fr f4 (by simpa using hpa)
      have hl8 : r.length < 1000 := by have := hok.len C; omega
      have g4 : Fr [p, a] H1 H' := g3.more f4 (by simp)
      have hy4 := ((hy.up f2).up f3).up f4
      cases c0 with
      | all =>
        cases srep r4
        regloopunroll_open
        refine ifT (by decide +kernel) ?_
        regloopunroll_open
        refine dw_set (y := Cs.all) t4 rep_str hl8 (fun H6 f6 t6 => ?_)
        regloopunroll_open
        exact ⟨g4.more f6 (by simp), hd4.fr1 f6 hpa hpc, ⟨_, t6, put_ok hok hon trivial⟩, _, _, _, rfl⟩
      | ps l0 =>
        replace r4 : Rep K H' (.tuple (l0.map prD)) v := r4
        regloopunroll_open
        refine ifD (fun h1 => ?_) (fun h1 => ?_)
        · have hc' : OkC pairs (.ps l0) := by
            rcases hc with hc | hc
            · cases hc
              simp at h1
            · exact hc
          regloopunroll_open
          refine dw_set (y := Cs.ps l0) t4 r4 hl8 (fun H6 f6 t6 => ?_)
          regloopunroll_open
          exact ⟨g4.more f6 (by simp), hd4.fr1 f6 hpa hpc, ⟨_, t6, put_ok hok hon hc'⟩, _, _, _, rfl⟩
        · regloopunroll_open
          exact ⟨g4, hd4, ⟨r, t4, hok⟩, _, _, _, rfl⟩
    · obtain ⟨us, el, ru⟩ := hp3
      have lus : us.length = pairs.length := by rw [ru.length, List.length_map]
      refine ifD (fun h1 => ?_) (fun h1 => ?_)
      · regloopunroll_open
        exact hn _ _ ⟨_, .all, rfl, Fr.refl _ _, hd3, rep_str, .inr trivial⟩
      · regloopunroll_open
        refine ifD (fun h2 => ?_) (fun h2 => ?_)
        · regloopunroll_open
          refine g_lcL ?_
          regloopunroll_open
          refine lcL_q (.of el) (fun D i H' => Fr [a] H3 H' ∧ DrawOk H' a c ∧ ∃ ws ps, H' D = some (.lst ws) ∧ Reps K H' (ps.map prD) ws ∧ ps.Sublist (pairs.take i)) (fun D nD => ⟨(Fr.new nD).of0, hd3.fr0 (Fr.new nD), [], [], upd_same, reps_nil, by simp⟩) (fun D i H' nD p2 => .of (p2.1.at1 el hla)) (fun D i x' H' nD e p2 => ?_) (fun D H' nD p2 => ?_)
          · obtain ⟨f4, hd4, ws, ps, eD, r4, sub⟩ := p2
            obtain ⟨dd, hdd2, rx'⟩ := ru.get' e
            obtain ⟨pr, epr, rfl⟩ := rows_at hdd2
            have hDa := hd3.neL nD
            have hDc := hd3.neC nD
            have lps : ps.length ≤ 16 := by
              have h1 := sub.length_le
              rw [List.length_take] at h1
              omega
            have lws : ws.length ≤ 16 := by have h2 := r4.length; rw [List.length_map] at h2; omega
            regloopunroll_open
            refine ⟨rfl, ?_⟩
            regloopunroll_open
            rename_i H5 k5 f5 hd5 hk5
            have eD5 := f5.at1 eD hDa
            refine ifD (fun h3 => ?_) (fun h3 => ?_)
            · regloopunroll_open
              have g : Fr [D] H5 (upd H5 D (.lst (ws ++ [x']))) := Fr.setL eD5
              refine ⟨ws, eD5, small1000 (by omega), (f4.step f5).over1 nD g, hd5.fr1 g hDa hDc, ws ++ [x'], ps ++ [pr], upd_same, ?_, ?_⟩
              · rw [List.map_append]
                exact ((r4.up f5).up g).append (reps_one (((rx'.up f4).up f5).up g))
              · rw [List.take_add_one, epr]
                exact sub.append (List.Sublist.refl _)
            · exact ⟨f4.step f5, hd5, ws, ps, eD5, r4.up f5, by rw [List.take_add_one, epr]; exact sub.trans (List.sublist_append_left _ _)⟩
          · obtain ⟨f4, hd4, ws, ps, eD, r4, sub⟩ := p2
            rw [lus, List.take_length] at sub
            regloopunroll_open
            rename_i H5 p5 f5 n5 e5
            refine hn _ _ ⟨_, .ps ps, rfl, f4.step0 f5, hd4.fr0 f5, rep_tup e5 (r4.up f5), ?_⟩
            by_cases hz : ps = []
            · exact .inl (by rw [hz])
            · exact .inr (okc_sub hord sub hz)
        · regloopunroll_open
          refine ifD (fun h3 => ?_) (fun h3 => ?_)
          · regloopunroll_open
            refine ifD (fun h4 => ?_) (fun h4 => ?_)
            · regloopunroll_open
              refine pick_q hd3 (.of el) hla (by omega) (by omega) (fun H4 i4 v4 f4 hd4 e4 => ?_)
              obtain ⟨dd, hdd2, rx'⟩ := ru.get' e4
              obtain ⟨pr, epr, rfl⟩ := rows_at hdd2
              have rx4 := rx'.up f4
              regloopunroll_open
              rename_i H5 v5 f5 r5
              exact hn _ _ ⟨_, .ps [pr], rfl, f4.step0 f5, hd4.fr0 f5, r5, .inr (okc_sub hord (List.singleton_sublist.mpr (List.mem_of_getElem? epr)) (by simp))⟩
            · regloopunroll_open
              exact hn _ _ ⟨_, .ps [], rfl, Fr.refl _ _, hd3, r3, .inl rfl⟩
          · regloopunroll_open
            exact hn _ _ ⟨_, .ps [], rfl, Fr.refl _ _, hd3, r3, .inl rfl⟩
  · obtain ⟨fr, hd1, ⟨r, t, hok⟩, o1, o2, o3, rfl⟩ := p'
    regloopunroll_open
    exact q H' p r (f1.over2 np fr) hd1 np t hok

theorem drop_ok {ons : List Str} {pairs : List Pr} {r : Rw} {n : Str} (h : OkR ons pairs r) : OkR ons pairs (adrop r n) := ⟨adrop_nodup h.nd _, fun e he => h.ok e (List.mem_filter.mp he).1⟩
theorem drop_put {ons : List Str} {pairs : List Pr} {r : Rw} {n : Str} {c : Cs} (h : OkR ons pairs r) : OkR ons pairs (adrop (aput r n c) n) := ⟨adrop_nodup (aput_nodup h.nd _ _) _, fun e he => by
  obtain ⟨h1, h2⟩ := List.mem_filter.mp he
  rcases aput_mem h1 with rfl | h1
  · simp at h2
  · exact h.ok e h1⟩
def spLess (K : PySem.W.Frag) : Sp := fun vs H Q _ => ∃ a c b l r ons pairs, vs = [.ref a, .ref b, .ref l] ∧ DrawOk H a c ∧ DIs K H Cs.toD b r ∧ OkR ons pairs r ∧ PL K H l pairs ∧ l ≠ a ∧ Ctx ons pairs ∧ Ord pairs ∧ ∀ H' p r', Fr [a] H H' → DrawOk H' a c → H p = none → DW K H' Cs.toD p r' → OkR ons pairs r' → Q (.ref p) H'
theorem ok_law_less (T : Top K mg) : Cal P w K mg base CX0 3 "_law_less" ["d", "row", "pairs"] (spLess K) := by
  refine T.d_law_less.cal sc_law_less [none, none, none] rfl (fun vs H Q E h => ?_) (fun f cdv A outer s H vs Q E hk hr h => ?_)
  · obtain ⟨a, c, b, l, r, ons, pairs, rfl, _⟩ := h; rfl
  obtain ⟨a, c, b, l, r, ons, pairs, rfl, hd, hb, hok, hp, hla, C, hord, q⟩ := h
  have hu := hu_of hr
  have C_law_draw := ok_law_draw (P := P) (w := w) (base := base) T
  have C_law_pick := ok_law_pick (P := P) (w := w) (base := base) T
  have p16 : pairs.length ≤ 16 := C.p16
  refine ⟨_, (pss_cons (ps_set (i := 3) sc_law_less.nd rfl (Or.inl rfl) (pe_callTy call_dictG (by rfl) T.m_dict (by decide +kernel) (pa_cons (pv 1) pa_nil))) (pss_cons (ps_if (pt_cmpR (op_eqGK (K := K) rfl hr.units) (pe_callB (call_lenGK (K := K) rfl) (by rfl) T.m_len (by decide +kernel) (pa_cons (pv 3) pa_nil)) pe_int (nomark _)) (pss_one (ps_ret (pv 3))) pss_nil) (pss_cons (ps_set (i := 4) sc_law_less.nd rfl (Or.inl rfl) (pe_cal C_law_pick (hr.mono (by omega)) (by rfl) pass0 (pa_cons (pv 0) (pa_cons (pe_callB (call_sorted2K (K := K) rfl rfl hr.u65) (by rfl) T.m_sorted (by decide +kernel) (pa_cons (pv 3) pa_nil)) pa_nil)))) (pss_cons (ps_if (pt_cmpR (op_eqGK (K := K) rfl hr.units) (pe_ix (ix_GK (K := K) rfl hu) (pv 3) (pv 4) (fun _ _ => rfl)) pe_str (nomark _)) (pss_cons (ps_if (PW.pt (pw_and (pt_cmpR op_gt (pe_callB (call_lenGK (K := K) rfl) (by rfl) T.m_len (by decide +kernel) (pa_cons (pv 2) pa_nil)) pe_int (nomark _)) (pw_and1 (pt_cmpR (op_eqGK (K := K) rfl hr.units) (pe_cal C_law_draw (hr.mono (by omega)) (by rfl) pass0 (pa_cons (pv 0) (pa_cons pe_int pa_nil))) pe_int (nomark _))))) (pss_one (ps_asg (pe_callTy (call_tupGK (K := K) rfl) (by rfl) T.m_tuple (by decide +kernel) (pa_cons (pv 2) pa_nil)) (pg_sub (pv 3) (pv 4) (set_G hu)))) (pss_one (ps_expr (pe_dpop1 (pv 3) (pv 4) ⟨rfl, rfl, rfl, rfl⟩)))) (pss_one (ps_ret (pv 3)))) pss_nil) (pss_cons (ps_set (i := 5) sc_law_less.nd rfl (Or.inl rfl) (pe_cal C_law_draw (hr.mono (by omega)) (by rfl) pass0 (pa_cons (pv 0) (pa_cons (pe_callB (call_lenGK (K := K) rfl) (by rfl) T.m_len (by decide +kernel) (pa_cons (pe_ix (ix_GK (K := K) rfl hu) (pv 3) (pv 4) (fun _ _ => rfl)) pa_nil)) pa_nil)))) (pss_cons (ps_asg (pe_op (op_addGK (K := K) rfl) (pe_slice (sl_GK (K := K) rfl) (pe_ix (ix_GK (K := K) rfl hu) (pv 3) (pv 4) (fun _ _ => rfl)) po_none (po_some (pv 5))) (pe_slice (sl_GK (K := K) rfl) (pe_ix (ix_GK (K := K) rfl hu) (pv 3) (pv 4) (fun _ _ => rfl)) (po_some (pe_op (op_addGK (K := K) rfl) (pv 5) pe_int)) po_none)) (pg_sub (pv 3) (pv 4) (set_G hu))) (pss_cons (ps_if (pt_cmpR (op_eqGK (K := K) rfl hr.units) (pe_callB (call_lenGK (K := K) rfl) (by rfl) T.m_len (by decide +kernel) (pa_cons (pe_ix (ix_GK (K := K) rfl hu) (pv 3) (pv 4) (fun _ _ => rfl)) pa_nil)) pe_int (nomark _)) (pss_one (ps_expr (pe_dpop1 (pv 3) (pv 4) ⟨rfl, rfl, rfl, rfl⟩))) pss_nil) (pss_one (ps_ret (pv 3)))))))))), ?_⟩
  kpt_turns
  regloopunroll_open
  refine dw_dict hb (fun H1 p f1 np t1 => ?_)
  have hpa : p ≠ a := hd.neL np
  have hpc : p ≠ c := hd.neC np
  have hpl : p ≠ l := fun z => by
    subst z
    obtain ⟨us, e, _⟩ := hp
    rw [np] at e
    cases e
  have hd1 := hd.fr0 f1
  have hl8 := hok.len C
  regloopunroll_open
  refine dw_len t1 ?_
  regloopunroll_open
  refine ifD (fun h1 => ?_) (fun h1 => ?_)
  · regloopunroll_open
    exact q H1 p r f1.of0 hd1 np t1 hok
  · have hpos : 0 < r.length := by
      cases r with
      | nil => exact absurd rfl h1
      | cons _ _ => simp
    regloopunroll_open
    refine dis_sorted t1.is (by omega) (fun H2 l2 ys hperm _ f2 n2 e2 => ?_)
    have hd2 := hd1.fr0 f2
    have lys : ys.length = r.length := by rw [hperm.length_eq, List.length_map]
    regloopunroll_open
    refine pick_q hd2 (.of e2) (hd1.neL n2) (by rw [List.length_map]; omega) (by rw [List.length_map]; omega) (fun H3 i3 v3 f3 hd3 e3 => ?_)
    rw [List.getElem?_map] at e3
    obtain ⟨y, ey, rfl⟩ := Option.map_eq_some_iff.mp e3
    have hyk : y ∈ r.map (·.1) := hperm.mem_iff.mp (List.mem_of_getElem? ey)
    obtain ⟨c0, q1⟩ := Option.isSome_iff_exists.mp (aget_isSome.mpr hyk)
    have hc0 := hok.get q1
    have t3 : DW K H3 Cs.toD p r := (t1.fr f2 (by simp)).fr f3 (by simpa using hpa)
    have g3 : Fr [a] H H3 := (f1.of0.step0 f2).step f3
    have hp3 : PL K H3 l pairs := hp.fr g3 (by simpa using hla)
    obtain ⟨us, el, ru⟩ := hp3
    have lus : us.length = pairs.length := by rw [ru.length, List.length_map]
    regloopunroll_open
    refine dis_ix t3.is q1 (fun v4 r4 => ?_)
    cases c0 with
    | all =>
      refine eqXT r4 rep_str okd_all okd_all (by decide +kernel) ?_
      refine g_bl ?_
      rw [if_pos rfl]
      refine g_seq ?_
      refine cut_next (fun σ' H' => ∃ r', σ' = [some (.ref a), some (.ref b), some (.ref l), some (.ref p), some (.str y), none] ∧ Fr [a] H H' ∧ DrawOk H' a c ∧ DW K H' Cs.toD p r' ∧ OkR ons pairs r') (fun σ' H' p2 => ?_) (fun n' hn => ?_)
      · obtain ⟨r', rfl, g4, hd4, t4, ok4⟩ := p2
        regloopunroll_open
        exact q H' p r' g4 hd4 np t4 ok4
      · have pop : ∀ H4, Fr [a] H H4 → DrawOk H4 a c → DW K H4 Cs.toD p r → tDPop1 (tVar 3) (tVar 4) [some (.ref a), some (.ref b), some (.ref l), some (.ref p), some (.str y), none] H4 (fun _ H1 => n' [some (.ref a), some (.ref b), some (.ref l), some (.ref p), some (.str y), none] H1) := by
          intro H4 g4 hd4 t4
          refine dpop_g ?_
          regloopunroll_open
          refine ⟨p, rfl, t4.is.isD, ?_⟩
          regloopunroll_open
          refine dw_pop_q t4 q1 (fun H5 v5 f5 r5 t5 => ?_)
          exact hn _ _ ⟨_, rfl, g4.over1 np f5, hd4.fr1 f5 hpa hpc, t5, drop_ok hok⟩
        regloopunroll_open
        refine ifD (fun h2 => ?_) (fun h2 => ?_)
        · regloopunroll_open
          rename_i H4 k4 f4 hd4 hk4
          have t4 := t3.fr f4 (by simpa using hpa)
          refine ifD (fun h3 => ?_) (fun h3 => ?_)
          · have el4 := f4.at1 el hla
            have ru4 := ru.up f4
            regloopunroll_open
            rename_i H5 p5 f5 n5 e5
            refine dw_set (y := Cs.ps pairs) (t4.fr f5 (by simp)) (rep_tup e5 (ru4.up f5)) (by omega) (fun H6 f6 t6 => ?_)
            refine hn _ _ ⟨_, rfl, ((g3.step f4).step0 f5).over1 np f6, (hd4.fr0 f5).fr1 f6 hpa hpc, t6, put_ok hok hc0.1 (okc_sub hord (List.Sublist.refl _) fun z => ?_)⟩
            subst z
            rw [lus] at h2
            simp at h2
          · regloopunroll_open
            exact pop _ (g3.step f4) hd4 t4
        · regloopunroll_open
          exact pop _ g3 hd3 t3
    | ps l0 =>
      refine eqXF r4 rep_str (hc0.2.okd C) okd_all rfl ?_
      have ll0 : l0.length ≤ 16 := OkC.size C hc0.2
      have l0pos : 0 < l0.length := List.length_pos_iff.mpr hc0.2.1
      regloopunroll_open
      refine dis_ix t3.is q1 (fun v5 r5 => ?_)
      replace r5 : Rep K H3 (.tuple (l0.map prD)) v5 := r5
      have hlz : (0 : Int) < ((l0.map prD).length : Nat) := by rw [List.length_map]; omega
      have hlz2 : ((l0.map prD).length : Int) < 1000000000 := by rw [List.length_map]; omega
      regloopunroll_open
      rename_i H6 k6 f6 hd6 hk6
      have t6 := t3.fr f6 (by simpa using hpa)
      refine dis_ix t6.is q1 (fun v7 r7 => ?_)
      replace r7 : Rep K H6 (.tuple (l0.map prD)) v7 := r7
      regloopunroll_open
      refine slT_to (k := k6) r7 rfl (fun H8 v8 f8 r8 => ?_)
      regloopunroll_open
      refine dis_ix (t6.fr f8 (by simp)).is q1 (fun v9 r9 => ?_)
      replace r9 : Rep K H8 (.tuple (l0.map prD)) v9 := r9
      regloopunroll_open
      refine slT_from (k := k6 + 1) r9 (by omega) (fun H10 v10 f10 r10 => ?_)
      regloopunroll_open
      refine addG_tup (r8.up f10) r10 (by simp; omega) (fun H11 v11 f11 r11 => ?_)
      rw [← List.map_take, ← List.map_drop, ← List.map_append] at r11
      have hsub : (l0.take k6 ++ l0.drop (k6 + 1)).Sublist l0 := by
        have := (List.Sublist.refl (l0.take k6)).append (List.drop_sublist_drop_left l0 (show k6 ≤ k6 + 1 by omega))
        rwa [List.take_append_drop] at this
      generalize l0.take k6 ++ l0.drop (k6 + 1) = l1 at r11 hsub
      regloopunroll_open
      refine dw_set (y := Cs.ps l1) (((t6.fr f8 (by simp)).fr f10 (by simp)).fr f11 (by simp)) r11 (by omega) (fun H12 f12 t12 => ?_)
      have q2 : aget (aput r y (.ps l1)) y = some (.ps l1) := by rw [aget_put, if_pos rfl]
      have g12 : Fr [a] H H12 := ((((g3.step f6).step0 f8).step0 f10).step0 f11).over1 np f12
      have hd12 : DrawOk H12 a c := ((((hd6).fr0 f8).fr0 f10).fr0 f11).fr1 f12 hpa hpc
      regloopunroll_open
      refine dis_ix t12.is q2 (fun v13 r13 => ?_)
      replace r13 : Rep K H12 (.tuple (l1.map prD)) v13 := r13
      regloopunroll_open
      refine ifD (fun h3 => ?_) (fun h3 => ?_)
      · regloopunroll_open
        refine dpop_g ?_
        regloopunroll_open
        refine ⟨p, rfl, t12.is.isD, ?_⟩
        regloopunroll_open
        refine dw_pop_q t12 q2 (fun H14 v14 f14 r14 t14 => ?_)
        regloopunroll_open
        exact q H14 p _ (g12.over1 np f14) (hd12.fr1 f14 hpa hpc) np t14 (drop_put hok)
      · regloopunroll_open
        refine q H12 p _ g12 hd12 np t12 (put_ok hok hc0.1 ⟨fun z => ?_, hc0.2.2.1.sublist hsub, fun x hx => hc0.2.2.2 x (hsub.subset hx)⟩)
        subst z
        simp at h3

/-- values that stand for rows in dicts -/
def RS (K : PySem.W.Frag) (H : Hp) (us : List V) (rs : List Rw) : Prop := us.length = rs.length ∧ ∀ (i : Nat) (r : Rw), rs[i]? = some r → ∃ p, us[i]? = some (V.ref p) ∧ DW K H Cs.toD p r
theorem RS.fr {K : PySem.W.Frag} {H H' : Hp} {us : List V} {rs : List Rw} {m : List Addr} (h : RS K H us rs) (f : Fr m H H') (n : ∀ p ∈ m, ∀ kvs, H p ≠ some (.dK kvs)) : RS K H' us rs :=
  ⟨h.1, fun i r e => let ⟨p, e1, t⟩ := h.2 i r e; ⟨p, e1, t.fr f fun hm => let ⟨kvs, e2, _⟩ := t; n p hm kvs e2⟩⟩
theorem RS.fr0 {K : PySem.W.Frag} {H H' : Hp} {us : List V} {rs : List Rw} (h : RS K H us rs) (f : Fr [] H H') : RS K H' us rs := h.fr f fun p hm => by cases hm
theorem RS.frL {K : PySem.W.Frag} {H H' : Hp} {us xs : List V} {rs : List Rw} {a : Addr} (h : RS K H us rs) (f : Fr [a] H H') (e : H a = some (.lst xs)) : RS K H' us rs := h.fr f fun p hm kvs z => by
  rw [List.mem_singleton.mp hm, e] at z
  cases z
theorem RS.frD {K : PySem.W.Frag} {H H' : Hp} {us : List V} {rs : List Rw} {a c : Addr} (h : RS K H us rs) (f : Fr [a] H H') (hd : DrawOk H a c) : RS K H' us rs := let ⟨_, _, _, _, e, _⟩ := hd; h.frL f e
theorem RS.snoc {K : PySem.W.Frag} {H : Hp} {us : List V} {rs : List Rw} {p : Addr} {r : Rw} (h : RS K H us rs) (t : DW K H Cs.toD p r) : RS K H (us ++ [V.ref p]) (rs ++ [r]) := by
  refine ⟨by simp [h.1], fun i r' e => ?_⟩
  by_cases hi : i < rs.length
  · rw [List.getElem?_append_left hi] at e
    obtain ⟨p', e1, t'⟩ := h.2 i r' e
    exact ⟨p', by rw [List.getElem?_append_left (by rw [h.1]; exact hi)]; exact e1, t'⟩
  · rw [List.getElem?_append_right (by omega)] at e
    have hi2 : i - rs.length = 0 := by
      have := (List.getElem?_eq_some_iff.mp e).1
      simp at this
      omega
    rw [hi2] at e
    simp at e
    subst e
    exact ⟨p, by rw [List.getElem?_append_right (by rw [h.1]; omega), h.1, hi2]; rfl, t⟩
theorem RS.nil {K : PySem.W.Frag} {H : Hp} : RS K H [] [] := ⟨rfl, fun i r e => by simp at e⟩
theorem RS.get {K : PySem.W.Frag} {H : Hp} {us : List V} {rs : List Rw} {i : Nat} {v : V} (h : RS K H us rs) (e : us[i]? = some v) : ∃ r p, rs[i]? = some r ∧ v = .ref p ∧ DW K H Cs.toD p r := by
  have hi := (List.getElem?_eq_some_iff.mp e).1
  rw [h.1] at hi
  obtain ⟨p, e1, t⟩ := h.2 i _ (List.getElem?_eq_getElem hi)
  rw [e] at e1
  exact ⟨_, p, List.getElem?_eq_getElem hi, Option.some.inj e1, t⟩
def spSomeRows (K : PySem.W.Frag) : Sp := fun vs H Q _ => ∃ a c x l ops pairs, vs = [.ref a, x, .ref l] ∧ DrawOk H a c ∧ Rep K H (opsD ops) x ∧ PL K H l pairs ∧ l ≠ a ∧ Ctx (ops.map (·.1)) pairs ∧ Ord pairs ∧ ∀ H' L us rs, Fr [a] H H' → DrawOk H' a c → H L = none → H' L = some (.lst us) → RS K H' us rs → (∀ r ∈ rs, OkR (ops.map (·.1)) pairs r) → rs.length ≤ 6 → Q (.ref L) H'
theorem ok_law_some_rows (T : Top K mg) : Cal P w K mg base CX0 4 "_law_some_rows" ["d", "ops", "pairs"] (spSomeRows K) := by
  refine T.d_law_some_rows.cal sc_law_some_rows [none, none, none, none] rfl (fun vs H Q E h => ?_) (fun f cdv A outer s H vs Q E hk hr h => ?_)
  · obtain ⟨a, c, x, l, ops, pairs, rfl, _⟩ := h; rfl
  obtain ⟨a, c, x, l, ops, pairs, rfl, hd, hx, hp, hla, C, hord, q⟩ := h
  have hu := hu_of hr
  have C_law_draw := ok_law_draw (P := P) (w := w) (base := base) T
  have C_law_pick := ok_law_pick (P := P) (w := w) (base := base) T
  have C_law_some_row := ok_law_some_row (P := P) (w := w) (base := base) T
  have C_law_less := ok_law_less (P := P) (w := w) (base := base) T
  have C_law_join := ok_law_join (P := P) (w := w) (base := base) T
  refine ⟨_, (pss_cons (ps_set (i := 3) sc_law_some_rows.nd rfl (Or.inl rfl) (pe_lst pa_nil)) (pss_cons (ps_for PassesOwn.never rfl (pi_range1 (by rfl) T.m_range (pa_cons (pe_cal C_law_draw (hr.mono (by omega)) (by rfl) pass0 (pa_cons (pv 0) (pa_cons pe_int pa_nil))) pa_nil)) (pg_name (i := 4) sc_law_some_rows.nd rfl (Or.inl rfl)) (pss_cons (ps_set (i := 5) sc_law_some_rows.nd rfl (Or.inl rfl) (pe_cal C_law_some_row (hr.mono (by omega)) (by rfl) pass0 (pa_cons (pv 0) (pa_cons (pv 1) (pa_cons (pv 2) pa_nil))))) (pss_cons (ps_set (i := 6) sc_law_some_rows.nd rfl (Or.inl rfl) (pe_cal C_law_draw (hr.mono (by omega)) (by rfl) pass0 (pa_cons (pv 0) (pa_cons pe_int pa_nil)))) (pss_cons (ps_if (PW.pt (pw_and (pt_cmpR (op_eqGK (K := K) rfl hr.units) (pv 6) pe_int (nomark _)) (pw_and1 (pt_cmpR op_gt (pe_callB (call_lenGK (K := K) rfl) (by rfl) T.m_len (by decide +kernel) (pa_cons (pv 3) pa_nil)) pe_int (nomark _))))) (pss_one (ps_set (i := 5) sc_law_some_rows.nd rfl (Or.inl rfl) (pe_cal C_law_join (hr.mono (by omega)) (by rfl) pass0 (pa_cons (pv 5) (pa_cons (pe_cal C_law_pick (hr.mono (by omega)) (by rfl) pass0 (pa_cons (pv 0) (pa_cons (pv 3) pa_nil))) pa_nil))))) (pss_one (ps_if (PW.pt (pw_and (pt_cmpR (op_eqGK (K := K) rfl hr.units) (pv 6) pe_int (nomark _)) (pw_and1 (pt_cmpR op_gt (pe_callB (call_lenGK (K := K) rfl) (by rfl) T.m_len (by decide +kernel) (pa_cons (pv 3) pa_nil)) pe_int (nomark _))))) (pss_one (ps_set (i := 5) sc_law_some_rows.nd rfl (Or.inl rfl) (pe_cal C_law_less (hr.mono (by omega)) (by rfl) pass0 (pa_cons (pv 0) (pa_cons (pe_cal C_law_pick (hr.mono (by omega)) (by rfl) pass0 (pa_cons (pv 0) (pa_cons (pv 3) pa_nil))) (pa_cons (pv 2) pa_nil)))))) pss_nil))) (pss_one (ps_expr (pe_bm PySem.F.plainAttrs_list PySem.F.slot_list_append PySem.F.type_list_append mt_append (pv 3) (pa_cons (pv 5) pa_nil)))))))) (pss_one (ps_ret (pv 3))))), ?_⟩
  kpt_turns
  regloopunroll_open
  rename_i H1 L f1 nL eL H2 k2 f2 hd2 hk2
  have hLa : L ≠ a := hd.neL nL
  have hLc : L ≠ c := hd.neC nL
  have hLl : L ≠ l := fun z => by
    subst z
    obtain ⟨us, e, _⟩ := hp
    rw [nL] at e
    cases e
  have hp2 : PL K H2 l pairs := (hp.fr f1 (by simp)).fr f2 (by simpa using hla)
  have hx2 := (hx.up f1).up f2
  refine forR1_q (k := k2) rfl (by omega) (fun i σ' H' => Fr [L, a] H2 H' ∧ DrawOk H' a c ∧ (∃ (us : List V) (rs : List Rw), H' L = some (.lst us) ∧ RS K H' us rs ∧ (∀ r ∈ rs, OkR (ops.map (·.1)) pairs r) ∧ rs.length = i) ∧ ∃ o1 o2 o3, σ' = [some (.ref a), some x, some (.ref l), some (.ref L), o1, o2, o3]) ⟨Fr.refl _ _, hd2, ⟨[], [], f2.at1 eL hLa, RS.nil, fun r h => absurd h List.not_mem_nil, rfl⟩, _, _, _, rfl⟩ (fun i σ' H3 hi p3 => ?_) (fun σ' H3 p3 => ?_)
  · obtain ⟨g3, hd3, ⟨us, rs, e3, rs3, oks, hlen⟩, o1, o2, o3, rfl⟩ := p3
    have hp3 : PL K H3 l pairs := hp2.fr g3 (by simpa using ⟨hLl.symm, hla⟩)
    have hx3 := hx2.up g3
    regloopunroll_open
    refine ⟨a, c, x, l, ops, pairs, rfl, hd3, hx3, hp3, hla, C, hord, fun H4 p4 r4 f4 hd4 n4 t4 ok4 => ?_⟩
    have e4 := f4.at1 e3 hLa
    have rs4 := rs3.frD f4 hd3
    kpf_close
    rename_i H5 k5 f5 hd5 hk5
    have e5 := f5.at1 e4 hLa
    have rs5 := rs4.frD f5 hd4
    have hp4a : p4 ≠ a := hd3.neL n4
    have t5 := t4.fr f5 (by simpa using hp4a)
    have g5 : Fr [L, a] H2 H5 := (g3.more f4 (by simp)).more f5 (by simp)
    have hp5 : PL K H5 l pairs := hp2.fr g5 (by simpa using ⟨hLl.symm, hla⟩)
    have lus : us.length = rs.length := rs3.1
    refine cut_next (fun σ' H' => ∃ p r, σ' = [some (.ref a), some x, some (.ref l), some (.ref L), some (.int i), some (.ref p), some (.int k5)] ∧ Fr [a] H5 H' ∧ DrawOk H' a c ∧ DW K H' Cs.toD p r ∧ OkR (ops.map (·.1)) pairs r) (fun σ' H6 p6 => ?_) (fun n' hn => ?_)
    · obtain ⟨p, r, rfl, f6, hd6, t6, ok6⟩ := p6
      have e6 := f6.at1 e5 hLa
      have rs6 := rs5.frD f6 hd5
      have hsz : us.length < sizeLine := small1000 (by omega)
      regloopunroll_open
      rename_i H7 f7 e7
      refine ⟨(g5.more f6 (by simp)).more f7 (by simp), hd6.fr1 f7 hLa hLc, ⟨_, rs ++ [r], e7, (rs6.frL f7 e6).snoc (t6.fr f7 (fun z => ?_)), fun r' h => ?_, by simp [hlen]⟩, _, _, _, rfl⟩
      · obtain ⟨kvs, e, _⟩ := t6
        rw [List.mem_singleton.mp z, e6] at e
        cases e
      · rcases List.mem_append.mp h with h | h
        · exact oks r' h
        · rw [List.mem_singleton.mp h]; exact ok6
    · regloopunroll_open
      refine ifD (fun h1 => ?_) (fun h1 => ?_)
      · regloopunroll_open
        refine ifD (fun h2 => ?_) (fun h2 => ?_)
        · regloopunroll_open
          refine pick_q hd5 (.of e5) hLa (by omega) (by omega) (fun H6 i6 v6 f6 hd6 e6 => ?_)
          obtain ⟨r6, p6, er6, rfl, t6⟩ := rs5.get e6
          have hp6a : p6 ≠ a := fun z => by
            obtain ⟨_, _, _, _, e, _⟩ := hd5
            obtain ⟨kvs, e', _⟩ := t6
            rw [z, e] at e'
            cases e'
          regloopunroll_open
          refine ⟨p4, p6, r4, r6, _, pairs, rfl, (t5.fr f6 (by simpa using hp4a)).is, t6.fr f6 (by simpa using hp6a), C, ok4, oks r6 (List.mem_of_getElem? er6), fun H7 p7 f7 n7 t7 => ?_⟩
          regloopunroll_open
          exact hn _ _ ⟨p7, _, rfl, f6.step0 f7, hd6.fr0 f7, t7, join_ok ok4 (oks r6 (List.mem_of_getElem? er6))⟩
        · regloopunroll_open
          refine ifF (fun z => absurd (h1.symm.trans z) (by decide)) ?_
          regloopunroll_open
          exact hn _ _ ⟨p4, r4, rfl, Fr.refl _ _, hd5, t5, ok4⟩
      · regloopunroll_open
        refine ifD (fun h1 => ?_) (fun h1 => ?_)
        · regloopunroll_open
          refine ifD (fun h2 => ?_) (fun h2 => ?_)
          · regloopunroll_open
            refine pick_q hd5 (.of e5) hLa (by omega) (by omega) (fun H6 i6 v6 f6 hd6 e6 => ?_)
            obtain ⟨r6, p6, er6, rfl, t6⟩ := rs5.get e6
            have hp6a : p6 ≠ a := fun z => by
              obtain ⟨_, _, _, _, e, _⟩ := hd5
              obtain ⟨kvs, e', _⟩ := t6
              rw [z, e] at e'
              cases e'
            regloopunroll_open
            refine ⟨a, c, p6, l, r6, _, pairs, rfl, hd6, (t6.fr f6 (by simpa using hp6a)).is, oks r6 (List.mem_of_getElem? er6), hp5.fr f6 (by simpa using hla), hla, C, hord, fun H7 p7 r7 f7 hd7 n7 t7 ok7 => ?_⟩
            regloopunroll_open
            exact hn _ _ ⟨p7, r7, rfl, f6.step f7, hd7, t7, ok7⟩
          · regloopunroll_open
            exact hn _ _ ⟨p4, r4, rfl, Fr.refl _ _, hd5, t5, ok4⟩
        · regloopunroll_open
          exact hn _ _ ⟨p4, r4, rfl, Fr.refl _ _, hd5, t5, ok4⟩
  · obtain ⟨g3, hd3, ⟨us, rs, e3, rs3, oks, hlen⟩, o1, o2, o3, rfl⟩ := p3
    regloopunroll_open
    refine q H3 L us rs ((f1.of0.step f2).trans g3 fun b m => ?_) hd3 nL e3 rs3 oks (by omega)
    rcases List.mem_cons.mp m with rfl | m
    · exact .inr nL
    · exact .inl m

def spPop (K : PySem.W.Frag) : Sp := fun vs H Q _ => ∃ (a c l : Addr) (xs : List V), vs = [.ref a, .ref l] ∧ DrawOk H a c ∧ H l = some (.lst xs) ∧ l ≠ a ∧ l ≠ c ∧ 0 < xs.length ∧ xs.length < 1000000 ∧ ∀ H' (i : Nat) (v : V), Fr [l, a] H H' → DrawOk H' a c → xs[i]? = some v → H' l = some (.lst (xs.eraseIdx i)) → Q v H'
theorem ok_law_pop (T : Top K mg) : Cal P w K mg base CX0 2 "_law_pop" ["d", "row"] (spPop K) := by
  refine T.d_law_pop.cal sc_law_pop [] rfl (fun vs H Q E h => ?_) (fun f cdv A outer s H vs Q E hk hr h => ?_)
  · obtain ⟨a, c, l, xs, rfl, _⟩ := h; rfl
  obtain ⟨a, c, l, xs, rfl, hd, hl, hne, hnc, h0, h1, q⟩ := h
  have hu := hu_of hr
  have C_law_draw := ok_law_draw (P := P) (w := w) (base := base) T
  refine ⟨_, (pss_one (ps_ret (pe_bm PySem.F.plainAttrs_list PySem.F.slot_list_pop PySem.F.type_list_pop mt_popAt (pv 1) (pa_cons (pe_cal C_law_draw (hr.mono (by omega)) (by rfl) pass0 (pa_cons (pv 0) (pa_cons (pe_callB (call_lenGK (K := K) rfl) (by rfl) T.m_len (by decide +kernel) (pa_cons (pv 1) pa_nil)) pa_nil))) pa_nil)))), ?_⟩
  kpt_turns
  regloopunroll_open
  rename_i H' k fr hd' hk
  have hl' := fr.at1 hl hne
  have hk2 : k < xs.length := by omega
  have e : xs[k]? = some xs[k] := List.getElem?_eq_getElem hk2
  refine popAt_q hl' rfl e h1 (fun H2 f2 e2 => ?_)
  exact q H2 k _ ((Fr.refl _ _).more fr (by simp) |>.more f2 (by simp)) (hd'.fr1 f2 hne hnc) e e2
def spShuf (K : PySem.W.Frag) : Sp := fun vs H Q _ => ∃ a c x ds, vs = [.ref a, x] ∧ DrawOk H a c ∧ Rep K H (.tuple ds) x ∧ ds.length ≤ 1000 ∧ ∀ H' L us es, Fr [a] H H' → DrawOk H' a c → H L = none → H' L = some (.lst us) → Reps K H' es us → es.Perm ds → Q (.ref L) H'
theorem ok_law_shuffled (T : Top K mg) : Cal P w K mg base CX0 2 "_law_shuffled" ["d", "row"] (spShuf K) := by
  refine T.d_law_shuffled.cal sc_law_shuffled [none, none, none] rfl (fun vs H Q E h => ?_) (fun f cdv A outer s H vs Q E hk hr h => ?_)
  · obtain ⟨a, c, x, ds, rfl, _⟩ := h; rfl
  obtain ⟨a, c, x, ds, rfl, hd, hx, hl, q⟩ := h
  have hu := hu_of hr
  have C_law_draw := ok_law_draw (P := P) (w := w) (base := base) T
  refine ⟨_, (pss_cons (ps_set (i := 2) sc_law_shuffled.nd rfl (Or.inl rfl) (pe_callTy (call_listGK (K := K) rfl rfl) (by rfl) T.m_list (by decide +kernel) (pa_cons (pv 1) pa_nil))) (pss_cons (ps_set (i := 3) sc_law_shuffled.nd rfl (Or.inl rfl) (pe_lst pa_nil)) (pss_cons (ps_for PassesOwn.never rfl (pi_range1 (by rfl) T.m_range (pa_cons (pe_callB (call_lenGK (K := K) rfl) (by rfl) T.m_len (by decide +kernel) (pa_cons (pv 2) pa_nil)) pa_nil)) (pg_name (i := 4) sc_law_shuffled.nd rfl (Or.inl rfl)) (pss_one (ps_expr (pe_bm PySem.F.plainAttrs_list PySem.F.slot_list_append PySem.F.type_list_append mt_append (pv 3) (pa_cons (pe_bm PySem.F.plainAttrs_list PySem.F.slot_list_pop PySem.F.type_list_pop mt_popAt (pv 2) (pa_cons (pe_cal C_law_draw (hr.mono (by omega)) (by rfl) pass0 (pa_cons (pv 0) (pa_cons (pe_callB (call_lenGK (K := K) rfl) (by rfl) T.m_len (by decide +kernel) (pa_cons (pv 2) pa_nil)) pa_nil))) pa_nil)) pa_nil))))) (pss_one (ps_ret (pv 3)))))), ?_⟩
  kpt_turns
  regloopunroll_open
  refine listT_q hx (fun H1 l1 us f1 n1 e1 r1 => ?_)
  regloopunroll_open
  rename_i H2 L f2 nL eL
  have e2 := f2.at e1
  have r2 := r1.up f2
  have hd2 := (hd.fr0 f1).fr0 f2
  have lus : us.length = ds.length := r1.length
  have h1a := hd.neL n1
  have h1c := hd.neC n1
  have hLa := (hd.fr0 f1).neL nL
  have hLc := (hd.fr0 f1).neC nL
  have hL1 : L ≠ l1 := (ne_of_none e1 nL).symm
  regloopunroll_open
  refine forR1_q (k := us.length) rfl (by omega) (fun i σ' H' => Fr [l1, L, a] H2 H' ∧ DrawOk H' a c ∧ (∃ (ws zs : List V) (ps qs : List PyData), H' l1 = some (.lst ws) ∧ H' L = some (.lst zs) ∧ Reps K H' ps ws ∧ Reps K H' qs zs ∧ (qs ++ ps).Perm ds ∧ ws.length + i = us.length) ∧ ∃ o1, σ' = [some (.ref a), some x, some (.ref l1), some (.ref L), o1]) ⟨Fr.refl _ _, hd2, ⟨us, [], ds, [], e2, eL, r2, reps_nil, List.Perm.refl _, rfl⟩, _, rfl⟩ (fun i σ' H3 hi p3 => ?_) (fun σ' H3 p3 => ?_)
  · obtain ⟨g3, hd3, ⟨ws, zs, ps, qs, e3, eL3, rw3, rz3, hp3, hlen⟩, o1, rfl⟩ := p3
    have hw : (0 : Int) < (ws.length : Nat) := by omega
    have hw2 : ((ws.length : Nat) : Int) < 1000000000 := by omega
    regloopunroll_open
    rename_i H4 k4 f4 hd4 hk4
    have e4 := f4.at1 e3 h1a
    have eL4 := f4.at1 eL3 hLa
    have hk5 : k4 < ws.length := by omega
    have ek : ws[k4]? = some ws[k4] := List.getElem?_eq_getElem hk5
    obtain ⟨d4, ed4, rd4⟩ := (rw3.up f4).get' ek
    have hzs : zs.length < sizeLine := by
      have h1 := hp3.length_eq
      rw [List.length_append] at h1
      have h2 := rz3.length
      exact small1000 (by omega)
    refine popAt_q e4 rfl ek (by omega) (fun H5 f5 e5 => ?_)
    have eL5 := f5.at1 eL4 hL1
    regloopunroll_open
    rename_i H6 f6 e6
    refine ⟨((g3.more f4 (by simp)).more f5 (by simp)).more f6 (by simp), (hd4.fr1 f5 h1a h1c).fr1 f6 hLa hLc, ⟨_, _, ps.eraseIdx k4, qs ++ [d4], f6.at1 e5 hL1.symm, e6, ?_, ?_, ?_, ?_⟩, _, rfl⟩
    · exact (((rw3.up f4).up f5).up f6).erase k4
    · exact (((rz3.up f4).up f5).up f6).append (reps_one ((rd4.up f5).up f6))
    · refine List.Perm.trans ?_ hp3
      rw [List.append_assoc]
      refine List.Perm.append_left _ ?_
      have hk6 : k4 < ps.length := (List.getElem?_eq_some_iff.mp ed4).1
      have e7 : ps = ps.take k4 ++ d4 :: ps.drop (k4 + 1) := by
        have h8 : ps[k4] = d4 := (List.getElem?_eq_some_iff.mp ed4).2
        rw [← h8, ← List.drop_eq_getElem_cons hk6, List.take_append_drop]
      rw [List.eraseIdx_eq_take_drop_succ]
      conv => rhs; rw [e7]
      show (d4 :: (ps.take k4 ++ ps.drop (k4 + 1))).Perm _
      exact (List.perm_middle).symm
    · rw [List.length_eraseIdx_of_lt hk5]
      omega
  · obtain ⟨g3, hd3, ⟨ws, zs, ps, qs, e3, eL3, rw3, rz3, hp3, hlen⟩, o1, rfl⟩ := p3
    have : ps = [] := List.length_eq_zero_iff.mp (by rw [← rw3.length]; omega)
    subst this
    rw [List.append_nil] at hp3
    regloopunroll_open
    refine q H3 L zs qs (((f1.step0 f2).of0).trans g3 fun b m => ?_) hd3 (f1.free nL (by simp)) eL3 rz3 hp3
    simp only [List.mem_cons, List.not_mem_nil, or_false] at m
    rcases m with rfl | rfl | rfl
    · exact .inr n1
    · exact .inr (f1.free nL (by simp))
    · exact .inl (by simp)
def spPool : Sp := fun vs H Q _ => vs = [] ∧ ∀ H' L, Fr [] H H' → H L = none → H' L = some (.lst (poolL.map V.str)) → Q (.ref L) H'
theorem ok_law_pool (T : Top K mg) : Cal P w K mg base CX0 1 "_law_pool" [] spPool := by
  refine T.d_law_pool.cal sc_law_pool [none] rfl (fun vs H Q E h => ?_) (fun f cdv A outer s H vs Q E hk hr h => ?_)
  · obtain ⟨rfl, _⟩ := h; rfl
  obtain ⟨rfl, q⟩ := h
  have hu := hu_of hr
  refine ⟨_, (pss_cons (ps_set (i := 0) sc_law_pool.nd rfl (Or.inl rfl) pe_str) (pss_cons (ps_set (i := 0) sc_law_pool.nd rfl (Or.inl rfl) (pe_op (op_addGK (K := K) rfl) (pv 0) pe_str)) (pss_cons (ps_set (i := 0) sc_law_pool.nd rfl (Or.inl rfl) (pe_op (op_addGK (K := K) rfl) (pv 0) pe_str)) (pss_one (ps_ret (pe_split (pv 0) pe_str)))))), ?_⟩
  kpt_turns
  regloopunroll_open
  refine addG_str (by decide +kernel) ?_
  regloopunroll_open
  refine addG_str (by decide +kernel) ?_
  regloopunroll_open
  refine g_m1 ?_
  regloopunroll_open
  refine ⟨⟨_, rfl⟩, ?_⟩
  regloopunroll_open
  refine ⟨_, _, rfl, rfl, by decide +kernel, by decide +kernel, fun p np => ?_⟩
  refine q _ p (Fr.new np) np ?_
  rw [upd_same]
  exact congrArg (fun z : List Str => some (HO.lst (z.map V.str))) (by decide +kernel)

mutual
def szb : PyData → Bool
  | .tuple ds => decide (ds.length ≤ 900) && szbs ds
  | _ => true
def szbs : List PyData → Bool
  | [] => true
  | d :: ds => szb d && szbs ds
end
theorem szbs_all : ∀ {ds : List PyData}, szbs ds = true ↔ ∀ d ∈ ds, szb d = true
  | [] => by simp [szbs]
  | d :: ds => by simp [szbs, szbs_all (ds := ds)]
/-- good data: plain, not deep, not long -/
structure G (n : Nat) (d : PyData) : Prop where
  pl : pl d = true
  dp : d.depth ≤ n
  sz : szb d = true
def GL (n : Nat) (ds : List PyData) : Prop := ∀ d ∈ ds, G n d
theorem GL.nil {n : Nat} : GL n [] := fun d h => by cases h
theorem GL.cons {n : Nat} {d : PyData} {ds : List PyData} (h : G n d) (t : GL n ds) : GL n (d :: ds) := fun e he => by
  rcases List.mem_cons.mp he with rfl | he
  · exact h
  · exact t e he
theorem GL.app {n : Nat} {ds es : List PyData} (h : GL n ds) (t : GL n es) : GL n (ds ++ es) := fun e he => (List.mem_append.mp he).elim (h e) (t e)
theorem GL.take {n k : Nat} {ds : List PyData} (h : GL n ds) : GL n (ds.take k) := fun e he => h e (List.take_subset k ds he)
theorem GL.drop {n k : Nat} {ds : List PyData} (h : GL n ds) : GL n (ds.drop k) := fun e he => h e (List.drop_subset k ds he)
theorem G.mono {n m : Nat} {d : PyData} (h : G n d) (e : n ≤ m) : G m d := ⟨h.pl, Nat.le_trans h.dp e, h.sz⟩
theorem GL.mono {n m : Nat} {ds : List PyData} (h : GL n ds) (e : n ≤ m) : GL m ds := fun d hd => (h d hd).mono e
theorem G.tup {n : Nat} {ds : List PyData} (h : GL n ds) (hl : ds.length ≤ 900) : G (n + 1) (.tuple ds) := by
  refine ⟨?_, ?_, ?_⟩
  · simpa [AN.pl] using pls_all.mpr fun d hd => (h d hd).pl
  · have : PyData.depthAll ds ≤ n := depthAll_le.mpr fun d hd => (h d hd).dp
    simp only [PyData.depth]
    omega
  · simp only [szb, Bool.and_eq_true, decide_eq_true_eq]
    exact ⟨hl, szbs_all.mpr fun d hd => (h d hd).sz⟩
theorem G.all {n : Nat} {ds : List PyData} (h : G (n + 1) (.tuple ds)) : GL n ds ∧ ds.length ≤ 900 := by
  have h3 := h.sz
  simp only [szb, Bool.and_eq_true, decide_eq_true_eq] at h3
  have h2 := h.dp
  simp only [PyData.depth] at h2
  exact ⟨fun d hd => ⟨pls_all.mp (by simpa [AN.pl] using h.pl) d hd, depthAll_le.mp (show PyData.depthAll ds ≤ n by omega) d hd, szbs_all.mp h3.2 d hd⟩, h3.1⟩
theorem G.str {n : Nat} {x : Str} (h : PyData.strOk x = true) : G n (.str x) := ⟨by simpa [AN.pl] using h, by simp [PyData.depth], rfl⟩
theorem G.int {n : Nat} {x : Int} : G n (.int x) := ⟨rfl, by simp [PyData.depth], rfl⟩
theorem G.okd {n : Nat} {d : PyData} (h : G n d) (hn : n ≤ 40) : Okd d := ⟨h.pl, Nat.le_trans h.dp hn⟩
theorem G.sm {n : Nat} {d : PyData} (h : G n d) : Sm d := fun ds e => by
  have := h.sz
  subst e
  simp only [szb, Bool.and_eq_true, decide_eq_true_eq] at this
  exact this.1
theorem G.smr {n : Nat} {d : PyData} (h : G n d) : Smr d := fun ds e f hf a c ef => by
  have h1 := h.sz
  subst e
  simp only [szb, Bool.and_eq_true, decide_eq_true_eq] at h1
  have h2 := szbs_all.mp h1.2 f hf
  subst ef
  simp only [szb, szbs, Bool.and_eq_true, decide_eq_true_eq] at h2
  intro ds e
  subst e
  have h3 := h2.2.2.1
  simp only [szb, Bool.and_eq_true, decide_eq_true_eq] at h3
  exact h3.1
theorem G.strs {n : Nat} {ns : List Str} (h : SN ns) : GL n (ns.map PyData.str) := fun d hd => by
  obtain ⟨x, hx, rfl⟩ := List.mem_map.mp hd
  exact G.str (h x hx)
theorem G.prs {n : Nat} {l : List Pr} (h : strs2 l) : GL (n + 1) (l.map prD) := fun d hd => by
  obtain ⟨p, hp, rfl⟩ := List.mem_map.mp hd
  exact G.tup (.cons (.str (h p hp).1) (.cons (.str (h p hp).2) .nil)) (Nat.le_of_ble_eq_true rfl)
theorem ixL_any {K : PySem.W.Frag} {H : Hp} {a : Addr} {xs : List V} {ds : List PyData} {k n : Nat} {j : Int} {Q : VK} (h : H a = some (.lst xs)) (r : Reps K H ds xs) (g : GL n ds) (hj : j = (k : Int)) (hk : k < ds.length) (q : ∀ v d, Rep K H d v → G n d → Q v H) : rIxG K (.ref a) (.int j) H Q := by
  have hk' : k < xs.length := by rw [r.length]; exact hk
  have e1 : xs[k]? = some xs[k] := List.getElem?_eq_getElem hk'
  obtain ⟨d, ed, rd⟩ := r.get' e1
  exact ixL_q (.of h) e1 hj (q _ d rd (g d (List.mem_of_getElem? ed)))
def spBE (K : PySem.W.Frag) : Sp := fun vs H Q _ => ∃ a c x y z ops blocks pairs n cs, vs = [.ref a, x, y, z] ∧ DrawOk H a c ∧ Rep K H (opsD ops) x ∧ Rep K H (.tuple (blocks.map .str)) y ∧ Rep K H (.tuple [.str n, Cs.toD cs]) z ∧ Ctx (ops.map (·.1)) pairs ∧ SN blocks ∧ blocks.length ≤ 100 ∧ PyData.strOk n = true ∧ OkC pairs cs ∧ ∀ H' v d, Fr [a] H H' → DrawOk H' a c → Rep K H' d v → G 9 d → Q v H'
theorem ok_law_bent_entry (T : Top K mg) : Cal P w K mg base CX0 3 "_law_bent_entry" ["d", "ops", "blocks", "entry"] (spBE K) := by
  refine T.d_law_bent_entry.cal sc_law_bent_entry [none, none, none, none, none, none, none, none] rfl (fun vs H Q E h => ?_) (fun f cdv A outer s H vs Q E hk hr h => ?_)
  · obtain ⟨a, c, x, y, z, ops, blocks, pairs, n, cs, rfl, _⟩ := h; rfl
  obtain ⟨a, c, x, y, z, ops, blocks, pairs, n, cs, rfl, hd, hx, hy, hz, C, sb, lb, hn, hcs, q⟩ := h
  have hu := hu_of hr
  have C_law_draw := ok_law_draw (P := P) (w := w) (base := base) T
  have C_law_pick := ok_law_pick (P := P) (w := w) (base := base) T
  have l8 : ops.length ≤ 8 := by have := C.on8; rwa [List.length_map] at this
  refine ⟨_, (pss_cons (ps_asg (pv 3) (pg_tupK (K := K) (n := 2) rfl rfl (pgs_cons (pg_name (i := 4) sc_law_bent_entry.nd rfl (Or.inl rfl)) (pgs_cons (pg_name (i := 5) sc_law_bent_entry.nd rfl (Or.inl rfl)) pgs_nil)))) (pss_cons (ps_set (i := 6) sc_law_bent_entry.nd rfl (Or.inl rfl) (pe_op (op_addGK (K := K) rfl) (pe_op (op_addGK (K := K) rfl) (pe_lc (own := [("q", 11)]) (g := gName 11) rfl sc_law_bent_entry.nd (pi_seqK (K := K) rfl (pv 1)) (blkOk_by (N := N_law_bent_entry) (sc := defScope s_law_bent_entry) (by decide +kernel)) (fun _ _ _ _ _ => pg_name (i := 11) sc_law_bent_entry.nd rfl (Or.inl rfl)) (fun _ _ _ _ _ => pts_nil) (fun _ _ _ _ _ => (pe_ix (ix_GK (K := K) rfl hu) (pv 11) pe_int (fun _ _ => rfl)))) (pe_callTy (call_listGK (K := K) rfl rfl) (by rfl) T.m_list (by decide +kernel) (pa_cons (pv 2) pa_nil))) (pe_lst (pa_cons pe_str (pa_cons pe_str (pa_cons pe_int (pa_cons (pe_tup (pa_cons (pv 4) pa_nil)) pa_nil))))))) (pss_cons (ps_set (i := 7) sc_law_bent_entry.nd rfl (Or.inl rfl) (pe_cal C_law_draw (hr.mono (by omega)) (by rfl) pass0 (pa_cons (pv 0) (pa_cons pe_int pa_nil)))) (pss_cons (ps_if (pt_cmpR (op_eqGK (K := K) rfl hr.units) (pv 7) pe_int (nomark _)) (pss_one (ps_ret (pe_ix (ix_GK (K := K) rfl hu) (pe_lst (pa_cons (pv 4) (pa_cons (pe_tup (pa_cons (pv 4) pa_nil)) (pa_cons (pe_tup (pa_cons (pv 4) (pa_cons (pv 5) (pa_cons (pv 5) pa_nil)))) (pa_cons (pe_tup (pa_cons (pv 5) (pa_cons (pv 4) pa_nil))) (pa_cons (pe_tup (pa_cons (pe_tup (pa_cons (pv 4) (pa_cons (pv 5) pa_nil))) pa_nil)) (pa_cons pe_int pa_nil))))))) (pe_cal C_law_draw (hr.mono (by omega)) (by rfl) pass0 (pa_cons (pv 0) (pa_cons pe_int pa_nil))) (fun _ _ => rfl)))) pss_nil) (pss_cons (ps_if (pt_cmpR (op_eqGK (K := K) rfl hr.units) (pv 7) pe_int (nomark _)) (pss_one (ps_ret (pe_tup (pa_cons (pe_cal C_law_pick (hr.mono (by omega)) (by rfl) pass0 (pa_cons (pv 0) (pa_cons (pv 6) pa_nil))) (pa_cons (pv 5) pa_nil))))) pss_nil) (pss_cons (ps_if (PW.pt (pw_or (pt_cmpR (op_eqGK (K := K) rfl hr.units) (pv 7) pe_int (nomark _)) (pw_or1 (pt_cmpR (op_eqGK (K := K) rfl hr.units) (pv 5) pe_str (nomark _))))) (pss_cons (ps_set (i := 8) sc_law_bent_entry.nd rfl (Or.inl rfl) (pe_lst (pa_cons (pe_tup pa_nil) (pa_cons pe_str (pa_cons pe_str (pa_cons pe_str (pa_cons pe_int (pa_cons (pe_tup (pa_cons pe_str pa_nil)) (pa_cons (pe_tup (pa_cons (pe_tup pa_nil) pa_nil)) (pa_cons (pe_tup (pa_cons (pe_tup (pa_cons pe_str pa_nil)) pa_nil)) (pa_cons (pe_tup (pa_cons (pe_tup (pa_cons (pv 4) (pa_cons (pv 4) pa_nil))) pa_nil)) (pa_cons (pe_tup (pa_cons (pv 4) (pa_cons (pv 4) pa_nil))) pa_nil)))))))))))) (pss_one (ps_ret (pe_tup (pa_cons (pv 4) (pa_cons (pe_ix (ix_GK (K := K) rfl hu) (pv 8) (pe_cal C_law_draw (hr.mono (by omega)) (by rfl) pass0 (pa_cons (pv 0) (pa_cons pe_int pa_nil))) (fun _ _ => rfl)) pa_nil)))))) pss_nil) (pss_cons (ps_set (i := 9) sc_law_bent_entry.nd rfl (Or.inl rfl) (pe_cal C_law_draw (hr.mono (by omega)) (by rfl) pass0 (pa_cons (pv 0) (pa_cons (pe_callB (call_lenGK (K := K) rfl) (by rfl) T.m_len (by decide +kernel) (pa_cons (pv 5) pa_nil)) pa_nil)))) (pss_cons (ps_set (i := 10) sc_law_bent_entry.nd rfl (Or.inl rfl) (pe_ix (ix_GK (K := K) rfl hu) (pv 5) (pv 9) (fun _ _ => rfl))) (pss_cons (ps_if (pt_cmpR (op_eqGK (K := K) rfl hr.units) (pv 7) pe_int (nomark _)) (pss_one (ps_ret (pe_tup (pa_cons (pv 4) (pa_cons (pe_op (op_addGK (K := K) rfl) (pe_op (op_addGK (K := K) rfl) (pe_slice (sl_GK (K := K) rfl) (pv 5) po_none (po_some (pv 9))) (pe_tup (pa_cons (pv 10) pa_nil))) (pe_slice (sl_GK (K := K) rfl) (pv 5) (po_some (pv 9)) po_none)) pa_nil))))) pss_nil) (pss_cons (ps_if (pt_cmpR (op_eqGK (K := K) rfl hr.units) (pv 7) pe_int (nomark _)) (pss_one (ps_ret (pe_tup (pa_cons (pv 4) (pa_cons (pe_op (op_addGK (K := K) rfl) (pe_op (op_addGK (K := K) rfl) (pe_slice (sl_GK (K := K) rfl) (pv 5) po_none (po_some (pv 9))) (pe_slice (sl_GK (K := K) rfl) (pv 5) (po_some (pe_op (op_addGK (K := K) rfl) (pv 9) pe_int)) po_none)) (pe_tup (pa_cons (pv 10) pa_nil))) pa_nil))))) pss_nil) (pss_cons (ps_set (i := 8) sc_law_bent_entry.nd rfl (Or.inl rfl) (pe_lst (pa_cons (pe_tup (pa_cons (pe_ix (ix_GK (K := K) rfl hu) (pv 10) pe_int (fun _ _ => rfl)) (pa_cons (pe_ix (ix_GK (K := K) rfl hu) (pv 10) pe_int (fun _ _ => rfl)) pa_nil))) (pa_cons (pe_tup (pa_cons (pe_ix (ix_GK (K := K) rfl hu) (pv 10) pe_int (fun _ _ => rfl)) pa_nil)) (pa_cons (pe_op (op_addGK (K := K) rfl) (pv 10) (pe_tup (pa_cons (pe_ix (ix_GK (K := K) rfl hu) (pv 10) pe_int (fun _ _ => rfl)) pa_nil))) (pa_cons (pe_ix (ix_GK (K := K) rfl hu) (pv 10) pe_int (fun _ _ => rfl)) (pa_cons pe_int pa_nil))))))) (pss_cons (ps_set (i := 8) sc_law_bent_entry.nd rfl (Or.inl rfl) (pe_op (op_addGK (K := K) rfl) (pv 8) (pe_lst (pa_cons (pe_tup (pa_cons (pe_ix (ix_GK (K := K) rfl hu) (pv 10) pe_int (fun _ _ => rfl)) (pa_cons (pe_cal C_law_pick (hr.mono (by omega)) (by rfl) pass0 (pa_cons (pv 0) (pa_cons (pv 6) pa_nil))) pa_nil))) (pa_cons (pe_tup (pa_cons (pe_cal C_law_pick (hr.mono (by omega)) (by rfl) pass0 (pa_cons (pv 0) (pa_cons (pv 6) pa_nil))) (pa_cons (pe_ix (ix_GK (K := K) rfl hu) (pv 10) pe_int (fun _ _ => rfl)) pa_nil))) pa_nil))))) (pss_one (ps_ret (pe_tup (pa_cons (pv 4) (pa_cons (pe_op (op_addGK (K := K) rfl) (pe_op (op_addGK (K := K) rfl) (pe_slice (sl_GK (K := K) rfl) (pv 5) po_none (po_some (pv 9))) (pe_tup (pa_cons (pe_ix (ix_GK (K := K) rfl hu) (pv 8) (pe_cal C_law_draw (hr.mono (by omega)) (by rfl) pass0 (pa_cons (pv 0) (pa_cons pe_int pa_nil))) (fun _ _ => rfl)) pa_nil))) (pe_slice (sl_GK (K := K) rfl) (pv 5) (po_some (pe_op (op_addGK (K := K) rfl) (pv 9) pe_int)) po_none)) pa_nil))))))))))))))))), ?_⟩
  kpt_turns
  regloopunroll_open
  rename_i v1 v2 h1 h2
  cases srep h1
  regloopunroll_open
  refine g_lcT ?_
  regloopunroll_open
  refine lcT_rep hx (fun D i H' => Fr [] H H' ∧ H' D = some (.lst (((ops.take i).map (·.1)).map V.str))) (fun D nD => ⟨Fr.new nD, upd_same⟩) (fun D i H' nD p => ⟨_, p.1⟩) (fun D i e y' H' nD he hy' p' => ?_) (fun D H1 nD p' => ?_)
  · obtain ⟨fr, eD⟩ := p'
    obtain ⟨o, eo, rfl⟩ := rows_at he
    replace hy' : Rep K H' (.tuple [.str o.1, .int o.2.1, .int o.2.2]) y' := hy'
    regloopunroll_open
    refine ⟨rfl, ?_⟩
    regloopunroll_open
    refine ⟨_, eD, ?_, fr.updN nD eD, ?_⟩
    · have h1 : (ops.take i).length ≤ ops.length := by rw [List.length_take]; omega
      exact small1000 (by rw [List.length_map, List.length_map]; omega)
    · rw [upd_same, List.take_add_one, eo]
      simp
  obtain ⟨fr1, eD⟩ := p'
  rw [List.length_map, List.take_length] at eD
  regloopunroll_open
  refine listT_q (hy.up fr1) (fun H2 l2 us f2 n2 e2 r2 => ?_)
  have lus : us.length = blocks.length := by rw [r2.length, List.length_map]
  regloopunroll_open
  refine addG_lst (f2.at eD) e2 (Nat.le_of_lt (small1000 (by simp; omega))) (fun H3 l3 f3 n3 e3 => ?_)
  regloopunroll_open
  rename_i H4 v4 f4 r4 H5 l5 f5 n5 e5
  have lu2 : ((ops.map (·.1)).map V.str ++ us).length ≤ 108 := by simp; omega
  refine addG_lst (f5.at (f4.at e3)) e5 (Nat.le_of_lt (small1000 (by rw [show ([V.str "always", V.str "", V.int 0, v4] : List V).length = 4 from rfl]; omega))) (fun H6 l6 f6 n6 e6 => ?_)
  have r6 : Reps K H6 ((ops.map (·.1)).map PyData.str ++ blocks.map PyData.str ++ [PyData.str "always", PyData.str "", PyData.int 0, PyData.tuple [PyData.str n]]) ((ops.map (·.1)).map V.str ++ us ++ [V.str "always", V.str "", V.int 0, v4]) :=
    ((reps_strs _).append ((((r2.up f3).up f4).up f5).up f6)).append (reps_cons rep_str (reps_cons rep_str (reps_cons rep_int (reps_one ((r4.up f5).up f6)))))
  have gN : GL 3 ((ops.map (·.1)).map PyData.str ++ blocks.map PyData.str ++ [PyData.str "always", PyData.str "", PyData.int 0, PyData.tuple [PyData.str n]]) :=
    ((G.strs C.os).app (G.strs sb)).app (.cons (.str (by decide +kernel)) (.cons (.str (by decide +kernel)) (.cons .int (.cons (.tup (.cons (.str hn) .nil) (Nat.le_of_ble_eq_true rfl)) .nil))))
  have lN : 0 < ((ops.map (·.1)).map V.str ++ us ++ [V.str "always", V.str "", V.int 0, v4]).length ∧ ((ops.map (·.1)).map V.str ++ us ++ [V.str "always", V.str "", V.int 0, v4]).length < 1000000 := by
    simp only [List.length_append, List.length_cons, List.length_nil] at lu2 ⊢
    omega
  generalize (ops.map (·.1)).map PyData.str ++ blocks.map PyData.str ++ [PyData.str "always", PyData.str "", PyData.int 0, PyData.tuple [PyData.str n]] = dN at r6 gN
  generalize (ops.map (·.1)).map V.str ++ us ++ [V.str "always", V.str "", V.int 0, v4] = xN at r6 e6 lN
  have fr6 : Fr [] H H6 := ((((fr1.step f2).step f3).step f4).step f5).step f6
  have hd6 := hd.fr0 fr6
  have h26 := h2.up fr6
  have hl6a : l6 ≠ a := (hd.fr0 ((((fr1.step f2).step f3).step f4).step f5)).neL n6
  have gC : G 3 (Cs.toD cs) := by
    cases cs with
    | all => exact .str (by decide +kernel)
    | ps l => exact .tup (G.prs (okd_ps.mp (hcs.okd C))) (by have : l.length ≤ 16 := OkC.size C hcs; rw [List.length_map]; omega)
  clear h2 hx hy hz r2 r4 hd e2 e3 e5 eD
  regloopunroll_open
  rename_i H7 k7 f7 hd7 hk7
  have r7 := r6.up f7
  have e7 := f7.at1 e6 hl6a
  have h27 := h26.up f7
  have g7 : Fr [a] H H7 := (fr6.of0).step f7
  refine ifD (fun w0 => ?_) (fun w0 => ?_)
  · regloopunroll_open
    rename_i J1 u1 j1 t1 J2 u2 j2 t2 J3 u3 j3 t3 J4 u4 j4 t4 J5 u5 j5 t5 J6 p6 j6 m6 o6 J7 k8 j7 d7 kk7
    refine ixL_any (n := 9) (k := k8) (ds := [.str n, .tuple [.str n], .tuple [.str n, cs.toD, cs.toD], .tuple [cs.toD, .str n], .tuple [.tuple [.str n, cs.toD]], .int 3]) (j7.at1 o6 (DrawOk.neL (a := a) (c := c) (by regstrif_gather) m6)) (by lcg_sub) (by (repeat' (first | exact GL.nil | refine GL.cons ?_ ?_ | exact G.int | exact G.str (by first | assumption | decide +kernel) | exact G.mono (by assumption) (by decide) | refine G.tup ?_ (Nat.le_of_ble_eq_true rfl)))) rfl (by simp only [List.length_cons, List.length_nil]; omega) (fun v d hv gd => ?_)
    exact q J7 v d (by lcg_off) d7 hv gd
  · regloopunroll_open
    refine ifD (fun w1 => ?_) (fun w1 => ?_)
    · regloopunroll_open
      refine pick_q hd7 (.of e7) hl6a lN.1 lN.2 (fun H8 i8 v8 f8 hd8 e8 => ?_)
      obtain ⟨d8, ed8, rd8⟩ := r7.get' e8
      have rd8' := rd8.up f8
      have h28 := h27.up f8
      have gd8 : G 3 d8 := gN d8 (List.mem_of_getElem? ed8)
      regloopunroll_open
      rename_i H9 v9 f9 r9
      exact q H9 v9 _ (by lcg_off) (by regstrif_gather) r9 (by (repeat' (first | exact GL.nil | refine GL.cons ?_ ?_ | exact G.int | exact G.str (by first | assumption | decide +kernel) | exact G.mono (by assumption) (by decide) | refine G.tup ?_ (Nat.le_of_ble_eq_true rfl))))
    · regloopunroll_open
      refine ifD (fun w2 => ?_) (fun w2 => ?_)
      · regloopunroll_open
        rename_i J1 u1 j1 t1 J2 u2 j2 t2 J3 u3 j3 t3 J4 u4 j4 t4 J5 u5 j5 t5 J6 u6 j6 t6 J7 u7 j7 t7 J8 u8 j8 t8 J9 u9 j9 t9 J10 p10 j10 m10 o10 J11 k11 j11 d11 kk11
        refine ixL_any (n := 8) (k := k11) (ds := [.tuple [], .str "", .str "Always", .str "never", .int 0, .tuple [.str "always"], .tuple [.tuple []], .tuple [.tuple [.str "always"]], .tuple [.tuple [.str n, .str n]], .tuple [.str n, .str n]]) (j11.at1 o10 (DrawOk.neL (a := a) (c := c) (by regstrif_gather) m10)) (by lcg_sub) (by (repeat' (first | exact GL.nil | refine GL.cons ?_ ?_ | exact G.int | exact G.str (by first | assumption | decide +kernel) | exact G.mono (by assumption) (by decide) | refine G.tup ?_ (Nat.le_of_ble_eq_true rfl)))) rfl (by simp only [List.length_cons, List.length_nil]; omega) (fun v d hv gd => ?_)
        regloopunroll_open
        rename_i H9 v9 f9 r9
        exact q H9 v9 _ (by lcg_off) (by regstrif_gather) r9 (by (repeat' (first | exact GL.nil | refine GL.cons ?_ ?_ | exact G.int | exact G.str (by first | assumption | decide +kernel) | exact G.mono (by assumption) (by decide) | refine G.tup ?_ (Nat.le_of_ble_eq_true rfl))))
      · regloopunroll_open
        cases cs with
        | all =>
          refine eqXT h27 rep_str okd_all okd_all (by decide +kernel) ?_
          regloopunroll_open
          rename_i J1 u1 j1 t1 J2 u2 j2 t2 J3 u3 j3 t3 J4 u4 j4 t4 J5 u5 j5 t5 J6 u6 j6 t6 J7 u7 j7 t7 J8 u8 j8 t8 J9 u9 j9 t9 J10 p10 j10 m10 o10 J11 k11 j11 d11 kk11
          refine ixL_any (n := 8) (k := k11) (ds := [.tuple [], .str "", .str "Always", .str "never", .int 0, .tuple [.str "always"], .tuple [.tuple []], .tuple [.tuple [.str "always"]], .tuple [.tuple [.str n, .str n]], .tuple [.str n, .str n]]) (j11.at1 o10 (DrawOk.neL (a := a) (c := c) (by regstrif_gather) m10)) (by lcg_sub) (by (repeat' (first | exact GL.nil | refine GL.cons ?_ ?_ | exact G.int | exact G.str (by first | assumption | decide +kernel) | exact G.mono (by assumption) (by decide) | refine G.tup ?_ (Nat.le_of_ble_eq_true rfl)))) rfl (by simp only [List.length_cons, List.length_nil]; omega) (fun v d hv gd => ?_)
          regloopunroll_open
          rename_i H9 v9 f9 r9
          exact q H9 v9 _ (by lcg_off) (by regstrif_gather) r9 (by (repeat' (first | exact GL.nil | refine GL.cons ?_ ?_ | exact G.int | exact G.str (by first | assumption | decide +kernel) | exact G.mono (by assumption) (by decide) | refine G.tup ?_ (Nat.le_of_ble_eq_true rfl))))
        | ps l =>
          refine eqXF h27 rep_str (hcs.okd C) okd_all rfl ?_
          have ll : l.length ≤ 16 := OkC.size C hcs
          have l0 : 0 < l.length := List.length_pos_iff.mpr hcs.1
          replace h27 : Rep K H7 (.tuple (l.map prD)) v2 := h27
          have hlz : (0 : Int) < ((l.map prD).length : Nat) := by rw [List.length_map]; omega
          have hlz2 : ((l.map prD).length : Int) < 1000000000 := by rw [List.length_map]; omega
          have gl : GL 2 (l.map prD) := (G.all (n := 2) gC).1
          regloopunroll_open
          rename_i H8 k8 f8 hd8 hk8
          rw [List.length_map] at hk8
          have epr : l[k8]? = some (l[k8]'(by omega)) := List.getElem?_eq_getElem (by omega)
          generalize l[k8]'(by omega) = pr at epr
          have h28 := h27.up f8
          have eprd : (l.map prD)[k8]? = some (prD pr) := by rw [List.getElem?_map, epr]; rfl
          have gp : G 2 (prD pr) := gl _ (List.mem_of_getElem? eprd)
          have hs := (okd_ps.mp (hcs.okd C)) pr (List.mem_of_getElem? epr)
          have s1 := hs.1
          have s2 := hs.2
          refine ix_rep (i := k8) h28 eprd (fun v9 r9 => ?_)
          have r9' : Rep K H8 (.tuple [.str pr.1, .str pr.2]) v9 := r9
          have lm : (l.map prD).length ≤ 16 := by rw [List.length_map]; exact ll
          have hp3 : PyData.tuple [.str pr.1, .str pr.2] = prD pr := rfl
          generalize l.map prD = dl at h28 gl lm
          have r8 := r7.up f8
          have e8 := f8.at1 e7 hl6a
          regloopunroll_open
          refine ifD (fun w3 => ?_) (fun w3 => ?_)
          · regloopunroll_open
            refine slT_to (k := k8) h28 rfl (fun H10 v10 f10 r10 => ?_)
            regloopunroll_open
            rename_i H11 v11 f11 r11
            refine addG_tup (r10.up f11) r11 (by simp; omega) (fun H12 v12 f12 r12 => ?_)
            regloopunroll_open
            refine slT_from (k := k8) (h28.up ((f10.step f11).step f12)) rfl (fun H13 v13 f13 r13 => ?_)
            regloopunroll_open
            refine addG_tup (r12.up f13) r13 (by simp; omega) (fun H14 v14 f14 r14 => ?_)
            regloopunroll_open
            rename_i H15 v15 f15 r15
            exact q H15 v15 _ (by lcg_off) (by regstrif_gather) r15 (.tup (.cons (.str hn) (.cons ((G.tup ((gl.take.app (.cons gp .nil)).app gl.drop) (by simp; omega)).mono (m := 8) (by decide)) .nil)) (Nat.le_of_ble_eq_true rfl))
          · regloopunroll_open
            refine ifD (fun w4 => ?_) (fun w4 => ?_)
            · regloopunroll_open
              refine slT_to (k := k8) h28 rfl (fun H10 v10 f10 r10 => ?_)
              regloopunroll_open
              refine slT_from (k := k8 + 1) (h28.up f10) (by omega) (fun H11 v11 f11 r11 => ?_)
              regloopunroll_open
              refine addG_tup (r10.up f11) r11 (by simp; omega) (fun H12 v12 f12 r12 => ?_)
              regloopunroll_open
              rename_i H13 v13 f13 r13
              refine addG_tup (r12.up f13) r13 (by simp; omega) (fun H14 v14 f14 r14 => ?_)
              regloopunroll_open
              rename_i H15 v15 f15 r15
              exact q H15 v15 _ (by lcg_off) (by regstrif_gather) r15 (.tup (.cons (.str hn) (.cons ((G.tup ((gl.take.app gl.drop).app (.cons gp .nil)) (by simp; omega)).mono (m := 8) (by decide)) .nil)) (Nat.le_of_ble_eq_true rfl))
            · regloopunroll_open
              rename_i J1 u1 j1 t1 J2 u2 j2 t2 J3 u3 j3 t3
              refine addG_tup (r9'.up ((j1.step j2).step j3)) t3 (Nat.le_of_ble_eq_true rfl) (fun J4 u4 j4 t4 => ?_)
              regloopunroll_open
              rename_i J5 p5 j5 m5 o5
              have fr85 : Fr [] H8 J5 := (((j1.step j2).step j3).step j4).step j5
              have e5 := fr85.at e8
              have r5 := r8.up fr85
              have hp5 : p5 ≠ a := DrawOk.neL (a := a) (c := c) (hd8.fr0 (((j1.step j2).step j3).step j4)) m5
              have hd5 := hd8.fr0 fr85
              clear fr85
              refine pick_q hd5 (.of e5) hl6a lN.1 lN.2 (fun J6 i6 v6 j6 d6 w6 => ?_)
              obtain ⟨x6, ex6, rx6⟩ := r5.get' w6
              have rx6' := rx6.up j6
              have gx6 : G 3 x6 := gN x6 (List.mem_of_getElem? ex6)
              regloopunroll_open
              rename_i J7 v7 j7 t7
              refine pick_q (d6.fr0 j7) (.of (j7.at (j6.at1 e5 hl6a))) hl6a lN.1 lN.2 (fun J8 i8 v8 j8 d8 w8 => ?_)
              obtain ⟨x8, ex8, rx8⟩ := ((r5.up j6).up j7).get' w8
              have rx8' := rx8.up j8
              have gx8 : G 3 x8 := gN x8 (List.mem_of_getElem? ex8)
              regloopunroll_open
              rename_i J9 v9b j9 t9 J10 p10 j10 m10 o10
              refine addG_lst (j10.at (j9.at (j8.at1 (j7.at (j6.at1 o5 hp5)) hp5))) o10 (Nat.le_of_lt (small1000 (Nat.le_of_ble_eq_true rfl))) (fun J11 p11 j11 m11 o11 => ?_)
              replace o11 : J11 p11 = some (.lst [u1, u2, u4, .str pr.1, .int 5, v7, v9b]) := o11
              have hp11 : p11 ≠ a := DrawOk.neL (a := a) (c := c) ((d8.fr0 j9).fr0 j10) m11
              regloopunroll_open
              refine slT_to (k := k8) (show Rep K _ (.tuple dl) v2 by lcg_src) rfl (fun J12 v12 j12 t12 => ?_)
              regloopunroll_open
              rename_i J13 k13 j13 d13 kk13
              refine ixL_any (n := 6) (k := k13) (ds := [.tuple [.str pr.2, .str pr.1], .tuple [.str pr.1], .tuple ([.str pr.1, .str pr.2] ++ [.str pr.2]), .str pr.1, .int 5, .tuple [.str pr.1, x6], .tuple [x8, .str pr.2]]) (j13.at1 (j12.at o11) hp11) (by lcg_sub) (by (repeat' (first | exact GL.nil | refine GL.cons ?_ ?_ | exact G.int | exact G.str (by first | assumption | decide +kernel) | exact G.mono (by assumption) (by decide) | refine G.tup ?_ (Nat.le_of_ble_eq_true rfl)))) rfl (by simp only [List.length_cons, List.length_nil]; omega) (fun v d hv gd => ?_)
              regloopunroll_open
              rename_i J14 v14 j14 t14
              refine addG_tup ((t12.up j13).up j14) t14 (by simp; omega) (fun J15 v15 j15 t15 => ?_)
              regloopunroll_open
              refine slT_from (k := k8 + 1) (show Rep K _ (.tuple dl) v2 by lcg_src) (by omega) (fun J16 v16 j16 t16 => ?_)
              regloopunroll_open
              refine addG_tup (t15.up j16) t16 (by simp; omega) (fun J17 v17 j17 t17 => ?_)
              regloopunroll_open
              rename_i J18 v18 j18 t18
              exact q J18 v18 _ (by lcg_off) (by regstrif_gather) t18 (.tup (.cons (.str hn) (.cons ((G.tup ((((gl.take).mono (m := 6) (by decide)).app (.cons gd .nil)).app ((gl.drop).mono (m := 6) (by decide))) (by simp; omega)).mono (m := 8) (by decide)) .nil)) (Nat.le_of_ble_eq_true rfl))

theorem ops_of {ops : List Op} : ∀ {es : List PyData}, (∀ e ∈ es, e ∈ ops.map opD) → ∃ ops' : List Op, es = ops'.map opD ∧ ∀ o ∈ ops', o ∈ ops
  | [], _ => ⟨[], rfl, fun o h => by cases h⟩
  | e :: es, h => by
    obtain ⟨o, ho, rfl⟩ := List.mem_map.mp (h e (List.mem_cons_self ..))
    obtain ⟨os, rfl, h2⟩ := ops_of fun e he => h e (List.mem_cons_of_mem _ he)
    exact ⟨o :: os, rfl, fun x hx => by
      rcases List.mem_cons.mp hx with rfl | hx
      · exact ho
      · exact h2 x hx⟩
theorem SN.sub {ops ops' : List Op} (h : SN (ops.map (·.1))) (s : ∀ o ∈ ops', o ∈ ops) : SN (ops'.map (·.1)) := fun n hn => by
  obtain ⟨o, ho, rfl⟩ := List.mem_map.mp hn
  exact h _ (List.mem_map.mpr ⟨o, s o ho, rfl⟩)
def spBent (K : PySem.W.Frag) : Sp := fun vs H Q _ => ∃ (a c : Addr) (x y z : V) (ops : List Op) (blocks : List Str) (pairs : List Pr) (r : Rw), vs = [.ref a, x, y, z] ∧ DrawOk H a c ∧ Rep K H (opsD ops) x ∧ Rep K H (.tuple (blocks.map .str)) y ∧ Rep K H (rowD r) z ∧ Ctx (ops.map (·.1)) pairs ∧ SN blocks ∧ blocks.length ≤ 100 ∧ OkR (ops.map (·.1)) pairs r ∧ ∀ (H' : Hp) (v : V) (ops' : List Op) (blocks' : List Str) (d' : PyData), Fr [a] H H' → DrawOk H' a c → Rep K H' (.tuple [opsD ops', .tuple (blocks'.map .str), d']) v → SN (ops'.map (·.1)) → SN blocks' → ops'.length ≤ 8 → G 20 d' → Q v H'
theorem ok_law_bent (T : Top K mg) : Cal P w K mg base CX0 4 "_law_bent" ["d", "ops", "blocks", "row"] (spBent K) := by
  refine T.d_law_bent.cal sc_law_bent [none, none, none] rfl (fun vs H Q E h => ?_) (fun f cdv A outer s H vs Q E hk hr h => ?_)
  · obtain ⟨a, c, x, y, z, ops, blocks, pairs, r, rfl, _⟩ := h; rfl
  obtain ⟨a, c, x, y, z, ops, blocks, pairs, r, rfl, hd, hx, hy, hz, C, sb, lb, hok, q⟩ := h
  have hu := hu_of hr
  have C_law_draw := ok_law_draw (P := P) (w := w) (base := base) T
  have C_law_shuffled := ok_law_shuffled (P := P) (w := w) (base := base) T
  have C_law_bent_entry := ok_law_bent_entry (P := P) (w := w) (base := base) T
  have l8 : ops.length ≤ 8 := by have := C.on8; rwa [List.length_map] at this
  have lr := hok.len C
  have gR : GL 4 (r.map entD) := fun d hd => by
    obtain ⟨e, he, rfl⟩ := List.mem_map.mp hd
    have h1 := hok.ok e he
    have gC : G 3 (Cs.toD e.2) := by
      have h2 := h1.2
      cases e2 : e.2 with
      | all => exact .str (by decide +kernel)
      | ps l =>
        rw [e2] at h2
        exact .tup (G.prs (okd_ps.mp (h2.okd C))) (by have : l.length ≤ 16 := OkC.size C h2; rw [List.length_map]; omega)
    exact .tup (.cons (.str (C.os _ h1.1)) (.cons gC .nil)) (Nat.le_of_ble_eq_true rfl)
  replace hz : Rep K H (.tuple (r.map entD)) z := hz
  have lm : (r.map entD).length ≤ 8 := by rw [List.length_map]; exact lr
  have gR2 : G 5 (.tuple (r.map entD)) := .tup gR (by omega)
  replace hx : Rep K H (.tuple (ops.map opD)) x := hx
  have fin : ∀ (H' : Hp) (v : V) (ops' : List Op) (blocks' : List Str) (d' : PyData), Fr [a] H H' → DrawOk H' a c → Rep K H' (.tuple [.tuple (ops'.map opD), .tuple (blocks'.map .str), d']) v → SN (ops'.map (·.1)) → SN blocks' → ops'.length ≤ 8 → G 20 d' → Q v H' := fun H' v ops' blocks' d' f d h s1 s2 l g => q H' v ops' blocks' d' f d h s1 s2 l g
  refine ⟨_, (pss_cons (ps_set (i := 4) sc_law_bent.nd rfl (Or.inl rfl) (pe_cal C_law_draw (hr.mono (by omega)) (by rfl) pass0 (pa_cons (pv 0) (pa_cons pe_int pa_nil)))) (pss_cons (ps_set (i := 5) sc_law_bent.nd rfl (Or.inl rfl) (pe_lst (pa_cons pe_int (pa_cons pe_int (pa_cons pe_str (pa_cons pe_str (pa_cons (pe_tup (pa_cons pe_str pa_nil)) (pa_cons (pe_tup (pa_cons (pe_tup pa_nil) pa_nil)) (pa_cons (pe_op (op_addGK (K := K) rfl) (pv 3) (pe_tup (pa_cons (pe_tup pa_nil) pa_nil))) (pa_cons (pe_op (op_addGK (K := K) rfl) (pv 3) (pe_tup (pa_cons pe_int pa_nil))) (pa_cons (pe_tup (pa_cons (pv 3) pa_nil)) (pa_cons (pe_tup (pa_cons (pe_tup (pa_cons pe_int (pa_cons pe_str pa_nil))) pa_nil)) pa_nil)))))))))))) (pss_cons (ps_if (pt_cmpR (op_eqGK (K := K) rfl hr.units) (pv 4) pe_int (nomark _)) (pss_one (ps_ret (pe_tup (pa_cons (pv 1) (pa_cons (pe_slice (sl_GK (K := K) rfl) (pv 2) (po_some pe_int) po_none) (pa_cons (pv 3) pa_nil)))))) pss_nil) (pss_cons (ps_if (pt_cmpR (op_eqGK (K := K) rfl hr.units) (pv 4) pe_int (nomark _)) (pss_one (ps_ret (pe_tup (pa_cons (pe_slice (sl_GK (K := K) rfl) (pv 1) (po_some pe_int) po_none) (pa_cons (pv 2) (pa_cons (pv 3) pa_nil)))))) pss_nil) (pss_cons (ps_if (pt_cmpR (op_eqGK (K := K) rfl hr.units) (pv 4) pe_int (nomark _)) (pss_one (ps_ret (pe_tup (pa_cons (pe_callTy (call_tupGK (K := K) rfl) (by rfl) T.m_tuple (by decide +kernel) (pa_cons (pe_cal C_law_shuffled (hr.mono (by omega)) (by rfl) pass0 (pa_cons (pv 0) (pa_cons (pv 1) pa_nil))) pa_nil)) (pa_cons (pv 2) (pa_cons (pv 3) pa_nil)))))) pss_nil) (pss_cons (ps_if (PW.pt (pw_or (pt_cmpR (op_eqGK (K := K) rfl hr.units) (pv 4) pe_int (nomark _)) (pw_or1 (pt_cmpR (op_eqGK (K := K) rfl hr.units) (pe_callB (call_lenGK (K := K) rfl) (by rfl) T.m_len (by decide +kernel) (pa_cons (pv 3) pa_nil)) pe_int (nomark _))))) (pss_one (ps_ret (pe_tup (pa_cons (pv 1) (pa_cons (pv 2) (pa_cons (pe_ix (ix_GK (K := K) rfl hu) (pv 5) (pe_cal C_law_draw (hr.mono (by omega)) (by rfl) pass0 (pa_cons (pv 0) (pa_cons pe_int pa_nil))) (fun _ _ => rfl)) pa_nil)))))) pss_nil) (pss_cons (ps_set (i := 6) sc_law_bent.nd rfl (Or.inl rfl) (pe_cal C_law_draw (hr.mono (by omega)) (by rfl) pass0 (pa_cons (pv 0) (pa_cons (pe_callB (call_lenGK (K := K) rfl) (by rfl) T.m_len (by decide +kernel) (pa_cons (pv 3) pa_nil)) pa_nil)))) (pss_cons (ps_if (pt_cmpR (op_eqGK (K := K) rfl hr.units) (pv 4) pe_int (nomark _)) (pss_one (ps_ret (pe_tup (pa_cons (pv 1) (pa_cons (pv 2) (pa_cons (pe_op (op_addGK (K := K) rfl) (pe_op (op_addGK (K := K) rfl) (pe_slice (sl_GK (K := K) rfl) (pv 3) po_none (po_some (pv 6))) (pe_tup (pa_cons (pe_ix (ix_GK (K := K) rfl hu) (pv 3) (pv 6) (fun _ _ => rfl)) pa_nil))) (pe_slice (sl_GK (K := K) rfl) (pv 3) (po_some (pv 6)) po_none)) pa_nil)))))) pss_nil) (pss_cons (ps_if (pt_cmpR (op_eqGK (K := K) rfl hr.units) (pv 4) pe_int (nomark _)) (pss_one (ps_ret (pe_tup (pa_cons (pv 1) (pa_cons (pv 2) (pa_cons (pe_op (op_addGK (K := K) rfl) (pe_op (op_addGK (K := K) rfl) (pe_slice (sl_GK (K := K) rfl) (pv 3) po_none (po_some (pv 6))) (pe_slice (sl_GK (K := K) rfl) (pv 3) (po_some (pe_op (op_addGK (K := K) rfl) (pv 6) pe_int)) po_none)) (pe_tup (pa_cons (pe_ix (ix_GK (K := K) rfl hu) (pv 3) (pv 6) (fun _ _ => rfl)) pa_nil))) pa_nil)))))) pss_nil) (pss_one (ps_ret (pe_tup (pa_cons (pv 1) (pa_cons (pv 2) (pa_cons (pe_op (op_addGK (K := K) rfl) (pe_op (op_addGK (K := K) rfl) (pe_slice (sl_GK (K := K) rfl) (pv 3) po_none (po_some (pv 6))) (pe_tup (pa_cons (pe_cal C_law_bent_entry (hr.mono (by omega)) (by rfl) pass0 (pa_cons (pv 0) (pa_cons (pv 1) (pa_cons (pv 2) (pa_cons (pe_ix (ix_GK (K := K) rfl hu) (pv 3) (pv 6) (fun _ _ => rfl)) pa_nil))))) pa_nil))) (pe_slice (sl_GK (K := K) rfl) (pv 3) (po_some (pe_op (op_addGK (K := K) rfl) (pv 6) pe_int)) po_none)) pa_nil))))))))))))))), ?_⟩
  kpt_turns
  regloopunroll_open
  rename_i H1 k1 f1 hd1 hk1 H2 v2 f2 r2 H3 v3 f3 r3 H4 v4 f4 r4 H5 v5 f5 r5 H6 v6 f6 r6
  refine addG_tup (hz.up (((((f1.step0 f2).step0 f3).step0 f4).step0 f5).step0 f6)) r6 (by simp only [List.length_cons, List.length_nil]; omega) (fun H7 v7 f7 r7 => ?_)
  regloopunroll_open
  rename_i H8 v8 f8 r8
  refine addG_tup (hz.up (((((((f1.step0 f2).step0 f3).step0 f4).step0 f5).step0 f6).step0 f7).step0 f8)) r8 (by simp only [List.length_cons, List.length_nil]; omega) (fun H9 v9 f9 r9 => ?_)
  regloopunroll_open
  rename_i H10 v10 f10 r10 H11 v11 f11 r11 H12 v12 f12 r12 H13 p13 f13 n13 e13
  have r13 : Reps K H13 [.int 0, .int 17, .str "", .str "always", .tuple [.str "always"], .tuple [.tuple []], .tuple (r.map entD ++ [.tuple []]), .tuple (r.map entD ++ [.int 3]), .tuple [.tuple (r.map entD)], .tuple [.tuple [.int 0, .str "always"]]] [V.int 0, V.int 17, V.str "", V.str "always", v2, v4, v7, v9, v10, v12] := by lcg_sub
  have hd12 : DrawOk H12 a c := by regstrif_gather
  have hd13 : DrawOk H13 a c := by regstrif_gather
  have g13 : Fr [a] H H13 := by lcg_off
  have hp13 : p13 ≠ a := DrawOk.neL (a := a) (c := c) hd12 n13
  have g13L : GL 20 [.int 0, .int 17, .str "", .str "always", .tuple [.str "always"], .tuple [.tuple []], .tuple (r.map entD ++ [.tuple []]), .tuple (r.map entD ++ [.int 3]), .tuple [.tuple (r.map entD)], .tuple [.tuple [.int 0, .str "always"]]] := by
    have x1 : G 20 (.tuple (r.map entD ++ [.tuple []])) := .tup (n := 19) ((gR.mono (by decide)).app (.cons (.tup (n := 18) .nil (by decide)) .nil)) (by rw [List.length_append]; simp only [List.length_cons, List.length_nil]; omega)
    have x2 : G 20 (.tuple (r.map entD ++ [.int 3])) := .tup (n := 19) ((gR.mono (by decide)).app (.cons .int .nil)) (by rw [List.length_append]; simp only [List.length_cons, List.length_nil]; omega)
    (repeat' (first | exact GL.nil | refine GL.cons ?_ ?_ | exact G.int | exact G.str (by first | assumption | decide +kernel) | exact G.mono (by assumption) (by decide) | refine G.tup ?_ (Nat.le_of_ble_eq_true rfl)))
  have hx13 := hx.up g13
  have hy13 := hy.up g13
  have hz13 := hz.up g13
  have sn := C.os
  clear r2 r3 r4 r5 r6 r7 r8 r9 r10 r11 r12 f1 f2 f3 f4 f5 f6 f7 f8 f9 f10 f11 f12 f13 hx hy hz hd1 hd12 n13
  generalize hdr : r.map entD = dr at *
  have r13L := r13.length
  simp only [List.length_cons, List.length_nil] at r13L
  generalize hds : [PyData.int 0, .int 17, .str "", .str "always", .tuple [.str "always"], .tuple [.tuple []], .tuple (dr ++ [.tuple []]), .tuple (dr ++ [.int 3]), .tuple [.tuple dr], .tuple [.tuple [.int 0, .str "always"]]] = dodd at r13 g13L
  have ldodd : dodd.length = 10 := by rw [← hds]; rfl
  refine ifD (fun w0 => ?_) (fun w0 => ?_)
  · regloopunroll_open
    refine slT_from (k := 1) hy13 rfl (fun H14 v14 f14 r14 => ?_)
    rw [← List.map_drop] at r14
    regloopunroll_open
    rename_i H15 v15 f15 r15
    exact fin H15 _ ops (blocks.drop 1) (.tuple dr) (by lcg_off) (by regstrif_gather) r15 sn (fun n hn => sb n (List.drop_subset 1 blocks hn)) l8 (gR2.mono (by decide))
  regloopunroll_open
  refine ifD (fun w1 => ?_) (fun w1 => ?_)
  · regloopunroll_open
    refine slT_from (k := 1) hx13 rfl (fun H14 v14 f14 r14 => ?_)
    rw [← List.map_drop] at r14
    regloopunroll_open
    rename_i H15 v15 f15 r15
    exact fin H15 _ (ops.drop 1) blocks (.tuple dr) (by lcg_off) (by regstrif_gather) r15 (SN.sub sn fun o ho => List.drop_subset 1 ops ho) sb (by rw [List.length_drop]; omega) (gR2.mono (by decide))
  regloopunroll_open
  refine ifD (fun w2 => ?_) (fun w2 => ?_)
  · regloopunroll_open
    refine ⟨a, c, x, ops.map opD, rfl, hd13, hx13, by rw [List.length_map]; omega, fun H14 L us es f14 hd14 n14 e14 r14 hperm => ?_⟩
    obtain ⟨ops', rfl, hsub⟩ := ops_of fun e he => hperm.mem_iff.mp he
    have hl' : ops'.length ≤ 8 := by
      have := hperm.length_eq
      rw [List.length_map, List.length_map] at this
      omega
    regloopunroll_open
    rename_i H15 p15 f15 n15 e15 H16 p16 f16 n16 e16
    have r15 : Rep K H15 (.tuple (ops'.map opD)) (.ref p15) := rep_tup e15 (r14.up f15)
    have r16 : Rep K H16 (.tuple [.tuple (ops'.map opD), .tuple (blocks.map .str), .tuple dr]) (.ref p16) := rep_tup e16 (reps_cons (r15.up f16) (reps_cons (by lcg_src) (reps_one (by lcg_src))))
    exact fin H16 _ ops' blocks (.tuple dr) (by lcg_off) (by regstrif_gather) r16 (SN.sub sn hsub) sb hl' (gR2.mono (by decide))
  regloopunroll_open
  refine ifD (fun w3 => ?_) (fun w3 => ?_)
  · regloopunroll_open
    rename_i H14 k14 f14 hd14 hk14
    refine ixL_any (k := k14) (f14.at1 e13 hp13) (r13.up f14) g13L rfl (by omega) (fun v d hv gd => ?_)
    regloopunroll_open
    rename_i H15 v15 f15 r15
    exact fin H15 _ ops blocks d (by lcg_off) (by regstrif_gather) r15 sn sb l8 gd
  regloopunroll_open
  refine ifD (fun w4 => ?_) (fun w4 => ?_)
  · regloopunroll_open
    rename_i H14 k14 f14 hd14 hk14
    refine ixL_any (k := k14) (f14.at1 e13 hp13) (r13.up f14) g13L rfl (by omega) (fun v d hv gd => ?_)
    regloopunroll_open
    rename_i H15 v15 f15 r15
    exact fin H15 _ ops blocks d (by lcg_off) (by regstrif_gather) r15 sn sb l8 gd
  have hl0 : 0 < dr.length := by
    cases dr with
    | nil => exact absurd rfl w4
    | cons _ _ => simp
  have hl1 : (0 : Int) < (dr.length : Nat) := by omega
  have hl2 : ((dr.length : Nat) : Int) < 1000000000 := by omega
  regloopunroll_open
  rename_i H14 k14 f14 hd14 hk14
  have hk : k14 < dr.length := by omega
  obtain ⟨en, he, edr⟩ : ∃ en, en ∈ r ∧ dr[k14]? = some (entD en) := by
    obtain ⟨y, h1⟩ : ∃ y, dr[k14]? = some y := ⟨_, List.getElem?_eq_getElem hk⟩
    rw [← hdr] at h1
    obtain ⟨e, h2, h3⟩ := rows_at h1
    exact ⟨e, List.mem_of_getElem? h2, by rw [← hdr, h1, h3]⟩
  have gen : G 4 (entD en) := gR _ (List.mem_of_getElem? edr)
  have hz14 := hz13.up f14
  refine ifD (fun w5 => ?_) (fun w5 => ?_)
  · regloopunroll_open
    refine slT_to (k := k14) hz14 rfl (fun H15 v15 f15 r15 => ?_)
    regloopunroll_open
    refine ix_rep (i := k14) (hz14.up f15) edr (fun v16 r16 => ?_)
    regloopunroll_open
    rename_i H17 v17 f17 r17
    refine addG_tup (r15.up f17) r17 (by simp; omega) (fun H18 v18 f18 r18 => ?_)
    regloopunroll_open
    refine slT_from (k := k14) (show Rep K _ (.tuple dr) z by lcg_src) rfl (fun H19 v19 f19 r19 => ?_)
    regloopunroll_open
    refine addG_tup (r18.up f19) r19 (by simp; omega) (fun H20 v20 f20 r20 => ?_)
    regloopunroll_open
    rename_i H21 v21 f21 r21
    exact fin H21 _ ops blocks _ (by lcg_off) (by regstrif_gather) r21 sn sb l8 ((G.tup ((gR.take.app (.cons gen .nil)).app gR.drop) (by simp; omega)).mono (by decide))
  regloopunroll_open
  refine ifD (fun w6 => ?_) (fun w6 => ?_)
  · regloopunroll_open
    refine slT_to (k := k14) hz14 rfl (fun H15 v15 f15 r15 => ?_)
    regloopunroll_open
    refine slT_from (k := k14 + 1) (show Rep K _ (.tuple dr) z by lcg_src) (by omega) (fun H16 v16 f16 r16 => ?_)
    regloopunroll_open
    refine addG_tup (r15.up f16) r16 (by simp; omega) (fun H17 v17 f17 r17 => ?_)
    regloopunroll_open
    refine ix_rep (i := k14) (show Rep K _ (.tuple dr) z by lcg_src) edr (fun v18 r18 => ?_)
    regloopunroll_open
    rename_i H19 v19 f19 r19
    refine addG_tup (r17.up f19) r19 (by simp; omega) (fun H20 v20 f20 r20 => ?_)
    regloopunroll_open
    rename_i H21 v21 f21 r21
    exact fin H21 _ ops blocks _ (by lcg_off) (by regstrif_gather) r21 sn sb l8 ((G.tup ((gR.take.app gR.drop).app (.cons gen .nil)) (by simp; omega)).mono (by decide))
  regloopunroll_open
  refine slT_to (k := k14) hz14 rfl (fun H15 v15 f15 r15 => ?_)
  regloopunroll_open
  refine ix_rep (i := k14) (show Rep K _ (.tuple dr) z by lcg_src) edr (fun v16 r16 => ?_)
  regloopunroll_open
  have hen := hok.ok en he
  refine ⟨a, c, x, y, v16, ops, blocks, pairs, en.1, en.2, rfl, by regstrif_gather, show Rep K _ (.tuple (ops.map opD)) x by lcg_src, by lcg_src, r16, C, sb, lb, sn _ hen.1, hen.2, fun H17 v17 d17 f17 hd17 r17 g17 => ?_⟩
  regloopunroll_open
  rename_i H18 v18 f18 r18
  refine addG_tup ((r15.up f17).up f18) r18 (by simp; omega) (fun H19 v19 f19 r19 => ?_)
  regloopunroll_open
  refine slT_from (k := k14 + 1) (show Rep K _ (.tuple dr) z by lcg_src) (by omega) (fun H20 v20 f20 r20 => ?_)
  regloopunroll_open
  refine addG_tup (r19.up f20) r20 (by simp; omega) (fun H21 v21 f21 r21 => ?_)
  regloopunroll_open
  rename_i H22 v22 f22 r22
  exact fin H22 _ ops blocks _ (by lcg_off) (by regstrif_gather) r22 sn sb l8 ((G.tup (((gR.take.mono (m := 9) (by decide)).app (.cons g17 .nil)).app (gR.drop.mono (by decide))) (by simp; omega)).mono (by decide))

def spOrd (K : PySem.W.Frag) : Sp := fun vs H Q _ => ∃ (x y : V) (L M : Addr) (ops : List Op) (us ws : List V) (rs es : List Rw) (pairs : List Pr), vs = [x, .ref L, .ref M, y] ∧ Rep K H (opsD ops) x ∧ H L = some (.lst us) ∧ RS K H us rs ∧ H M = some (.lst ws) ∧ RS K H ws es ∧
  Rep K H (rowD (rowT (ops.map (·.1)) (rs.foldl ljoin []))) y ∧ Ctx (ops.map (·.1)) pairs ∧ (∀ r ∈ rs, OkR (ops.map (·.1)) pairs r) ∧ (∀ r ∈ es, OkR (ops.map (·.1)) pairs r) ∧ rs.length ≤ 900 ∧ es.length ≤ 900 ∧ ∀ H', Fr [] H H' → Q (.bl true) H'
theorem ok_law_order_holds (T : Top K mg) : Cal P w K mg base CX0 3 "_law_order_holds" ["ops", "rows", "every", "joint"] (spOrd K) := by
  refine T.d_law_order_holds.cal sc_law_order_holds [none, none, none, none, none] rfl (fun vs H Q E h => ?_) (fun f cdv A outer s H vs Q E hk hr h => ?_)
  · obtain ⟨x, y, L, M, ops, us, ws, rs, es, pairs, rfl, _⟩ := h; rfl
  obtain ⟨x, y, L, M, ops, us, ws, rs, es, pairs, rfl, hx, eL, hrs, eM, hes, hj, C, okr, oke, lrs, les, q⟩ := h
  have hu := hu_of hr
  have C_law_row_tuple := ok_law_row_tuple (P := P) (w := w) (base := base) T
  have C_law_inside := ok_law_inside (P := P) (w := w) (base := base) T
  have C_law_says := ok_law_says (P := P) (w := w) (base := base) T
  have C_is_within := ok_is_within (P := P) (w := w) (base := base) T
  have l8 : ops.length ≤ 8 := by have := C.on8; rwa [List.length_map] at this
  have lws := hes.1
  have lus := hrs.1
  have okj := foldjoin_ok okr (ok_nil (ons := ops.map (·.1)) (pairs := pairs))
  refine ⟨_, (pss_cons (ps_setLc (i := 4) (own := [("row", 8)]) (g := gName 8) rfl sc_law_order_holds.nd rfl rfl (sw_true rfl rfl rfl (by decide +kernel)) (pi_seqK (K := K) rfl (pv 2)) (blkOk_by (N := N_law_order_holds) (sc := defScope s_law_order_holds) (by decide +kernel)) (fun _ _ _ _ _ => pg_name (i := 8) sc_law_order_holds.nd rfl (Or.inl rfl)) (fun _ _ _ _ _ => pts_nil) (fun _ _ _ _ _ => (pe_cal C_law_row_tuple (hr.mono (by omega)) (by rfl) pass0 (pa_cons (pe_tup (pa_cons pe_int (pa_cons (pv 0) pa_nil))) (pa_cons (pv 8) pa_nil))))) (pss_cons (ps_for PassesOwn.never rfl (pi_range1 (by rfl) T.m_range (pa_cons (pe_callB (call_lenGK (K := K) rfl) (by rfl) T.m_len (by decide +kernel) (pa_cons (pv 2) pa_nil)) pa_nil)) (pg_name (i := 5) sc_law_order_holds.nd rfl (Or.inr rfl)) (pss_cons (ps_set (i := 6) sc_law_order_holds.nd rfl (Or.inl rfl) (pe_callB (cr_all rfl) (by rfl) T.m_all (by decide +kernel) (pa_cons (pe_lc (own := [("row", 8)]) (g := gName 8) rfl sc_law_order_holds.nd (pi_seqK (K := K) rfl (pv 1)) (blkOk_by (N := N_law_order_holds) (sc := defScope s_law_order_holds) (by decide +kernel)) (fun _ _ _ _ _ => pg_name (i := 8) sc_law_order_holds.nd rfl (Or.inl rfl)) (fun _ _ _ _ _ => pts_nil) (fun _ _ _ _ _ => (pe_cal C_law_inside (hr.mono (by omega)) (by rfl) pass0 (pa_cons (pv 8) (pa_cons (pe_ix (ix_GK (K := K) rfl hu) (pv 2) (pv 5) (fun _ _ => rfl)) pa_nil))))) pa_nil))) (pss_cons (ps_if (pt_not (pt_val (pe_cal C_law_says (hr.mono (by omega)) (by rfl) pass0 (pa_cons (pe_cal C_is_within (hr.mono (by omega)) (by rfl) pass0 (pa_cons (pv 3) (pa_cons (pe_ix (ix_GK (K := K) rfl hu) (pv 4) (pv 5) (fun _ _ => rfl)) pa_nil))) (pa_cons (pv 6) pa_nil))))) (pss_one (ps_ret pe_bl)) pss_nil) (pss_one (ps_for PassesOwn.never rfl (pi_range1 (by rfl) T.m_range (pa_cons (pe_callB (call_lenGK (K := K) rfl) (by rfl) T.m_len (by decide +kernel) (pa_cons (pv 2) pa_nil)) pa_nil)) (pg_name (i := 7) sc_law_order_holds.nd rfl (Or.inl rfl)) (pss_one (ps_if (pt_not (pt_val (pe_cal C_law_says (hr.mono (by omega)) (by rfl) pass0 (pa_cons (pe_cal C_is_within (hr.mono (by omega)) (by rfl) pass0 (pa_cons (pe_ix (ix_GK (K := K) rfl hu) (pv 4) (pv 5) (fun _ _ => rfl)) (pa_cons (pe_ix (ix_GK (K := K) rfl hu) (pv 4) (pv 7) (fun _ _ => rfl)) pa_nil))) (pa_cons (pe_cal C_law_inside (hr.mono (by omega)) (by rfl) pass0 (pa_cons (pe_ix (ix_GK (K := K) rfl hu) (pv 2) (pv 5) (fun _ _ => rfl)) (pa_cons (pe_ix (ix_GK (K := K) rfl hu) (pv 2) (pv 7) (fun _ _ => rfl)) pa_nil))) pa_nil))))) (pss_one (ps_ret pe_bl)) pss_nil))))))) (pss_one (ps_ret pe_bl)))), ?_⟩
  kpt_turns
  regloopunroll_open
  refine g_lcL ?_
  regloopunroll_open
  refine lcL_q (.of eM) (fun D i H' => Fr [] H H' ∧ ∃ zs, H' D = some (.lst zs) ∧ Reps K H' ((es.take i).map fun r => rowD (rowT (ops.map (·.1)) r)) zs) (fun D nD => ⟨Fr.new nD, [], upd_same, reps_nil⟩) (fun D i H' nD p => .of (p.1.at eM)) (fun D i e H' nD he p' => ?_) (fun D H1 nD p' => ?_)
  · obtain ⟨fr, zs, eD, rz⟩ := p'
    obtain ⟨r, p, er, rfl, t⟩ := hes.get he
    have t' := t.fr fr (by simp)
    have hx' := hx.up fr
    regloopunroll_open
    refine ⟨rfl, ?_⟩
    regloopunroll_open
    rename_i H2 v2 f2 r2
    refine ⟨v2, p, ops, r, rfl, r2, (t'.fr f2 (by simp)).is, by omega, fun H3 v3 f3 r3 => ?_⟩
    have eD3 := f3.at (f2.at eD)
    refine ⟨zs, eD3, ?_, ((fr.step f2).step f3).updN nD eD3, zs ++ [v3], upd_same, ?_⟩
    · have h1 := rz.length
      rw [List.length_map, List.length_take] at h1
      exact small1000 (by omega)
    · rw [List.take_add_one, er, Option.toList_some, List.map_append]
      have g : Fr [D] H3 (upd H3 D (.lst (zs ++ [v3]))) := Fr.setL eD3
      exact (((rz.up f2).up f3).up g).append (reps_one (r3.up g))
  obtain ⟨fr1, zs, eD, rz⟩ := p'
  rw [lws, List.take_length] at rz
  have lzs : zs.length = es.length := by rw [rz.length, List.length_map]
  have eM1 := fr1.at eM
  have eL1 := fr1.at eL
  have hes1 := hes.fr0 fr1
  have hrs1 := hrs.fr0 fr1
  have hj1 := hj.up fr1
  have hgz : ∀ {i : Nat} {r : Rw}, es[i]? = some r → ∃ z, zs[i]? = some z ∧ Rep K H1 (rowD (rowT (ops.map (·.1)) r)) z := fun {i r} h => rz.get (by rw [List.getElem?_map, h]; rfl)
  regloopunroll_open
  refine forR1_q (k := ws.length) rfl (by omega) (fun i σ' H' => Fr [] H1 H' ∧ ∃ o1 o2 o3, σ' = [some x, some (.ref L), some (.ref M), some y, some (.ref D), o1, o2, o3, none]) ⟨Fr.refl _ _, _, _, _, rfl⟩ (fun i σ' H2 hi p2 => ?_) (fun σ' H2 p2 => ?_)
  · obtain ⟨f2, o1, o2, o3, rfl⟩ := p2
    obtain ⟨r, er⟩ : ∃ r, es[i]? = some r := ⟨_, List.getElem?_eq_getElem (by omega)⟩
    obtain ⟨p, ep, t⟩ := hes1.2 i r er
    have okri := oke r (List.mem_of_getElem? er)
    obtain ⟨z, ez, hz⟩ := hgz er
    regloopunroll_open
    refine g_lcL ?_
    regloopunroll_open
    refine lcL_q (.of (f2.at eL1)) (fun D2 j H' => Fr [] H2 H' ∧ H' D2 = some (.lst (((rs.take j).map fun r' => lin r' r).map V.bl))) (fun D2 nD2 => ⟨Fr.new nD2, upd_same⟩) (fun D2 j H' nD2 p => .of (p.1.at (f2.at eL1))) (fun D2 j e H' nD2 he p' => ?_) (fun D2 H3 nD2 p' => ?_)
    · obtain ⟨fr, eD2⟩ := p'
      have fr' := f2.step fr
      obtain ⟨r', p', er', rfl, t'⟩ := hrs1.get he
      regloopunroll_open
      refine ⟨rfl, ?_⟩
      regloopunroll_open
      refine ⟨p', p, r', r, _, pairs, rfl, t'.fr fr' (by simp), (t.fr fr' (by simp)).is, C, okr r' (List.mem_of_getElem? er'), okri, ?_⟩
      refine ⟨_, eD2, ?_, fr.updN nD2 eD2, ?_⟩
      · have h1 : (rs.take j).length ≤ rs.length := by rw [List.length_take]; omega
        exact small1000 (by rw [List.length_map, List.length_map]; omega)
      · rw [upd_same, List.take_add_one, er']
        simp
    obtain ⟨fr, eD2⟩ := p'
    rw [lus, List.take_length] at eD2
    have f3 := f2.step fr
    regloopunroll_open
    refine ⟨D2, _, rfl, .of eD2, ?_⟩
    regloopunroll_open
    refine ⟨y, z, _, _, _, pairs, rfl, hj1.up f3, hz.up f3, C, rowT_ok C.nd okj, rowT_ok C.nd okri, fun H4 f4 => ?_⟩
    regloopunroll_open
    refine ⟨_, _, rfl, ?_⟩
    rw [iw_lin C.nd okj okri, lin_joint okr]
    have eall : ((rs.map fun r' => lin r' r).all id) = rs.all fun r' => lin r' r := by rw [List.all_map]; rfl
    rw [eall]
    refine g_bl ?_
    refine ifNF rfl ?_
    regloopunroll_open
    refine forR1_q (k := ws.length) rfl (by omega) (fun j σ' H' => Fr [] H1 H' ∧ ∃ o3, σ' = [some x, some (.ref L), some (.ref M), some y, some (.ref D), some (.int i), some (.bl (rs.all fun r' => lin r' r)), o3, none]) ⟨f3.step f4, _, rfl⟩ (fun j σ' H5 hj5 p5 => ?_) (fun σ' H5 p5 => ?_)
    · obtain ⟨f5, o3, rfl⟩ := p5
      obtain ⟨r5, er5⟩ : ∃ r, es[j]? = some r := ⟨_, List.getElem?_eq_getElem (by omega)⟩
      obtain ⟨p5, ep5, t5⟩ := hes1.2 j r5 er5
      have okr5 := oke r5 (List.mem_of_getElem? er5)
      obtain ⟨z5, ez5, hz5⟩ := hgz er5
      regloopunroll_open
      refine ⟨z, z5, _, _, _, pairs, rfl, hz.up f5, hz5.up f5, C, rowT_ok C.nd okri, rowT_ok C.nd okr5, fun H6 f6 => ?_⟩
      have f16 := f5.step f6
      regloopunroll_open
      refine ⟨p, p5, r, r5, _, pairs, rfl, t.fr f16 (by simp), (t5.fr f16 (by simp)).is, C, okri, okr5, ?_⟩
      regloopunroll_open
      refine ⟨_, _, rfl, ?_⟩
      rw [iw_lin C.nd okri okr5]
      refine g_bl ?_
      refine ifNF rfl ?_
      regloopunroll_open
      exact ⟨f16, _, rfl⟩
    · obtain ⟨f5, o3, rfl⟩ := p5
      regloopunroll_open
      exact ⟨f5, _, _, _, rfl⟩
  · obtain ⟨f2, o1, o2, o3, rfl⟩ := p2
    regloopunroll_open
    exact q H2 (fr1.step f2)

theorem extend_q {H : Hp} {a b : Addr} {xs zs : List V} {Q : VK} (h : H a = some (.lst xs)) (h' : H b = some (.lst zs)) (hl : xs.length + zs.length ≤ 1000) (q : ∀ H', Fr [a] H H' → H' a = some (.lst (xs ++ zs)) → Q .non H') : rExtend (.ref a) [.ref b] H Q :=
  ⟨a, b, xs, zs, rfl, rfl, h, h', Nat.le_of_lt (small1000 hl), q _ (Fr.setL h) upd_same⟩
theorem sortT_q {K : PySem.W.Frag} {H : Hp} {x : V} {ds : List PyData} {Q : VK} (h : Rep K H (.tuple ds) x) (al : PySem.W.AllAlike ds) (so : PySem.W.Sortable ds) (dp : ∀ d ∈ ds, d.depth ≤ 40) (hl : ds.length ≤ sizeLine)
    (q : ∀ H' p ys es, es.Perm ds → Asc es → AN.Fr [] H H' → H p = none → H' p = some (.lst ys) → Reps K H' es ys → Q (.ref p) H') : rSorted2 K [x] H Q := .inr (.inr (.inl ⟨x, ds, rfl, h, al, so, dp, hl, q⟩))
theorem G_row {ons : List Str} {pairs : List Pr} {r : Rw} (C : Ctx ons pairs) (h : OkR ons pairs r) : G 5 (rowD r) := by
  refine .tup (fun d hd => ?_) (by have := h.len C; rw [List.length_map]; omega)
  obtain ⟨e, he, rfl⟩ := List.mem_map.mp hd
  have h1 := h.ok e he
  have gC : G 3 (Cs.toD e.2) := by
    have h2 := h1.2
    cases e2 : e.2 with
    | all => exact .str (by decide +kernel)
    | ps l =>
      rw [e2] at h2
      exact .tup (G.prs (okd_ps.mp (h2.okd C))) (by have : l.length ≤ 16 := OkC.size C h2; rw [List.length_map]; omega)
  exact .tup (.cons (.str (C.os _ h1.1)) (.cons gC .nil)) (Nat.le_of_ble_eq_true rfl)
theorem RS.app {K : PySem.W.Frag} {H : Hp} {us vs : List V} {rs ss : List Rw} (h : RS K H us rs) (g : RS K H vs ss) : RS K H (us ++ vs) (rs ++ ss) := by
  refine ⟨by rw [List.length_append, List.length_append, h.1, g.1], fun i r e => ?_⟩
  by_cases hi : i < rs.length
  · rw [List.getElem?_append_left hi] at e
    obtain ⟨p, e1, t⟩ := h.2 i r e
    exact ⟨p, by rw [List.getElem?_append_left (by rw [h.1]; exact hi)]; exact e1, t⟩
  · rw [List.getElem?_append_right (by omega)] at e
    obtain ⟨p, e1, t⟩ := g.2 _ r e
    exact ⟨p, by rw [List.getElem?_append_right (by rw [h.1]; omega), h.1]; exact e1, t⟩
/-- what the law's draws of names leave -/
theorem perm_pop {l : List Str} {i : Nat} {n : Str} (h : l[i]? = some n) : (n :: l.eraseIdx i).Perm l := by
  have hi := (List.getElem?_eq_some_iff.mp h).1
  have e : l = l.take i ++ n :: l.drop (i + 1) := by
    have h8 : l[i] = n := (List.getElem?_eq_some_iff.mp h).2
    rw [← h8, ← List.drop_eq_getElem_cons hi, List.take_append_drop]
  rw [List.eraseIdx_eq_take_drop_succ]
  conv => rhs; rw [e]
  exact List.perm_middle.symm
theorem map_erase (l : List Str) (i : Nat) : (l.map V.str).eraseIdx i = (l.eraseIdx i).map V.str := by
  rw [List.eraseIdx_eq_take_drop_succ, List.eraseIdx_eq_take_drop_succ, List.map_append, List.map_take, List.map_drop]
def spLaw (K : PySem.W.Frag) : Sp := fun vs H Q _ => ∃ (s : Addr) (ns : List Int), vs = [.ref s] ∧ SqL K H s (ns.map V.int) ∧ ns.length ≤ 63 ∧ ∀ H', Q (.bl true) H'
theorem ok_law (T : Top K mg) {fl : Addr} {fdl : FuncData} (F : Fun K "law" "law" s_law fl fdl) : FnOk P w K mg base CX0 40 fl fdl ["script"] (spLaw K) := by
  refine fun_ok F sc_law [none, none, none, none, none, none, none, none, none, none, none, none, none, none, none, none, none] rfl (fun vs H Q E h => ?_) (fun f cdv A outer s H vs Q E hk hr h => ?_)
  · obtain ⟨s, ns, rfl, _⟩ := h; rfl
  obtain ⟨sa, ns, rfl, hsq, hlen, q⟩ := h
  have hu := hu_of hr
  have C_law_begin := ok_law_begin (P := P) (w := w) (base := base) T
  have C_law_pool := ok_law_pool (P := P) (w := w) (base := base) T
  have C_law_draw := ok_law_draw (P := P) (w := w) (base := base) T
  have C_law_pick := ok_law_pick (P := P) (w := w) (base := base) T
  have C_law_pop := ok_law_pop (P := P) (w := w) (base := base) T
  have C_law_some_rows := ok_law_some_rows (P := P) (w := w) (base := base) T
  have C_law_some_row := ok_law_some_row (P := P) (w := w) (base := base) T
  have C_law_less := ok_law_less (P := P) (w := w) (base := base) T
  have C_law_join := ok_law_join (P := P) (w := w) (base := base) T
  have C_law_row_tuple := ok_law_row_tuple (P := P) (w := w) (base := base) T
  have C_joint_row := ok_joint_row (P := P) (w := w) (base := base) T
  have C_law_order_holds := ok_law_order_holds (P := P) (w := w) (base := base) T
  have C_law_says := ok_law_says (P := P) (w := w) (base := base) T
  have C_is_row := ok_is_row (P := P) (w := w) (base := base) T
  have C_law_bent := ok_law_bent (P := P) (w := w) (base := base) T
  have C_law_fits_row := ok_law_fits_row (P := P) (w := w) (base := base) T
  refine ⟨_, (pss_cons (ps_set (i := 1) sc_law.nd rfl (Or.inr rfl) (pe_cal C_law_begin (hr.mono (by omega)) (by rfl) pass0 (pa_cons (pv 0) pa_nil))) (pss_cons (ps_set (i := 2) sc_law.nd rfl (Or.inr rfl) (pe_cal0 C_law_pool (hr.mono (by omega)) (by rfl) pass0)) (pss_cons (ps_set (i := 3) sc_law.nd rfl (Or.inr rfl) (pe_callTy (call_tupGK (K := K) rfl) (by rfl) T.m_tuple (by decide +kernel) (pa_cons (pe_lc (own := [("k", 12)]) (g := gName 12) rfl sc_law.nd (pi_range1 (by rfl) T.m_range (pa_cons (pe_cal C_law_draw (hr.mono (by omega)) (by rfl) pass0 (pa_cons (pv 1) (pa_cons pe_int pa_nil))) pa_nil)) (blkOk_by (N := N_law) (sc := defScope s_law) (by decide +kernel)) (fun _ _ _ _ _ => pg_name (i := 12) sc_law.nd rfl (Or.inl rfl)) (fun _ _ _ _ _ => pts_nil) (fun _ _ _ _ _ => (pe_tup (pa_cons (pe_cal C_law_pop (hr.mono (by omega)) (by rfl) pass0 (pa_cons (pv 1) (pa_cons (pv 2) pa_nil))) (pa_cons (pe_op (op_addGK (K := K) rfl) pe_int (pe_cal C_law_draw (hr.mono (by omega)) (by rfl) pass0 (pa_cons (pv 1) (pa_cons pe_int pa_nil)))) (pa_cons (pe_cal C_law_draw (hr.mono (by omega)) (by rfl) pass0 (pa_cons (pv 1) (pa_cons pe_int pa_nil))) pa_nil)))))) pa_nil))) (pss_cons (ps_set (i := 4) sc_law.nd rfl (Or.inl rfl) (pe_callTy (call_tupGK (K := K) rfl) (by rfl) T.m_tuple (by decide +kernel) (pa_cons (pe_lc (own := [("k", 12)]) (g := gName 12) rfl sc_law.nd (pi_range1 (by rfl) T.m_range (pa_cons (pe_cal C_law_draw (hr.mono (by omega)) (by rfl) pass0 (pa_cons (pv 1) (pa_cons pe_int pa_nil))) pa_nil)) (blkOk_by (N := N_law) (sc := defScope s_law) (by decide +kernel)) (fun _ _ _ _ _ => pg_name (i := 12) sc_law.nd rfl (Or.inl rfl)) (fun _ _ _ _ _ => pts_nil) (fun _ _ _ _ _ => (pe_cal C_law_pop (hr.mono (by omega)) (by rfl) pass0 (pa_cons (pv 1) (pa_cons (pv 2) pa_nil))))) pa_nil))) (pss_cons (ps_set (i := 5) sc_law.nd rfl (Or.inr rfl) (pe_lst pa_nil)) (pss_cons (ps_for PassesOwn.never rfl (pi_seqK (K := K) rfl (pe_callB (call_sorted2K (K := K) rfl rfl hr.u65) (by rfl) T.m_sorted (by decide +kernel) (pa_cons (pv 4) pa_nil))) (pg_name (i := 6) sc_law.nd rfl (Or.inr rfl)) (pss_one (ps_expr (pe_bm PySem.F.plainAttrs_list PySem.F.slot_list_extend PySem.F.type_list_extend mt_extend (pv 5) (pa_cons (pe_callB (call_sorted2K (K := K) rfl rfl hr.u65) (by rfl) T.m_sorted (by decide +kernel) (pa_cons (pe_lc (own := [("p", 17)]) (g := gName 17) rfl sc_law.nd (pi_seqK (K := K) rfl (pv 3)) (blkOk_by (N := N_law) (sc := defScope s_law) (by decide +kernel)) (fun _ _ _ _ _ => pg_name (i := 17) sc_law.nd rfl (Or.inl rfl)) (fun _ _ _ _ _ => pts_nil) (fun _ _ _ _ _ => (pe_tup (pa_cons (pv 6) (pa_cons (pe_ix (ix_GK (K := K) rfl hu) (pv 17) pe_int (fun _ _ => rfl)) pa_nil))))) pa_nil)) pa_nil))))) (pss_cons (ps_set (i := 7) sc_law.nd rfl (Or.inl rfl) (pe_cal C_law_some_rows (hr.mono (by omega)) (by rfl) pass0 (pa_cons (pv 1) (pa_cons (pv 3) (pa_cons (pv 5) pa_nil))))) (pss_cons (ps_set (i := 8) sc_law.nd rfl (Or.inr rfl) pe_dnewK) (pss_cons (ps_for PassesOwn.never rfl (pi_seqK (K := K) rfl (pv 7)) (pg_name (i := 9) sc_law.nd rfl (Or.inl rfl)) (pss_one (ps_set (i := 8) sc_law.nd rfl (Or.inr rfl) (pe_cal C_law_join (hr.mono (by omega)) (by rfl) pass0 (pa_cons (pv 8) (pa_cons (pv 9) pa_nil)))))) (pss_cons (ps_set (i := 10) sc_law.nd rfl (Or.inl rfl) (pe_cal C_joint_row (hr.mono (by omega)) (by rfl) pass0 (pa_cons (pv 3) (pa_cons (pe_callTy (call_tupGK (K := K) rfl) (by rfl) T.m_tuple (by decide +kernel) (pa_cons (pe_lc (own := [("row", 9)]) (g := gName 9) rfl sc_law.nd (pi_seqK (K := K) rfl (pv 7)) (blkOk_by (N := N_law) (sc := defScope s_law) (by decide +kernel)) (fun _ _ _ _ _ => pg_name (i := 9) sc_law.nd rfl (Or.inl rfl)) (fun _ _ _ _ _ => pts_nil) (fun _ _ _ _ _ => (pe_cal C_law_row_tuple (hr.mono (by omega)) (by rfl) pass0 (pa_cons (pe_tup (pa_cons pe_int (pa_cons (pv 3) pa_nil))) (pa_cons (pv 9) pa_nil))))) pa_nil)) pa_nil)))) (pss_cons (ps_if (pt_cmpR (op_neGK (K := K) rfl hr.units) (pv 10) (pe_cal C_law_row_tuple (hr.mono (by omega)) (by rfl) pass0 (pa_cons (pe_tup (pa_cons pe_int (pa_cons (pv 3) pa_nil))) (pa_cons (pv 8) pa_nil))) (nomark _)) (pss_one (ps_ret pe_bl)) pss_nil) (pss_cons (ps_set (i := 11) sc_law.nd rfl (Or.inl rfl) (pe_op (op_addGK (K := K) rfl) (pv 7) (pe_lst (pa_cons pe_dnewK (pa_cons (pv 8) (pa_cons (pe_cal C_law_join (hr.mono (by omega)) (by rfl) pass0 (pa_cons (pv 8) (pa_cons (pe_cal C_law_some_row (hr.mono (by omega)) (by rfl) pass0 (pa_cons (pv 1) (pa_cons (pv 3) (pa_cons (pv 5) pa_nil)))) pa_nil))) pa_nil)))))) (pss_cons (ps_set (i := 11) sc_law.nd rfl (Or.inl rfl) (pe_op (op_addGK (K := K) rfl) (pv 11) (pe_lc (own := [("k", 12)]) (g := gName 12) rfl sc_law.nd (pi_range1 (by rfl) T.m_range (pa_cons pe_int pa_nil)) (blkOk_by (N := N_law) (sc := defScope s_law) (by decide +kernel)) (fun _ _ _ _ _ => pg_name (i := 12) sc_law.nd rfl (Or.inl rfl)) (fun _ _ _ _ _ => pts_nil) (fun _ _ _ _ _ => (pe_cal C_law_less (hr.mono (by omega)) (by rfl) pass0 (pa_cons (pv 1) (pa_cons (pv 8) (pa_cons (pv 5) pa_nil)))))))) (pss_cons (ps_if (pt_not (pt_val (pe_cal C_law_order_holds (hr.mono (by omega)) (by rfl) pass0 (pa_cons (pv 3) (pa_cons (pv 7) (pa_cons (pv 11) (pa_cons (pv 10) pa_nil))))))) (pss_one (ps_ret pe_bl)) pss_nil) (pss_cons (ps_for PassesOwn.never rfl (pi_seqK (K := K) rfl (pv 11)) (pg_name (i := 9) sc_law.nd rfl (Or.inl rfl)) (pss_one (ps_if (pt_not (pt_val (pe_cal C_law_says (hr.mono (by omega)) (by rfl) pass0 (pa_cons (pe_cal C_is_row (hr.mono (by omega)) (by rfl) pass0 (pa_cons (pv 3) (pa_cons (pv 4) (pa_cons (pe_cal C_law_row_tuple (hr.mono (by omega)) (by rfl) pass0 (pa_cons (pe_tup (pa_cons pe_int (pa_cons (pv 3) pa_nil))) (pa_cons (pv 9) pa_nil))) pa_nil)))) (pa_cons pe_bl pa_nil))))) (pss_one (ps_ret pe_bl)) pss_nil))) (pss_cons (ps_for PassesOwn.never rfl (pi_range1 (by rfl) T.m_range (pa_cons pe_int pa_nil)) (pg_name (i := 12) sc_law.nd rfl (Or.inl rfl)) (pss_cons (ps_asg (pe_cal C_law_bent (hr.mono (by omega)) (by rfl) pass0 (pa_cons (pv 1) (pa_cons (pv 3) (pa_cons (pv 4) (pa_cons (pe_cal C_law_row_tuple (hr.mono (by omega)) (by rfl) pass0 (pa_cons (pe_tup (pa_cons pe_int (pa_cons (pv 3) pa_nil))) (pa_cons (pe_cal C_law_pick (hr.mono (by omega)) (by rfl) pass0 (pa_cons (pv 1) (pa_cons (pv 11) pa_nil))) pa_nil))) pa_nil))))) (pg_tupK (K := K) (n := 3) rfl rfl (pgs_cons (pg_name (i := 13) sc_law.nd rfl (Or.inl rfl)) (pgs_cons (pg_name (i := 14) sc_law.nd rfl (Or.inl rfl)) (pgs_cons (pg_name (i := 15) sc_law.nd rfl (Or.inl rfl)) pgs_nil))))) (pss_cons (ps_set (i := 16) sc_law.nd rfl (Or.inl rfl) (pe_cal C_law_fits_row (hr.mono (by omega)) (by rfl) pass0 (pa_cons (pe_lc (own := [("p", 17)]) (g := gName 17) rfl sc_law.nd (pi_seqK (K := K) rfl (pv 13)) (blkOk_by (N := N_law) (sc := defScope s_law) (by decide +kernel)) (fun _ _ _ _ _ => pg_name (i := 17) sc_law.nd rfl (Or.inl rfl)) (fun _ _ _ _ _ => pts_nil) (fun _ _ _ _ _ => (pe_ix (ix_GK (K := K) rfl hu) (pv 17) pe_int (fun _ _ => rfl)))) (pa_cons (pv 14) (pa_cons (pv 15) pa_nil))))) (pss_one (ps_if (pt_not (pt_val (pe_cal C_law_says (hr.mono (by omega)) (by rfl) pass0 (pa_cons (pe_cal C_is_row (hr.mono (by omega)) (by rfl) pass0 (pa_cons (pv 13) (pa_cons (pv 14) (pa_cons (pv 15) pa_nil)))) (pa_cons (pv 16) pa_nil))))) (pss_one (ps_ret pe_bl)) pss_nil))))) (pss_one (ps_ret pe_bl)))))))))))))))))), ?_⟩
  kpt_turns
  regloopunroll_open
  refine ⟨sa, ns, rfl, hsq, hlen, fun H1 a c f1 na nc hd1 => ?_⟩
  regloopunroll_open
  refine ⟨rfl, fun H2 N f2 nN eN => ?_⟩
  have hd2 := hd1.fr0 f2
  have hNa := hd1.neL nN
  have hNc := hd1.neC nN
  regloopunroll_open
  rename_i H3 k3 f3 hd3 hk3
  have eN3 := f3.at1 eN hNa
  have lpool : poolL.length = 73 := pool_len
  refine lcR1_q (k := k3) rfl (by omega) (fun D i H' => Fr [N, a] H3 H' ∧ DrawOk H' a c ∧ ∃ (rem : List Str) (ops : List Op) (zs : List V), H' N = some (.lst (rem.map V.str)) ∧ H' D = some (.lst zs) ∧ Reps K H' (ops.map opD) zs ∧ ops.length = i ∧ (ops.map (·.1) ++ rem).Perm poolL) (fun D nD => ⟨(Fr.new nD).of0, hd3.fr0 (Fr.new nD), poolL, [], [], (Fr.new nD).at eN3, upd_same, reps_nil, rfl, List.Perm.refl _⟩) (fun D i H' nD hi p => ?_) (fun D H4 nD p => ?_)
  · obtain ⟨fr, hd, rem, ops, zs, e1, e2, rz, lo, hp⟩ := p
    have hDa := hd3.neL nD
    have hDc := hd3.neC nD
    have hDN : D ≠ N := (ne_of_none eN3 nD).symm
    have lrem : rem.length + i = 73 := by
      have := hp.length_eq
      rw [List.length_append, List.length_map, lo, lpool] at this
      omega
    regloopunroll_open
    refine ⟨rfl, ?_⟩
    regloopunroll_open
    refine ⟨a, c, N, rem.map V.str, rfl, hd, e1, hNa, hNc, by rw [List.length_map]; omega, by rw [List.length_map]; omega, fun H5 j v f5 hd5 ev e5 => ?_⟩
    rw [List.getElem?_map] at ev
    obtain ⟨nm, enm, rfl⟩ := Option.map_eq_some_iff.mp ev
    rw [map_erase] at e5
    regloopunroll_open
    rename_i H6 k6 f6 hd6 hk6 H7 k7 f7 hd7 hk7 H8 v8 f8 r8
    have g : Fr [N, a] H' H8 := ((f5.more f6 (by simp)).more f7 (by simp)).step0 f8
    have eD8 := g.keep _ _ e2 (by simpa using ⟨hDN, hDa⟩)
    have eN8 := f8.at (f7.at1 (f6.at1 e5 hNa) hNa)
    have gD : Fr [D] H8 (upd H8 D (.lst (zs ++ [v8]))) := Fr.setL eD8
    refine ⟨zs, eD8, ?_, (fr.step g).trans gD (fun b m => .inr (by rw [List.mem_singleton.mp m]; exact nD)), (hd7.fr0 f8).fr1 gD hDa hDc, rem.eraseIdx j, ops ++ [(nm, 1 + (k6 : Int), (k7 : Int))], zs ++ [v8], gD.at1 eN8 hDN.symm, upd_same, ?_, by simp [lo], ?_⟩
    · have := rz.length
      rw [List.length_map] at this
      exact small1000 (by omega)
    · rw [List.map_append]
      exact ((rz.up g).up gD).append (reps_one (r8.up gD))
    · refine List.Perm.trans ?_ hp
      rw [List.map_append, List.append_assoc]
      exact List.Perm.append_left _ (perm_pop enm)
  obtain ⟨fr4, hd4, rem, ops, zs, eN4, eD, rz, lo, hp⟩ := p
  have lrem : rem.length + k3 = 73 := by
    have := hp.length_eq
    rw [List.length_append, List.length_map, lo, lpool] at this
    omega
  regloopunroll_open
  rename_i H5 po f5 n5 e5 H6 k6 f6 hd6 hk6
  have xo5 : Rep K H5 (.tuple (ops.map opD)) (.ref po) := rep_tup e5 (rz.up f5)
  have eN6 := f6.at1 (f5.at eN4) hNa
  refine lcR1_q (k := k6) rfl (by omega) (fun D2 i H' => Fr [N, a] H6 H' ∧ DrawOk H' a c ∧ ∃ (rem2 bl : List Str), H' N = some (.lst (rem2.map V.str)) ∧ H' D2 = some (.lst (bl.map V.str)) ∧ bl.length = i ∧ (bl ++ rem2).Perm rem) (fun D2 nD2 => ⟨(Fr.new nD2).of0, hd6.fr0 (Fr.new nD2), rem, [], (Fr.new nD2).at eN6, upd_same, rfl, List.Perm.refl _⟩) (fun D2 i H' nD2 hi p => ?_) (fun D2 H7 nD2 p => ?_)
  · obtain ⟨fr, hd, rem2, bl, e1, e2, lo2, hp2⟩ := p
    have hDa := hd6.neL nD2
    have hDc := hd6.neC nD2
    have hDN : D2 ≠ N := (ne_of_none eN6 nD2).symm
    have lrem2 : rem2.length + i = rem.length := by
      have := hp2.length_eq
      rw [List.length_append, lo2] at this
      omega
    regloopunroll_open
    refine ⟨rfl, ?_⟩
    regloopunroll_open
    refine ⟨a, c, N, rem2.map V.str, rfl, hd, e1, hNa, hNc, by rw [List.length_map]; omega, by rw [List.length_map]; omega, fun H8 j v f8 hd8 ev e8 => ?_⟩
    rw [List.getElem?_map] at ev
    obtain ⟨nm, enm, rfl⟩ := Option.map_eq_some_iff.mp ev
    rw [map_erase] at e8
    have eD8 := f8.keep _ _ e2 (by simpa using ⟨hDN, hDa⟩)
    have gD : Fr [D2] H8 (upd H8 D2 (.lst (bl.map V.str ++ [V.str nm]))) := Fr.setL eD8
    refine ⟨bl.map V.str, eD8, small1000 (by rw [List.length_map]; omega), (fr.step f8).trans gD (fun b m => .inr (by rw [List.mem_singleton.mp m]; exact nD2)), hd8.fr1 gD hDa hDc, rem2.eraseIdx j, bl ++ [nm], gD.at1 e8 hDN.symm, by rw [upd_same, List.map_append]; rfl, by simp [lo2], ?_⟩
    refine List.Perm.trans ?_ hp2
    rw [List.append_assoc]
    exact List.Perm.append_left _ (perm_pop enm)
  obtain ⟨fr7, hd7, rem2, blocks, eN7, eD2, lb, hp2⟩ := p
  -- the names
  have hpall : (ops.map (·.1) ++ (blocks ++ rem2)).Perm poolL := (List.Perm.append_left _ hp2).trans hp
  have ndall := hpall.nodup_iff.mpr pool_nd
  have ndo : (ops.map (·.1)).Nodup := (List.nodup_append.mp ndall).1
  have ndb : blocks.Nodup := (List.nodup_append.mp (List.nodup_append.mp ndall).2.1).1
  have sno : SN (ops.map (·.1)) := fun n hn => pool_ok n (hpall.mem_iff.mp (List.mem_append.mpr (.inl hn)))
  have snb : SN blocks := fun n hn => pool_ok n (hpall.mem_iff.mp (List.mem_append.mpr (.inr (List.mem_append.mpr (.inl hn)))))
  have lb2 : blocks.length ≤ 2 := by omega
  have lo8 : ops.length ≤ 8 := by omega
  have f57 : Fr [N, a] H5 H7 := (Fr.refl [N, a] H5 |>.more f6 (by simp)).step fr7
  have xo7 := xo5.up f57
  clear eN eN3 eN4 eN6 eN7 eD rz hp hp2 hpall ndall hd1 hd2 hd3 hd4 hd6 e5 xo5 lrem
  regloopunroll_open
  rename_i H8 pb f8 n8 e8 H9 pp f9 n9 e9
  have xb8 : Rep K H8 (.tuple (blocks.map .str)) (.ref pb) := rep_tup e8 (reps_strs _)
  have hd9 := (hd7.fr0 f8).fr0 f9
  have hpa : pp ≠ a := (hd7.fr0 f8).neL n9
  have hpc : pp ≠ c := (hd7.fr0 f8).neC n9
  have xo9 := (xo7.up f8).up f9
  have xb9 := xb8.up f9
  refine g_forL ?_
  regloopunroll_open
  refine sortT_q xb9 (fun d hd d' hd' => ?_) (.inr fun d hd => ?_) (fun d hd => ?_) (by rw [List.length_map]; exact Nat.le_of_lt (small1000 (by omega))) (fun H10 ps ys es hperm hasc f10 n10 e10 r10 => ?_)
  · obtain ⟨_, _, rfl⟩ := List.mem_map.mp hd
    obtain ⟨_, _, rfl⟩ := List.mem_map.mp hd'
    simp [PySem.W.alike]
  · obtain ⟨_, _, rfl⟩ := List.mem_map.mp hd
    simp
  · obtain ⟨_, _, rfl⟩ := List.mem_map.mp hd
    simp [PyData.depth]
  obtain ⟨bs, rfl, hpb, asc⟩ := asc_strs hperm hasc ndb
  have lbs : bs.length ≤ 2 := by rw [hpb.length_eq]; exact lb2
  have eys : ys = bs.map V.str := by
    have := r10.sv (List.all_eq_true.mpr fun d hd => by
      obtain ⟨_, _, rfl⟩ := List.mem_map.mp hd
      rfl)
    rw [this, List.map_map]
    rfl
  subst eys
  have hpps : pp ≠ ps := ne_of_none e9 n10
  have xo10 := xo9.up f10
  refine forL_q (.of e10) (fun i σ' H' => Fr [pp] H10 H' ∧ (∃ us, H' pp = some (.lst us) ∧ Reps K H' ((prsOf (bs.take i) (ops.map (·.1))).map prD) us) ∧ ∃ o6, σ' = [some (.ref sa), some (.ref a), some (.ref N), some (.ref po), some (.ref pb), some (.ref pp), o6, none, none, none, none, none, none, none, none, none, none, none]) ⟨Fr.refl _ _, ⟨[], f10.at e9, reps_nil⟩, _, rfl⟩ (fun i σ' H' p => .of (p.1.at1 e10 hpps.symm)) (fun i v σ' H11 ev p => ?_) (fun σ' H11 p => ?_)
  · obtain ⟨f11, ⟨us, e11, r11⟩, o6, rfl⟩ := p
    rw [List.getElem?_map] at ev
    obtain ⟨b, eb, rfl⟩ := Option.map_eq_some_iff.mp ev
    have xo11 := xo10.up f11
    regloopunroll_open
    refine g_lcT ?_
    regloopunroll_open
    refine lcT_rep xo11 (fun D3 j H' => Fr [] H11 H' ∧ ∃ ws, H' D3 = some (.lst ws) ∧ Reps K H' (((ops.take j).map fun o => (b, o.1)).map prD) ws) (fun D3 nD3 => ⟨Fr.new nD3, [], upd_same, reps_nil⟩) (fun D3 j H' nD3 p => ⟨_, p.1⟩) (fun D3 j d y' H' nD3 hd hy' p' => ?_) (fun D3 H12 nD3 p' => ?_)
    · obtain ⟨fr, ws, eD3, rw3⟩ := p'
      obtain ⟨o, eo, rfl⟩ := rows_at hd
      replace hy' : Rep K H' (.tuple [.str o.1, .int o.2.1, .int o.2.2]) y' := hy'
      regloopunroll_open
      refine ⟨rfl, ?_⟩
      regloopunroll_open
      rename_i H13 v13 f13 r13
      have gD : Fr [D3] H13 (upd H13 D3 (.lst (ws ++ [v13]))) := Fr.setL (f13.at eD3)
      refine ⟨ws, f13.at eD3, ?_, (fr.step f13).updN nD3 (f13.at eD3), _, upd_same, ?_⟩
      · have h1 := rw3.length
        rw [List.length_map, List.length_map, List.length_take] at h1
        exact small1000 (by omega)
      · rw [List.take_add_one, eo, Option.toList_some, List.map_append, List.map_append]
        exact ((rw3.up f13).up gD).append (reps_one (r13.up gD))
    obtain ⟨fr, ws, eD3, rw3⟩ := p'
    rw [List.length_map, List.take_length] at rw3
    regloopunroll_open
    refine sortedR_q eD3 rw3 (alike_prs _) (sortable_prs _) depth_prs (fun H14 p14 ys es hp14 ha14 f14 n14 e14 r14 => ?_)
    have e2 := srt_of hp14 ha14
    subst e2
    have e11' := f14.at (fr.at e11)
    have l1 := r11.length
    have l2 := r14.length
    rw [List.length_map, prs_len, List.length_map] at l1
    rw [List.length_map, (srt_perm _).length_eq, List.length_map] at l2
    have l3 : (bs.take i).length ≤ 2 := by rw [List.length_take]; omega
    have l4 : us.length + ys.length ≤ 1000 := by
      have : (bs.take i).length * ops.length ≤ 2 * 8 := Nat.mul_le_mul l3 lo8
      omega
    regloopunroll_open
    refine extend_q e11' e14 l4 (fun H15 f15 e15 => ?_)
    regloopunroll_open
    refine ⟨((f11.step0 fr).step0 f14).step f15, ⟨_, e15, ?_⟩, _, rfl⟩
    rw [List.take_add_one, eb, Option.toList_some, prs_snoc, List.map_append]
    refine (((r11.up fr).up f14).up f15).append ?_
    have := r14.up f15
    rw [List.map_map]
    exact this
  obtain ⟨f11, ⟨us, e11, r11⟩, o6, rfl⟩ := p
  rw [List.length_map, List.take_length] at r11
  have C : Ctx (ops.map (·.1)) (prsOf bs (ops.map (·.1))) := ⟨ndo, by rw [List.length_map]; exact lo8, by
    rw [prs_len, List.length_map]
    exact Nat.le_trans (Nat.mul_le_mul lbs lo8) (by decide), fun p hp => ⟨snb _ (hpb.mem_iff.mp (prs_mem.mp hp).1), sno _ (prs_mem.mp hp).2⟩, sno⟩
  have hord : Ord (prsOf bs (ops.map (·.1))) := prs_ord asc ndo
  have hprs : ∀ p ∈ prsOf bs (ops.map (·.1)), p.1 ∈ blocks ∧ p.2 ∈ ops.map (·.1) := fun p hp => ⟨hpb.mem_iff.mp (prs_mem.mp hp).1, (prs_mem.mp hp).2⟩
  have hPL : PL K H11 pp (prsOf bs (ops.map (·.1))) := ⟨us, e11, r11⟩
  generalize prsOf bs (ops.map (·.1)) = pairs at C hord hprs hPL
  have hd11 : DrawOk H11 a c := (hd9.fr0 f10).fr1 f11 hpa hpc
  have xo11 := xo10.up f11
  have xb11 := (xb9.up f10).up f11
  have hpab : ∀ {H' : Hp} {p : Addr} {r : Rw}, DrawOk H' a c → DW K H' Cs.toD p r → p ≠ a := fun {H' p r} hd t z => by
    obtain ⟨_, _, _, _, e, _⟩ := hd
    obtain ⟨kvs, e', _⟩ := t
    rw [z, e] at e'
    cases e'
  clear hd7 hd9 e8 e9 e10 e11 r10 r11 hperm hasc xo7 xo9 xo10 xb8 xb9 eD2
  regloopunroll_open
  refine ⟨a, c, _, pp, ops, pairs, rfl, hd11, xo11, hPL, hpa, C, hord, fun H12 L us rs f12 hd12 n12 e12 rs12 okr lrs => ?_⟩
  regloopunroll_open
  rename_i H13 j0 f13 n13 e13
  have hLa : L ≠ a := hd11.neL n12
  have hd13 := hd12.fr0 f13
  have rs13 := rs12.fr0 f13
  have e13L := f13.at e12
  have xo13 := (xo11.up f12).up f13
  have xb13 := (xb11.up f12).up f13
  have hPL13 := (hPL.fr f12 (by simpa using hpa)).fr f13 (by simp)
  have lus := rs12.1
  have ol8 : ops.length ≤ 8 := lo8
  clear e12 rs12 hd12 hd11 xo11 xb11 hPL f12
  refine g_forL ?_
  regloopunroll_open
  refine forL_q (.of e13L) (fun i σ' H' => Fr [] H13 H' ∧ (∃ j, DW K H' Cs.toD j ((rs.take i).foldl ljoin []) ∧ ∃ o9, σ' = [some (.ref sa), some (.ref a), some (.ref N), some (.ref po), some (.ref pb), some (.ref pp), o6, some (.ref L), some (.ref j), o9, none, none, none, none, none, none, none, none])) ⟨Fr.refl _ _, j0, ⟨[], e13, DR.nil⟩, _, rfl⟩ (fun i σ' H' p => .of (p.1.at e13L)) (fun i v σ' H' ev p => ?_) (fun σ' H14 p => ?_)
  · obtain ⟨fr, j, t, o9, rfl⟩ := p
    obtain ⟨r, p, er, rfl, tr⟩ := rs13.get ev
    regloopunroll_open
    refine ⟨j, p, _, r, _, pairs, rfl, t.is, tr.fr fr (by simp), C, foldjoin_ok (fun r hr => okr r (List.mem_of_mem_take hr)) ok_nil, okr r (List.mem_of_getElem? er), fun H' p' f' n' t' => ?_⟩
    regloopunroll_open
    refine ⟨fr.step f', p', ?_, _, rfl⟩
    rw [List.take_add_one, er, Option.toList_some, List.foldl_append]
    exact t'
  obtain ⟨f14, j, tj, o9, rfl⟩ := p
  rw [lus, List.take_length] at tj
  have okj := foldjoin_ok okr (ok_nil (ons := ops.map (·.1)) (pairs := pairs))
  have e14L := f14.at e13L
  have rs14 := rs13.fr0 f14
  have hd14 := hd13.fr0 f14
  have xo14 := xo13.up f14
  have xb14 := xb13.up f14
  have hPL14 := hPL13.fr f14 (by simp)
  clear e13 e13L rs13 hd13 xo13 xb13 hPL13 f13 n13 f14
  regloopunroll_open
  refine g_lcL ?_
  regloopunroll_open
  refine lcL_q (.of e14L) (fun D i H' => Fr [] H14 H' ∧ ∃ zs, H' D = some (.lst zs) ∧ Reps K H' ((rs.take i).map fun r => rowD (rowT (ops.map (·.1)) r)) zs) (fun D nD => ⟨Fr.new nD, [], upd_same, reps_nil⟩) (fun D i H' nD p => .of (p.1.at e14L)) (fun D i e H' nD he p' => ?_) (fun D H15 nD p' => ?_)
  · obtain ⟨fr, zs, eD, rz⟩ := p'
    obtain ⟨r, p, er, rfl, t⟩ := rs14.get he
    have t' := t.fr fr (by simp)
    have xo' := xo14.up fr
    regloopunroll_open
    refine ⟨rfl, ?_⟩
    regloopunroll_open
    rename_i H2 v2 f2 r2
    refine ⟨v2, p, ops, r, rfl, r2, (t'.fr f2 (by simp)).is, by omega, fun H3 v3 f3 r3 => ?_⟩
    have eD3 := f3.at (f2.at eD)
    refine ⟨zs, eD3, ?_, ((fr.step f2).step f3).updN nD eD3, zs ++ [v3], upd_same, ?_⟩
    · have h1 := rz.length
      rw [List.length_map, List.length_take] at h1
      exact small1000 (by omega)
    · rw [List.take_add_one, er, Option.toList_some, List.map_append]
      have g : Fr [D] H3 (upd H3 D (.lst (zs ++ [v3]))) := Fr.setL eD3
      exact (((rz.up f2).up f3).up g).append (reps_one (r3.up g))
  obtain ⟨f15, zs, eD, rz⟩ := p'
  rw [lus, List.take_length] at rz
  regloopunroll_open
  rename_i H16 p16 f16 n16 e16
  have f146 := f15.step f16
  refine ⟨.ref po, .ref p16, ops, rs.map (rowT (ops.map (·.1))), pairs, rfl, xo14.up f146, rep_tup e16 (by rw [List.map_map]; exact rz.up f16), C, fun r hr => ?_, fun H17 v17 f17 r17 => ?_⟩
  · obtain ⟨r', hr', rfl⟩ := List.mem_map.mp hr
    exact rowT_ok C.nd (okr r' hr')
  rw [joint_due C.nd okr] at r17
  have f147 := f146.step f17
  have e17L := f147.at e14L
  have rs17 := rs14.fr0 f147
  have hd17 := hd14.fr0 f147
  have xo17 := xo14.up f147
  have xb17 := xb14.up f147
  have hPL17 := hPL14.fr f147 (by simp)
  have t17 := tj.fr f147 (by simp)
  have gJ : G 5 (rowD (rowT (ops.map (·.1)) (rs.foldl ljoin []))) := G_row C (rowT_ok C.nd okj)
  clear e14L rs14 hd14 xo14 xb14 hPL14 tj eD rz e16 f15 f16 f17 f146 f147 n16
  regloopunroll_open
  rename_i H18 v18 f18 r18
  refine ⟨v18, j, ops, _, rfl, r18, (t17.fr f18 (by simp)).is, by omega, fun H19 v19 f19 r19 => ?_⟩
  have f179 := f18.step f19
  refine neXF (r17.up f179) r19 (gJ.okd (by decide)) (gJ.okd (by decide)) ((eqv_pl _ _ gJ.pl gJ.pl).mpr rfl) ?_
  have rJ19 := r17.up f179
  have e19L := f179.at e17L
  have rs19 := rs17.fr0 f179
  have hd19 := hd17.fr0 f179
  have xo19 := xo17.up f179
  have xb19 := xb17.up f179
  have hPL19 := hPL17.fr f179 (by simp)
  have t19 := t17.fr f179 (by simp)
  clear e17L rs17 hd17 xo17 xb17 hPL17 t17 f18 f19 f179 r17 r18 r19
  regloopunroll_open
  rename_i H20 j20 f20 n20 e20
  have t20 : DW K H20 Cs.toD j20 [] := ⟨[], e20, DR.nil⟩
  refine ⟨a, c, _, pp, ops, pairs, rfl, hd19.fr0 f20, xo19.up f20, hPL19.fr f20 (by simp), hpa, C, hord, fun H21 j21 r21 f21 hd21 n21 t21 ok21 => ?_⟩
  have hja : j ≠ a := hpab hd19 t19
  have hj20a : j20 ≠ a := hpab (hd19.fr0 f20) t20
  have tj21 := (t19.fr f20 (by simp)).fr f21 (by simpa using hja)
  regloopunroll_open
  refine ⟨j, j21, _, r21, _, pairs, rfl, tj21.is, t21, C, okj, ok21, fun H22 j22 f22 n22 t22 => ?_⟩
  regloopunroll_open
  rename_i H23 l23 f23 n23 e23
  have f203 : Fr [a] H20 H23 := (f21.step0 f22).step0 f23
  have g93 : Fr [a] H19 H23 := ((f20.of0).step f203)
  have e23L := g93.at1 e19L hLa
  have rs23 := rs19.frD g93 hd19
  have hd23 := (hd21.fr0 f22).fr0 f23
  have xo23 := xo19.up g93
  have xb23 := xb19.up g93
  have hPL23 := hPL19.fr g93 (by simpa using hpa)
  have rJ23 := rJ19.up g93
  have t23j := t19.fr g93 (by simpa using hja)
  have ex23 : RS K H23 [V.ref j20, V.ref j, V.ref j22] [[], rs.foldl ljoin [], ljoin (rs.foldl ljoin []) r21] :=
    ((RS.nil.snoc (t20.fr f203 (by simpa using hj20a))).snoc t23j).snoc (t22.fr f23 (by simp))
  clear e19L rs19 hd19 xo19 xb19 hPL19 rJ19 t19 t20 tj21 t21 t22 f20 f21 f22 f23 f203 g93 e20 hd21
  refine addG_lst e23L e23 (Nat.le_of_lt (small1000 (by simp only [List.length_cons, List.length_nil]; omega))) (fun H24 M f24 n24 e24 => ?_)
  have rs24 := (RS.app rs23 ex23).fr0 f24
  regloopunroll_open
  have ok3 : ∀ r ∈ rs ++ [[], rs.foldl ljoin [], ljoin (rs.foldl ljoin []) r21], OkR (ops.map (·.1)) pairs r := fun r hr => by
    simp only [List.mem_append, List.mem_cons, List.not_mem_nil, or_false] at hr
    rcases hr with hr | rfl | rfl | rfl
    · exact okr r hr
    · exact ok_nil
    · exact okj
    · exact join_ok okj ok21
  have len3 : (rs ++ [[], rs.foldl ljoin [], ljoin (rs.foldl ljoin []) r21]).length ≤ 9 := by simp only [List.length_append, List.length_cons, List.length_nil]; omega
  have lus3 := rs24.1
  generalize rs ++ [[], rs.foldl ljoin [], ljoin (rs.foldl ljoin []) r21] = e3 at rs24 ok3 len3 lus3
  generalize us ++ [V.ref j20, V.ref j, V.ref j22] = u3 at e24 rs24 lus3
  have hd24 := hd23.fr0 f24
  have xo24 := xo23.up f24
  have xb24 := xb23.up f24
  have hPL24 := hPL23.fr f24 (by simp)
  have rJ24 := rJ23.up f24
  have t24 := t23j.fr f24 (by simp)
  have e24L := f24.at e23L
  have rs24L := rs23.fr0 f24
  have hMa : M ≠ a := hd23.neL n24
  clear e23L e23 rs23 hd23 xo23 xb23 hPL23 rJ23 t23j ex23 f24 n24 ok21 n20 n21 n22 n23
  refine lcR1_q (k := 3) rfl (by decide) (fun D i H' => Fr [a] H24 H' ∧ DrawOk H' a c ∧ ∃ zs ls, H' D = some (.lst zs) ∧ RS K H' zs ls ∧ (∀ r ∈ ls, OkR (ops.map (·.1)) pairs r) ∧ ls.length = i) (fun D nD => ⟨(Fr.new nD).of0, hd24.fr0 (Fr.new nD), [], [], upd_same, RS.nil, fun r h => absurd h List.not_mem_nil, rfl⟩) (fun D i H' nD hi p => ?_) (fun D H25 nD p => ?_)
  · obtain ⟨fr, hd, zs, ls, eD, rz, okl, ll⟩ := p
    have hDa := hd24.neL nD
    have hDc := hd24.neC nD
    have lz := rz.1
    regloopunroll_open
    refine ⟨rfl, ?_⟩
    regloopunroll_open
    refine ⟨a, c, j, pp, _, _, pairs, rfl, hd, (t24.fr fr (by simpa using hja)).is, okj, hPL24.fr fr (by simpa using hpa), hpa, C, hord, fun H' p r f' hd' n' t' ok' => ?_⟩
    have eD' := f'.at1 eD hDa
    have gD : Fr [D] H' (upd H' D (.lst (zs ++ [V.ref p]))) := Fr.setL eD'
    refine ⟨zs, eD', small1000 (by omega), (fr.step f').over1 nD gD, hd'.fr1 gD hDa hDc, _, ls ++ [r], upd_same, ((rz.frD f' hd).frL gD eD').snoc (t'.fr gD fun z => ?_), fun r' h => ?_, by simp [ll]⟩
    · obtain ⟨kvs, e, _⟩ := t'
      rw [List.mem_singleton.mp z, eD'] at e
      cases e
    · rcases List.mem_append.mp h with h | h
      · exact okl r' h
      · rw [List.mem_singleton.mp h]; exact ok'
  obtain ⟨f25, hd25, zs, ls, eD, rz, okl, ll⟩ := p
  have e25 := f25.at1 e24 hMa
  have rs25 := rs24.frD f25 hd24
  have e25L := f25.at1 e24L hLa
  have rs25L := rs24L.frD f25 hd24
  have xo25 := xo24.up f25
  have xb25 := xb24.up f25
  have rJ25 := rJ24.up f25
  have lz := rz.1
  clear e24 rs24 e24L rs24L hd24 xo24 xb24 hPL24 rJ24 t24 f25
  refine addG_lst e25 eD (Nat.le_of_lt (small1000 (by omega))) (fun H26 W f26 n26 e26 => ?_)
  have rs26 := (RS.app rs25 rz).fr0 f26
  have okW : ∀ r ∈ e3 ++ ls, OkR (ops.map (·.1)) pairs r := fun r hr => (List.mem_append.mp hr).elim (ok3 r) (okl r)
  have lW : (e3 ++ ls).length ≤ 12 := by rw [List.length_append]; omega
  have lW0 : 0 < (e3 ++ ls).length := by rw [List.length_append]; omega
  have lw := rs26.1
  generalize e3 ++ ls = es at rs26 okW lW lW0 lw
  generalize u3 ++ zs = ws at rs26 e26 lw
  have hd26 := hd25.fr0 f26
  have hWa : W ≠ a := hd25.neL n26
  have e26L := f26.at e25L
  have rs26L := rs25L.fr0 f26
  have xo26 := xo25.up f26
  have xb26 := xb25.up f26
  have rJ26 := rJ25.up f26
  clear e25 rs25 e25L rs25L hd25 xo25 xb25 rJ25 eD rz n26 f26 okl ok3
  regloopunroll_open
  refine ⟨.ref po, v17, L, W, ops, us, ws, rs, es, pairs, rfl, xo26, e26L, rs26L, e26, rs26, rJ26, C, okr, okW, by omega, by omega, fun H27 f27 => ?_⟩
  have e27 := f27.at e26
  have rs27 := rs26.fr0 f27
  have hd27 := hd26.fr0 f27
  have xo27 := xo26.up f27
  have xb27 := xb26.up f27
  clear e26 rs26 hd26 xo26 xb26 rJ26 f27 e26L rs26L
  regloopunroll_open
  refine g_forL ?_
  regloopunroll_open
  refine forL_q (.of e27) (fun i σ' H' => Fr [] H27 H' ∧ ∃ o9, σ' = [some (.ref sa), some (.ref a), some (.ref N), some (.ref po), some (.ref pb), some (.ref pp), o6, some (.ref L), some (.ref j), o9, some v17, some (.ref W), none, none, none, none, none, none]) ⟨Fr.refl _ _, _, rfl⟩ (fun i σ' H' p => .of (p.1.at e27)) (fun i v σ' H' ev p => ?_) (fun σ' H28 p => ?_)
  · obtain ⟨fr, o9', rfl⟩ := p
    obtain ⟨r, p, er, rfl, t⟩ := rs27.get ev
    have t' := t.fr fr (by simp)
    have xo' := xo27.up fr
    have xb' := xb27.up fr
    have okrr := okW r (List.mem_of_getElem? er)
    have gR := G_row C (rowT_ok C.nd okrr)
    regloopunroll_open
    rename_i H2 v2 f2 r2
    refine ⟨v2, p, ops, r, rfl, r2, (t'.fr f2 (by simp)).is, by omega, fun H3 v3 f3 r3 => ?_⟩
    regloopunroll_open
    refine ⟨.ref po, .ref pb, v3, ops, blocks, _, rfl, (xo'.up f2).up f3, .inl ((xb'.up f2).up f3), r3, snb, C.os, by omega, gR.okd (by decide), gR.smr, fun H4 f4 => ?_⟩
    rw [okRow_rowT C.nd okrr hprs]
    regloopunroll_open
    refine ⟨_, _, rfl, ?_⟩
    refine g_bl ?_
    refine ifNF rfl ?_
    regloopunroll_open
    exact ⟨((fr.step f2).step f3).step f4, _, rfl⟩
  obtain ⟨f28, o9', rfl⟩ := p
  have e28 := f28.at e27
  have rs28 := rs27.fr0 f28
  have hd28 := hd27.fr0 f28
  have xo28 := xo27.up f28
  have xb28 := xb27.up f28
  clear e27 rs27 hd27 xo27 xb27 f28
  regloopunroll_open
  refine forR1_q (k := 12) rfl (by decide) (fun i σ' H' => Fr [a] H28 H' ∧ DrawOk H' a c ∧ ∃ o12 o13 o14 o15 o16, σ' = [some (.ref sa), some (.ref a), some (.ref N), some (.ref po), some (.ref pb), some (.ref pp), o6, some (.ref L), some (.ref j), o9', some v17, some (.ref W), o12, o13, o14, o15, o16, none]) ⟨Fr.refl _ _, hd28, _, _, _, _, _, rfl⟩ (fun i σ' H' hi p => ?_) (fun σ' H' p => ?_)
  · obtain ⟨fr, hd, o12, o13, o14, o15, o16, rfl⟩ := p
    have e' := fr.at1 e28 hWa
    have rs' := rs28.frD fr hd28
    have xo' := xo28.up fr
    have xb' := xb28.up fr
    regloopunroll_open
    rename_i H2 v2 f2 r2
    refine pick_q (hd.fr0 f2) (.of (f2.at e')) hWa (by omega) (by omega) (fun H3 i3 v3 f3 hd3 e3 => ?_)
    obtain ⟨r, p, er, rfl, t⟩ := (rs'.fr0 f2).get e3
    have hpa3 : p ≠ a := hpab (hd.fr0 f2) t
    have okrr := okW r (List.mem_of_getElem? er)
    regloopunroll_open
    refine ⟨v2, p, ops, r, rfl, r2.up f3, (t.fr f3 (by simpa using hpa3)).is, by omega, fun H4 v4 f4 r4 => ?_⟩
    have f24 : Fr [a] H' H4 := ((f2.of0).step f3).step0 f4
    regloopunroll_open
    refine ⟨a, c, .ref po, .ref pb, v4, ops, blocks, pairs, _, rfl, hd3.fr0 f4, xo'.up f24, xb'.up f24, r4, C, snb, by omega, rowT_ok C.nd okrr, fun H5 v5 ops' blocks' d' f5 hd5 r5 sn' sb' l' g' => ?_⟩
    regloopunroll_open
    rename_i x1 x2 x3 h1 h2 h3
    replace h1 : Rep K H5 (.tuple (ops'.map opD)) x1 := h1
    refine g_lcT ?_
    regloopunroll_open
    refine lcT_rep h1 (fun D i H' => Fr [] H5 H' ∧ H' D = some (.lst (((ops'.take i).map (·.1)).map V.str))) (fun D nD => ⟨Fr.new nD, upd_same⟩) (fun D i H' nD p => ⟨_, p.1⟩) (fun D i e y' H' nD he hy' p' => ?_) (fun D H6 nD p' => ?_)
    · obtain ⟨fr, eD⟩ := p'
      obtain ⟨o, eo, rfl⟩ := rows_at he
      replace hy' : Rep K H' (.tuple [.str o.1, .int o.2.1, .int o.2.2]) y' := hy'
      regloopunroll_open
      refine ⟨rfl, ?_⟩
      regloopunroll_open
      refine ⟨_, eD, ?_, fr.updN nD eD, ?_⟩
      · have h1 : (ops'.take i).length ≤ ops'.length := by rw [List.length_take]; omega
        exact small1000 (by rw [List.length_map, List.length_map]; omega)
      · rw [upd_same, List.take_add_one, eo]
        simp
    obtain ⟨f6, eD⟩ := p'
    rw [List.length_map, List.take_length] at eD
    regloopunroll_open
    refine ⟨D, x2, x3, blocks', _, d', rfl, eD, .inl (h2.up f6), h3.up f6, sb', sn', g'.okd (by decide), g'.smr, ?_⟩
    regloopunroll_open
    refine ⟨x1, x2, x3, ops', blocks', d', rfl, h1.up f6, .inl (h2.up f6), h3.up f6, sb', sn', by omega, g'.okd (by decide), g'.smr, fun H7 f7 => ?_⟩
    regloopunroll_open
    refine ⟨_, _, rfl, ?_⟩
    refine g_bl ?_
    refine ifNF rfl ?_
    regloopunroll_open
    exact ⟨(((fr.step f24).step f5).step0 f6).step0 f7, (hd5.fr0 f6).fr0 f7, _, _, _, _, _, rfl⟩
  · obtain ⟨fr, hd, o12, o13, o14, o15, o16, rfl⟩ := p
    regloopunroll_open
    exact q _

end
theorem top_mk {K : PySem.W.Frag} {h : Heap} {mg : Str → Option Value} (X : K.In h) (G : h.Ns mainGlobals mg)
    {f0 : Addr} {od0 an0 : Option Addr} {sl0 : Array (Option Value)} {oc0 kV0 dc0 pm0 cd0 ct0 : Value}
    {f1 : Addr} {od1 an1 : Option Addr} {sl1 : Array (Option Value)} {oc1 kV1 dc1 pm1 cd1 ct1 : Value}
    {f2 : Addr} {od2 an2 : Option Addr} {sl2 : Array (Option Value)} {oc2 kV2 dc2 pm2 cd2 ct2 : Value}
    {f3 : Addr} {od3 an3 : Option Addr} {sl3 : Array (Option Value)} {oc3 kV3 dc3 pm3 cd3 ct3 : Value}
    {f4 : Addr} {od4 an4 : Option Addr} {sl4 : Array (Option Value)} {oc4 kV4 dc4 pm4 cd4 ct4 : Value}
    {f5 : Addr} {od5 an5 : Option Addr} {sl5 : Array (Option Value)} {oc5 kV5 dc5 pm5 cd5 ct5 : Value}
    {f6 : Addr} {od6 an6 : Option Addr} {sl6 : Array (Option Value)} {oc6 kV6 dc6 pm6 cd6 ct6 : Value}
    {f7 : Addr} {od7 an7 : Option Addr} {sl7 : Array (Option Value)} {oc7 kV7 dc7 pm7 cd7 ct7 : Value}
    {f8 : Addr} {od8 an8 : Option Addr} {sl8 : Array (Option Value)} {oc8 kV8 dc8 pm8 cd8 ct8 : Value}
    {f9 : Addr} {od9 an9 : Option Addr} {sl9 : Array (Option Value)} {oc9 kV9 dc9 pm9 cd9 ct9 : Value}
    {f10 : Addr} {od10 an10 : Option Addr} {sl10 : Array (Option Value)} {oc10 kV10 dc10 pm10 cd10 ct10 : Value}
    {f11 : Addr} {od11 an11 : Option Addr} {sl11 : Array (Option Value)} {oc11 kV11 dc11 pm11 cd11 ct11 : Value}
    {f12 : Addr} {od12 an12 : Option Addr} {sl12 : Array (Option Value)} {oc12 kV12 dc12 pm12 cd12 ct12 : Value}
    {f13 : Addr} {od13 an13 : Option Addr} {sl13 : Array (Option Value)} {oc13 kV13 dc13 pm13 cd13 ct13 : Value}
    {f14 : Addr} {od14 an14 : Option Addr} {sl14 : Array (Option Value)} {oc14 kV14 dc14 pm14 cd14 ct14 : Value}
    {f15 : Addr} {od15 an15 : Option Addr} {sl15 : Array (Option Value)} {oc15 kV15 dc15 pm15 cd15 ct15 : Value}
    {f16 : Addr} {od16 an16 : Option Addr} {sl16 : Array (Option Value)} {oc16 kV16 dc16 pm16 cd16 ct16 : Value}
    {f17 : Addr} {od17 an17 : Option Addr} {sl17 : Array (Option Value)} {oc17 kV17 dc17 pm17 cd17 ct17 : Value}
    {f18 : Addr} {od18 an18 : Option Addr} {sl18 : Array (Option Value)} {oc18 kV18 dc18 pm18 cd18 ct18 : Value}
    {f19 : Addr} {od19 an19 : Option Addr} {sl19 : Array (Option Value)} {oc19 kV19 dc19 pm19 cd19 ct19 : Value}
    {f20 : Addr} {od20 an20 : Option Addr} {sl20 : Array (Option Value)} {oc20 kV20 dc20 pm20 cd20 ct20 : Value}
    {f21 : Addr} {od21 an21 : Option Addr} {sl21 : Array (Option Value)} {oc21 kV21 dc21 pm21 cd21 ct21 : Value}
    {f22 : Addr} {od22 an22 : Option Addr} {sl22 : Array (Option Value)} {oc22 kV22 dc22 pm22 cd22 ct22 : Value}
    {f23 : Addr} {od23 an23 : Option Addr} {sl23 : Array (Option Value)} {oc23 kV23 dc23 pm23 cd23 ct23 : Value}
    {f24 : Addr} {od24 an24 : Option Addr} {sl24 : Array (Option Value)} {oc24 kV24 dc24 pm24 cd24 ct24 : Value}
    {f25 : Addr} {od25 an25 : Option Addr} {sl25 : Array (Option Value)} {oc25 kV25 dc25 pm25 cd25 ct25 : Value}
    {f26 : Addr} {od26 an26 : Option Addr} {sl26 : Array (Option Value)} {oc26 kV26 dc26 pm26 cd26 ct26 : Value}
    (a0 : PySem.W.nsIn K mainGlobals "cause_of" = some (some (.ref f0))) (l0 : K.lookup f0 = some ⟨oc0, od0, .func (PySem.W.fnOf "cause_of" "cause_of" (defArgs s_cause_of) (defBody s_cause_of) (defScope s_cause_of) .none kV0 dc0 pm0 an0 cd0 ct0), sl0⟩) (c0 : PySem.W.codeIn K cd0 "cause_of" = true) (k0 : PySem.W.keepIn K (.ref f0) = true)
    (a1 : PySem.W.nsIn K mainGlobals "joint_cause" = some (some (.ref f1))) (l1 : K.lookup f1 = some ⟨oc1, od1, .func (PySem.W.fnOf "joint_cause" "joint_cause" (defArgs s_joint_cause) (defBody s_joint_cause) (defScope s_joint_cause) .none kV1 dc1 pm1 an1 cd1 ct1), sl1⟩) (c1 : PySem.W.codeIn K cd1 "joint_cause" = true) (k1 : PySem.W.keepIn K (.ref f1) = true)
    (a2 : PySem.W.nsIn K mainGlobals "joint_row" = some (some (.ref f2))) (l2 : K.lookup f2 = some ⟨oc2, od2, .func (PySem.W.fnOf "joint_row" "joint_row" (defArgs s_joint_row) (defBody s_joint_row) (defScope s_joint_row) .none kV2 dc2 pm2 an2 cd2 ct2), sl2⟩) (c2 : PySem.W.codeIn K cd2 "joint_row" = true) (k2 : PySem.W.keepIn K (.ref f2) = true)
    (a3 : PySem.W.nsIn K mainGlobals "cause_within" = some (some (.ref f3))) (l3 : K.lookup f3 = some ⟨oc3, od3, .func (PySem.W.fnOf "cause_within" "cause_within" (defArgs s_cause_within) (defBody s_cause_within) (defScope s_cause_within) .none kV3 dc3 pm3 an3 cd3 ct3), sl3⟩) (c3 : PySem.W.codeIn K cd3 "cause_within" = true) (k3 : PySem.W.keepIn K (.ref f3) = true)
    (a4 : PySem.W.nsIn K mainGlobals "is_within" = some (some (.ref f4))) (l4 : K.lookup f4 = some ⟨oc4, od4, .func (PySem.W.fnOf "is_within" "is_within" (defArgs s_is_within) (defBody s_is_within) (defScope s_is_within) .none kV4 dc4 pm4 an4 cd4 ct4), sl4⟩) (c4 : PySem.W.codeIn K cd4 "is_within" = true) (k4 : PySem.W.keepIn K (.ref f4) = true)
    (a5 : PySem.W.nsIn K mainGlobals "is_pair" = some (some (.ref f5))) (l5 : K.lookup f5 = some ⟨oc5, od5, .func (PySem.W.fnOf "is_pair" "is_pair" (defArgs s_is_pair) (defBody s_is_pair) (defScope s_is_pair) .none kV5 dc5 pm5 an5 cd5 ct5), sl5⟩) (c5 : PySem.W.codeIn K cd5 "is_pair" = true) (k5 : PySem.W.keepIn K (.ref f5) = true)
    (a6 : PySem.W.nsIn K mainGlobals "is_cause" = some (some (.ref f6))) (l6 : K.lookup f6 = some ⟨oc6, od6, .func (PySem.W.fnOf "is_cause" "is_cause" (defArgs s_is_cause) (defBody s_is_cause) (defScope s_is_cause) .none kV6 dc6 pm6 an6 cd6 ct6), sl6⟩) (c6 : PySem.W.codeIn K cd6 "is_cause" = true) (k6 : PySem.W.keepIn K (.ref f6) = true)
    (a7 : PySem.W.nsIn K mainGlobals "is_row" = some (some (.ref f7))) (l7 : K.lookup f7 = some ⟨oc7, od7, .func (PySem.W.fnOf "is_row" "is_row" (defArgs s_is_row) (defBody s_is_row) (defScope s_is_row) .none kV7 dc7 pm7 an7 cd7 ct7), sl7⟩) (c7 : PySem.W.codeIn K cd7 "is_row" = true) (k7 : PySem.W.keepIn K (.ref f7) = true)
    (a8 : PySem.W.nsIn K mainGlobals "_law_begin" = some (some (.ref f8))) (l8 : K.lookup f8 = some ⟨oc8, od8, .func (PySem.W.fnOf "_law_begin" "_law_begin" (defArgs s_law_begin) (defBody s_law_begin) (defScope s_law_begin) .none kV8 dc8 pm8 an8 cd8 ct8), sl8⟩) (c8 : PySem.W.codeIn K cd8 "_law_begin" = true) (k8 : PySem.W.keepIn K (.ref f8) = true)
    (a9 : PySem.W.nsIn K mainGlobals "_law_draw" = some (some (.ref f9))) (l9 : K.lookup f9 = some ⟨oc9, od9, .func (PySem.W.fnOf "_law_draw" "_law_draw" (defArgs s_law_draw) (defBody s_law_draw) (defScope s_law_draw) .none kV9 dc9 pm9 an9 cd9 ct9), sl9⟩) (c9 : PySem.W.codeIn K cd9 "_law_draw" = true) (k9 : PySem.W.keepIn K (.ref f9) = true)
    (a10 : PySem.W.nsIn K mainGlobals "_law_pick" = some (some (.ref f10))) (l10 : K.lookup f10 = some ⟨oc10, od10, .func (PySem.W.fnOf "_law_pick" "_law_pick" (defArgs s_law_pick) (defBody s_law_pick) (defScope s_law_pick) .none kV10 dc10 pm10 an10 cd10 ct10), sl10⟩) (c10 : PySem.W.codeIn K cd10 "_law_pick" = true) (k10 : PySem.W.keepIn K (.ref f10) = true)
    (a11 : PySem.W.nsIn K mainGlobals "_law_pop" = some (some (.ref f11))) (l11 : K.lookup f11 = some ⟨oc11, od11, .func (PySem.W.fnOf "_law_pop" "_law_pop" (defArgs s_law_pop) (defBody s_law_pop) (defScope s_law_pop) .none kV11 dc11 pm11 an11 cd11 ct11), sl11⟩) (c11 : PySem.W.codeIn K cd11 "_law_pop" = true) (k11 : PySem.W.keepIn K (.ref f11) = true)
    (a12 : PySem.W.nsIn K mainGlobals "_law_shuffled" = some (some (.ref f12))) (l12 : K.lookup f12 = some ⟨oc12, od12, .func (PySem.W.fnOf "_law_shuffled" "_law_shuffled" (defArgs s_law_shuffled) (defBody s_law_shuffled) (defScope s_law_shuffled) .none kV12 dc12 pm12 an12 cd12 ct12), sl12⟩) (c12 : PySem.W.codeIn K cd12 "_law_shuffled" = true) (k12 : PySem.W.keepIn K (.ref f12) = true)
    (a13 : PySem.W.nsIn K mainGlobals "_law_pool" = some (some (.ref f13))) (l13 : K.lookup f13 = some ⟨oc13, od13, .func (PySem.W.fnOf "_law_pool" "_law_pool" (defArgs s_law_pool) (defBody s_law_pool) (defScope s_law_pool) .none kV13 dc13 pm13 an13 cd13 ct13), sl13⟩) (c13 : PySem.W.codeIn K cd13 "_law_pool" = true) (k13 : PySem.W.keepIn K (.ref f13) = true)
    (a14 : PySem.W.nsIn K mainGlobals "_law_join" = some (some (.ref f14))) (l14 : K.lookup f14 = some ⟨oc14, od14, .func (PySem.W.fnOf "_law_join" "_law_join" (defArgs s_law_join) (defBody s_law_join) (defScope s_law_join) .none kV14 dc14 pm14 an14 cd14 ct14), sl14⟩) (c14 : PySem.W.codeIn K cd14 "_law_join" = true) (k14 : PySem.W.keepIn K (.ref f14) = true)
    (a15 : PySem.W.nsIn K mainGlobals "_law_row_tuple" = some (some (.ref f15))) (l15 : K.lookup f15 = some ⟨oc15, od15, .func (PySem.W.fnOf "_law_row_tuple" "_law_row_tuple" (defArgs s_law_row_tuple) (defBody s_law_row_tuple) (defScope s_law_row_tuple) .none kV15 dc15 pm15 an15 cd15 ct15), sl15⟩) (c15 : PySem.W.codeIn K cd15 "_law_row_tuple" = true) (k15 : PySem.W.keepIn K (.ref f15) = true)
    (a16 : PySem.W.nsIn K mainGlobals "_law_says" = some (some (.ref f16))) (l16 : K.lookup f16 = some ⟨oc16, od16, .func (PySem.W.fnOf "_law_says" "_law_says" (defArgs s_law_says) (defBody s_law_says) (defScope s_law_says) .none kV16 dc16 pm16 an16 cd16 ct16), sl16⟩) (c16 : PySem.W.codeIn K cd16 "_law_says" = true) (k16 : PySem.W.keepIn K (.ref f16) = true)
    (a17 : PySem.W.nsIn K mainGlobals "_law_some_row" = some (some (.ref f17))) (l17 : K.lookup f17 = some ⟨oc17, od17, .func (PySem.W.fnOf "_law_some_row" "_law_some_row" (defArgs s_law_some_row) (defBody s_law_some_row) (defScope s_law_some_row) .none kV17 dc17 pm17 an17 cd17 ct17), sl17⟩) (c17 : PySem.W.codeIn K cd17 "_law_some_row" = true) (k17 : PySem.W.keepIn K (.ref f17) = true)
    (a18 : PySem.W.nsIn K mainGlobals "_law_less" = some (some (.ref f18))) (l18 : K.lookup f18 = some ⟨oc18, od18, .func (PySem.W.fnOf "_law_less" "_law_less" (defArgs s_law_less) (defBody s_law_less) (defScope s_law_less) .none kV18 dc18 pm18 an18 cd18 ct18), sl18⟩) (c18 : PySem.W.codeIn K cd18 "_law_less" = true) (k18 : PySem.W.keepIn K (.ref f18) = true)
    (a19 : PySem.W.nsIn K mainGlobals "_law_some_rows" = some (some (.ref f19))) (l19 : K.lookup f19 = some ⟨oc19, od19, .func (PySem.W.fnOf "_law_some_rows" "_law_some_rows" (defArgs s_law_some_rows) (defBody s_law_some_rows) (defScope s_law_some_rows) .none kV19 dc19 pm19 an19 cd19 ct19), sl19⟩) (c19 : PySem.W.codeIn K cd19 "_law_some_rows" = true) (k19 : PySem.W.keepIn K (.ref f19) = true)
    (a20 : PySem.W.nsIn K mainGlobals "_law_inside" = some (some (.ref f20))) (l20 : K.lookup f20 = some ⟨oc20, od20, .func (PySem.W.fnOf "_law_inside" "_law_inside" (defArgs s_law_inside) (defBody s_law_inside) (defScope s_law_inside) .none kV20 dc20 pm20 an20 cd20 ct20), sl20⟩) (c20 : PySem.W.codeIn K cd20 "_law_inside" = true) (k20 : PySem.W.keepIn K (.ref f20) = true)
    (a21 : PySem.W.nsIn K mainGlobals "_law_fits_cause" = some (some (.ref f21))) (l21 : K.lookup f21 = some ⟨oc21, od21, .func (PySem.W.fnOf "_law_fits_cause" "_law_fits_cause" (defArgs s_law_fits_cause) (defBody s_law_fits_cause) (defScope s_law_fits_cause) .none kV21 dc21 pm21 an21 cd21 ct21), sl21⟩) (c21 : PySem.W.codeIn K cd21 "_law_fits_cause" = true) (k21 : PySem.W.keepIn K (.ref f21) = true)
    (a22 : PySem.W.nsIn K mainGlobals "_law_fits_row" = some (some (.ref f22))) (l22 : K.lookup f22 = some ⟨oc22, od22, .func (PySem.W.fnOf "_law_fits_row" "_law_fits_row" (defArgs s_law_fits_row) (defBody s_law_fits_row) (defScope s_law_fits_row) .none kV22 dc22 pm22 an22 cd22 ct22), sl22⟩) (c22 : PySem.W.codeIn K cd22 "_law_fits_row" = true) (k22 : PySem.W.keepIn K (.ref f22) = true)
    (a23 : PySem.W.nsIn K mainGlobals "_law_bent_entry" = some (some (.ref f23))) (l23 : K.lookup f23 = some ⟨oc23, od23, .func (PySem.W.fnOf "_law_bent_entry" "_law_bent_entry" (defArgs s_law_bent_entry) (defBody s_law_bent_entry) (defScope s_law_bent_entry) .none kV23 dc23 pm23 an23 cd23 ct23), sl23⟩) (c23 : PySem.W.codeIn K cd23 "_law_bent_entry" = true) (k23 : PySem.W.keepIn K (.ref f23) = true)
    (a24 : PySem.W.nsIn K mainGlobals "_law_bent" = some (some (.ref f24))) (l24 : K.lookup f24 = some ⟨oc24, od24, .func (PySem.W.fnOf "_law_bent" "_law_bent" (defArgs s_law_bent) (defBody s_law_bent) (defScope s_law_bent) .none kV24 dc24 pm24 an24 cd24 ct24), sl24⟩) (c24 : PySem.W.codeIn K cd24 "_law_bent" = true) (k24 : PySem.W.keepIn K (.ref f24) = true)
    (a25 : PySem.W.nsIn K mainGlobals "_law_order_holds" = some (some (.ref f25))) (l25 : K.lookup f25 = some ⟨oc25, od25, .func (PySem.W.fnOf "_law_order_holds" "_law_order_holds" (defArgs s_law_order_holds) (defBody s_law_order_holds) (defScope s_law_order_holds) .none kV25 dc25 pm25 an25 cd25 ct25), sl25⟩) (c25 : PySem.W.codeIn K cd25 "_law_order_holds" = true) (k25 : PySem.W.keepIn K (.ref f25) = true)
    (a26 : PySem.W.nsIn K mainGlobals "law" = some (some (.ref f26))) (l26 : K.lookup f26 = some ⟨oc26, od26, .func (PySem.W.fnOf "law" "law" (defArgs s_law) (defBody s_law) (defScope s_law) .none kV26 dc26 pm26 an26 cd26 ct26), sl26⟩) (c26 : PySem.W.codeIn K cd26 "law" = true) (k26 : PySem.W.keepIn K (.ref f26) = true)
    (z0 : PySem.W.nsIn K mainGlobals "abs" = some none)
    (z1 : PySem.W.nsIn K mainGlobals "all" = some none)
    (z2 : PySem.W.nsIn K mainGlobals "bool" = some none)
    (z3 : PySem.W.nsIn K mainGlobals "dict" = some none)
    (z4 : PySem.W.nsIn K mainGlobals "int" = some none)
    (z5 : PySem.W.nsIn K mainGlobals "isinstance" = some none)
    (z6 : PySem.W.nsIn K mainGlobals "len" = some none)
    (z7 : PySem.W.nsIn K mainGlobals "list" = some none)
    (z8 : PySem.W.nsIn K mainGlobals "range" = some none)
    (z9 : PySem.W.nsIn K mainGlobals "sorted" = some none)
    (z10 : PySem.W.nsIn K mainGlobals "str" = some none)
    (z11 : PySem.W.nsIn K mainGlobals "tuple" = some none)
    {tk0 : Tok} (q0 : PySem.W.nsIn K mainGlobals "ALWAYS" = some (some (.str "always" tk0)))
    : Top K mg := {
    g_ALWAYS := ⟨_, PySem.W.mg_of X G q0⟩
    m_abs := PySem.W.mg_none_of X G z0
    m_all := PySem.W.mg_none_of X G z1
    m_bool := PySem.W.mg_none_of X G z2
    m_dict := PySem.W.mg_none_of X G z3
    m_int := PySem.W.mg_none_of X G z4
    m_isinstance := PySem.W.mg_none_of X G z5
    m_len := PySem.W.mg_none_of X G z6
    m_list := PySem.W.mg_none_of X G z7
    m_range := PySem.W.mg_none_of X G z8
    m_sorted := PySem.W.mg_none_of X G z9
    m_str := PySem.W.mg_none_of X G z10
    m_tuple := PySem.W.mg_none_of X G z11
    d_cause_of := ⟨f0, _, fun_mk l0 c0 k0, PySem.W.mg_of X G a0, fun us hl => match us, hl with | [_, _], _ => rfl⟩
    d_joint_cause := ⟨f1, _, fun_mk l1 c1 k1, PySem.W.mg_of X G a1, fun us hl => match us, hl with | [_, _], _ => rfl⟩
    d_joint_row := ⟨f2, _, fun_mk l2 c2 k2, PySem.W.mg_of X G a2, fun us hl => match us, hl with | [_, _], _ => rfl⟩
    d_cause_within := ⟨f3, _, fun_mk l3 c3 k3, PySem.W.mg_of X G a3, fun us hl => match us, hl with | [_, _], _ => rfl⟩
    d_is_within := ⟨f4, _, fun_mk l4 c4 k4, PySem.W.mg_of X G a4, fun us hl => match us, hl with | [_, _], _ => rfl⟩
    d_is_pair := ⟨f5, _, fun_mk l5 c5 k5, PySem.W.mg_of X G a5, fun us hl => match us, hl with | [_, _, _], _ => rfl⟩
    d_is_cause := ⟨f6, _, fun_mk l6 c6 k6, PySem.W.mg_of X G a6, fun us hl => match us, hl with | [_, _, _], _ => rfl⟩
    d_is_row := ⟨f7, _, fun_mk l7 c7 k7, PySem.W.mg_of X G a7, fun us hl => match us, hl with | [_, _, _], _ => rfl⟩
    d_law_begin := ⟨f8, _, fun_mk l8 c8 k8, PySem.W.mg_of X G a8, fun us hl => match us, hl with | [_], _ => rfl⟩
    d_law_draw := ⟨f9, _, fun_mk l9 c9 k9, PySem.W.mg_of X G a9, fun us hl => match us, hl with | [_, _], _ => rfl⟩
    d_law_pick := ⟨f10, _, fun_mk l10 c10 k10, PySem.W.mg_of X G a10, fun us hl => match us, hl with | [_, _], _ => rfl⟩
    d_law_pop := ⟨f11, _, fun_mk l11 c11 k11, PySem.W.mg_of X G a11, fun us hl => match us, hl with | [_, _], _ => rfl⟩
    d_law_shuffled := ⟨f12, _, fun_mk l12 c12 k12, PySem.W.mg_of X G a12, fun us hl => match us, hl with | [_, _], _ => rfl⟩
    d_law_pool := ⟨f13, _, fun_mk l13 c13 k13, PySem.W.mg_of X G a13, fun us hl => match us, hl with | [], _ => rfl⟩
    d_law_join := ⟨f14, _, fun_mk l14 c14 k14, PySem.W.mg_of X G a14, fun us hl => match us, hl with | [_, _], _ => rfl⟩
    d_law_row_tuple := ⟨f15, _, fun_mk l15 c15 k15, PySem.W.mg_of X G a15, fun us hl => match us, hl with | [_, _], _ => rfl⟩
    d_law_says := ⟨f16, _, fun_mk l16 c16 k16, PySem.W.mg_of X G a16, fun us hl => match us, hl with | [_, _], _ => rfl⟩
    d_law_some_row := ⟨f17, _, fun_mk l17 c17 k17, PySem.W.mg_of X G a17, fun us hl => match us, hl with | [_, _, _], _ => rfl⟩
    d_law_less := ⟨f18, _, fun_mk l18 c18 k18, PySem.W.mg_of X G a18, fun us hl => match us, hl with | [_, _, _], _ => rfl⟩
    d_law_some_rows := ⟨f19, _, fun_mk l19 c19 k19, PySem.W.mg_of X G a19, fun us hl => match us, hl with | [_, _, _], _ => rfl⟩
    d_law_inside := ⟨f20, _, fun_mk l20 c20 k20, PySem.W.mg_of X G a20, fun us hl => match us, hl with | [_, _], _ => rfl⟩
    d_law_fits_cause := ⟨f21, _, fun_mk l21 c21 k21, PySem.W.mg_of X G a21, fun us hl => match us, hl with | [_, _, _], _ => rfl⟩
    d_law_fits_row := ⟨f22, _, fun_mk l22 c22 k22, PySem.W.mg_of X G a22, fun us hl => match us, hl with | [_, _, _], _ => rfl⟩
    d_law_bent_entry := ⟨f23, _, fun_mk l23 c23 k23, PySem.W.mg_of X G a23, fun us hl => match us, hl with | [_, _, _, _], _ => rfl⟩
    d_law_bent := ⟨f24, _, fun_mk l24 c24 k24, PySem.W.mg_of X G a24, fun us hl => match us, hl with | [_, _, _, _], _ => rfl⟩
    d_law_order_holds := ⟨f25, _, fun_mk l25 c25 k25, PySem.W.mg_of X G a25, fun us hl => match us, hl with | [_, _, _, _], _ => rfl⟩
    d_law := ⟨f26, _, fun_mk l26 c26 k26, PySem.W.mg_of X G a26, fun us hl => match us, hl with | [_], _ => rfl⟩
  }
theorem law_fn {l : PySem.W.OpenLaw} {w : World} {K : PySem.W.Frag} {mg : Str → Option Value} {fa : Addr} (T : Top K mg) (hfa : mg "law" = some (.ref fa)) :
    ∃ fd : FuncData, (∀ (s : Shared) (v : Value), BindsTo s fd ⟨[v], []⟩ [("script", v)]) ∧ ∀ base : Heap, K.In base → base.Ns mainGlobals mg → FnOk l.prog w K mg base CX0 40 fa fd ["script"] (spLaw K) := by
  obtain ⟨f, fd, F, m, b⟩ := T.d_law
  have e := hfa.symm.trans m
  cases e
  exact ⟨fd, fun s v => .of_eq (b [v] rfl), fun base _ _ => ok_law T F⟩
end K13
open PySem PySem.W PyProof.Rows
set_option maxRecDepth 100000 in
set_option maxHeartbeats 0 in
theorem PySem.Challenge.cw_asknest_k13_joint_row_least_holds : PySem.Challenge.rw_asknest_k13_joint_row_least.Holds := by
  w_on; o_law; k_head; (case hw => w_witness2)
  k_fill
  refine L2.walk_of (l := PySem.Challenge.rw_asknest_k13_joint_row_least) (n := 63) (k := 40) (x := "script") (CX := fun _ => L2.CX0) (sp := fun w => K13.spLaw _) rfl (by decide) rfl ⟨rfl, by decide, by decide⟩ (fun w h Y => PySem.W.kIn_of Y) ?F (fun _ _ a ns hl _ hS => ⟨a, ns, rfl, hS, hl, fun _ => rfl⟩) (fun _ _ _ _ _ h => h)
  case F =>
    intro w mg fa h KX G hmg
    refine' K13.law_fn (K13.top_mk KX G ?a0 ?l0 ?c0 ?k0 ?a1 ?l1 ?c1 ?k1 ?a2 ?l2 ?c2 ?k2 ?a3 ?l3 ?c3 ?k3 ?a4 ?l4 ?c4 ?k4 ?a5 ?l5 ?c5 ?k5 ?a6 ?l6 ?c6 ?k6 ?a7 ?l7 ?c7 ?k7 ?a8 ?l8 ?c8 ?k8 ?a9 ?l9 ?c9 ?k9 ?a10 ?l10 ?c10 ?k10 ?a11 ?l11 ?c11 ?k11 ?a12 ?l12 ?c12 ?k12 ?a13 ?l13 ?c13 ?k13 ?a14 ?l14 ?c14 ?k14 ?a15 ?l15 ?c15 ?k15 ?a16 ?l16 ?c16 ?k16 ?a17 ?l17 ?c17 ?k17 ?a18 ?l18 ?c18 ?k18 ?a19 ?l19 ?c19 ?k19 ?a20 ?l20 ?c20 ?k20 ?a21 ?l21 ?c21 ?k21 ?a22 ?l22 ?c22 ?k22 ?a23 ?l23 ?c23 ?k23 ?a24 ?l24 ?c24 ?k24 ?a25 ?l25 ?c25 ?k25 ?a26 ?l26 ?c26 ?k26 ?z0 ?z1 ?z2 ?z3 ?z4 ?z5 ?z6 ?z7 ?z8 ?z9 ?z10 ?z11 ?q0) hmg
    (case a0 => k_is)
    (case l0 => k_is)
    (case c0 => k_is)
    (case k0 => k_is)
    (case a1 => k_is)
    (case l1 => k_is)
    (case c1 => k_is)
    (case k1 => k_is)
    (case a2 => k_is)
    (case l2 => k_is)
    (case c2 => k_is)
    (case k2 => k_is)
    (case a3 => k_is)
    (case l3 => k_is)
    (case c3 => k_is)
    (case k3 => k_is)
    (case a4 => k_is)
    (case l4 => k_is)
    (case c4 => k_is)
    (case k4 => k_is)
    (case a5 => k_is)
    (case l5 => k_is)
    (case c5 => k_is)
    (case k5 => k_is)
    (case a6 => k_is)
    (case l6 => k_is)
    (case c6 => k_is)
    (case k6 => k_is)
    (case a7 => k_is)
    (case l7 => k_is)
    (case c7 => k_is)
    (case k7 => k_is)
    (case a8 => k_is)
    (case l8 => k_is)
    (case c8 => k_is)
    (case k8 => k_is)
    (case a9 => k_is)
    (case l9 => k_is)
    (case c9 => k_is)
    (case k9 => k_is)
    (case a10 => k_is)
    (case l10 => k_is)
    (case c10 => k_is)
    (case k10 => k_is)
    (case a11 => k_is)
    (case l11 => k_is)
    (case c11 => k_is)
    (case k11 => k_is)
    (case a12 => k_is)
    (case l12 => k_is)
    (case c12 => k_is)
    (case k12 => k_is)
    (case a13 => k_is)
    (case l13 => k_is)
    (case c13 => k_is)
    (case k13 => k_is)
    (case a14 => k_is)
    (case l14 => k_is)
    (case c14 => k_is)
    (case k14 => k_is)
    (case a15 => k_is)
    (case l15 => k_is)
    (case c15 => k_is)
    (case k15 => k_is)
    (case a16 => k_is)
    (case l16 => k_is)
    (case c16 => k_is)
    (case k16 => k_is)
    (case a17 => k_is)
    (case l17 => k_is)
    (case c17 => k_is)
    (case k17 => k_is)
    (case a18 => k_is)
    (case l18 => k_is)
    (case c18 => k_is)
    (case k18 => k_is)
    (case a19 => k_is)
    (case l19 => k_is)
    (case c19 => k_is)
    (case k19 => k_is)
    (case a20 => k_is)
    (case l20 => k_is)
    (case c20 => k_is)
    (case k20 => k_is)
    (case a21 => k_is)
    (case l21 => k_is)
    (case c21 => k_is)
    (case k21 => k_is)
    (case a22 => k_is)
    (case l22 => k_is)
    (case c22 => k_is)
    (case k22 => k_is)
    (case a23 => k_is)
    (case l23 => k_is)
    (case c23 => k_is)
    (case k23 => k_is)
    (case a24 => k_is)
    (case l24 => k_is)
    (case c24 => k_is)
    (case k24 => k_is)
    (case a25 => k_is)
    (case l25 => k_is)
    (case c25 => k_is)
    (case k25 => k_is)
    (case a26 => k_is)
    (case l26 => k_is)
    (case c26 => k_is)
    (case k26 => k_is)
    (case z0 => k_is)
    (case z1 => k_is)
    (case z2 => k_is)
    (case z3 => k_is)
    (case z4 => k_is)
    (case z5 => k_is)
    (case z6 => k_is)
    (case z7 => k_is)
    (case z8 => k_is)
    (case z9 => k_is)
    (case z10 => k_is)
    (case z11 => k_is)
    (case q0 => k_is)
