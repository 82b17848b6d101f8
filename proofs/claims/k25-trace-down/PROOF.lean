import PyProof.Rows.All
import Wide.All
import OpenK.AllK
import Wide.FinOn
import HandS.ForMost
import HandS.IsInst
import HandS.TupAny
import HandS.Small
import HandS.Conv
import HandS.Finally
import HandS.DeepEq
import HandS.TupLen
import HandS.Codes
import KE.SortData
import KE.DataCmp
import HandS.DictTup
import HandS.Deep
import KE.KDictCopyH
import KE.KDictKeyed
import HandS.Rev
import HandS.RevTup
import PyProof.ListNew
import PySem.Challenge.RW_asknest_k25_trace_down
set_option Elab.async false
set_option linter.all false
set_option maxRecDepth 100000
set_option maxHeartbeats 4000000
/-! AN: own kit over HandS: calls bundled, general rules, data in tuples, heaps that grow. -/
namespace AN
open PySem PySem.Spec PyProof.Rows L2

/-- marks the written part in a context -/
structure Kk (K : PySem.W.Frag) : Prop where
  ok : True
/-! ### calls -/
structure Cal (P : Program) (w : World) (K : PySem.W.Frag) (mg : Str → Option Value) (base : Heap) (CX : CXT) (k : Nat) (x : Str) (ps : List Str) (sp : Sp) : Prop where
  ex : ∃ f fd, FnOk P w K mg base CX k f fd ps sp ∧ mg x = some (.ref f) ∧ PySem.W.keepIn K (.ref f) = true ∧ ∀ us : List Value, us.length = ps.length → bindArgs fd ⟨us, []⟩ = pure (ps.zip us)
section
variable {X : Cx} {CX : CXT} {k : Nat} {x : Str} {ps : List Str} {sp : Sp} {E : XK} {p pos : Pos} {e : Expr} {es : List Expr} {t : TA}
theorem pe_cal (C : Cal X.prog X.w X.K X.mg X.base CX k x ps sp) (hr : Room k X.A) (hg : Gl X x) (hx : Passes CX X E)
    (ha : PA X (e :: es) t) (hdb : (x == ("__debug__" : Str)) = false := by decide) (he : starEach (e :: es) X.env = (false, eval e X.env) :: starEach es X.env := by rfl) (hpl : (backTo pos (starEach es X.env)).any (·.1) = false := by rfl) :
    PE X (.Call (.Name x p) (e :: es) [] pos) (tCall sp [] E t) := by
  obtain ⟨f, fd, F, m, kp, b⟩ := C.ex
  exact pe_call F hr hg m kp (.all b) .nil hx ha hdb he hpl
theorem pe_cal0 (C : Cal X.prog X.w X.K X.mg X.base CX k x ps sp) (hr : Room k X.A) (hg : Gl X x) (hx : Passes CX X E)
    (hdb : (x == ("__debug__" : Str)) = false := by decide) : PE X (.Call (.Name x p) [] [] pos) (tCall sp [] E tNil) := by
  obtain ⟨f, fd, F, m, kp, b⟩ := C.ex
  exact pe_call0 F hr hg m kp (.all b) .nil hx hdb
theorem Cal.mono {P : Program} {w : World} {K : PySem.W.Frag} {mg : Str → Option Value} {base : Heap} {j : Nat} (C : Cal P w K mg base CX j x ps sp) (h : j ≤ k) : Cal P w K mg base CX k x ps sp := by
  obtain ⟨f, fd, F, m⟩ := C.ex
  exact ⟨f, fd, F.mono h, m⟩
theorem Cal.imp {P : Program} {w : World} {K : PySem.W.Frag} {mg : Str → Option Value} {base : Heap} {sp' : Sp} (C : Cal P w K mg base CX k x ps sp) (h : ∀ vs H Q E, sp' vs H Q E → sp vs H Q E) : Cal P w K mg base CX k x ps sp' := by
  obtain ⟨f, fd, F, m⟩ := C.ex
  exact ⟨f, fd, F.imp h, m⟩
/-- a def as the top leaves it -/
def Def (K : PySem.W.Frag) (mg : Str → Option Value) (x : Str) (st : Stmt) (ps : List Str) : Prop :=
  ∃ f fd, Fun K x x st f fd ∧ mg x = some (.ref f) ∧ ∀ us : List Value, us.length = ps.length → bindArgs fd ⟨us, []⟩ = pure (ps.zip us)
theorem Def.cal {P : Program} {w : World} {K : PySem.W.Frag} {mg : Str → Option Value} {base : Heap} {st : Stmt} {N : List Str} (D : Def K mg x st ps) (S : FnScope N ps (defScope st)) (z : List (Option V)) (hz : List.replicate (N.length - ps.length) none = z) (len : ∀ vs H Q E, sp vs H Q E → vs.length = ps.length)
    (hbody : ∀ (f : Addr) (cdv : Value) (A : Around) (outer : List Env) (s : Shared) (H : Hp) (vs : List V) (Q : VK) (E : XK), Kk K → Room k (A.deeper (envOfC x (defScope st) s.heap.objs.size f cdv)) → sp vs H Q E →
      ∃ t, PSs (cxOf CX0 P w K mg base N x (defScope st) f cdv A outer s H E).nox (defBody st) t ∧ t ⟨fun _ H' => Q .non H', Q, fun _ _ => False, fun _ _ => False⟩ (vs.map some ++ z) H) : Cal P w K mg base CX0 (k + 1) x ps sp := by
  obtain ⟨f, fd, F, m, b⟩ := D
  refine ⟨f, fd, F.ok S len (fun cdv A outer s H vs Q E hr h => ?_), m, F.kp, b⟩
  obtain ⟨t, h1, h2⟩ := hbody f cdv A outer s H vs Q E ⟨trivial⟩ hr h
  refine ⟨t, h1, ?_⟩
  have e : L2.start N vs = vs.map some ++ z := by
    unfold L2.start
    rw [len _ _ _ _ h, hz]
  rw [e]
  exact h2
end

section
theorem fun_ok {P : Program} {w : World} {K : PySem.W.Frag} {mg : Str → Option Value} {base : Heap} {x : Str} {st : Stmt} {f : Addr} {fd : FuncData} {N ps : List Str} {k : Nat} {sp : Sp} (F : Fun K x x st f fd) (S : FnScope N ps (defScope st)) (z : List (Option V)) (hz : List.replicate (N.length - ps.length) none = z) (len : ∀ vs H Q E, sp vs H Q E → vs.length = ps.length)
    (hbody : ∀ (f : Addr) (cdv : Value) (A : Around) (outer : List Env) (s : Shared) (H : Hp) (vs : List V) (Q : VK) (E : XK), Kk K → Room k (A.deeper (envOfC x (defScope st) s.heap.objs.size f cdv)) → sp vs H Q E →
      ∃ t, PSs (cxOf CX0 P w K mg base N x (defScope st) f cdv A outer s H E).nox (defBody st) t ∧ t ⟨fun _ H' => Q .non H', Q, fun _ _ => False, fun _ _ => False⟩ (vs.map some ++ z) H) : FnOk P w K mg base CX0 (k + 1) f fd ps sp := by
  refine F.ok S len (fun cdv A outer s H vs Q E hr h => ?_)
  obtain ⟨t, h1, h2⟩ := hbody f cdv A outer s H vs Q E ⟨trivial⟩ hr h
  refine ⟨t, h1, ?_⟩
  have e : L2.start N vs = vs.map some ++ z := by
    unfold L2.start
    rw [len _ _ _ _ h, hz]
  rw [e]
  exact h2
end
/-! ### general rules -/
section
variable {X : Cx}
theorem PSet.or {r r' : TSet} (h : PSet X r) (h' : PSet X r') : PSet X (fun o i v H Q => r o i v H Q ∨ r' o i v H Q) := by
  intro pins s σ H o i v ov iv u Q I ro ri rv q
  rcases q with q | q
  · exact h pins s σ H o i v ov iv u Q I ro ri rv q
  · exact h' pins s σ H o i v ov iv u Q I ro ri rv q
theorem set_G (hu : X.A.units + 1 < cLine) : PSet X (fun o i v H Q => rSetL o i v H Q ∨ rSetD o i v H Q) := PSet.or set_list (set_dict hu)
theorem PI.or {tg e : Expr} {r r' : TI} (h : PI X tg e r) (h' : PI X tg e r') : PI X tg e (fun σ H R => r σ H R ∨ r' σ H R) := by
  refine ⟨fun pins s σ H R I q => ?_⟩
  rcases q with q | q
  · exact h.run pins s σ H R I q
  · exact h'.run pins s σ H R I q
theorem pi_seq {tg e : Expr} {te : TE} (h : PE X e te) : PI X tg e (fun σ H R => iList X.K te σ H R ∨ iTup X.K te σ H R) := PI.or (pi_list h) (pi_tup h)
/-- subscripts: a list, a tuple, a text, a dict -/
def rIxDict : R2 := fun x y H Q => ∃ a v, x = .ref a ∧ DGet H a y (some v) ∧ Q v H
theorem ix_dict (hu : X.A.units + 1 < cLine) : IxR X rIxDict := by
  intro value slice pins s σ H x y v u Q I rx ry h hs
  obtain ⟨a, z, rfl, g, q⟩ := h
  obtain rfl : v = Value.ref a := rx
  unfold subscriptTail
  refine wpAny_bind ?_
  have hT := dict_typeIs I g
  rw [getitemInPython_of_ne hT.not_modules]
  refine wpAny_bind (wpAny_specialOf hT PySem.F.slot_dict_getitem.lookup ?_)
  have h₂ : wpAny (model X.prog X.w) X.A (getItem (.ref a) u) (EP X pins σ Q) X.xe s := d_getItem hu I g ry fun w' s3 I3 rw' => ⟨z, H, I3, rw', q⟩
  have fin : wpAny (model X.prog X.w) X.A (subscripted slice false (.ref a) u) (fun r s₃ => wpAny (model X.prog X.w) X.A (letTemporaryGo value (.ref a) r >>= fun _ => pure r) (EP X pins σ Q) X.xe s₃) X.xe s := by
    rw [hs]
    exact wpAny_operating (wpAny_mono h₂ (fun r s₃ h₃ => wpAny_bind (wpAny_letTemporaryGo (wpAny_pure h₃))) fun _ _ x => x)
  first
    | exact wpAny_pure (wpAny_bind fin)
    | exact wpAny_bind (wpAny_pure (wpAny_bind fin))
    | exact wpAny_bind fin
def rIxG (K : PySem.W.Frag) : R2 := fun x y H Q => rIxT K x y H Q ∨ rIxL K x y H Q ∨ rIxDict x y H Q ∨ rIxS x y H Q
theorem ix_G (hu : X.A.units + 1 < cLine) : IxR X (rIxG X.K) := ix_tup.or (ix_list.or ((ix_dict hu).or ix_str))
/-- == and != -/
def sameOk (v : V) : Prop := flatB v = true ∨ ∃ a, v = .ref a
theorem hits_same {κ : Type} [DecidableEq κ] {A : Around} {s : Shared} {kvs : List (κ × V)} {vb : List (κ × Value)} (rb : KV kvs vb) {ks : List (κ × V)} {va : List (κ × Value)} (ra : KV ks va) :
    (∀ p ∈ ks, valV kvs p.1 = some p.2 ∧ sameOk p.2) → PySem.W.KeqHits A s vb va true := by
  unfold KV at ra
  induction ra with
  | nil => intro _; exact .nil
  | @cons p q ps qs h t k =>
    intro hp
    obtain ⟨h1, h2⟩ := h
    obtain ⟨e, f⟩ := hp p List.mem_cons_self
    have rr : RelO (some p.2) (valueAt vb p.1) := by rw [← e]; exact rb.val p.1
    obtain ⟨y, hy, ry⟩ := rr.some_of
    obtain ⟨key, v⟩ := q
    have h1' : p.1 = key := h1
    rw [h1'] at hy
    show PySem.W.KeqHits A s vb ((key, v) :: qs) (true && true)
    refine .hit hy ?_ (k fun p' hm => hp p' (List.mem_cons_of_mem _ hm))
    rcases f with f | ⟨a, f⟩
    · exact eqAt_same h2 ry f
    · rw [f] at h2 ry
      cases (show v = Value.ref a from h2)
      cases (show y = Value.ref a from ry)
      exact SeqAt.EqAt.same _
/-- two dicts of the very same pairs -/
def rSameD (k : Bool) : R2 := fun x y H Q => ∃ a b kvs, x = .ref a ∧ y = .ref b ∧ H a = some (.dK kvs) ∧ H b = some (.dK kvs) ∧ (∀ p ∈ kvs, valV kvs p.1 = some p.2 ∧ sameOk p.2) ∧ Q (.bl k) H
theorem op_eqSame (hu : X.A.units < cLine) : OpR X (compareOp .Eq) (rSameD true) := by
  intro pins s σ H x y v u Q I rx ry h
  obtain ⟨a, b, kvs, rfl, rfl, ea, eb, hp, q⟩ := h
  obtain rfl : v = Value.ref a := rx
  obtain rfl : u = Value.ref b := ry
  obtain ⟨_, ya, va, ra, da⟩ := (show ObjOk X.prog X.w H s.heap a (.dK kvs) from I.hok a _ ea)
  obtain ⟨_, yb, vb, rb, db⟩ := (show ObjOk X.prog X.w H s.heap b (.dK kvs) from I.hok b _ eb)
  have hl : va.length = vb.length := by rw [← ra.length, ← rb.length]
  exact PySem.W.keq_eq (knd := mixKind X.prog X.w) (r := true) ya yb da db hu (fun _ => hits_same rb ra hp) (fin_bl I q (by simp [hl]))
theorem op_neSame (hu : X.A.units < cLine) : OpR X (compareOp .NotEq) (rSameD false) := by
  intro pins s σ H x y v u Q I rx ry h
  obtain ⟨a, b, kvs, rfl, rfl, ea, eb, hp, q⟩ := h
  obtain rfl : v = Value.ref a := rx
  obtain rfl : u = Value.ref b := ry
  obtain ⟨_, ya, va, ra, da⟩ := (show ObjOk X.prog X.w H s.heap a (.dK kvs) from I.hok a _ ea)
  obtain ⟨_, yb, vb, rb, db⟩ := (show ObjOk X.prog X.w H s.heap b (.dK kvs) from I.hok b _ eb)
  have hl : va.length = vb.length := by rw [← ra.length, ← rb.length]
  exact PySem.W.keq_ne (knd := mixKind X.prog X.w) (r := true) ya yb da db hu (fun _ => hits_same rb ra hp) (fin_bl I q (by simp [hl]))
def rEqG (K : PySem.W.Frag) : R2 := fun x y H Q => rEq x y H Q ∨ rEqD K x y H Q ∨ rSameD true x y H Q
def rNeG (K : PySem.W.Frag) : R2 := fun x y H Q => rNe x y H Q ∨ rNeD K x y H Q ∨ rSameD false x y H Q
theorem op_eqG (hu : X.A.units + 64 < cLine) : OpR X (compareOp .Eq) (rEqG X.K) := op_eq.or ((op_eqD hu).or (op_eqSame (by omega)))
theorem op_neG (hu : X.A.units + 64 < cLine) : OpR X (compareOp .NotEq) (rNeG X.K) := op_ne.or ((op_neD hu).or (op_neSame (by omega)))
/-- in, not in: a dict, a list or tuple of flat things, a sign in a text -/
def rInDict : R2 := fun x y H Q => ∃ a o, y = .ref a ∧ DGet H a x o ∧ Q (.bl o.isSome) H
def rNotInDict : R2 := fun x y H Q => ∃ a o, y = .ref a ∧ DGet H a x o ∧ Q (.bl (!o.isSome)) H
theorem op_inDict (hu : X.A.units + 1 < cLine) : OpR X (compareOp .In) rInDict := by
  intro pins s σ H x y v u Q I rx ry h
  obtain ⟨a, o, rfl, g, q⟩ := h
  obtain rfl : u = Value.ref a := ry
  exact d_in hu I g rx fun s3 I3 => ⟨.bl o.isSome, H, I3, rfl, q⟩
theorem op_notInDict (hu : X.A.units + 1 < cLine) : OpR X (compareOp .NotIn) rNotInDict := by
  intro pins s σ H x y v u Q I rx ry h
  obtain ⟨a, o, rfl, g, q⟩ := h
  obtain rfl : u = Value.ref a := ry
  exact d_notIn hu I g rx fun s3 I3 => ⟨.bl (!o.isSome), H, I3, rfl, q⟩
def rInSign : R2 := fun x y H Q => ∃ (c : Nat) (z : Str), x = .str ⟨#[c]⟩ ∧ y = .str z ∧ Q (.bl (decide (c ∈ z.cps.toList))) H
def rNotInSign : R2 := fun x y H Q => ∃ (c : Nat) (z : Str), x = .str ⟨#[c]⟩ ∧ y = .str z ∧ Q (.bl (!decide (c ∈ z.cps.toList))) H
def rInG (K : PySem.W.Frag) : R2 := fun x y H Q => rIn K false x y H Q ∨ rInDict x y H Q ∨ rInSign x y H Q
def rNotInG (K : PySem.W.Frag) : R2 := fun x y H Q => rIn K true x y H Q ∨ rNotInDict x y H Q ∨ rNotInSign x y H Q
theorem op_inG (hu : X.A.units + 1 < cLine) : OpR X (compareOp .In) (rInG X.K) := op_in_seq.or ((op_inDict hu).or op_in_sign)
theorem op_notInG (hu : X.A.units + 1 < cLine) : OpR X (compareOp .NotIn) (rNotInG X.K) := op_notIn_seq.or ((op_notInDict hu).or op_notIn_sign)
/-- + -/
def rAddI : R2 := rI0 fun i j => .int (i + j)
def rAddS : R2 := fun x y H Q => ∃ i j, x = .str i ∧ y = .str j ∧ i.length + j.length ≤ sizeLine ∧ Q (.str (i ++ j)) H
def rAddG (K : PySem.W.Frag) : R2 := fun x y H Q => rAddI x y H Q ∨ rCatA K x y H Q ∨ rAddS x y H Q ∨ rCat x y H Q
theorem op_addG : OpR X (binaryOp .Add) (rAddG X.K) := op_add.or (op_catA.or (op_add_str.or op_cat))
/-- len -/
def rLenS : List V → Hp → VK → Prop := fun xs H Q => ∃ p ys, xs = [.ref p] ∧ H p = some (.dK ys) ∧ Q (.int ys.length) H
def rLenG (K : PySem.W.Frag) : List V → Hp → VK → Prop := fun xs H Q => (∃ x n, xs = [x] ∧ LenV K x H n ∧ Q (.int n) H) ∨ rLenS xs H Q
theorem call_lenG : CallR X (.builtin "len") (rLenG X.K) := call_len.or call_lenD
/-- list(..) -/
def rListG (K : PySem.W.Frag) : List V → Hp → VK → Prop := fun xs H Q =>
  (∃ p ys, xs = [.ref p] ∧ (SqL K H p ys ∨ SqT K H p ys) ∧ ∀ l, H l = none → Q (.ref l) (upd H l (.lst ys))) ∨
  (∃ (a : Addr) (kvs : List (Key × V)), xs = [.ref a] ∧ Rd H a (.dK kvs) ∧ ∀ p, H p = none → Q (.ref p) (upd H p (.lst (kvs.map fun kv => kV kv.1))))
theorem call_listG (hc : X.calm = true) : CallR X (.type "list") (rListG X.K) := call_list_of.or (call_listD hc)
/-- sorted(..) of texts: of a list, of a dict's keys -/
def rSortedG (K : PySem.W.Frag) : List V → Hp → VK → Prop := fun xs H Q => rSortedS K xs H Q ∨
  (∃ (a : Addr) (kvs : List (Key × V)) (ks : List Str), xs = [.ref a] ∧ Rd H a (.dK kvs) ∧ kvs.map (·.1) = ks.map Sum.inr ∧ ks.length < 64 ∧
    ∀ ys p, ys.Perm ks → sortedS ys = true → H p = none → Q (.ref p) (upd H p (.lst (ys.map V.str))))
theorem call_sortedG (hc : X.calm = true) : CallR X (.builtin "sorted") (rSortedG X.K) := cr_sortedS.or (call_sortedD hc)
/-- slices -/
def rSlG (K : PySem.W.Frag) : V → Option Int → Option Int → Hp → VK → Prop := fun x lo hi H Q => rSlA K x lo hi H Q ∨ rSlL K x lo hi H Q ∨ rSlS x lo hi H Q
theorem sl_G : SlR X (rSlG X.K) := sl_tupA.or (sl_list.or sl_str)
/-- xs[i], for xs[i] += e -/
def rGetL (K : PySem.W.Frag) : V → V → Hp → VK → Prop := fun o i H Q => ∃ p xs j v, o = .ref p ∧ i = .int (j : Nat) ∧ SqL K H p xs ∧ xs[j]? = some v ∧ Q v H
theorem get_list : PGet X (rGetL X.K) := by
  intro pins s σ H o i ov iv Q I ro ri h
  obtain ⟨p, xs, j, v, rfl, rfl, hq, he, q⟩ := h
  cases ro
  obtain ⟨t, rfl⟩ := ri
  obtain ⟨its, r, pl, hz⟩ := I.list hq
  obtain ⟨u, eu, ru⟩ := r.get he
  obtain ⟨hj, _⟩ := List.getElem?_eq_some_iff.mp he
  have hn := line63
  exact wpAny_getItem_list pl.isList (by omega) (by omega) (by simpa using eu) ⟨v, H, I, ru, q⟩
end

/-! ### data in tuples -/
mutual
def Rep (K : PySem.W.Frag) (H : Hp) : PyData → V → Prop
  | .none, v => v = .non
  | .bool b, v => v = .bl b
  | .int i, v => v = .int i
  | .str x, v => v = .str x
  | .tuple ds, v => ∃ a vs, v = .ref a ∧ H a = some (.tup vs) ∧ Reps K H ds vs
  | .list _, _ => False
  | .dict _, _ => False
def Reps (K : PySem.W.Frag) (H : Hp) : List PyData → List V → Prop
  | [], vs => vs = []
  | d :: ds, vs => ∃ v r, vs = v :: r ∧ Rep K H d v ∧ Reps K H ds r
end
/-- the heap has grown; what stands at l may be another; tuples stay -/
structure Fr (l : List Addr) (H H' : Hp) : Prop where
  keep : ∀ b o, H b = some o → b ∉ l → H' b = some o
  tups : ∀ a xs, H a = some (.tup xs) → H' a = some (.tup xs)
  rdt : ∀ a xs, Rd H a (.tup xs) → Rd H' a (.tup xs)
section
variable {K : PySem.W.Frag} {H H' H1 H2 : Hp} {l l' : List Addr} {a p : Addr} {o u : HO} {d : PyData} {ds : List PyData} {v : V} {vs xs : List V}
theorem Fr.refl (l : List Addr) (H : Hp) : Fr l H H := ⟨fun _ _ h _ => h, fun _ _ h => h, fun _ _ h => h⟩
theorem Fr.trans (f : Fr l H H1) (g : Fr l' H1 H2) (h : ∀ b ∈ l', b ∈ l ∨ H b = none) : Fr l H H2 := by
  refine ⟨fun b o e n => ?_, fun a xs q => g.tups _ _ (f.tups _ _ q), fun a xs q => g.rdt _ _ (f.rdt _ _ q)⟩
  refine g.keep b o (f.keep b o e n) fun m => ?_
  rcases h b m with z | z
  · exact n z
  · rw [e] at z; cases z
theorem Fr.step (f : Fr l H H1) (g : Fr l H1 H2) : Fr l H H2 := f.trans g fun _ m => .inl m
theorem Fr.step0 (f : Fr l H H1) (g : Fr [] H1 H2) : Fr l H H2 := f.trans g fun _ m => by cases m
theorem Fr.mono (f : Fr l H H1) (h : ∀ b ∈ l, b ∈ l') : Fr l' H H1 := ⟨fun b o e n => f.keep b o e fun m => n (h b m), f.tups, f.rdt⟩
theorem Fr.of0 (f : Fr [] H H1) : Fr l H H1 := f.mono fun _ m => by cases m
theorem Fr.new (h : H p = none) : Fr [] H (upd H p o) := by
  refine ⟨fun b u e _ => ?_, fun a xs q => (upd_ne (ne_of_none q h)).trans q, fun a xs q => ?_⟩
  · rw [upd_ne (ne_of_none e h)]; exact e
  · rcases q with q | ⟨z, q⟩
    · exact .inl (by rw [upd_ne (ne_of_none q h)]; exact q)
    · exact .inr ⟨z, by rw [upd_ne (ne_of_none q h)]; exact q⟩
theorem Fr.newL (h : H p = none) : Fr l H (upd H p o) := (Fr.new h).of0
theorem Fr.set (h : H p = some u) (hu : ∀ xs, u ≠ .tup xs) (hf : ∀ z xs, u ≠ .frz z (.tup xs)) : Fr [p] H (upd H p o) := by
  refine ⟨fun b u e n => ?_, fun a xs q => (upd_ne (ne_of q h (hu xs).symm)).trans q, fun a xs q => ?_⟩
  · rw [upd_ne (by simpa using n)]; exact e
  · rcases q with q | ⟨z, q⟩
    · exact .inl (by rw [upd_ne (ne_of q h (hu xs).symm)]; exact q)
    · exact .inr ⟨z, by rw [upd_ne (ne_of q h (hf z xs).symm)]; exact q⟩
theorem Fr.setL (h : H p = some (.lst xs)) : Fr [p] H (upd H p o) := Fr.set h (fun _ e => by cases e) (fun _ _ e => by cases e)
theorem Fr.setD {kvs : List (Key × V)} (h : H p = some (.dK kvs)) : Fr [p] H (upd H p o) := Fr.set h (fun _ e => by cases e) (fun _ _ e => by cases e)
theorem Fr.setI {C dx : Addr} {fs : List (Str × V)} (h : H p = some (.ins C dx fs)) : Fr [p] H (upd H p o) := Fr.set h (fun _ e => by cases e) (fun _ _ e => by cases e)
theorem Fr.drop (f : Fr [p] H H1) (n : H p = none) : Fr [] H H1 := (Fr.refl [] H).trans f fun b m => .inr (by rw [List.mem_singleton.mp m]; exact n)
theorem Fr.updN (f : Fr [] H H1) (n : H p = none) (e : H1 p = some (.lst xs)) : Fr [] H (upd H1 p o) := f.trans (Fr.setL e) fun b m => .inr (by rw [List.mem_singleton.mp m]; exact n)
theorem Fr.at (f : Fr [] H H1) (h : H a = some o) : H1 a = some o := f.keep a o h (by simp)
theorem Fr.at1 (f : Fr [p] H H1) (h : H a = some o) (n : a ≠ p) : H1 a = some o := f.keep a o h (by simpa using n)
theorem Fr.free (f : Fr l H H1) (h : H1 a = none) (n : a ∉ l) : H a = none := by
  cases q : H a with
  | none => rfl
  | some z => rw [f.keep a z q n] at h; cases h
theorem at_as (h : H a = some o) : H a = some o := h
theorem fr_as (h : Fr l H H1) : Fr l H H1 := h
theorem Fr.sqT (f : Fr l H H1) (h : SqT K H a xs) : SqT K H1 a xs := by
  rcases h with h | h
  · exact .inl (f.rdt _ _ h)
  · exact .inr h
theorem Fr.sqL (f : Fr l H H1) (h : SqL K H a xs) (n : a ∉ l) : SqL K H1 a xs := by
  rcases h with (h | ⟨z, h⟩) | h
  · exact .inl (.inl (f.keep _ _ h n))
  · exact .inl (.inr ⟨z, f.keep _ _ h n⟩)
  · exact .inr h
mutual
theorem Rep.fr (f : Fr l H H1) : ∀ (d : PyData) (v : V), Rep K H d v → Rep K H1 d v
  | .none, _, h => h
  | .bool _, _, h => h
  | .int _, _, h => h
  | .str _, _, h => h
  | .tuple ds, v, h => by
    unfold Rep at h ⊢
    obtain ⟨a, vs, e, q, r⟩ := h
    exact ⟨a, vs, e, f.tups _ _ q, Reps.fr f ds vs r⟩
  | .list _, _, h => by unfold Rep at h; exact h.elim
  | .dict _, _, h => by unfold Rep at h; exact h.elim
theorem Reps.fr (f : Fr l H H1) : ∀ (ds : List PyData) (vs : List V), Reps K H ds vs → Reps K H1 ds vs
  | [], _, h => by unfold Reps at h ⊢; exact h
  | d :: ds, vs, h => by
    unfold Reps at h ⊢
    obtain ⟨v, r, e, h1, h2⟩ := h
    exact ⟨v, r, e, Rep.fr f d v h1, Reps.fr f ds r h2⟩
end
theorem Rep.up (h : Rep K H d v) (f : Fr l H H1) : Rep K H1 d v := Rep.fr f d v h
theorem Reps.up (h : Reps K H ds vs) (f : Fr l H H1) : Reps K H1 ds vs := Reps.fr f ds vs h
mutual
theorem Rep.dp : ∀ (d : PyData) (v : V), Rep K H d v → Dp K H v d
  | .none, _, h => by unfold Rep at h; subst h; exact .non
  | .bool _, _, h => by unfold Rep at h; subst h; exact .bl _
  | .int _, _, h => by unfold Rep at h; subst h; exact .int _
  | .str _, _, h => by unfold Rep at h; subst h; exact .str _
  | .tuple ds, v, h => by
    unfold Rep at h
    obtain ⟨a, vs, e, q, r⟩ := h
    subst e
    exact .tup (.of q) (Reps.dp ds vs r)
  | .list _, _, h => by unfold Rep at h; exact h.elim
  | .dict _, _, h => by unfold Rep at h; exact h.elim
theorem Reps.dp : ∀ (ds : List PyData) (vs : List V), Reps K H ds vs → DpAll K H vs ds
  | [], _, h => by unfold Reps at h; subst h; exact .nil
  | d :: ds, vs, h => by
    unfold Reps at h
    obtain ⟨v, r, e, h1, h2⟩ := h
    subst e
    exact .cons (Rep.dp d v h1) (Reps.dp ds r h2)
end
theorem rep_as (h : Rep K H d v) : Rep K H d v := h
theorem reps_as (h : Reps K H ds vs) : Reps K H ds vs := h
theorem rep_int {i : Int} : Rep K H (.int i) (.int i) := by unfold Rep; rfl
theorem rep_str {x : Str} : Rep K H (.str x) (.str x) := by unfold Rep; rfl
theorem rep_bl {b : Bool} : Rep K H (.bool b) (.bl b) := by unfold Rep; rfl
theorem rep_non : Rep K H .none .non := by unfold Rep; rfl
theorem reps_nil : Reps K H [] [] := by unfold Reps; rfl
theorem reps_cons {vs : List V} (h : Rep K H d v) (r : Reps K H ds vs) : Reps K H (d :: ds) (v :: vs) := by unfold Reps; exact ⟨v, vs, rfl, h, r⟩
theorem rep_tup {a : Addr} (q : H a = some (.tup vs)) (r : Reps K H ds vs) : Rep K H (.tuple ds) (.ref a) := by unfold Rep; exact ⟨a, vs, rfl, q, r⟩
theorem Rep.tup_iff : Rep K H (.tuple ds) v ↔ ∃ a vs, v = .ref a ∧ H a = some (.tup vs) ∧ Reps K H ds vs := by unfold Rep; exact Iff.rfl
theorem Reps.cons_iff : Reps K H (d :: ds) vs ↔ ∃ v r, vs = v :: r ∧ Rep K H d v ∧ Reps K H ds r := by
  constructor
  · intro h; unfold Reps at h; exact h
  · intro h; unfold Reps; exact h
theorem Reps.length : ∀ {ds : List PyData} {vs : List V}, Reps K H ds vs → vs.length = ds.length
  | [], _, h => by unfold Reps at h; subst h; rfl
  | d :: ds, vs, h => by
    unfold Reps at h
    obtain ⟨v, r, e, _, h2⟩ := h
    subst e
    rw [List.length_cons, List.length_cons, Reps.length h2]
theorem Reps.get : ∀ {ds : List PyData} {vs : List V} {i : Nat} {d : PyData}, Reps K H ds vs → ds[i]? = some d → ∃ v, vs[i]? = some v ∧ Rep K H d v
  | [], _, _, _, _, e => by simp at e
  | d :: ds, vs, i, x, h, e => by
    unfold Reps at h
    obtain ⟨v, r, ev, h1, h2⟩ := h
    subst ev
    cases i with
    | zero => simp at e; subst e; exact ⟨v, rfl, h1⟩
    | succ i =>
      obtain ⟨y, e1, e2⟩ := Reps.get (i := i) h2 (by simpa using e)
      exact ⟨y, by simpa using e1, e2⟩
theorem Reps.get' : ∀ {ds : List PyData} {vs : List V} {i : Nat} {v : V}, Reps K H ds vs → vs[i]? = some v → ∃ d, ds[i]? = some d ∧ Rep K H d v
  | [], _, _, _, h, e => by unfold Reps at h; subst h; simp at e
  | d :: ds, vs, i, x, h, e => by
    unfold Reps at h
    obtain ⟨v, r, ev, h1, h2⟩ := h
    subst ev
    cases i with
    | zero => simp at e; subst e; exact ⟨d, rfl, h1⟩
    | succ i =>
      obtain ⟨y, e1, e2⟩ := Reps.get' (i := i) h2 (by simpa using e)
      exact ⟨y, by simpa using e1, e2⟩
theorem Reps.append : ∀ {ds es : List PyData} {vs us : List V}, Reps K H ds vs → Reps K H es us → Reps K H (ds ++ es) (vs ++ us)
  | [], _, _, _, h, g => by unfold Reps at h; subst h; exact g
  | d :: ds, es, vs, us, h, g => by
    unfold Reps at h
    obtain ⟨v, r, ev, h1, h2⟩ := h
    subst ev
    exact reps_cons h1 (Reps.append h2 g)
theorem Reps.take : ∀ {ds : List PyData} {vs : List V} (n : Nat), Reps K H ds vs → Reps K H (ds.take n) (vs.take n)
  | _, _, 0, _ => reps_nil
  | [], _, n + 1, h => by unfold Reps at h; subst h; exact reps_nil
  | d :: ds, vs, n + 1, h => by
    unfold Reps at h
    obtain ⟨v, r, ev, h1, h2⟩ := h
    subst ev
    exact reps_cons h1 (Reps.take n h2)
theorem Reps.drop : ∀ {ds : List PyData} {vs : List V} (n : Nat), Reps K H ds vs → Reps K H (ds.drop n) (vs.drop n)
  | _, _, 0, h => h
  | [], _, n + 1, h => by unfold Reps at h; subst h; exact reps_nil
  | d :: ds, vs, n + 1, h => by
    unfold Reps at h
    obtain ⟨v, r, ev, h1, h2⟩ := h
    subst ev
    exact Reps.drop n h2

/-! ### readings over data -/
variable {Q : VK} {i : Nat}
/-- t[i] -/
theorem ix_rep {x : V} (h : Rep K H (.tuple ds) x) (e : ds[i]? = some d) (q : ∀ v, Rep K H d v → Q v H) : rIxG K x (.int (i : Nat)) H Q := by
  obtain ⟨a, vs, rfl, hs, hr⟩ := Rep.tup_iff.mp h
  obtain ⟨v, ev, rv⟩ := hr.get e
  exact .inl ⟨a, vs, i, v, rfl, rfl, .of hs, atI_nat ev, q v rv⟩
theorem eqG_rep {x y : V} {e : PyData} (h1 : Rep K H d x) (h2 : Rep K H e y) (s1 : SeqAt.shaped d = true) (s2 : SeqAt.shaped e = true) (q : Q (.bl (PyData.eqv d e)) H) : rEqG K x y H Q :=
  .inr (.inl ⟨d, e, Rep.dp d x h1, Rep.dp e y h2, s1, s2, q⟩)
theorem eqv_same (s1 : SeqAt.shaped d = true) : PyData.eqv d d = true := SeqAt.eqv_refl d (SeqAt.canLay_of_shaped s1)
theorem eqG_same {x y : V} (h1 : Rep K H d x) (h2 : Rep K H d y) (s1 : SeqAt.shaped d = true) (q : Q (.bl true) H) : rEqG K x y H Q :=
  eqG_rep h1 h2 s1 s1 (by rw [eqv_same s1]; exact q)
theorem neG_same {x y : V} (h1 : Rep K H d x) (h2 : Rep K H d y) (s1 : SeqAt.shaped d = true) (q : Q (.bl false) H) : rNeG K x y H Q :=
  .inr (.inl ⟨d, d, Rep.dp d x h1, Rep.dp d y h2, s1, s1, by rw [eqv_same s1]; exact q⟩)
theorem neG_dp {x y : V} (h1 : Dp K H x d) (h2 : Dp K H y d) (s1 : SeqAt.shaped d = true) (q : Q (.bl false) H) : rNeG K x y H Q :=
  .inr (.inl ⟨d, d, h1, h2, s1, s1, by rw [eqv_same s1]; exact q⟩)
theorem eqG_str {x y : Str} (q : Q (.bl (decide (V.str x = V.str y))) H) : rEqG K (.str x) (.str y) H Q := .inl ⟨rfl, q⟩
theorem neG_str {x y : Str} (q : Q (.bl (!decide (V.str x = V.str y))) H) : rNeG K (.str x) (.str y) H Q := .inl ⟨rfl, q⟩
theorem eqG_int {x y : Int} (q : Q (.bl (decide (V.int x = V.int y))) H) : rEqG K (.int x) (.int y) H Q := .inl ⟨rfl, q⟩
theorem neG_int {x y : Int} (q : Q (.bl (!decide (V.int x = V.int y))) H) : rNeG K (.int x) (.int y) H Q := .inl ⟨rfl, q⟩
/-- x in (a, b, ..), flat things -/
theorem in_tup {x y : V} {vs : List V} (h : ∃ a, y = .ref a ∧ SqT K H a vs) (f1 : flatV x = true) (f2 : vs.all flatV = true) (q : Q (.bl (inV x vs)) H) : rInG K x y H Q := by
  obtain ⟨a, rfl, hs⟩ := h
  exact .inl ⟨a, vs, rfl, .inr hs, f1, f2, q⟩
theorem len_tup {x : V} (h : Rep K H (.tuple ds) x) (q : Q (.int ds.length) H) : rLenG K [x] H Q := by
  obtain ⟨a, vs, rfl, hs, hr⟩ := Rep.tup_iff.mp h
  rw [← hr.length] at q
  exact .inl ⟨.ref a, vs.length, rfl, .inr ⟨vs, .of hs, rfl⟩, q⟩
theorem len_lst {a : Addr} {xs : List V} (h : SqL K H a xs) (q : Q (.int xs.length) H) : rLenG K [.ref a] H Q :=
  .inl ⟨.ref a, xs.length, rfl, .inl ⟨xs, h, rfl⟩, q⟩
end

/-! ### steps of a reading, one a combinator -/
section
variable {K : PySem.W.Frag} {σ : L2.St} {H : Hp} {Q : VK} {QT : Bool → Hp → Prop} {QA : List V → Hp → Prop} {n b c : L2.St → Hp → Prop} {r : VK} {te ta tb : TE} {tt tu : TT} {t u : TS} {g : TG} {i : Nat} {v : V}
theorem g_seq (h : t ⟨u ⟨n, r, b, c⟩, r, b, c⟩ σ H) : tSeq t u ⟨n, r, b, c⟩ σ H := h
theorem g_next (h : n σ H) : tNext ⟨n, r, b, c⟩ σ H := h
theorem g_asg (h : te σ H fun x H1 => g x σ H1 n) : tAsg te g ⟨n, r, b, c⟩ σ H := h
theorem g_name {q : L2.St → Hp → Prop} (h : q (σ.set i (some v)) H) : gName i v σ H q := h
theorem g_var (e : σ[i]? = some (some v)) (h : Q v H) : tVar i σ H Q := ⟨v, e, h⟩
theorem g_c (h : Q v H) : tC v σ H Q := h
theorem g_op {R : R2} (h : ta σ H fun x H1 => tb σ H1 fun y H2 => R x y H2 Q) : tOp R ta tb σ H Q := h
/-- what is wanted of a new tuple, a new list -/
def NewT (xs : List V) (H : Hp) (Q : VK) : Prop := xs.length ≤ sizeLine ∧ ∀ p, H p = none → Q (.ref p) (upd H p (.tup xs))
def NewL (xs : List V) (H : Hp) (Q : VK) : Prop := xs.length ≤ sizeLine ∧ ∀ p, H p = none → Q (.ref p) (upd H p (.lst xs))
theorem g_tup {ts : TA} (h : ts σ H fun xs H1 => NewT xs H1 Q) : tTup ts σ H Q := h
theorem g_lst {ts : TA} (h : ts σ H fun xs H1 => NewL xs H1 Q) : tLst ts σ H Q := h
theorem g_nil (h : QA [] H) : tNil σ H QA := h
theorem g_cons {ts : TA} (h : te σ H fun x H1 => ts σ H1 fun xs H2 => QA (x :: xs) H2) : tCons te ts σ H QA := h
theorem g_ret (h : te σ H r) : tRet te ⟨n, r, b, c⟩ σ H := h
theorem g_retN (h : r .non H) : tRetN ⟨n, r, b, c⟩ σ H := h
theorem g_ifs (h : tt σ H fun k H1 => if k = true then t ⟨n, r, b, c⟩ σ H1 else u ⟨n, r, b, c⟩ σ H1) : tIfS tt t u ⟨n, r, b, c⟩ σ H := h
theorem g_test (h : te σ H fun x H' => ∃ k, x = .bl k ∧ QT k H') : tTest te σ H QT := h
theorem g_b (h : te σ H fun x H' => ∃ k, x = .bl k ∧ QT k H') : tB te σ H QT := h
theorem g_drop (h : te σ H fun _ H1 => n σ H1) : tDrop te ⟨n, r, b, c⟩ σ H := h
theorem g_bl {k : Bool} {q : Bool → Prop} (h : q k) : ∃ k', V.bl k = .bl k' ∧ q k' := ⟨k, rfl, h⟩
theorem g_and (h : tt σ H fun k H1 => if k = true then tu σ H1 QT else QT false H1) : tAnd tt tu σ H QT := h
theorem g_or (h : tt σ H fun k H1 => if k = true then QT true H1 else tu σ H1 QT) : tOr tt tu σ H QT := h
theorem g_not (h : tt σ H fun k H1 => QT (!k) H1) : tNot tt σ H QT := h
theorem g_andV (h : ta σ H fun x H1 => ∃ k, x = .bl k ∧ if k = true then tb σ H1 Q else Q (.bl false) H1) : tAndV ta tb σ H Q := h
theorem g_orV (h : ta σ H fun x H1 => ∃ k, x = .bl k ∧ if k = true then Q (.bl true) H1 else tb σ H1 Q) : tOrV ta tb σ H Q := h
theorem g_cb {R : List V → Hp → VK → Prop} {ts : TA} (h : ts σ H fun vs H1 => R vs H1 Q) : tCB R ts σ H Q := h
theorem g_call {sp : Sp} {E : XK} {ts : TA} (h : ts σ H fun vs H1 => sp (vs ++ []) H1 Q E) : tCall sp [] E ts σ H Q := h
theorem g_un {R : V → Hp → VK → Prop} (h : ta σ H fun x H1 => R x H1 Q) : tUn R ta σ H Q := h
theorem g_if (h : tt σ H fun k H1 => if k = true then ta σ H1 Q else tb σ H1 Q) : tIf tt ta tb σ H Q := h
theorem g_sub {q : L2.St → Hp → Prop} {ts : TSet} (h : ta σ H fun o H1 => tb σ H1 fun j H2 => ts o j v H2 fun H3 => q σ H3) : gSub ta tb ts v σ H q := h
theorem g_yes (h : QT true H) : tYes σ H QT := h
theorem g_tapp {T : String} {R : V → List V → Hp → VK → Prop} {ts : TA} (h : te σ H fun x H1 => tyV K T x H1 ∧ ts σ H1 fun xs H2 => R x xs H2 Q) : tBM K T R te ts σ H Q := h
theorem g_tapp0 {T : String} {R : V → List V → Hp → VK → Prop} (h : te σ H fun x H1 => tyV K T x H1 ∧ R x [] H1 Q) : tBM0 K T R te σ H Q := h
theorem g_sl {R : V → Option Int → Option Int → Hp → VK → Prop} {tl th : TO} (h : te σ H fun x H1 => tl σ H1 fun l H2 => th σ H2 fun z H3 => R x l z H3 Q) : tSl R te tl th σ H Q := h
theorem g_nopart {q : Option Int → Hp → Prop} (h : q none H) : tNoPart σ H q := h
theorem g_part {q : Option Int → Hp → Prop} (h : te σ H fun x H1 => ∃ j, x = .int j ∧ q (some j) H1) : tPart te σ H q := h
theorem g_int {j : Int} {q : Int → Prop} (h : q j) : ∃ k, V.int j = .int k ∧ q k := ⟨j, rfl, h⟩
/-! ### tests that are decided -/
theorem ifT {p : Prop} [Decidable p] {A B : Prop} (e : p) (h : A) : if decide p = true then A else B := by rw [if_pos (decide_eq_true e)]; exact h
theorem ifF {p : Prop} [Decidable p] {A B : Prop} (e : ¬ p) (h : B) : if decide p = true then A else B := by rw [if_neg (by simp [e])]; exact h
theorem ifD {p : Prop} [Decidable p] {A B : Prop} (h1 : p → A) (h2 : ¬ p → B) : if decide p = true then A else B := by
  by_cases e : p
  · exact ifT e (h1 e)
  · exact ifF e (h2 e)
theorem iteN1 {A B : Prop} (h : B) : if (!true) = true then A else B := by rw [if_neg (by decide)]; exact h
theorem iteN0 {A B : Prop} (h : A) : if (!false) = true then A else B := by rw [if_pos (by decide)]; exact h
theorem iteN2 {p : Prop} [Decidable p] {A B : Prop} (h1 : ¬ p → A) (h2 : p → B) : if (!decide p) = true then A else B := by
  by_cases e : p
  · rw [if_neg (by simp [e])]; exact h2 e
  · rw [if_pos (by simp [e])]; exact h1 e
theorem ifNT {p : Prop} [Decidable p] {A B : Prop} (e : ¬ p) (h : A) : if (!decide p) = true then A else B := by rw [if_pos (by simp [e])]; exact h
theorem ifNF {p : Prop} [Decidable p] {A B : Prop} (e : p) (h : B) : if (!decide p) = true then A else B := by rw [if_neg (by simp [e])]; exact h
/-! ### leaves -/
variable {ds : List PyData} {d : PyData} {x : V}
theorem ix_repS {s : Str} (h : Rep K H (.tuple ds) x) (e : ds[i]? = some (.str s)) (q : Q (.str s) H) : rIxG K x (.int (i : Nat)) H Q :=
  ix_rep h e fun v hv => by unfold Rep at hv; subst hv; exact q
theorem ix_repI {j : Int} (h : Rep K H (.tuple ds) x) (e : ds[i]? = some (.int j)) (q : Q (.int j) H) : rIxG K x (.int (i : Nat)) H Q :=
  ix_rep h e fun v hv => by unfold Rep at hv; subst hv; exact q
theorem ix_repB {j : Bool} (h : Rep K H (.tuple ds) x) (e : ds[i]? = some (.bool j)) (q : Q (.bl j) H) : rIxG K x (.int (i : Nat)) H Q :=
  ix_rep h e fun v hv => by unfold Rep at hv; subst hv; exact q
/-- what is wanted of an item that stands for d -/
def GetQ (K : PySem.W.Frag) (d : PyData) (H : Hp) (Q : VK) : Prop := ∀ v, Rep K H d v → Q v H
theorem ix_get {j : Int} (h : Rep K H (.tuple ds) x) (hj : j = ((i : Nat) : Int)) (e : ds[i]? = some d) (q : GetQ K d H Q) : rIxG K x (.int j) H Q := by
  subst hj
  exact ix_rep h e q
theorem get_str {s : Str} (q : Q (.str s) H) : GetQ K (.str s) H Q := fun v hv => by unfold Rep at hv; subst hv; exact q
theorem get_int {s : Int} (q : Q (.int s) H) : GetQ K (.int s) H Q := fun v hv => by unfold Rep at hv; subst hv; exact q
theorem get_bl {s : Bool} (q : Q (.bl s) H) : GetQ K (.bool s) H Q := fun v hv => by unfold Rep at hv; subst hv; exact q
theorem get_any (q : ∀ v, Rep K H d v → Q v H) : GetQ K d H Q := q
/-- a new tuple, by its values -/
theorem newT {vs : List V} (hl : vs.length ≤ 1000) (q : ∀ H' p, Fr [] H H' → H p = none → H' p = some (.tup vs) → Q (.ref p) H') : NewT vs H Q :=
  ⟨Nat.le_of_lt (small1000 hl), fun p hp => q _ _ (Fr.new hp) hp upd_same⟩
theorem newL {vs : List V} (hl : vs.length ≤ 1000) (q : ∀ H' p, Fr [] H H' → H p = none → H' p = some (.lst vs) → Q (.ref p) H') : NewL vs H Q :=
  ⟨Nat.le_of_lt (small1000 hl), fun p hp => q _ _ (Fr.new hp) hp upd_same⟩
theorem newR {vs : List V} (_ : Kk K) (r : Reps K H ds vs) (hl : vs.length ≤ 1000) (q : ∀ H' v, Fr [] H H' → Rep K H' (.tuple ds) v → Q v H') : NewT vs H Q :=
  newT hl fun H' p f _ e => q H' _ f (rep_tup e (r.up f))
def sv : PyData → V
  | .none => .non
  | .bool b => .bl b
  | .int i => .int i
  | .str x => .str x
  | _ => .ref 0
def isSv : PyData → Bool
  | .none => true
  | .bool _ => true
  | .int _ => true
  | .str _ => true
  | _ => false
theorem Rep.sv : ∀ {d : PyData} {v : V}, Rep K H d v → isSv d = true → v = sv d := by
  intro d v h e
  cases d <;> first | (unfold Rep at h; exact h) | cases e
theorem Reps.sv : ∀ {ds : List PyData} {vs : List V}, Reps K H ds vs → ds.all isSv = true → vs = ds.map sv
  | [], _, h, _ => by unfold Reps at h; exact h
  | d :: ds, vs, h, e => by
    unfold Reps at h
    obtain ⟨v, r, rfl, h1, h2⟩ := h
    rw [List.all_cons, Bool.and_eq_true] at e
    rw [List.map_cons, h1.sv e.1, Reps.sv h2 e.2]
theorem in_rep {y : V} {k : Bool} (h : Rep K H (.tuple ds) y) (e : ds.all isSv = true) (f1 : flatV x = true) (f2 : (ds.map sv).all flatV = true) (e2 : inV x (ds.map sv) = k) (q : Q (.bl k) H) : rInG K x y H Q := by
  obtain ⟨a, vs, rfl, hs, hr⟩ := Rep.tup_iff.mp h
  have := hr.sv e
  subst this
  subst e2
  exact .inl ⟨a, _, rfl, .inr (.of hs), f1, f2, q⟩
theorem in_at {a : Addr} {vs : List V} {k : Bool} (h : H a = some (.tup vs)) (f1 : flatV x = true) (f2 : vs.all flatV = true) (e : inV x vs = k) (q : Q (.bl k) H) : rInG K x (.ref a) H Q := by
  subst e
  exact .inl ⟨a, vs, rfl, .inr (.of h), f1, f2, q⟩
end

/-! ### built-ins under names -/
section
variable {X : Cx}
def rTupOf (K : PySem.W.Frag) : List V → Hp → VK → Prop := fun xs H Q => ∃ p ys, xs = [.ref p] ∧ ((SqL K H p ys ∧ ∀ l, H l = none → Q (.ref l) (upd H l (.tup ys))) ∨ (SqT K H p ys ∧ Q (.ref p) H))
theorem call_tupG : CallR X (.type "tuple") (rTupOf X.K) := call_tuple_of
def rIntOf : List V → Hp → VK → Prop := fun xs H Q => (∃ i, xs = [.int i] ∧ Q (.int i) H) ∨ ∃ k, xs = [.bl k] ∧ Q (.int (if k then 1 else 0)) H
theorem call_intG : CallR X (.type "int") rIntOf := call_int1
def rAbsOf : List V → Hp → VK → Prop := fun xs H Q => ∃ i, xs = [.int i] ∧ Q (.int (if i < 0 then -i else i)) H
theorem call_absG : CallR X (.builtin "abs") rAbsOf := call_abs
def rDictOf : List V → Hp → VK → Prop := fun xs H Q => ∃ (a : Addr) (kvs : List (Key × V)), xs = [.ref a] ∧ Rd H a (.dK kvs) ∧ ∀ p, H p = none → Q (.ref p) (upd H p (.dK kvs))
theorem call_dictG : CallR X (.type "dict") rDictOf := call_dictD
end
section
variable {K : PySem.W.Frag} {σ : L2.St} {H : Hp} {Q : VK} {QT : Bool → Hp → Prop} {QA : List V → Hp → Prop} {n b c : L2.St → Hp → Prop} {r : VK} {te ta tb : TE} {tt tu : TT} {t u : TS} {g : TG} {i : Nat} {v : V}
variable {ds : List PyData} {d : PyData} {x y : V}
theorem tupOf_rep (h : Rep K H (.tuple ds) x) (q : Q x H) : rTupOf K [x] H Q := by
  obtain ⟨a, vs, rfl, hs, _⟩ := Rep.tup_iff.mp h
  exact ⟨a, vs, rfl, .inr ⟨.of hs, q⟩⟩
theorem tupOf_lst {a : Addr} {vs : List V} (h : H a = some (.lst vs)) (q : ∀ H' p, Fr [] H H' → H p = none → H' p = some (.tup vs) → Q (.ref p) H') : rTupOf K [.ref a] H Q :=
  ⟨a, vs, rfl, .inl ⟨.of h, fun l hl => q _ l (Fr.new hl) hl upd_same⟩⟩
theorem intOf_int {j : Int} (q : Q (.int j) H) : rIntOf [.int j] H Q := .inl ⟨j, rfl, q⟩
theorem intOf_bl {k : Bool} (q : Q (.int (if k then 1 else 0)) H) : rIntOf [.bl k] H Q := .inr ⟨k, rfl, q⟩
theorem absOf_int {j : Int} (q : Q (.int (if j < 0 then -j else j)) H) : rAbsOf [.int j] H Q := ⟨j, rfl, q⟩
/-! ints -/
theorem rI0_int {j k : Int} {f : Int → Int → V} (q : Q (f j k) H) : rI0 f (.int j) (.int k) H Q := ⟨j, k, rfl, rfl, q⟩
theorem rI_int {j k : Int} {C : Int → Int → Prop} {f : Int → Int → V} (h : C j k) (q : Q (f j k) H) : rI C f (.int j) (.int k) H Q := ⟨j, k, rfl, rfl, h, q⟩
theorem addG_int {j k : Int} (q : Q (.int (j + k)) H) : rAddG K (.int j) (.int k) H Q := .inl ⟨j, k, rfl, rfl, q⟩
theorem addG_str {j k : Str} (h : j.length + k.length ≤ sizeLine) (q : Q (.str (j ++ k)) H) : rAddG K (.str j) (.str k) H Q := .inr (.inr (.inl ⟨j, k, rfl, rfl, h, q⟩))
theorem rU_int {j : Int} {f : Int → V} (q : Q (f j) H) : rU f (.int j) H Q := ⟨j, rfl, q⟩
/-- t + u, tuples -/
theorem addG_tup {es : List PyData} (h : Rep K H (.tuple ds) x) (h' : Rep K H (.tuple es) y) (hl : ds.length + es.length ≤ 1000) (q : ∀ H' z, Fr [] H H' → Rep K H' (.tuple (ds ++ es)) z → Q z H') : rAddG K x y H Q := by
  obtain ⟨a, vs, rfl, hs, hr⟩ := Rep.tup_iff.mp h
  obtain ⟨b, us, rfl, hs', hr'⟩ := Rep.tup_iff.mp h'
  refine .inr (.inl ⟨a, b, vs, us, rfl, rfl, .of hs, .of hs', ?_, fun e => ?_, fun _ e => ?_, fun _ _ p hp => ?_⟩)
  · rw [hr.length, hr'.length]; exact Nat.le_of_lt (small1000 hl)
  · subst e
    have e2 : ds = [] := List.length_eq_zero_iff.mp (by rw [← hr.length]; rfl)
    subst e2
    exact q _ _ (Fr.refl _ _) h'
  · subst e
    have e2 : es = [] := List.length_eq_zero_iff.mp (by rw [← hr'.length]; rfl)
    subst e2
    rw [List.append_nil] at q
    exact q _ _ (Fr.refl _ _) h
  · have f : Fr [] H (upd H p (.tup (vs ++ us))) := Fr.new hp
    exact q _ _ f (rep_tup upd_same ((hr.append hr').up f))
/-! lists -/
theorem lst_ty {a : Addr} {xs : List V} {q : Prop} (h : H a = some (.lst xs)) (w : q) : tyV K "list" (.ref a) H ∧ q := ⟨.inl ⟨rfl, xs, .inl (.inl h)⟩, w⟩
theorem append_q {a : Addr} {xs : List V} (h : H a = some (.lst xs)) (hl : xs.length < sizeLine) (q : ∀ H', Fr [a] H H' → H' a = some (.lst (xs ++ [y])) → Q .non H') : rAppend (.ref a) [y] H Q :=
  ⟨a, xs, y, rfl, rfl, h, hl, q _ (Fr.setL h) upd_same⟩
theorem pop_q {a : Addr} {xs : List V} (h : H a = some (.lst (xs ++ [y]))) (q : ∀ H', Fr [a] H H' → H' a = some (.lst xs) → Q y H') : rPop (.ref a) [] H Q := by
  refine ⟨a, xs ++ [y], y, rfl, rfl, h, by simp, ?_⟩
  have e : (xs ++ [y]).dropLast = xs := by simp
  exact q _ (Fr.setL h) (by rw [upd_same, e])
theorem ixL_q {a : Addr} {xs : List V} {j : Int} (h : SqL K H a xs) (e : xs[i]? = some v) (hj : j = ((i : Nat) : Int)) (q : Q v H) : rIxG K (.ref a) (.int j) H Q := by
  subst hj
  exact .inr (.inl ⟨a, xs, i, v, rfl, rfl, h, atI_nat e, q⟩)
theorem setL_q {a : Addr} {xs : List V} {j : Int} {k : Nat} {q : Hp → Prop} (h : H a = some (.lst xs)) (hj : j = ((k : Nat) : Int)) (hk : k < xs.length) (w : ∀ H', Fr [a] H H' → H' a = some (.lst (xs.set k v)) → q H') : rSetL (.ref a) (.int j) v H q ∨ rSetD (.ref a) (.int j) v H q := by
  subst hj
  refine .inl ⟨a, xs, _, k, rfl, rfl, h, ?_, w _ (Fr.setL h) upd_same⟩
  unfold ixN
  rw [if_pos (by omega), if_pos (by omega)]
  simp
theorem setL1_q {a : Addr} {xs : List V} {j : Int} {k : Nat} {q : Hp → Prop} (h : H a = some (.lst xs)) (hj : j = ((k : Nat) : Int)) (hk : k < xs.length) (w : ∀ H', Fr [a] H H' → H' a = some (.lst (xs.set k v)) → q H') : rSetL (.ref a) (.int j) v H q := by
  subst hj
  refine ⟨a, xs, _, k, rfl, rfl, h, ?_, w _ (Fr.setL h) upd_same⟩
  unfold ixN
  rw [if_pos (by omega), if_pos (by omega)]
  simp
theorem getL_q {a : Addr} {xs : List V} {j : Int} (h : SqL K H a xs) (e : xs[i]? = some v) (hj : j = ((i : Nat) : Int)) (q : Q v H) : rGetL K (.ref a) (.int j) H Q := by
  subst hj
  exact ⟨a, xs, i, v, rfl, rfl, h, e, q⟩
theorem ipI_int {j k : Int} {f : Int → Int → Int} (q : Q (.int (f j k)) H) : ipI f (.int j) (.int k) H Q := ⟨j, k, rfl, rfl, q⟩
theorem g_augs {to ti te : TE} {tget : V → V → Hp → VK → Prop} {tip : TIp} {tset : TSet} (h : to σ H fun o H1 => ti σ H1 fun j H2 => tget o j H2 fun x H3 => te σ H3 fun y H4 => tip x y H4 fun z H5 => tset o j z H5 fun H6 => n σ H6) : tAugS to ti te tget tip tset ⟨n, r, b, c⟩ σ H := h
theorem g_aug {te : TE} {ti : TIp} (e : σ[i]? = some (some x)) (h : te σ H fun y H1 => ti x y H1 fun z H2 => n (σ.set i (some z)) H2) : tAug i te ti ⟨n, r, b, c⟩ σ H := ⟨x, e, h⟩
/-! dicts -/
theorem g_dnew (q : ∀ H' p, Fr [] H H' → H p = none → H' p = some (.dK []) → Q (.ref p) H') : tDNewK σ H Q := fun p hp => q _ p (Fr.new hp) hp upd_same
theorem setD_q {a : Addr} {kvs : List (Key × V)} {k : Key} {q : Hp → Prop} (h : H a = some (.dK kvs)) (hx : x = kV k) (hl : kvs.length < 1000) (w : ∀ H', Fr [a] H H' → H' a = some (.dK (putK kvs k v)) → q H') : rSetL (.ref a) x v H q ∨ rSetD (.ref a) x v H q := by
  subst hx
  exact .inr ⟨a, _, rfl, DPut.k h (small1000 (Nat.le_of_lt hl)), w _ (Fr.setD h) upd_same⟩
theorem inD_q {a : Addr} {kvs : List (Key × V)} {k : Key} (h : H a = some (.dK kvs)) (hx : x = kV k) (q : Q (.bl (valV kvs k).isSome) H) : rInG K x (.ref a) H Q := by
  subst hx
  exact .inr (.inl ⟨a, _, rfl, DGet.k h, q⟩)
theorem notInD_q {a : Addr} {kvs : List (Key × V)} {k : Key} (h : H a = some (.dK kvs)) (hx : x = kV k) (q : Q (.bl (!(valV kvs k).isSome)) H) : rNotInG K x (.ref a) H Q := by
  subst hx
  exact .inr (.inl ⟨a, _, rfl, DGet.k h, q⟩)
theorem ixD_q {a : Addr} {kvs : List (Key × V)} {k : Key} (h : H a = some (.dK kvs)) (hx : x = kV k) (e : valV kvs k = some v) (q : Q v H) : rIxG K (.ref a) x H Q := by
  subst hx
  exact .inr (.inr (.inl ⟨a, v, rfl, by rw [← e]; exact DGet.k h, q⟩))
theorem dictOf_q {a : Addr} {kvs : List (Key × V)} (h : H a = some (.dK kvs)) (q : ∀ H' p, Fr [] H H' → H p = none → H' p = some (.dK kvs) → Q (.ref p) H') : rDictOf [.ref a] H Q :=
  ⟨a, kvs, rfl, .inl h, fun p hp => q _ p (Fr.new hp) hp upd_same⟩
theorem listD_q {a : Addr} {kvs : List (Key × V)} (h : H a = some (.dK kvs)) (q : ∀ H' p, Fr [] H H' → H p = none → H' p = some (.lst (kvs.map fun kv => kV kv.1)) → Q (.ref p) H') : rListG K [.ref a] H Q :=
  .inr ⟨a, kvs, rfl, .inl h, fun p hp => q _ p (Fr.new hp) hp upd_same⟩
theorem listT_q (h : Rep K H (.tuple ds) x) (q : ∀ H' p vs, Fr [] H H' → H p = none → H' p = some (.lst vs) → Reps K H' ds vs → Q (.ref p) H') : rListG K [x] H Q := by
  obtain ⟨a, vs, rfl, hs, hr⟩ := Rep.tup_iff.mp h
  exact .inl ⟨a, vs, rfl, .inr (.of hs), fun p hp => q _ p vs (Fr.new hp) hp upd_same (hr.up (Fr.new (o := .lst vs) hp))⟩
theorem listL_q {a : Addr} {xs : List V} (h : SqL K H a xs) (q : ∀ H' p, Fr [] H H' → H p = none → H' p = some (.lst xs) → Q (.ref p) H') : rListG K [.ref a] H Q :=
  .inl ⟨a, xs, rfl, .inl h, fun p hp => q _ p (Fr.new hp) hp upd_same⟩
theorem sortedD_q {a : Addr} {kvs : List (Key × V)} {ks : List Str} (h : H a = some (.dK kvs)) (e : kvs.map (·.1) = ks.map Sum.inr) (hl : ks.length < 64)
    (q : ∀ H' p ys, ys.Perm ks → sortedS ys = true → Fr [] H H' → H p = none → H' p = some (.lst (ys.map V.str)) → Q (.ref p) H') : rSortedG K [.ref a] H Q :=
  .inr ⟨a, kvs, ks, rfl, .inl h, e, hl, fun ys p h1 h2 hp => q _ p ys h1 h2 (Fr.new hp) hp upd_same⟩
theorem sortedL_q {a : Addr} {ks : List Str} (h : SqL K H a (ks.map V.str)) (hl : ks.length < 64)
    (q : ∀ H' p ys, ys.Perm ks → sortedS ys = true → Fr [] H H' → H p = none → H' p = some (.lst (ys.map V.str)) → Q (.ref p) H') : rSortedG K [.ref a] H Q :=
  .inl ⟨a, ks, rfl, h, hl, fun ys p h1 h2 hp => q _ p ys h1 h2 (Fr.new hp) hp upd_same⟩
theorem get2_q {td ty tx : TE} (h : td σ H fun x H1 => ∃ a, x = .ref a ∧ IsD H1 a ∧ ty σ H1 fun y H2 => tx σ H2 fun z H3 => ∃ o, DGet H3 a y o ∧ Q (o.getD z) H3) : tDGet2 td ty tx σ H Q := h
theorem clear_q {a : Addr} {kvs : List (Key × V)} (h : H a = some (.dK kvs)) (q : ∀ H', Fr [a] H H' → H' a = some (.dK []) → Q .non H') : rDClear (.ref a) [] H Q :=
  ⟨a, kvs, rfl, rfl, h, q _ (Fr.setD h) upd_same⟩
theorem neSame_q {a e : Addr} {kvs : List (Key × V)} (h : H a = some (.dK kvs)) (h' : H e = some (.dK kvs)) (hp : ∀ p ∈ kvs, valV kvs p.1 = some p.2 ∧ sameOk p.2) (q : Q (.bl false) H) : rNeG K (.ref a) (.ref e) H Q :=
  .inr (.inr ⟨a, e, kvs, rfl, rfl, h, h', hp, q⟩)
/-! isinstance of data -/
def tyD : PyData → String
  | .none => "NoneType" | .bool _ => "bool" | .int _ => "int" | .str _ => "str" | .tuple _ => "tuple" | .list _ => "list" | .dict _ => "dict"
theorem Rep.tyx {d : PyData} {x : V} (h : Rep K H d x) : TyX K H x (.type (tyD d)) := by
  cases d with
  | none => unfold Rep at h; subst h; exact .base .non
  | bool b => unfold Rep at h; subst h; exact .base (.bl b)
  | int b => unfold Rep at h; subst h; exact .base (.int b)
  | str b => unfold Rep at h; subst h; exact .base (.str b)
  | tuple ds =>
    obtain ⟨a, vs, rfl, hs, _⟩ := Rep.tup_iff.mp h
    exact .base (.tup hs)



  | list _ => unfold Rep at h; exact h.elim
  | dict _ => unfold Rep at h; exact h.elim
theorem isi_rep {T : String} {k : Bool} (h : Rep K H d x) (e : kitB (tyD d) T = some k) (q : Q (.bl k) H) : rIsi K [x, .ty T] H Q :=
  ⟨x, .ty T, .type (tyD d), .type T, k, rfl, .ty T, h.tyx, kit_ty e, q⟩
theorem reps_strs : ∀ (ys : List Str), Reps K H (ys.map .str) (ys.map V.str)
  | [] => reps_nil
  | y :: ys => reps_cons rep_str (reps_strs ys)
theorem reps_ints : ∀ (ys : List Int), Reps K H (ys.map .int) (ys.map V.int)
  | [] => reps_nil
  | y :: ys => reps_cons rep_int (reps_ints ys)
/-! unpacking -/
theorem gTup2_rep {d1 d2 : PyData} {j : Nat} {q : L2.St → Hp → Prop} (h : Rep K H (.tuple [d1, d2]) x) (w : ∀ v1 v2, Rep K H d1 v1 → Rep K H d2 v2 → q ((σ.set i (some v1)).set j (some v2)) H) : gTup K 2 (gCons (gName i) (gCons (gName j) gNil)) x σ H q := by
  obtain ⟨a, vs, rfl, hs, hr⟩ := Rep.tup_iff.mp h
  obtain ⟨v1, r1, rfl, h1, hr⟩ := Reps.cons_iff.mp hr
  obtain ⟨v2, r2, rfl, h2, hr⟩ := Reps.cons_iff.mp hr
  have : r2 = [] := by unfold Reps at hr; exact hr
  subst this
  exact ⟨a, _, rfl, .of hs, rfl, v1, _, rfl, v2, _, rfl, rfl, w v1 v2 h1 h2⟩
theorem gTup3_rep {d1 d2 d3 : PyData} {j k : Nat} {q : L2.St → Hp → Prop} (h : Rep K H (.tuple [d1, d2, d3]) x) (w : ∀ v1 v2 v3, Rep K H d1 v1 → Rep K H d2 v2 → Rep K H d3 v3 → q (((σ.set i (some v1)).set j (some v2)).set k (some v3)) H) : gTup K 3 (gCons (gName i) (gCons (gName j) (gCons (gName k) gNil))) x σ H q := by
  obtain ⟨a, vs, rfl, hs, hr⟩ := Rep.tup_iff.mp h
  obtain ⟨v1, r1, rfl, h1, hr⟩ := Reps.cons_iff.mp hr
  obtain ⟨v2, r2, rfl, h2, hr⟩ := Reps.cons_iff.mp hr
  obtain ⟨v3, r3, rfl, h3, hr⟩ := Reps.cons_iff.mp hr
  have : r3 = [] := by unfold Reps at hr; exact hr
  subst this
  exact ⟨a, _, rfl, .of hs, rfl, v1, _, rfl, v2, _, rfl, v3, _, rfl, rfl, w v1 v2 v3 h1 h2 h3⟩
theorem Reps.snoc (h : Reps K H (ds ++ [d]) vs) : ∃ us u, vs = us ++ [u] ∧ Reps K H ds us ∧ Rep K H d u := by
  induction ds generalizing vs with
  | nil =>
    obtain ⟨u, r, rfl, h1, h2⟩ := Reps.cons_iff.mp h
    have : r = [] := by unfold Reps at h2; exact h2
    subst this
    exact ⟨[], u, rfl, reps_nil, h1⟩
  | cons e es ih =>
    obtain ⟨u, r, rfl, h1, h2⟩ := Reps.cons_iff.mp h
    obtain ⟨us, z, rfl, h3, h4⟩ := ih h2
    exact ⟨u :: us, z, rfl, reps_cons h1 h3, h4⟩
theorem reps_one (h : Rep K H d x) : Reps K H [d] [x] := reps_cons h reps_nil
/-! slices of tuples -/
theorem cutV_from (xs : List V) (k : Nat) : cutV xs (some (k : Int)) none = xs.drop k := by
  unfold cutV
  rw [HT.sIx_nat, HT.sIx_none]
  by_cases h : k ≤ xs.length
  · rw [Nat.min_eq_left h]
    exact List.take_of_length_le (by rw [List.length_drop]; exact Nat.le_refl _)
  · rw [Nat.min_eq_right (by omega), List.drop_of_length_le (by omega), List.drop_of_length_le (by omega), List.take_nil]
theorem cutV_to (xs : List V) (k : Nat) : cutV xs none (some (k : Int)) = xs.take k := by
  unfold cutV
  rw [HT.sIx_nat, HT.sIx_none, List.drop_zero, Nat.sub_zero]
  by_cases h : k ≤ xs.length
  · rw [Nat.min_eq_left h]
  · rw [Nat.min_eq_right (by omega), List.take_of_length_le (by omega), List.take_of_length_le (by omega)]
theorem cutV_at (xs : List V) (j k : Nat) (h : j ≤ k) : cutV xs (some (j : Int)) (some (k : Int)) = (xs.take k).drop j := by
  unfold cutV
  rw [HT.sIx_nat, HT.sIx_nat, List.drop_take]
  by_cases h1 : j ≤ xs.length
  · rw [Nat.min_eq_left h1]
    by_cases h2 : k ≤ xs.length
    · rw [Nat.min_eq_left h2]
    · rw [Nat.min_eq_right (by omega), List.take_of_length_le (by rw [List.length_drop]; omega), List.take_of_length_le (by rw [List.length_drop]; omega)]
  · rw [Nat.min_eq_right (by omega), List.drop_of_length_le (by omega), List.drop_of_length_le (by omega), List.take_nil, List.take_nil]
theorem slT_gen {lo hi : Option Int} (h : Rep K H (.tuple ds) x) (es : List PyData) (he : ∀ {vs : List V} {H'}, Reps K H' ds vs → Reps K H' es (cutV vs lo hi)) (q : ∀ H' v, Fr [] H H' → Rep K H' (.tuple es) v → Q v H') : rSlG K x lo hi H Q := by
  obtain ⟨a, vs, rfl, hs, hr⟩ := Rep.tup_iff.mp h
  refine .inl ⟨a, vs, rfl, .of hs, fun z => q _ _ (Fr.refl _ _) (rep_tup hs ?_), fun _ p hp => ?_⟩
  · have e : cutV vs lo hi = vs := by
      unfold cutV
      rw [z.1, z.2, List.drop_zero, Nat.sub_zero, List.take_length]
    have := he hr
    rw [e] at this
    exact this
  · have f : Fr [] H (upd H p (.tup (cutV vs lo hi))) := Fr.new hp
    exact q _ _ f (rep_tup upd_same ((he hr).up f))
theorem slT_from {j : Int} {k : Nat} (h : Rep K H (.tuple ds) x) (hj : j = ((k : Nat) : Int)) (q : ∀ H' v, Fr [] H H' → Rep K H' (.tuple (ds.drop k)) v → Q v H') : rSlG K x (some j) none H Q := by
  subst hj
  exact slT_gen h (ds.drop k) (fun hr => by rw [cutV_from]; exact hr.drop k) q
theorem slT_to {j : Int} {k : Nat} (h : Rep K H (.tuple ds) x) (hj : j = ((k : Nat) : Int)) (q : ∀ H' v, Fr [] H H' → Rep K H' (.tuple (ds.take k)) v → Q v H') : rSlG K x none (some j) H Q := by
  subst hj
  exact slT_gen h (ds.take k) (fun hr => by rw [cutV_to]; exact hr.take k) q
theorem kitB_tuple : ∀ d : PyData, kitB (tyD d) "tuple" = some (tyD d == "tuple") := by
  intro d
  cases d <;> (simp only [tyD]; decide +kernel)
theorem get2D_q {a : Addr} {kvs : List (Key × V)} {k : Key} {y z : V} (h : H a = some (.dK kvs)) (hx : y = kV k) (q : Q ((valV kvs k).getD z) H) : ∃ o, DGet H a y o ∧ Q (o.getD z) H := by
  subst hx
  exact ⟨_, DGet.k h, q⟩
theorem isD_of {a : Addr} {kvs : List (Key × V)} (h : H a = some (.dK kvs)) : IsD H a := .inl ⟨kvs, .inl h⟩
/-! loops -/
/-- what is wanted of a while's body -/
def WB (W : Nat → L2.St → Hp → Prop) (m : Nat) (t : TS) (n : L2.St → Hp → Prop) (r : VK) (σ : L2.St) (H : Hp) : Prop :=
  ∃ N : L2.St → Hp → Prop, (∀ σ' H', N σ' H' → ∃ m', m' < m ∧ W m' σ' H') ∧ t ⟨N, r, n, N⟩ σ H
theorem wb_mk {W : Nat → L2.St → Hp → Prop} {m : Nat} (h : t ⟨fun σ' H' => ∃ m', m' < m ∧ W m' σ' H', r, n, fun σ' H' => ∃ m', m' < m ∧ W m' σ' H'⟩ σ H) : WB W m t n r σ H := ⟨_, fun _ _ z => z, h⟩
theorem g_while (W : Nat → L2.St → Hp → Prop) (m0 : Nat) (h0 : W m0 σ H)
    (step : ∀ m σ H, W m σ H → tt σ H fun k H1 => if k = true then WB W m t n r σ H1 else n σ H1) : tWhile tt t ⟨n, r, b, c⟩ σ H := ⟨W, ⟨m0, h0⟩, step⟩
/-- what is wanted of a for's turns -/
def ForQ (J : It) (g : TG) (t : TS) (n : L2.St → Hp → Prop) (r : VK) (σ : L2.St) (H1 : Hp) : Prop :=
  ∃ W : Nat → Nat → L2.St → Hp → Prop, (∃ m, W 0 m σ H1) ∧ ∀ i m σ H, W i m σ H →
    (J.stop i H ∧ n σ H) ∨ (J.go i H ∧ ∃ N : L2.St → Hp → Prop, (∀ σ' H', N σ' H' → ∃ m', m' < m ∧ W (i + 1) m' σ' H') ∧ ∀ x H', J.yld i H x H' → g x σ H' fun σ2 H2 => t ⟨N, r, n, N⟩ σ2 H2)
/-- one turn -/
abbrev Turn1 (g : TG) (t : TS) (n : L2.St → Hp → Prop) (r : VK) (N : L2.St → Hp → Prop) (x : V) (σ : L2.St) (H : Hp) : Prop := g x σ H fun σ2 H2 => t ⟨N, r, n, N⟩ σ2 H2
def ForT (K : PySem.W.Frag) (g : TG) (t : TS) (n : L2.St → Hp → Prop) (r : VK) (σ : L2.St) : VK := fun x H1 => ∃ a, x = .ref a ∧ (∃ xs, SqT K H1 a xs) ∧ ForQ (Itt K a) g t n r σ H1
def ForL (K : PySem.W.Frag) (g : TG) (t : TS) (n : L2.St → Hp → Prop) (r : VK) (σ : L2.St) : VK := fun x H1 => ∃ a, x = .ref a ∧ (∃ xs, SqL K H1 a xs) ∧ ForQ (Itl K a) g t n r σ H1
def ForR1 (g : TG) (t : TS) (n : L2.St → Hp → Prop) (r : VK) (σ : L2.St) : List V → Hp → Prop := fun vs H1 => ∃ j : Int, vs = [.int j] ∧ -(2 ^ 62) ≤ j ∧ j < 2 ^ 62 ∧ ForQ (Itr 0 j.toNat) g t n r σ H1
theorem g_forT (h : te σ H (ForT K g t n r σ)) : tFor (fun σ H R => iList K te σ H R ∨ iTup K te σ H R) g t ⟨n, r, b, c⟩ σ H := .inr h
theorem g_forL (h : te σ H (ForL K g t n r σ)) : tFor (fun σ H R => iList K te σ H R ∨ iTup K te σ H R) g t ⟨n, r, b, c⟩ σ H := .inl h
theorem g_forR1 {ta : TA} (h : ta σ H (ForR1 g t n r σ)) : tFor (iRng1 ta) g t ⟨n, r, b, c⟩ σ H := h
theorem forT_rep (h : Rep K H (.tuple ds) x) (Pv : Nat → L2.St → Hp → Prop) (h0 : Pv 0 σ H) (hl : ∀ i σ H', Pv i σ H' → ∃ l, Fr l H H')
    (step : ∀ i d x σ H, ds[i]? = some d → Rep K H d x → Pv i σ H → Turn1 g t n r (Pv (i + 1)) x σ H) (hd : ∀ σ H, Pv ds.length σ H → n σ H) : ForT K g t n r σ x H := by
  obtain ⟨a, vs, rfl, hs, hr⟩ := Rep.tup_iff.mp h
  refine ⟨a, rfl, ⟨vs, .of hs⟩, for_tup (D := ⟨n, r, fun _ _ => False, fun _ _ => False⟩) Pv h0 (fun i σ H' _ p => ?_) (fun i x σ H' e p => ?_) (fun σ H' p => hd σ H' (by rw [← hr.length]; exact p))⟩
  · obtain ⟨l, f⟩ := hl i σ H' p
    exact f.sqT (.of hs)
  · obtain ⟨l, f⟩ := hl i σ H' p
    obtain ⟨d, ed, rd⟩ := hr.get' e
    exact step i d x σ H' ed (rd.up f) p
theorem forL_q {a : Addr} {xs : List V} (hs : SqL K H a xs) (Pv : Nat → L2.St → Hp → Prop) (h0 : Pv 0 σ H) (hl : ∀ i σ H, Pv i σ H → SqL K H a xs)
    (step : ∀ i x σ H, xs[i]? = some x → Pv i σ H → Turn1 g t n r (Pv (i + 1)) x σ H) (hd : ∀ σ H, Pv xs.length σ H → n σ H) : ForL K g t n r σ (.ref a) H :=
  ⟨a, rfl, ⟨xs, hs⟩, for_list (D := ⟨n, r, fun _ _ => False, fun _ _ => False⟩) Pv h0 (fun i σ H' _ p => hl i σ H' p) (fun i x σ H' e p => step i x σ H' e p) hd⟩
theorem forR1_q {k : Nat} {j : Int} (hj : j = ((k : Nat) : Int)) (hk : k < 1000000000) (Pv : Nat → L2.St → Hp → Prop) (h0 : Pv 0 σ H)
    (step : ∀ (i : Nat) σ H, i < k → Pv i σ H → Turn1 g t n r (Pv (i + 1)) (.int i) σ H) (hd : ∀ σ H, Pv k σ H → n σ H) : ForR1 g t n r σ [.int j] H := by
  subst hj
  refine ⟨_, rfl, by omega, by omega, for_range (D := ⟨n, r, fun _ _ => False, fun _ _ => False⟩) Pv h0 (fun i σ H' e p => ?_) (fun σ H' p => hd σ H' (by simpa using p))⟩
  rw [Int.zero_add]
  exact step i σ H' (by simpa using e) p
/-! comprehensions -/
def LcQ (J : It) (g : TG) (tt : TT) (te : TE) (vs : List Nat) (σ : L2.St) (Q : VK) (H1 : Hp) : Prop :=
  ∀ D, H1 D = none → ∃ W : Nat → Nat → Hp → Prop, (∃ m, W 0 m (upd H1 D (.lst []))) ∧ ∀ i m H, W i m H →
  (J.stop i H ∧ Q (.ref D) H) ∨ (J.go i H ∧ ∃ Nx : Hp → Prop, (∀ H', Nx H' → ∃ m', m' < m ∧ W (i + 1) m' H') ∧ ∀ x H', J.yld i H x H' → g x (wipe σ vs) H' fun σ2 H2 => wipe σ2 vs = wipe σ vs ∧ tt σ2 H2 fun b H3 =>
    if b = true then te σ2 H3 fun y H4 => ∃ acc, H4 D = some (.lst acc) ∧ acc.length < sizeLine ∧ Nx (upd H4 D (.lst (acc ++ [y]))) else Nx H3)
def LcT (K : PySem.W.Frag) (g : TG) (tt : TT) (te : TE) (vs : List Nat) (σ : L2.St) (Q : VK) : VK := fun x H1 => ∃ a, x = .ref a ∧ (∃ xs, SqT K H1 a xs) ∧ LcQ (Itt K a) g tt te vs σ Q H1
def LcL (K : PySem.W.Frag) (g : TG) (tt : TT) (te : TE) (vs : List Nat) (σ : L2.St) (Q : VK) : VK := fun x H1 => ∃ a, x = .ref a ∧ (∃ xs, SqL K H1 a xs) ∧ LcQ (Itl K a) g tt te vs σ Q H1
def LcR1 (g : TG) (tt : TT) (te : TE) (vs : List Nat) (σ : L2.St) (Q : VK) : List V → Hp → Prop := fun ws H1 => ∃ j : Int, ws = [.int j] ∧ -(2 ^ 62) ≤ j ∧ j < 2 ^ 62 ∧ LcQ (Itr 0 j.toNat) g tt te vs σ Q H1
theorem g_lcT {vs : List Nat} (h : ta σ H (LcT K g tt te vs σ Q)) : tLc (fun σ H R => iList K ta σ H R ∨ iTup K ta σ H R) g tt te vs σ H Q := .inr h
theorem g_lcL {vs : List Nat} (h : ta σ H (LcL K g tt te vs σ Q)) : tLc (fun σ H R => iList K ta σ H R ∨ iTup K ta σ H R) g tt te vs σ H Q := .inl h
theorem g_lcR1 {ts : TA} {vs : List Nat} (h : ts σ H (LcR1 g tt te vs σ Q)) : tLc (iRng1 ts) g tt te vs σ H Q := h
/-- a turn of a comprehension: the item's place, the test, the new element y, the list at D -/
abbrev Elt1 (g : TG) (tt : TT) (te : TE) (vs : List Nat) (σ : L2.St) (D : Addr) (P1 : Hp → Prop) (x : V) (H : Hp) : Prop :=
  g x (wipe σ vs) H fun σ2 H2 => wipe σ2 vs = wipe σ vs ∧ tt σ2 H2 fun b H3 => if b = true then te σ2 H3 fun y H4 => ∃ acc, H4 D = some (.lst acc) ∧ acc.length < sizeLine ∧ P1 (upd H4 D (.lst (acc ++ [y]))) else P1 H3
theorem lcT_rep {vs : List Nat} (h : Rep K H (.tuple ds) x) (Pv : Addr → Nat → Hp → Prop) (h0 : ∀ D, H D = none → Pv D 0 (upd H D (.lst []))) (hl : ∀ D i H', H D = none → Pv D i H' → ∃ l, Fr l H H')
    (step : ∀ D i d x H', H D = none → ds[i]? = some d → Rep K H' d x → Pv D i H' → Elt1 g tt te vs σ D (Pv D (i + 1)) x H') (hd : ∀ D H', H D = none → Pv D ds.length H' → Q (.ref D) H') : LcT K g tt te vs σ Q x H := by
  obtain ⟨a, us, rfl, hs, hr⟩ := Rep.tup_iff.mp h
  refine ⟨a, rfl, ⟨us, .of hs⟩, fun D nD => lc_tup (Pv D) (h0 D nD) (fun i H' _ p => ?_) (fun i x H' e p => ?_) (fun H' p => hd D H' nD (by rw [← hr.length]; exact p))⟩
  · obtain ⟨l, f⟩ := hl D i H' nD p
    exact f.sqT (.of hs)
  · obtain ⟨l, f⟩ := hl D i H' nD p
    obtain ⟨d, ed, rd⟩ := hr.get' e
    exact step D i d x H' nD ed (rd.up f) p
theorem lcL_q {vs : List Nat} {a : Addr} {xs : List V} (hs : SqL K H a xs) (Pv : Addr → Nat → Hp → Prop) (h0 : ∀ D, H D = none → Pv D 0 (upd H D (.lst []))) (hl : ∀ D i H', H D = none → Pv D i H' → SqL K H' a xs)
    (step : ∀ D i x H', H D = none → xs[i]? = some x → Pv D i H' → Elt1 g tt te vs σ D (Pv D (i + 1)) x H') (hd : ∀ D H', H D = none → Pv D xs.length H' → Q (.ref D) H') : LcL K g tt te vs σ Q (.ref a) H :=
  ⟨a, rfl, ⟨xs, hs⟩, fun D nD => lc_list (Pv D) (h0 D nD) (fun i H' _ p => hl D i H' nD p) (fun i x H' e p => step D i x H' nD e p) (fun H' p => hd D H' nD p)⟩
theorem lcR1_q {vs : List Nat} {k : Nat} {j : Int} (hj : j = ((k : Nat) : Int)) (hk : k < 1000000000) (Pv : Addr → Nat → Hp → Prop) (h0 : ∀ D, H D = none → Pv D 0 (upd H D (.lst [])))
    (step : ∀ D (i : Nat) H', H D = none → i < k → Pv D i H' → Elt1 g tt te vs σ D (Pv D (i + 1)) (.int i) H') (hd : ∀ D H', H D = none → Pv D k H' → Q (.ref D) H') : LcR1 g tt te vs σ Q [.int j] H := by
  subst hj
  refine ⟨_, rfl, by omega, by omega, fun D nD => lc_range (lo := 0) (n := ((k : Nat) : Int).toNat) (Pv D) (h0 D nD) (fun i H' e p => ?_) (fun H' p => hd D H' nD (by simpa using p))⟩
  rw [Int.zero_add]
  exact step D i H' nD (by simpa using e) p
end

/-! ### the law's draws -/
/-- the state of the draws at a: its numbers at c -/
def DrawOk (H : Hp) (a c : Addr) : Prop := ∃ (ns : List Int) (p : Nat) (f s : Int), H a = some (.lst [.ref c, .int p, .int f, .int s, .int 3]) ∧ H c = some (.lst (ns.map V.int)) ∧ c ≠ a
def spDraw : Sp := fun vs H Q _ => ∃ (a c : Addr) (m : Nat), vs = [.ref a, .int m] ∧ DrawOk H a c ∧ 0 < m ∧ m < 1000000000 ∧ ∀ H' (k : Nat), Fr [a] H H' → DrawOk H' a c → k < m → Q (.int k) H'
def spBegin (K : PySem.W.Frag) : Sp := fun vs H Q _ => ∃ (s : Addr) (ns : List Int), vs = [.ref s] ∧ SqL K H s (ns.map V.int) ∧ ns.length ≤ 63 ∧ ∀ H' a c, Fr [] H H' → H a = none → H c = none → DrawOk H' a c → Q (.ref a) H'
def spPick (K : PySem.W.Frag) : Sp := fun vs H Q _ => ∃ (a c l : Addr) (xs : List V), vs = [.ref a, .ref l] ∧ DrawOk H a c ∧ SqL K H l xs ∧ l ≠ a ∧ 0 < xs.length ∧ xs.length < 1000000 ∧ ∀ H' (i : Nat) (v : V), Fr [a] H H' → DrawOk H' a c → xs[i]? = some v → Q v H'
theorem dok_as {H : Hp} {a c : Addr} (h : DrawOk H a c) : DrawOk H a c := h
theorem DrawOk.fr {H H' : Hp} {a c : Addr} {l : List Addr} (h : DrawOk H a c) (f : Fr l H H') (ha : a ∉ l) (hc : c ∉ l) : DrawOk H' a c := by
  obtain ⟨ns, p, f1, s, h1, h2, h3⟩ := h
  exact ⟨ns, p, f1, s, f.keep _ _ h1 ha, f.keep _ _ h2 hc, h3⟩
theorem DrawOk.fr0 {H H' : Hp} {a c : Addr} (h : DrawOk H a c) (f : Fr [] H H') : DrawOk H' a c := h.fr f (by simp) (by simp)
theorem DrawOk.fr1 {H H' : Hp} {a c d : Addr} (h : DrawOk H a c) (f : Fr [d] H H') (ha : d ≠ a) (hc : d ≠ c) : DrawOk H' a c := h.fr f (by simp [Ne.symm ha]) (by simp [Ne.symm hc])
theorem DrawOk.neL {H : Hp} {a c b : Addr} (h : DrawOk H a c) (e : H b = none) : b ≠ a := by
  obtain ⟨ns, p, f1, s, h1, _⟩ := h
  exact (ne_of_none h1 e).symm
theorem DrawOk.neC {H : Hp} {a c b : Addr} (h : DrawOk H a c) (e : H b = none) : b ≠ c := by
  obtain ⟨ns, p, f1, s, _, h1, _⟩ := h
  exact (ne_of_none h1 e).symm
theorem draw_q {H : Hp} {Q : VK} {E : XK} {a c : Addr} {j : Int} (h : DrawOk H a c) (m0 : 0 < j) (m1 : j < 1000000000) (q : ∀ H' (k : Nat), Fr [a] H H' → DrawOk H' a c → (k : Int) < j → Q (.int k) H') : spDraw [.ref a, .int j] H Q E :=
  ⟨a, c, j.toNat, by rw [Int.toNat_of_nonneg (by omega)], h, by omega, by omega, fun H' k f d e => q H' k f d (by omega)⟩
theorem pick_q {K : PySem.W.Frag} {H : Hp} {Q : VK} {E : XK} {a c l : Addr} {xs : List V} (h : DrawOk H a c) (hl : SqL K H l xs) (hne : l ≠ a) (h0 : 0 < xs.length) (h1 : xs.length < 1000000) (q : ∀ H' (i : Nat) (v : V), Fr [a] H H' → DrawOk H' a c → xs[i]? = some v → Q v H') : spPick K [.ref a, .ref l] H Q E :=
  ⟨a, c, l, xs, rfl, h, hl, hne, h0, h1, q⟩
theorem draw_mod (i : Int) (m : Nat) (h : 0 < m) : ∃ k : Nat, i % (m : Int) = (k : Int) ∧ k < m := by
  have h1 : (0 : Int) < (m : Int) := by omega
  have h2 := Int.emod_nonneg i (Int.ne_of_gt h1)
  have h3 := Int.emod_lt_of_pos i h1
  exact ⟨(i % (m : Int)).toNat, by omega, by omega⟩

/-! ### the rules with the written part named -/
section
variable {X : Cx} {K : PySem.W.Frag}
theorem ix_GK (hK : X.K = K) (hu : X.A.units + 1 < cLine) : IxR X (rIxG K) := by subst hK; exact ix_G hu
theorem op_eqGK (hK : X.K = K) (hu : X.A.units + 64 < cLine) : OpR X (compareOp .Eq) (rEqG K) := by subst hK; exact op_eqG hu
theorem op_neGK (hK : X.K = K) (hu : X.A.units + 64 < cLine) : OpR X (compareOp .NotEq) (rNeG K) := by subst hK; exact op_neG hu
theorem op_inGK (hK : X.K = K) (hu : X.A.units + 1 < cLine) : OpR X (compareOp .In) (rInG K) := by subst hK; exact op_inG hu
theorem op_notInGK (hK : X.K = K) (hu : X.A.units + 1 < cLine) : OpR X (compareOp .NotIn) (rNotInG K) := by subst hK; exact op_notInG hu
theorem op_addGK (hK : X.K = K) : OpR X (binaryOp .Add) (rAddG K) := by subst hK; exact op_addG
theorem call_lenGK (hK : X.K = K) : CallR X (.builtin "len") (rLenG K) := by subst hK; exact call_lenG
theorem call_listGK (hK : X.K = K) (hc : X.calm = true) : CallR X (.type "list") (rListG K) := by subst hK; exact call_listG hc
theorem call_sortedGK (hK : X.K = K) (hc : X.calm = true) : CallR X (.builtin "sorted") (rSortedG K) := by subst hK; exact call_sortedG hc
theorem call_tupGK (hK : X.K = K) : CallR X (.type "tuple") (rTupOf K) := by subst hK; exact call_tupG
theorem call_isiGK (hK : X.K = K) : CallR X (.builtin "isinstance") (rIsi K) := by subst hK; exact call_isi
theorem sl_GK (hK : X.K = K) : SlR X (rSlG K) := by subst hK; exact sl_G
theorem pi_seqK {tg e : Expr} {te : TE} (hK : X.K = K) (h : PE X e te) : PI X tg e (fun σ H R => iList K te σ H R ∨ iTup K te σ H R) := by subst hK; exact pi_seq h
theorem pg_tupK {es : List Expr} {k : Nat} {t : TGs} {n : Nat} {pos : Pos} (hK : X.K = K) (hc : X.calm = true) (h : PGs X es t)
    (hn : (assignEach es X.env).length = n := by rfl) (hst : (assignEach es X.env).findIdx? (·.1) = none := by rfl) : PG X (.Tuple es k pos) (gTup K n t) := by subst hK; exact pg_tup hc h hn hst
end
end AN

/-! AN: sorting and ordering of tuple data; dicts keyed by tuples. -/
namespace AN
open PySem PySem.Spec PyProof.Rows L2
open PySem.W (dataLt dataLe alike alikeAll keyToks keyToksAll AllAlike Sortable EachIs)
section
variable {X : Cx} {pins : List (Addr × Obj)} {σ : L2.St} {H : Hp} {s : Shared}
mutual
theorem Rep.reads (I : Inv X pins σ H s) : ∀ (d : PyData) (x : V) (v : Value), Rep X.K H d x → RelV x v → Reads s.heap v d []
  | .none, x, v, h, r => by unfold Rep at h; subst h; cases (show v = Value.none from r); exact .none
  | .bool b, x, v, h, r => by unfold Rep at h; subst h; cases (show v = Value.bool b from r); exact .bool _
  | .int i, x, v, h, r => by unfold Rep at h; subst h; obtain ⟨t, rfl⟩ := r; exact .int _ _
  | .str i, x, v, h, r => by unfold Rep at h; subst h; obtain ⟨t, rfl⟩ := r; exact .str _ _
  | .tuple ds, x, v, h, r => by
    unfold Rep at h
    obtain ⟨a, vs, e, q, rs⟩ := h
    subst e
    cases (show v = Value.ref a from r)
    obtain ⟨its, rv, ⟨o, ho, hc, n, hd⟩, _⟩ := I.tuple (.of q)
    exact .tuple ho hc hd (by simpa using Reps.reads I ds vs its rs rv)
  | .list _, x, v, h, r => by unfold Rep at h; exact h.elim
  | .dict _, x, v, h, r => by unfold Rep at h; exact h.elim
theorem Reps.reads (I : Inv X pins σ H s) : ∀ (ds : List PyData) (xs : List V) (vs : List Value), Reps X.K H ds xs → Vals xs vs → ReadsAll s.heap vs ds []
  | [], xs, vs, h, r => by unfold Reps at h; subst h; cases r; exact .nil
  | d :: ds, xs, vs, h, r => by
    unfold Reps at h
    obtain ⟨x, ys, e, h1, h2⟩ := h
    subst e
    cases r with
    | cons r1 r2 => exact .cons (as := []) (bs := []) (Rep.reads I d x _ h1 r1) (Reps.reads I ds ys _ h2 r2)
end
theorem each_of_reps {K : PySem.W.Frag} : ∀ {ds : List PyData} {xs : List V} {vs : List Value}, Reps K H ds xs → Vals xs vs → EachIs (fun v d => ∃ x, RelV x v ∧ Rep K H d x) vs ds
  | [], xs, vs, h, r => by unfold Reps at h; subst h; cases r; exact .nil
  | d :: ds, xs, vs, h, r => by
    unfold Reps at h
    obtain ⟨x, ys, e, h1, h2⟩ := h
    subst e
    cases r with
    | cons r1 r2 => exact .cons ⟨x, r1, h1⟩ (each_of_reps h2 r2)
theorem reps_of_each {K : PySem.W.Frag} : ∀ {ds : List PyData} {vs : List Value}, EachIs (fun v d => ∃ x, RelV x v ∧ Rep K H d x) vs ds → ∃ xs, Vals xs vs ∧ Reps K H ds xs
  | _, _, .nil => ⟨[], .nil, reps_nil⟩
  | _, _, .cons ⟨x, r, h⟩ t => by
    obtain ⟨xs, r2, h2⟩ := reps_of_each t
    exact ⟨x :: xs, .cons r r2, reps_cons h h2⟩

/-! ### the order of data -/
/-- in order, by their places -/
def Asc (ds : List PyData) : Prop := ds.Pairwise fun a b => dataLt b a = false
theorem asc_merge (ds : List PyData) : Asc (ds.mergeSort (dataLe false id)) := by
  have T := PySem.W.sortLe_total (listOrd itemOrd) false fun b : PyData => keyToks b
  have h := List.pairwise_mergeSort (le := dataLe false (id : PyData → PyData)) (fun a b c h1 h2 => T.trans a b c h1 h2) (fun a b => (Bool.or_eq_true _ _).mpr (T.total a b)) ds
  exact h.imp fun {a b} hab => by
    have q : (!dataLt b a) = true := hab
    simpa using q
def deep : Nat := 40
/-- sorted(xs) of a list of tuple data -/
def rSortedRep (K : PySem.W.Frag) : List V → Hp → VK → Prop := fun vs H Q => ∃ (a : Addr) (xs : List V) (ds : List PyData), vs = [.ref a] ∧ SqL K H a xs ∧ Reps K H ds xs ∧ AllAlike ds ∧ Sortable ds ∧ (∀ d ∈ ds, d.depth ≤ 40) ∧
  ∀ H' p ys es, es.Perm ds → Asc es → AN.Fr [] H H' → H p = none → H' p = some (.lst ys) → Reps K H' es ys → Q (.ref p) H'
theorem cr_sortedRep (hu : X.A.units + 64 < cLine) : CallR X (.builtin "sorted") (rSortedRep X.K) := by
  intro pins s σ H vs us Q I r h
  obtain ⟨a, xs, ds, rfl, hs, hr, h1, h2, h3, q⟩ := h
  obtain ⟨its, rv, hl, hz⟩ := I.list hs
  obtain ⟨u, rfl, ru⟩ := vals1 r
  obtain rfl : u = Value.ref a := ru
  have hlen : ds.length = its.length := by rw [← hr.length, rv.length]
  refine PySem.W.sorted_data (enc := id) (bs := ds) (vs := its) (R := fun v d => ∃ x, RelV x v ∧ Rep X.K H d x) hl.isList (each_of_reps hr rv) ?_ (by simpa using h1) (by simpa using h2) (by rw [hlen, ← rv.length]; exact hz) (fun b hb => by have := h3 b hb; simp only [id]; omega) fun out ho he => ?_
  · have e := each_of_reps hr rv
    exact e.mono fun v d ⟨x, r, hx⟩ => ⟨[], Rep.reads I d x v hx r⟩
  · obtain ⟨ys, ry, hy⟩ := reps_of_each he
    obtain ⟨c, hc⟩ := sortedAll_at s.heap its out.toArray
    have hyl : ys.length ≤ sizeLine := by rw [ry.length, ho, hlen, ← rv.length]; exact hz
    have hn : H (s.heap.objs.size + 1) = none := I.hok.fresh (Nat.le_succ _)
    refine ⟨.ref (s.heap.objs.size + 1), upd H (s.heap.objs.size + 1) (.lst ys), I.laid (t' := s.toks) (fun b o e => sortedAll_old e) (Nat.le_succ _) ⟨hyl, out, c, ry, hc⟩, rfl, ?_⟩
    exact q _ _ ys _ (List.mergeSort_perm ds _) (asc_merge ds) (AN.Fr.new hn) hn upd_same (hy.up (AN.Fr.new hn))
/-- d < e -/
def rLtRep (K : PySem.W.Frag) : R2 := fun x y H Q => ∃ d e, Rep K H d x ∧ Rep K H e y ∧ alike d e = true ∧ d ≠ .none ∧ d.depth ≤ 40 ∧ Q (.bl (dataLt d e)) H
theorem op_ltRep (hu : X.A.units + 64 < cLine) : OpR X (compareOp .Lt) (rLtRep X.K) := by
  intro pins s σ H x y u v Q I rx ry h
  obtain ⟨d, e, h1, h2, h3, h4, h5, q⟩ := h
  exact PySem.W.lt_data (Rep.reads I d x u h1 rx) (Rep.reads I e y v h2 ry) h3 h4 (by omega) ⟨.bl (dataLt d e), H, I, rfl, q⟩

/-! ### sorted of whatever can be collected -/
theorem collect_tup {prog : Program} {w : World} {A : Around} {E : Value → Shared → Prop} {s : Shared} {l : Addr} {vs : List Value} {Q : List Value → Shared → Prop} (hl : IsTup s.heap l vs.toArray)
    (h : ∀ h', (∀ b o, s.heap.get? b = some o → h'.get? b = some o) → Q vs { s with heap := h' }) (hsz : vs.length ≤ sizeLine) :
    wpAny (model prog w) A (collect (.ref l)) Q E s := by
  obtain ⟨o, ho, hc, n, hd⟩ := id hl
  unfold collect
  refine wpAny_bind (wpAny_runValue (codeAny_builtin entry_proto_collect' ?_))
  show wpAny _ _ (do again (.builtin "list.__iadd__" ⟨[← newList [], .ref l], []⟩)) _ _ s
  refine wpAny_bind (wpAny_newList (wpAny_pure ⟨Code.quiet_builtin _ (by decide +kernel), codeAny_builtin entry_list_iadd' ?_⟩))
  show wpAny _ _ (Builtin.List.listExtendWith (.ref s.heap.objs.size) (.ref l) (.ref s.heap.objs.size)) _ _ { s with heap := s.heap.push (seqObj "list" #[] 0) }
  unfold Builtin.List.listExtendWith
  have ho' : (s.heap.push (seqObj "list" #[] 0)).get? l = some o := Heap.get?_push_of_some _ ho
  refine wpAny_bind (wpAny_typeOf (T := "tuple") ⟨o, ho', hc⟩ ?_)
  have ht : (Value.type "tuple" == Value.type "tuple") = true := by rfl
  rw [if_pos (by rw [ht]; simp)]
  refine wpAny_bind (listItems_at ho' hd ?_)
  refine wpAny_bind (listItems_at (xs := #[]) (n := 0) (Heap.get?_push_size _ rfl) rfl ?_)
  rw [if_neg (by simp)]
  refine wpAny_bind (listUpdate_at (xs := #[]) (n := 0) (Heap.get?_push_size _ rfl) rfl ?_ (Nat.zero_le _) (by show (#[] ++ vs.toArray).size ≤ sizeLine + 1; simp only [Array.size_append, List.size_toArray, List.length_nil]; omega))
  refine wpAny_pure ?_
  show wpAny (model prog w) A (do
      let o ← load s.heap.objs.size
      match o.data with
      | .seq xs _ => pure xs.toList
      | _ => unsupported "internal:collect") Q E { s with heap := (s.heap.push (seqObj "list" #[] 0)).update s.heap.objs.size (Obj.mapSeq (· ++ vs.toArray)) }
  refine wpAny_bind (wpAny_load (get?_update_seq (Heap.get?_push_size _ rfl) _) ?_)
  show wpAny _ _ (pure ((#[] : Array Value) ++ vs.toArray).toList) Q E _
  rw [show ((#[] : Array Value) ++ vs.toArray).toList = vs by simp]
  refine wpAny_pure (h _ fun b o' e => ?_)
  rw [Heap.get?_update_ne _ _ _ _ (Nat.ne_of_lt (Heap.lt_size e))]
  exact Heap.get?_push_of_some _ e
/-- what sorted promises of data -/
def SortP (K : PySem.W.Frag) (ds : List PyData) (H : Hp) (Q : VK) : Prop := AllAlike ds ∧ Sortable ds ∧ (∀ d ∈ ds, d.depth ≤ 40) ∧ ds.length ≤ sizeLine ∧
  ∀ H' p ys es, es.Perm ds → Asc es → AN.Fr [] H H' → H p = none → H' p = some (.lst ys) → Reps K H' es ys → Q (.ref p) H'
theorem sorted_from (I : Inv X pins σ H s) (hu : X.A.units + 64 < cLine) (u : Value) {ds : List PyData} {Q : VK} (hp : SortP X.K ds H Q)
    (hcol : ∀ R : List Value → Shared → Prop, (∀ h' tk vs, (∀ b o, s.heap.get? b = some o → h'.get? b = some o) → EachIs (fun v d => ∃ x, RelV x v ∧ Rep X.K H d x) vs ds → R vs { s with heap := h', toks := tk }) → wpAny (model X.prog X.w) X.A.in1 (collect u) R X.xe s) :
    wpAny (model X.prog X.w) X.A (call (.builtin "sorted") [u]) (EP X pins σ Q) X.xe s := by
  obtain ⟨h1, h2, h3, hz, q⟩ := hp
  refine Calls.call_function_entry PyProof.Rows.kind_sorted PyProof.Rows.plain_sorted PyProof.Rows.entry_sorted (PyProof.Rows.args_sorted1 _) ?_
  unfold Builtin.«sorted»
  refine wpAny_bind (m := checkCount "sorted" 1 1 _) (wpAny_pure ?_)
  refine wpAny_bind (hcol _ fun h' tk vs hk he => ?_)
  have hl : vs.length = ds.length := he.length
  have I1 : Inv X pins σ H { s with heap := h', toks := tk } := I.kept hk
  refine wpAny_bind (wpAny_newList ?_ (by rw [hl]; exact hz))
  have hoL : (h'.push (seqObj "list" vs.toArray 0)).get? h'.objs.size = some (seqObj "list" vs.toArray 0) := Heap.get?_push_size _ rfl
  show wpAny _ _ _ _ _ { s with heap := h'.push (seqObj "list" vs.toArray 0), toks := tk }
  have I2 : Inv X pins σ H { s with heap := h'.push (seqObj "list" vs.toArray 0), toks := tk } := I1.kept (t' := tk) fun b o e => Heap.get?_push_of_some _ e
  refine wpAny_bind (wpAny_holding (PySem.W.list_sort_data (s := { s with heap := h'.push (seqObj "list" vs.toArray 0), toks := tk }) (enc := id) (bs := ds) (R := fun v d => ∃ x, RelV x v ∧ Rep X.K H d x) hoL he ?_ (by simpa using h1) (by simpa using h2) (by rw [← hl]; omega) (fun b hb => ?_) fun out ho hs => ?_))
  · exact he.mono fun v d ⟨x, r, hx⟩ => ⟨[], Rep.reads I2 d x v hx r, by simp⟩
  · have := h3 b hb
    show X.A.in1.units + 1 + b.depth < cLine
    have e : X.A.in1.units = X.A.units + 1 := rfl
    omega
  · obtain ⟨ys, ry, hy⟩ := reps_of_each hs
    obtain ⟨c, hc⟩ := PyProof.Rows.sortedHeap_at (vs := vs) (out := out.toArray) hoL
    have hyl : ys.length ≤ sizeLine := by rw [ry.length, ho]; omega
    have hn : H h'.objs.size = none := I1.hok.fresh (Nat.le_refl _)
    refine wpAny_pure ⟨_, rfl, .ref h'.objs.size, upd H h'.objs.size (.lst ys), I1.laid (t' := tk) (fun b o e => ?_) (Nat.le_refl _) ⟨hyl, out, c, ry, hc⟩, rfl, ?_⟩
    · have hb : b < h'.objs.size := Heap.lt_size e
      rw [PyProof.Rows.sortedHeap_old (Nat.ne_of_lt hb) (by rw [size_push']; exact Nat.lt_succ_of_lt hb)]
      exact Heap.get?_push_of_some _ e
    · exact q _ _ ys _ (List.mergeSort_perm ds _) (asc_merge ds) (AN.Fr.new hn) hn upd_same (hy.up (AN.Fr.new hn))
/-- a key's part -/
def kD : L2.Key → PyData
  | .inl i => .int i
  | .inr x => .str x
theorem reps_keys {K : PySem.W.Frag} {H : Hp} : ∀ ks : List L2.Key, Reps K H (ks.map kD) (ks.map kV)
  | [] => reps_nil
  | .inl i :: ks => reps_cons rep_int (reps_keys ks)
  | .inr x :: ks => reps_cons rep_str (reps_keys ks)
def rSortTup (K : PySem.W.Frag) : List V → Hp → VK → Prop := fun vs H Q => ∃ x ds, vs = [x] ∧ Rep K H (.tuple ds) x ∧ SortP K ds H Q
theorem cr_sortTup (hu : X.A.units + 64 < cLine) : CallR X (.builtin "sorted") (rSortTup X.K) := by
  intro pins s σ H vs us Q I r h
  obtain ⟨x, ds, rfl, hx, hp⟩ := h
  obtain ⟨a, xs, rfl, hs, hr⟩ := Rep.tup_iff.mp hx
  obtain ⟨u, rfl, ru⟩ := vals1 r
  obtain rfl : u = Value.ref a := ru
  obtain ⟨its, rv, hl, hz⟩ := I.tuple (.of hs)
  exact sorted_from I hu _ hp fun R hR => collect_tup hl (fun h' k => hR h' s.toks its k (each_of_reps hr rv)) (by rw [← rv.length]; exact hz)
def rSortDT (K : PySem.W.Frag) : List V → Hp → VK → Prop := fun vs H Q => ∃ (a : Addr) (kvs : List (List L2.Key × V)), vs = [.ref a] ∧ Rd H a (.dT kvs) ∧ SortP K (kvs.map fun p => .tuple (p.1.map kD)) H Q
theorem each_acc {H : Hp} {K : PySem.W.Frag} : ∀ {kvs : List (List L2.Key × V)} {xs : List (List L2.Key × Addr × Value)}, KT H kvs xs → EachIs (fun v d => ∃ x, RelV x v ∧ Rep K H d x) (xs.map fun x => Value.ref x.2.1) (kvs.map fun p => PyData.tuple (p.1.map kD))
  | _, _, .nil => .nil
  | _, _, .cons h t => .cons ⟨.ref _, rfl, rep_tup h.2.1 (reps_keys _)⟩ (each_acc t)
theorem cr_sortDT (hc : X.calm = true) (hu : X.A.units + 64 < cLine) : CallR X (.builtin "sorted") (rSortDT X.K) := by
  intro pins s σ H vs us Q I r h
  obtain ⟨a, kvs, rfl, hx, hp⟩ := h
  obtain ⟨u, rfl, ru⟩ := vals1 r
  obtain rfl : u = Value.ref a := ru
  obtain ⟨z, lo, xs, rel, dd⟩ := dt_rd I.hok hx
  obtain ⟨o, es, ep, ho, hex, hdat, hes, _, _⟩ := id dd
  have raw : s.heap.DictRaw a es ep := ⟨o, ho, hex, hdat⟩
  have hsz : es.size = xs.length := by rw [← Array.length_toList, hes, List.length_map]
  have hkl : kvs.length = xs.length := rel.length
  refine sorted_from I hu _ hp fun R hR => PySem.W.kdu_collect (PySem.KdlSrc.rawDict (es := es) (ep := ep) lo) (I.ok.hd hc) raw (by rw [hsz, ← hkl]; exact z) fun h' tk acc hk hacc => ?_
  have e : acc.toList = xs.map fun x => Value.ref x.2.1 := by
    apply List.ext_getElem?
    intro i
    rw [List.getElem?_map, Array.getElem?_toList]
    by_cases hi : i < es.size
    · have h1 : i < acc.size := by rw [hacc.1]; exact hi
      rw [Array.getElem?_eq_getElem h1]
      obtain ⟨hi', ev⟩ := hacc.2 i acc[i] (Array.getElem?_eq_getElem h1)
      have h3 : es.toList[i]? = some es[i] := by rw [Array.getElem?_toList]; exact Array.getElem?_eq_getElem hi
      rw [hes, List.getElem?_map] at h3
      obtain ⟨y, hy, ey⟩ := Option.map_eq_some_iff.mp h3
      rw [hy, ev, ← ey]
      rfl
    · rw [Array.getElem?_eq_none (by rw [hacc.1]; omega), List.getElem?_eq_none (by rw [← hsz]; omega)]
      rfl
  rw [e]
  exact hR h' tk _ hk (each_acc rel)
end

/-! ### plain data: whole numbers, texts, None, tuples -/
mutual
def pl : PyData → Bool
  | .none => true
  | .int _ => true
  | .str x => PyData.strOk x
  | .tuple ds => pls ds
  | _ => false
def pls : List PyData → Bool
  | [] => true
  | d :: ds => pl d && pls ds
end
theorem pls_all : ∀ {ds : List PyData}, pls ds = true ↔ ∀ d ∈ ds, pl d = true
  | [] => by simp [pls]
  | d :: ds => by simp [pls, pls_all (ds := ds)]
mutual
theorem eqv_pl : ∀ d e : PyData, pl d = true → pl e = true → (PyData.eqv d e = true ↔ d = e)
  | .none, e, _, h => by cases e <;> simp_all [PyData.eqv, pl]
  | .int i, e, _, h => by cases e <;> simp_all [PyData.eqv, pl]
  | .str i, e, _, h => by cases e <;> simp_all [PyData.eqv, pl]
  | .tuple ds, e, h0, h => by
    cases e with
    | tuple es =>
      simp only [pl] at h0 h
      simp only [PyData.eqv, PyData.tuple.injEq]
      exact eqvAll_pl ds es h0 h
    | _ => simp_all [PyData.eqv, pl]
  | .bool _, _, h, _ => by simp [pl] at h
  | .list _, _, h, _ => by simp [pl] at h
  | .dict _, _, h, _ => by simp [pl] at h
theorem eqvAll_pl : ∀ ds es : List PyData, pls ds = true → pls es = true → (PyData.eqvAll ds es = true ↔ ds = es)
  | [], [], _, _ => by simp [PyData.eqvAll]
  | [], _ :: _, _, _ => by simp [PyData.eqvAll]
  | _ :: _, [], _, _ => by simp [PyData.eqvAll]
  | d :: ds, e :: es, h1, h2 => by
    simp only [pls, Bool.and_eq_true] at h1 h2
    simp only [PyData.eqvAll, Bool.and_eq_true, eqv_pl d e h1.1 h2.1, eqvAll_pl ds es h1.2 h2.2, List.cons.injEq]
end
theorem any_pl {ds : List PyData} {d : PyData} (h : pls ds = true) (h' : pl d = true) : (ds.any fun z => PyData.eqv z d) = true ↔ d ∈ ds := by
  rw [List.any_eq_true]
  constructor
  · rintro ⟨z, hz, e⟩
    rw [eqv_pl z d (pls_all.mp h z hz) h'] at e
    rw [← e]; exact hz
  · exact fun hd => ⟨d, hd, (eqv_pl d d h' h').mpr rfl⟩
mutual
theorem lay_pl : ∀ d : PyData, pl d = true → d.canLay0 = true
  | .none, _ => by simp [PyData.canLay0]
  | .int i, _ => by simp [PyData.canLay0]
  | .str i, h => by simpa [PyData.canLay0, pl] using h
  | .tuple ds, h => by
    simp only [pl] at h
    simp only [PyData.canLay0]
    exact layAll_pl ds h
  | .bool _, h => by simp [pl] at h
  | .list _, h => by simp [pl] at h
  | .dict _, h => by simp [pl] at h
theorem layAll_pl : ∀ ds : List PyData, pls ds = true → PyData.canLayAll0 ds = true
  | [], _ => by simp [PyData.canLayAll0]
  | d :: ds, h => by
    simp only [pls, Bool.and_eq_true] at h
    simp only [PyData.canLayAll0, lay_pl d h.1, layAll_pl ds h.2, Bool.and_self]
end
/-- plain, and not too deep -/
def Okd (d : PyData) : Prop := pl d = true ∧ d.depth ≤ 40
def Okds (ds : List PyData) : Prop := pls ds = true ∧ PyData.depthAll ds ≤ 39
theorem depthAll_le {n : Nat} : ∀ {ds : List PyData}, PyData.depthAll ds ≤ n ↔ ∀ d ∈ ds, d.depth ≤ n
  | [] => by simp [PyData.depthAll]
  | d :: ds => by
    have := depthAll_le (n := n) (ds := ds)
    simp only [PyData.depthAll, List.mem_cons, forall_eq_or_imp, Nat.max_le, this]
theorem Okds.tup {ds : List PyData} (h : Okds ds) : Okd (.tuple ds) := ⟨by simpa [pl] using h.1, by have := h.2; simp only [PyData.depth]; omega⟩
theorem Okd.all {ds : List PyData} (h : Okd (.tuple ds)) : Okds ds := ⟨by simpa [pl] using h.1, by have := h.2; simp only [PyData.depth] at this; omega⟩
theorem Okds.mem {ds : List PyData} {d : PyData} (h : Okds ds) (hd : d ∈ ds) : Okd d := ⟨pls_all.mp h.1 d hd, Nat.le_trans (depthAll_le.mp h.2 d hd) (by omega)⟩
theorem Okd.shaped {d : PyData} (h : Okd d) : SeqAt.shaped d = true := by
  unfold SeqAt.shaped
  rw [lay_pl d h.1, decide_eq_true (Nat.le_trans h.2 (by omega))]
  rfl
theorem Okds.shapedL {ds : List PyData} (h : Okds ds) : SeqAt.shaped (.list ds) = true := by
  unfold SeqAt.shaped
  have h2 := h.2
  rw [show PyData.canLay0 (.list ds) = true from by simp only [PyData.canLay0]; exact layAll_pl ds h.1, decide_eq_true (show PyData.depth (.list ds) ≤ 64 by simp only [PyData.depth]; omega)]
  rfl
/-- a row of data: a list or a tuple -/
def RowOf (K : PySem.W.Frag) (H : Hp) (y : V) (ds : List PyData) : Prop := Rep K H (.tuple ds) y ∨ ∃ a xs, y = .ref a ∧ SqL K H a xs ∧ Reps K H ds xs
def rInX (K : PySem.W.Frag) : R2 := fun x y H Q => ∃ d ds, Rep K H d x ∧ RowOf K H y ds ∧ Okd d ∧ Okds ds ∧ Q (.bl (ds.any fun z => PyData.eqv z d)) H
def rNotInX (K : PySem.W.Frag) : R2 := fun x y H Q => ∃ d ds, Rep K H d x ∧ RowOf K H y ds ∧ Okd d ∧ Okds ds ∧ Q (.bl (!ds.any fun z => PyData.eqv z d)) H
def rEqX (K : PySem.W.Frag) : R2 := fun x y H Q => ∃ d e, Rep K H d x ∧ Rep K H e y ∧ Okd d ∧ Okd e ∧ Q (.bl (PyData.eqv d e)) H
section
variable {X : Cx}
theorem op_inX (hu : X.A.units + 65 < cLine) : OpR X (compareOp .In) (rInX X.K) := by
  intro pins s σ H x y v u Q I rx ry h
  obtain ⟨d, ds, hd, he, sd, se, q⟩ := h
  have r1 := Rep.reads I d x v hd rx
  have room : X.A.units + 1 + min (PyData.depthAll ds) d.depth < cLine := by have := sd.2; omega
  rcases he with he | ⟨a, xs, rfl, hs, hr⟩
  · exact SeqAt.in_tuple_reads (Rep.reads I (.tuple ds) y u he ry) r1 (layAll_pl ds se.1) (lay_pl d sd.1) room ⟨.bl _, H, I, rfl, q⟩
  · obtain ⟨bs, r2⟩ := Dp.reads I (.list ds) _ u (.lst hs (Reps.dp ds xs hr)) ry
    exact SeqAt.in_list_reads r2 r1 (layAll_pl ds se.1) (lay_pl d sd.1) room ⟨.bl _, H, I, rfl, q⟩
theorem op_notInX (hu : X.A.units + 65 < cLine) : OpR X (compareOp .NotIn) (rNotInX X.K) := by
  intro pins s σ H x y v u Q I rx ry h
  obtain ⟨d, ds, hd, he, sd, se, q⟩ := h
  have r1 := Rep.reads I d x v hd rx
  have room : X.A.units + 1 + min (PyData.depthAll ds) d.depth < cLine := by have := sd.2; omega
  rcases he with he | ⟨a, xs, rfl, hs, hr⟩
  · exact SeqAt.notIn_tuple_reads (Rep.reads I (.tuple ds) y u he ry) r1 (layAll_pl ds se.1) (lay_pl d sd.1) room ⟨.bl _, H, I, rfl, q⟩
  · obtain ⟨bs, r2⟩ := Dp.reads I (.list ds) _ u (.lst hs (Reps.dp ds xs hr)) ry
    exact SeqAt.notIn_list_reads r2 r1 (layAll_pl ds se.1) (lay_pl d sd.1) room ⟨.bl _, H, I, rfl, q⟩
/-- l.index(d), d there -/
def rIndexX (K : PySem.W.Frag) : V → List V → Hp → VK → Prop := fun x vs H Q => ∃ (a : Addr) (xs : List V) (ds : List PyData) (y : V) (d : PyData) (j : Nat), x = .ref a ∧ vs = [y] ∧ SqL K H a xs ∧ Reps K H ds xs ∧ Rep K H d y ∧ Okd d ∧ Okds ds ∧
  ds[j]? = some d ∧ (∀ m, m < j → ds[m]? ≠ some d) ∧ Q (.int (j : Nat)) H
theorem mt_indexX (hu : X.A.units + 65 < cLine) : MtR X "list.index" (rIndexX X.K) := by
  intro pins s σ H x vs v us Q I rx rxs h
  obtain ⟨a, xs, ds, y, d, j, rfl, rfl, hs, hr, hd, sd, se, hj, hn, q⟩ := h
  refine mt_indexD hu pins s σ H _ _ v us Q I rx rxs ⟨a, y, d, ds, j, d, rfl, rfl, .lst hs (Reps.dp ds xs hr), Rep.dp d y hd, se.shapedL, sd.shaped, hj, (eqv_pl d d sd.1 sd.1).mpr rfl, fun m z hm hz => ?_, q⟩
  have hz1 := pls_all.mp se.1 z (List.mem_of_getElem? hz)
  cases e : PyData.eqv z d with
  | false => rfl
  | true => rw [eqv_pl z d hz1 sd.1] at e; exact absurd (by rw [hz, e]) (hn m hm)
end

/-! ### the rules by "or", second row -/
theorem _root_.L2.Room.u65 {k : Nat} {A : Around} (r : Room k A) : A.units + 65 < cLine := by have := r.un; omega
def rIn2 (K : PySem.W.Frag) : R2 := fun x y H Q => rInG K x y H Q ∨ rInX K x y H Q
def rNotIn2 (K : PySem.W.Frag) : R2 := fun x y H Q => rNotInG K x y H Q ∨ rNotInX K x y H Q
def rLt2 (K : PySem.W.Frag) : R2 := fun x y H Q => rI0 (fun i j => .bl (decide (i < j))) x y H Q ∨ rLtRep K x y H Q
def rSorted2 (K : PySem.W.Frag) : List V → Hp → VK → Prop := fun vs H Q => rSortedG K vs H Q ∨ rSortedRep K vs H Q ∨ rSortTup K vs H Q ∨ rSortDT K vs H Q
section
variable {X : Cx} {K : PySem.W.Frag}
theorem op_in2K (hK : X.K = K) (hu : X.A.units + 65 < cLine) : OpR X (compareOp .In) (rIn2 K) := by subst hK; exact (op_inG (by omega)).or (op_inX hu)
theorem op_notIn2K (hK : X.K = K) (hu : X.A.units + 65 < cLine) : OpR X (compareOp .NotIn) (rNotIn2 K) := by subst hK; exact (op_notInG (by omega)).or (op_notInX hu)
theorem op_lt2K (hK : X.K = K) (hu : X.A.units + 65 < cLine) : OpR X (compareOp .Lt) (rLt2 K) := by subst hK; exact op_lt.or (op_ltRep (by omega))
theorem call_sorted2K (hK : X.K = K) (hc : X.calm = true) (hu : X.A.units + 65 < cLine) : CallR X (.builtin "sorted") (rSorted2 K) := by
  subst hK; exact (call_sortedG hc).or ((cr_sortedRep (by omega)).or ((cr_sortTup (by omega)).or (cr_sortDT hc (by omega))))
theorem mt_indexK (hK : X.K = K) (hu : X.A.units + 65 < cLine) : MtR X "list.index" (rIndexX K) := by subst hK; exact mt_indexX hu
end
section
variable {K : PySem.W.Frag} {H : Hp} {Q : VK} {x y : V} {d e : PyData} {ds : List PyData}
theorem inX_q (h : Rep K H d x) (r : RowOf K H y ds) (o : Okd d) (os : Okds ds) (q : Q (.bl (ds.any fun z => PyData.eqv z d)) H) : rIn2 K x y H Q := .inr ⟨d, ds, h, r, o, os, q⟩
theorem notInX_q (h : Rep K H d x) (r : RowOf K H y ds) (o : Okd d) (os : Okds ds) (q : Q (.bl (!ds.any fun z => PyData.eqv z d)) H) : rNotIn2 K x y H Q := .inr ⟨d, ds, h, r, o, os, q⟩
theorem eqX_q (h : Rep K H d x) (r : Rep K H e y) (o : Okd d) (os : Okd e) (q : Q (.bl (PyData.eqv d e)) H) : rEqG K x y H Q := eqG_rep h r o.shaped os.shaped q
theorem ltX_q (h : Rep K H d x) (r : Rep K H e y) (a : alike d e = true) (n : d ≠ .none) (o : Okd d) (q : Q (.bl (dataLt d e)) H) : rLt2 K x y H Q := .inr ⟨d, e, h, r, a, n, o.2, q⟩
end

/-! ### dicts told by what their values stand for -/
section
variable {κ κ' α : Type} [DecidableEq κ] [DecidableEq κ']
def aget (r : List (κ × α)) (k : κ) : Option α := (r.find? fun e => decide (e.1 = k)).map (·.2)
def aput (r : List (κ × α)) (k : κ) (y : α) : List (κ × α) := if (r.any fun e => decide (e.1 = k)) = true then r.map (fun e => if e.1 = k then (e.1, y) else e) else r ++ [(k, y)]
def adrop (r : List (κ × α)) (k : κ) : List (κ × α) := r.filter fun e => decide (e.1 ≠ k)
theorem aget_cons (p : κ × α) (r : List (κ × α)) (k : κ) : aget (p :: r) k = if p.1 = k then some p.2 else aget r k := by
  by_cases h : p.1 = k <;> simp [aget, List.find?_cons, h]
theorem aget_nil (k : κ) : aget ([] : List (κ × α)) k = none := rfl
theorem any_aget (k : κ) : ∀ r : List (κ × α), (r.any fun e => decide (e.1 = k)) = (aget r k).isSome
  | [] => rfl
  | p :: r => by
    rw [List.any_cons, aget_cons, any_aget k r]
    by_cases h : p.1 = k <;> simp [h]
theorem aget_some {r : List (κ × α)} {k : κ} {c : α} (h : aget r k = some c) : (k, c) ∈ r := by
  obtain ⟨p, hp, rfl⟩ := Option.map_eq_some_iff.mp h
  have e := List.find?_some hp
  have m := List.mem_of_find?_eq_some hp
  simp only [decide_eq_true_eq] at e
  rw [← e]; exact m
theorem aget_isSome {r : List (κ × α)} {k : κ} : (aget r k).isSome = true ↔ k ∈ r.map (·.1) := by
  rw [← any_aget]
  simp [List.any_eq_true]
theorem aget_of_mem : ∀ {r : List (κ × α)} {k : κ} {c : α}, (r.map (·.1)).Nodup → (k, c) ∈ r → aget r k = some c
  | [], _, _, _, h => by cases h
  | p :: r, k, c, n, h => by
    rw [List.map_cons, List.nodup_cons] at n
    rw [aget_cons]
    rcases List.mem_cons.mp h with e | h
    · rw [← e]; simp
    · have : p.1 ≠ k := fun e => n.1 (by rw [e]; exact List.mem_map.mpr ⟨_, h, rfl⟩)
      rw [if_neg this]; exact aget_of_mem n.2 h
theorem aget_map (k j : κ) (y : α) : ∀ r : List (κ × α), aget (r.map fun e => if e.1 = k then (e.1, y) else e) j = (aget r j).map fun x => if j = k then y else x
  | [] => rfl
  | p :: r => by
    rw [List.map_cons, aget_cons, aget_cons, aget_map k j y r]
    by_cases h1 : p.1 = k <;> by_cases h2 : p.1 = j
    · have : j = k := by rw [← h1, ← h2]
      simp [h1, h2, this]
    · have : ¬ k = j := fun e => h2 (by rw [h1, e])
      simp [h1, this]
    · have : ¬ j = k := fun e => h1 (by rw [h2, e])
      simp [h1, h2, this]
    · simp [h1, h2]
theorem aget_app (j : κ) : ∀ (r s : List (κ × α)), aget (r ++ s) j = (aget r j).or (aget s j)
  | [], s => by simp [aget_nil]
  | p :: r, s => by
    rw [List.cons_append, aget_cons, aget_cons, aget_app j r s]
    by_cases h : p.1 = j <;> simp [h]
theorem aget_put (r : List (κ × α)) (k j : κ) (y : α) : aget (aput r k y) j = if j = k then some y else aget r j := by
  unfold aput
  rw [any_aget]
  by_cases h : (aget r k).isSome = true
  · rw [if_pos h, aget_map]
    by_cases e : j = k
    · subst e
      obtain ⟨c, hc⟩ := Option.isSome_iff_exists.mp h
      simp [hc]
    · simp [e]
  · rw [if_neg h, aget_app, aget_cons, aget_nil]
    by_cases e : j = k
    · subst e
      have : aget r j = none := by simpa using h
      simp [this]
    · have : ¬ k = j := fun z => e z.symm
      simp [e, this]
theorem aget_drop (r : List (κ × α)) (k j : κ) : aget (adrop r k) j = if j = k then none else aget r j := by
  unfold adrop
  induction r with
  | nil => simp [aget_nil]
  | cons p r ih =>
    rw [List.filter_cons, aget_cons]
    by_cases h1 : p.1 = k
    · by_cases h2 : j = k
      · simp_all
      · have : ¬ p.1 = j := fun e => h2 (by rw [← e, h1])
        simp_all
    · by_cases h2 : p.1 = j
      · have : ¬ j = k := fun e => h1 (by rw [h2, e])
        simp_all [aget_cons]
      · simp_all [aget_cons]
theorem aput_keys (r : List (κ × α)) (k : κ) (y : α) : (aput r k y).map (·.1) = if k ∈ r.map (·.1) then r.map (·.1) else r.map (·.1) ++ [k] := by
  unfold aput
  rw [any_aget]
  by_cases h : (aget r k).isSome = true
  · rw [if_pos h, if_pos (aget_isSome.mp h), List.map_map]
    refine List.map_congr_left fun e _ => ?_
    simp only [Function.comp]
    split <;> rfl
  · rw [if_neg h, if_neg fun z => h (aget_isSome.mpr z)]
    simp
theorem aput_nodup {r : List (κ × α)} (h : (r.map (·.1)).Nodup) (k : κ) (y : α) : ((aput r k y).map (·.1)).Nodup := by
  rw [aput_keys]
  split
  · exact h
  · rename_i hn
    exact List.nodup_append.mpr ⟨h, by simp, fun a ha b hb e => by
      rw [List.mem_singleton] at hb
      subst hb e
      exact hn ha⟩
theorem adrop_nodup {r : List (κ × α)} (h : (r.map (·.1)).Nodup) (k : κ) : ((adrop r k).map (·.1)).Nodup := h.sublist (List.filter_sublist.map _)
theorem aput_len (r : List (κ × α)) (k : κ) (y : α) : (aput r k y).length ≤ r.length + 1 := by
  unfold aput
  split <;> simp
theorem aput_mem {r : List (κ × α)} {k : κ} {y : α} {p : κ × α} (h : p ∈ aput r k y) : p = (k, y) ∨ p ∈ r := by
  unfold aput at h
  split at h
  · obtain ⟨e, he, rfl⟩ := List.mem_map.mp h
    split
    · rename_i q; left; rw [q]
    · exact .inr he
  · rcases List.mem_append.mp h with h | h
    · exact .inr h
    · left; simpa using h
/-- the dict's entries kvs stand for r -/
def DR (f : κ' → κ) (R : α → V → Prop) (r : List (κ' × α)) (kvs : List (κ × V)) : Prop := Paired (fun (p : κ' × α) (q : κ × V) => q.1 = f p.1 ∧ R p.2 q.2) r kvs
variable {f : κ' → κ} {R R' : α → V → Prop} {r : List (κ' × α)} {kvs : List (κ × V)}
theorem DR.nil : DR f R ([] : List (κ' × α)) [] := Paired.nil
theorem DR.length (h : DR f R r kvs) : r.length = kvs.length := Paired.length h
theorem DR.imp (h : DR f R r kvs) (i : ∀ a v, R a v → R' a v) : DR f R' r kvs := Paired.mapP h fun _ _ z => ⟨z.1, i _ _ z.2⟩
theorem DR.keys (h : DR f R r kvs) : kvs.map (·.1) = r.map fun p => f p.1 := by
  induction h with
  | nil => rfl
  | cons p t ih => rw [List.map_cons, List.map_cons, ih, p.1]
theorem DR.get (inj : ∀ a b, f a = f b → a = b) (h : DR f R r kvs) (k : κ') : (aget r k = none ∧ valV kvs (f k) = none) ∨ ∃ c v, aget r k = some c ∧ valV kvs (f k) = some v ∧ R c v := by
  induction h with
  | nil => exact .inl ⟨rfl, rfl⟩
  | @cons p q ps qs hq t ih =>
    rw [aget_cons]
    by_cases e : p.1 = k
    · exact .inr ⟨p.2, q.2, if_pos e, valV_pos (by rw [hq.1, e]), hq.2⟩
    · rw [if_neg e, valV_neg (fun z => e (inj _ _ (by rw [← hq.1, z])))]
      exact ih
theorem DR.isSome (inj : ∀ a b, f a = f b → a = b) (h : DR f R r kvs) (k : κ') : (valV kvs (f k)).isSome = (aget r k).isSome := by
  rcases h.get inj k with ⟨e1, e2⟩ | ⟨c, v, e1, e2, _⟩ <;> rw [e1, e2] <;> rfl
theorem paired_app {β γ : Type} {F : β → γ → Prop} : ∀ {l : List β} {m : List γ} {l' : List β} {m' : List γ}, Paired F l m → Paired F l' m' → Paired F (l ++ l') (m ++ m')
  | _, _, _, _, .nil, h => h
  | _, _, _, _, .cons p t, h => .cons p (paired_app t h)
theorem DR.put (inj : ∀ a b, f a = f b → a = b) (h : DR f R r kvs) (k : κ') {c : α} {v : V} (hv : R c v) : DR f R (aput r k c) (putK kvs (f k) v) := by
  have e : (kvs.any fun kv => decide (kv.1 = f k)) = (r.any fun e => decide (e.1 = k)) := by rw [valV_any, any_aget, h.isSome inj]
  unfold aput putK
  rw [e]
  split
  · have go : ∀ {r : List (κ' × α)} {kvs : List (κ × V)}, DR f R r kvs → DR f R (r.map fun e => if e.1 = k then (e.1, c) else e) (kvs.map fun kv => if kv.1 = f k then (kv.1, v) else kv) := by
      intro r kvs h
      induction h with
      | nil => exact .nil
      | @cons p q ps qs hq t ih =>
        rw [List.map_cons, List.map_cons]
        refine .cons ?_ ih
        by_cases z : p.1 = k
        · rw [if_pos z, if_pos (by rw [hq.1, z])]
          exact ⟨hq.1, hv⟩
        · rw [if_neg z, if_neg fun y => z (inj _ _ (by rw [← hq.1, y]))]
          exact hq
    exact go h
  · exact paired_app h (.cons ⟨rfl, hv⟩ .nil)
theorem DR.drop (inj : ∀ a b, f a = f b → a = b) (h : DR f R r kvs) (k : κ') : DR f R (adrop r k) (dropK kvs (f k)) := by
  unfold adrop dropK
  induction h with
  | nil => exact .nil
  | @cons p q ps qs hq t ih =>
    rw [List.filter_cons, List.filter_cons]
    by_cases z : p.1 = k
    · rw [if_neg (by simpa using z), if_neg (by simp only [ne_eq, decide_not, Bool.not_eq_true', decide_eq_false_iff_not, Classical.not_not]; rw [hq.1, z])]
      exact ih
    · rw [if_pos (by simpa using z), if_pos (by simp only [ne_eq, decide_not, Bool.not_eq_true', decide_eq_false_iff_not]; exact fun y => z (inj _ _ (by rw [← hq.1, y])))]
      exact .cons hq ih
theorem DR.at {i : Nat} {k : κ'} {c : α} (h : DR f R r kvs) (e : r[i]? = some (k, c)) : ∃ v, kvs[i]? = some (f k, v) ∧ R c v := by
  induction h generalizing i with
  | nil => simp at e
  | @cons p q ps qs hq t ih =>
    cases i with
    | zero =>
      simp only [List.getElem?_cons_zero, Option.some.injEq] at e
      subst e
      exact ⟨q.2, by simp only [List.getElem?_cons_zero]; rw [← hq.1], hq.2⟩
    | succ i => simpa using ih (by simpa using e)
end

/-! ### a walk of a dict's keys; the dict is locked while it lasts -/
section
variable {K : PySem.W.Frag} {H H' : Hp} {σ : L2.St} {d a : Addr} {n b c : L2.St → Hp → Prop} {r : VK} {g : TG} {t : TS} {l : List Addr}
theorem _root_.AN.Fr.lock {kvs : List (L2.Key × V)} {o : Obj} (h : H d = some (.dK kvs)) : AN.Fr [d] H (upd H d (.frz o (.dK kvs))) := AN.Fr.setD h
theorem _root_.AN.Fr.unlock {kvs : List (L2.Key × V)} {o : Obj} (h : H d = some (.dK kvs)) (f : AN.Fr l (upd H d (.frz o (.dK kvs))) H') : AN.Fr l H (upd H' d (.dK kvs)) := by
  refine ⟨fun b u e nb => ?_, fun a xs e => ?_, fun a xs e => ?_⟩
  · by_cases z : b = d
    · subst z
      rw [h] at e
      cases e
      exact upd_same
    · rw [upd_ne z]
      exact f.keep b u (by rw [upd_ne z]; exact e) nb
  · have z : a ≠ d := fun z => by
      subst z
      rw [h] at e
      cases e
    rw [upd_ne z]
    exact f.tups a xs (by rw [upd_ne z]; exact e)
  · have z : a ≠ d := fun z => by
      subst z
      rcases e with e | ⟨o', e⟩ <;> rw [h] at e <;> cases e
    have e1 : Rd (upd H d (.frz o (.dK kvs))) a (.tup xs) := by
      rcases e with e | ⟨o', e⟩
      · exact .inl (by rw [upd_ne z]; exact e)
      · exact .inr ⟨o', by rw [upd_ne z]; exact e⟩
    rcases f.rdt a xs e1 with e | ⟨o', e⟩
    · exact .inl (by rw [upd_ne z]; exact e)
    · exact .inr ⟨o', by rw [upd_ne z]; exact e⟩
theorem forK_q {i : Nat} {kvs : List (L2.Key × V)} (e : σ[i]? = some (some (.ref d))) (h : H d = some (.dK kvs)) (Pv : Obj → Nat → L2.St → Hp → Prop) (h0 : ∀ o, Pv o 0 σ (upd H d (.frz o (.dK kvs))))
    (hl : ∀ o j σ' H', Pv o j σ' H' → H' d = some (.frz o (.dK kvs)))
    (step : ∀ o j k v σ' H', kvs[j]? = some (k, v) → Pv o j σ' H' → g (kV k) σ' H' fun σ2 H2 => t ⟨Pv o (j + 1), fun v H3 => H3 d = some (.frz o (.dK kvs)) ∧ r v (upd H3 d (.dK kvs)), fun σ3 H3 => H3 d = some (.frz o (.dK kvs)) ∧ n σ3 (upd H3 d (.dK kvs)), Pv o (j + 1)⟩ σ2 H2)
    (fin : ∀ o σ' H', Pv o kvs.length σ' H' → n σ' (upd H' d (.dK kvs))) : tLock (tFor (iKeys (tVar i)) g t) ⟨n, r, b, c⟩ σ H := by
  refine ⟨d, .dK kvs, h, trivial, fun od => ?_⟩
  refine ⟨.ref d, e, d, od, rfl, .inl ⟨kvs, upd_same, ?_⟩⟩
  refine ⟨fun j m σ' H' => Pv od j σ' H' ∧ j + m = kvs.length, ⟨kvs.length, h0 od, by omega⟩, fun j m σ' H' ⟨p, em⟩ => ?_⟩
  have hf := hl od j σ' H' p
  by_cases hj : j < kvs.length
  · refine .inr ⟨⟨hf, hj⟩, Pv od (j + 1), fun σ2 H2 p2 => ⟨m - 1, by omega, p2, by omega⟩, fun x H2 y => ?_⟩
    obtain ⟨rfl, k, v, ek, rfl⟩ := y
    exact step od j k v σ' _ ek p
  · have ej : j = kvs.length := by omega
    subst ej
    exact .inl ⟨⟨hf, Nat.le_refl _⟩, hf, fin od σ' H' p⟩
/-! ### dicts with texts as keys, and data -/
variable {α : Type} {toD : α → PyData} {rr : List (Str × α)}
theorem inr_inj : ∀ a b : Str, (Sum.inr a : L2.Key) = Sum.inr b → a = b := fun _ _ h => Sum.inr.inj h
/-- to be read -/
def DIs (K : PySem.W.Frag) (H : Hp) (toD : α → PyData) (a : Addr) (rr : List (Str × α)) : Prop := ∃ kvs, Rd H a (.dK kvs) ∧ DR (Sum.inr : Str → L2.Key) (fun c v => Rep K H (toD c) v) rr kvs
/-- to be written, too -/
def DW (K : PySem.W.Frag) (H : Hp) (toD : α → PyData) (a : Addr) (rr : List (Str × α)) : Prop := ∃ kvs, H a = some (.dK kvs) ∧ DR (Sum.inr : Str → L2.Key) (fun c v => Rep K H (toD c) v) rr kvs
theorem DW.is (h : DW K H toD a rr) : DIs K H toD a rr := let ⟨kvs, e, r⟩ := h; ⟨kvs, .inl e, r⟩
theorem Rd.frD {kvs : List (L2.Key × V)} (h : Rd H a (.dK kvs)) (f : AN.Fr l H H') (na : a ∉ l) : Rd H' a (.dK kvs) := by
  rcases h with e | ⟨o, e⟩
  · exact .inl (f.keep _ _ e na)
  · exact .inr ⟨o, f.keep _ _ e na⟩
theorem DIs.fr (h : DIs K H toD a rr) (f : AN.Fr l H H') (na : a ∉ l) : DIs K H' toD a rr := let ⟨kvs, e, r⟩ := h; ⟨kvs, Rd.frD e f na, r.imp fun _ _ q => q.up f⟩
theorem DW.fr (h : DW K H toD a rr) (f : AN.Fr l H H') (na : a ∉ l) : DW K H' toD a rr := let ⟨kvs, e, r⟩ := h; ⟨kvs, f.keep _ _ e na, r.imp fun _ _ q => q.up f⟩
theorem DIs.lock {kvs : List (L2.Key × V)} {o : Obj} (h : H d = some (.dK kvs)) (x : DIs K H toD a rr) : DIs K (upd H d (.frz o (.dK kvs))) toD a rr := by
  obtain ⟨ks, e, r⟩ := x
  refine ⟨ks, ?_, r.imp fun _ _ q => q.up (AN.Fr.lock h)⟩
  by_cases z : a = d
  · subst z
    rcases e with e | ⟨o', e⟩
    · rw [h] at e; cases e; exact .inr ⟨o, upd_same⟩
    · rw [h] at e; cases e
  · rcases e with e | ⟨o', e⟩
    · exact .inl (by rw [upd_ne z]; exact e)
    · exact .inr ⟨o', by rw [upd_ne z]; exact e⟩
variable {Q : VK} {k : Str} {x : V}
theorem dis_in (h : DIs K H toD a rr) (q : Q (.bl (aget rr k).isSome) H) : rIn2 K (.str k) (.ref a) H Q := by
  obtain ⟨kvs, e, r⟩ := h
  refine .inl (.inr (.inl ⟨a, _, rfl, .inl ⟨kvs, .inr k, e, rfl, rfl⟩, ?_⟩))
  rw [r.isSome inr_inj k]
  exact q
theorem dis_notIn (h : DIs K H toD a rr) (q : Q (.bl (!(aget rr k).isSome)) H) : rNotIn2 K (.str k) (.ref a) H Q := by
  obtain ⟨kvs, e, r⟩ := h
  refine .inl (.inr (.inl ⟨a, _, rfl, .inl ⟨kvs, .inr k, e, rfl, rfl⟩, ?_⟩))
  rw [r.isSome inr_inj k]
  exact q
theorem dis_ix {y : α} (h : DIs K H toD a rr) (e : aget rr k = some y) (q : ∀ v, Rep K H (toD y) v → Q v H) : rIxG K (.ref a) (.str k) H Q := by
  obtain ⟨kvs, ed, r⟩ := h
  rcases r.get inr_inj k with ⟨e1, _⟩ | ⟨c, v, e1, e2, hv⟩
  · rw [e] at e1; cases e1
  · rw [e] at e1
    cases e1
    exact .inr (.inr (.inl ⟨a, v, rfl, .inl ⟨kvs, .inr k, ed, rfl, e2.symm⟩, q v hv⟩))
theorem dis_get2 {z : V} (h : DIs K H toD a rr) (q1 : aget rr k = none → Q z H) (q2 : ∀ y v, aget rr k = some y → Rep K H (toD y) v → Q v H) : ∃ o, DGet H a (.str k) o ∧ Q (o.getD z) H := by
  obtain ⟨kvs, ed, r⟩ := h
  refine ⟨_, .inl ⟨kvs, .inr k, ed, rfl, rfl⟩, ?_⟩
  rcases r.get inr_inj k with ⟨e1, e2⟩ | ⟨c, v, e1, e2, hv⟩
  · rw [e2]; exact q1 e1
  · rw [e2]; exact q2 c v e1 hv
theorem DIs.isD (h : DIs K H toD a rr) : IsD H a := let ⟨kvs, e, _⟩ := h; .inl ⟨kvs, e⟩
theorem dw_set {y : α} {v : V} {q : Hp → Prop} (h : DW K H toD a rr) (hv : Rep K H (toD y) v) (hl : rr.length < 1000) (w : ∀ H', AN.Fr [a] H H' → DW K H' toD a (aput rr k y) → q H') : rSetL (.ref a) (.str k) v H q ∨ rSetD (.ref a) (.str k) v H q := by
  obtain ⟨kvs, e, r⟩ := h
  refine setD_q (k := .inr k) e rfl (by rw [← r.length]; exact hl) fun H' f e' => w H' f ⟨_, e', ?_⟩
  exact (r.imp fun _ _ z => z.up f).put inr_inj k (hv.up f)
theorem dw_new (q : ∀ H' p, AN.Fr [] H H' → H p = none → DW K H' toD p [] → Q (.ref p) H') : tDNewK σ H Q := g_dnew fun H' p f np e => q H' p f np ⟨[], e, DR.nil⟩
theorem dw_dict (h : DIs K H toD a rr) (q : ∀ H' p, AN.Fr [] H H' → H p = none → DW K H' toD p rr → Q (.ref p) H') : rDictOf [.ref a] H Q := by
  obtain ⟨kvs, e, r⟩ := h
  exact ⟨a, kvs, rfl, e, fun p np => q _ p (AN.Fr.new np) np ⟨kvs, upd_same, r.imp fun _ _ z => z.up (AN.Fr.new np)⟩⟩
theorem dw_pop_q {y : α} (h : DW K H toD a rr) (e : aget rr k = some y) (q : ∀ H' v, AN.Fr [a] H H' → Rep K H' (toD y) v → DW K H' toD a (adrop rr k) → Q v H') : ∃ kvs k' v, H a = some (.dK kvs) ∧ V.str k = kV k' ∧ valV kvs k' = some v ∧ Q v (upd H a (.dK (dropK kvs k'))) := by
  obtain ⟨kvs, ed, r⟩ := h
  rcases r.get inr_inj k with ⟨e1, _⟩ | ⟨c, v, e1, e2, hv⟩
  · rw [e] at e1; cases e1
  · rw [e] at e1
    cases e1
    have f : AN.Fr [a] H (upd H a (.dK (dropK kvs (.inr k)))) := AN.Fr.setD ed
    exact ⟨kvs, .inr k, v, ed, rfl, e2, q _ v f (hv.up f) ⟨_, upd_same, (r.imp fun _ _ z => z.up f).drop inr_inj k⟩⟩
theorem dw_len (h : DW K H toD a rr) (q : Q (.int (rr.length : Nat)) H) : rLenG K [.ref a] H Q := by
  obtain ⟨kvs, e, r⟩ := h
  exact .inr ⟨a, kvs, rfl, e, by rw [← r.length]; exact q⟩
theorem dis_sorted (h : DIs K H toD a rr) (hl : rr.length < 64) (q : ∀ H' p (ys : List Str), ys.Perm (rr.map (·.1)) → sortedS ys = true → AN.Fr [] H H' → H p = none → H' p = some (.lst (ys.map V.str)) → Q (.ref p) H') : rSorted2 K [.ref a] H Q := by
  obtain ⟨kvs, e, r⟩ := h
  refine .inl (.inr ⟨a, kvs, rr.map (·.1), rfl, e, by rw [r.keys, List.map_map]; rfl, by simpa using hl, fun ys p hp hs np => q _ p ys hp hs (AN.Fr.new np) np upd_same⟩)
end

/-! ### dicts with tuples of texts and ints as keys -/
section
variable {K : PySem.W.Frag} {H H' : Hp} {σ : L2.St} {a : Addr} {l : List Addr} {α : Type} {toD : α → PyData} {rr : List (List L2.Key × α)} {Q : VK} {k : List L2.Key} {x y : V}
theorem keys_back : ∀ {ks : List L2.Key} {vs : List V}, Reps K H (ks.map kD) vs → vs = ks.map kV
  | [], vs, h => by rw [List.map_nil] at h; unfold Reps at h; exact h
  | k :: ks, vs, h => by
    rw [List.map_cons] at h
    obtain ⟨v, r, rfl, h1, h2⟩ := Reps.cons_iff.mp h
    rw [List.map_cons, keys_back h2]
    cases k with
    | inl i => unfold kD Rep at h1; rw [h1]; rfl
    | inr i => unfold kD Rep at h1; rw [h1]; rfl
theorem key_ref (h : Rep K H (.tuple (k.map kD)) x) : ∃ b, x = .ref b ∧ H b = some (.tup (k.map kV)) := by
  obtain ⟨b, vs, rfl, hs, hr⟩ := Rep.tup_iff.mp h
  exact ⟨b, rfl, by rw [← keys_back hr]; exact hs⟩
def TW (K : PySem.W.Frag) (H : Hp) (toD : α → PyData) (a : Addr) (rr : List (List L2.Key × α)) : Prop := ∃ kvs, H a = some (.dT kvs) ∧ DR (id : List L2.Key → List L2.Key) (fun c v => Rep K H (toD c) v) rr kvs
theorem TW.fr (h : TW K H toD a rr) (f : AN.Fr l H H') (na : a ∉ l) : TW K H' toD a rr := let ⟨kvs, e, r⟩ := h; ⟨kvs, f.keep _ _ e na, r.imp fun _ _ q => q.up f⟩
theorem _root_.AN.Fr.setT {kvs : List (List L2.Key × V)} {o : HO} (h : H a = some (.dT kvs)) : AN.Fr [a] H (upd H a o) := AN.Fr.set h (fun _ e => by cases e) (fun _ _ e => by cases e)
theorem id_inj : ∀ a b : List L2.Key, id a = id b → a = b := fun _ _ h => h
theorem tw_new (q : ∀ H' p, AN.Fr [] H H' → H p = none → TW K H' toD p [] → Q (.ref p) H') : tDNewT σ H Q := fun p hp => q _ p (AN.Fr.new hp) hp ⟨[], upd_same, DR.nil⟩
theorem tw_set {c : α} {v : V} {q : Hp → Prop} (h : TW K H toD a rr) (hk : Rep K H (.tuple (k.map kD)) x) (hv : Rep K H (toD c) v) (hl : rr.length < 1000) (w : ∀ H', AN.Fr [a] H H' → TW K H' toD a (aput rr k c) → q H') : rSetL (.ref a) x v H q ∨ rSetD (.ref a) x v H q := by
  obtain ⟨kvs, e, r⟩ := h
  obtain ⟨b, rfl, hb⟩ := key_ref hk
  have f : AN.Fr [a] H (upd H a (.dT (putK kvs k v))) := AN.Fr.setT e
  refine .inr ⟨a, upd H a (.dT (putK kvs k v)), rfl, DPut.t e hb (small1000 (by rw [← r.length]; exact Nat.le_of_lt hl)), ?_⟩
  exact w _ f ⟨_, upd_same, (r.imp fun _ _ z => z.up f).put id_inj k (hv.up f)⟩
theorem tw_in (h : TW K H toD a rr) (hk : Rep K H (.tuple (k.map kD)) x) (q : Q (.bl (aget rr k).isSome) H) : rIn2 K x (.ref a) H Q := by
  obtain ⟨kvs, e, r⟩ := h
  obtain ⟨b, rfl, hb⟩ := key_ref hk
  refine .inl (.inr (.inl ⟨a, _, rfl, DGet.t e hb, ?_⟩))
  have := r.isSome id_inj k
  simp only [id] at this
  rw [this]; exact q
theorem tw_sorted (h : TW K H toD a rr) (hal : AllAlike (rr.map fun p => PyData.tuple (p.1.map kD))) (hs : Sortable (rr.map fun p => PyData.tuple (p.1.map kD))) (hl : rr.length < 1000)
    (q : ∀ H' p ys es, es.Perm (rr.map fun p => PyData.tuple (p.1.map kD)) → Asc es → AN.Fr [] H H' → H p = none → H' p = some (.lst ys) → Reps K H' es ys → Q (.ref p) H') : rSorted2 K [.ref a] H Q := by
  obtain ⟨kvs, e, r⟩ := h
  have e1 : (kvs.map fun p => PyData.tuple (p.1.map kD)) = rr.map fun p => PyData.tuple (p.1.map kD) := by
    have := congrArg (List.map fun k : List L2.Key => PyData.tuple (k.map kD)) r.keys
    rw [List.map_map, List.map_map] at this
    exact this
  refine .inr (.inr (.inr ⟨a, kvs, rfl, .inl e, ?_⟩))
  rw [e1]
  refine ⟨hal, hs, fun d hd => ?_, by rw [List.length_map]; exact Nat.le_of_lt (small1000 (Nat.le_of_lt hl)), q⟩
  obtain ⟨p, _, rfl⟩ := List.mem_map.mp hd
  have : ∀ ks : List L2.Key, PyData.depthAll (ks.map kD) = 0 := fun ks => by
    induction ks with
    | nil => rfl
    | cons k ks ih => cases k <;> simp [kD, PyData.depthAll, PyData.depth, ih]
  simp [PyData.depth, this]
end
theorem Fr.over {H H1 H2 : Hp} {p : Addr} (f : AN.Fr [] H H1) (n : H p = none) (g : AN.Fr [p] H1 H2) : AN.Fr [] H H2 := f.trans g fun b m => .inr (by rw [List.mem_singleton.mp m]; exact n)
theorem Fr.over1 {H H1 H2 : Hp} {p a : Addr} (f : AN.Fr [a] H H1) (n : H p = none) (g : AN.Fr [p] H1 H2) : AN.Fr [a] H H2 := f.trans g fun b m => .inr (by rw [List.mem_singleton.mp m]; exact n)
theorem eqXT {K : PySem.W.Frag} {H : Hp} {Q : VK} {x y : V} {d e : PyData} (h : Rep K H d x) (r : Rep K H e y) (o : Okd d) (os : Okd e) (z : PyData.eqv d e = true) (q : Q (.bl true) H) : rEqG K x y H Q := eqX_q h r o os (by rw [z]; exact q)
theorem eqXF {K : PySem.W.Frag} {H : Hp} {Q : VK} {x y : V} {d e : PyData} (h : Rep K H d x) (r : Rep K H e y) (o : Okd d) (os : Okd e) (z : PyData.eqv d e = false) (q : Q (.bl false) H) : rEqG K x y H Q := eqX_q h r o os (by rw [z]; exact q)
theorem neXT {K : PySem.W.Frag} {H : Hp} {Q : VK} {x y : V} {d e : PyData} (h : Rep K H d x) (r : Rep K H e y) (o : Okd d) (os : Okd e) (z : PyData.eqv d e = false) (q : Q (.bl true) H) : rNeG K x y H Q :=
  .inr (.inl ⟨d, e, h.dp, r.dp, o.shaped, os.shaped, by rw [z]; exact q⟩)
theorem neXF {K : PySem.W.Frag} {H : Hp} {Q : VK} {x y : V} {d e : PyData} (h : Rep K H d x) (r : Rep K H e y) (o : Okd d) (os : Okd e) (z : PyData.eqv d e = true) (q : Q (.bl false) H) : rNeG K x y H Q :=
  .inr (.inl ⟨d, e, h.dp, r.dp, o.shaped, os.shaped, by rw [z]; exact q⟩)
theorem nd_len {β : Type} [DecidableEq β] : ∀ {l m : List β}, l.Nodup → (∀ x ∈ l, x ∈ m) → l.length ≤ m.length
  | [], _, _, _ => Nat.zero_le _
  | x :: l, m, h, s => by
    have hx := s x (List.mem_cons_self ..)
    have h1 := nd_len (l := l) (m := m.erase x) (List.nodup_cons.mp h).2 fun y hy => (List.mem_erase_of_ne (show y ≠ x from fun e => (List.nodup_cons.mp h).1 (by rw [← e]; exact hy))).mpr (s y (List.mem_cons_of_mem _ hy))
    rw [List.length_erase_of_mem hx] at h1
    have : 0 < m.length := List.length_pos_of_mem hx
    simp only [List.length_cons]
    omega
/-- a.get(y, z) -/
def Get2 (a : Addr) (y z : V) (Q : VK) (H : Hp) : Prop := ∃ o, DGet H a y o ∧ Q (o.getD z) H
theorem get2_g {σ : L2.St} {H : Hp} {Q : VK} {td ty tx : TE} (h : td σ H fun x H1 => ∃ a, x = .ref a ∧ IsD H1 a ∧ ty σ H1 fun y H2 => tx σ H2 fun z H3 => Get2 a y z Q H3) : tDGet2 td ty tx σ H Q := h
theorem dis_getD {K : PySem.W.Frag} {α : Type} {toD : α → PyData} {H : Hp} {a : Addr} {rr : List (Str × α)} {k : Str} {z : V} {d0 : α} {Q : VK} (h : DIs K H toD a rr) (hz : Rep K H (toD d0) z) (q : ∀ v, Rep K H (toD ((aget rr k).getD d0)) v → Q v H) : Get2 a (.str k) z Q H :=
  dis_get2 h (fun e => q z (by rw [e]; exact hz)) fun y v e hv => q v (by rw [e]; exact hv)
theorem RowOf.fr0 {K : PySem.W.Frag} {H H' : Hp} {x : V} {ds : List PyData} (h : RowOf K H x ds) (f : AN.Fr [] H H') : RowOf K H' x ds := by
  rcases h with h | ⟨a, xs, rfl, hs, hr⟩
  · exact .inl (h.up f)
  · exact .inr ⟨a, xs, rfl, f.sqL hs (by simp), hr.up f⟩
theorem ltI_q {K : PySem.W.Frag} {H : Hp} {Q : VK} {i j : Int} (q : Q (.bl (decide (i < j))) H) : rLt2 K (.int i) (.int j) H Q := .inl ⟨i, j, rfl, rfl, q⟩
theorem lenS_q {K : PySem.W.Frag} {H : Hp} {x : Str} {Q : VK} (h : x.length ≤ sizeLine) (q : Q (.int x.length) H) : rLenG K [.str x] H Q := .inl ⟨.str x, x.length, rfl, ⟨h, rfl⟩, q⟩
theorem cut_next {t : TS} {n b c : L2.St → Hp → Prop} {r : VK} {σ : L2.St} {H : Hp} (N : L2.St → Hp → Prop) (hN : ∀ σ' H', N σ' H' → n σ' H') (h : ∀ n' : L2.St → Hp → Prop, (∀ σ' H', N σ' H' → n' σ' H') → t ⟨n', r, b, c⟩ σ H) : t ⟨n, r, b, c⟩ σ H := h n hN
theorem cut_ite {k : Bool} {t u : TS} {n b c : L2.St → Hp → Prop} {r : VK} {σ : L2.St} {H : Hp} (N : L2.St → Hp → Prop) (hN : ∀ σ' H', N σ' H' → n σ' H') (h : ∀ n' : L2.St → Hp → Prop, (∀ σ' H', N σ' H' → n' σ' H') → if k = true then t ⟨n', r, b, c⟩ σ H else u ⟨n', r, b, c⟩ σ H) : if k = true then t ⟨n, r, b, c⟩ σ H else u ⟨n, r, b, c⟩ σ H := h n hN
theorem eqG_bl {K : PySem.W.Frag} {H : Hp} {Q : VK} {x y : Bool} (q : Q (.bl (decide (V.bl x = V.bl y))) H) : rEqG K (.bl x) (.bl y) H Q := .inl ⟨rfl, q⟩
theorem upd_back {H : Hp} {a : Addr} {o u : HO} (h : H a = some u) : upd (upd H a o) a u = H := by
  funext b
  unfold upd
  by_cases e : b = a
  · rw [if_pos e, e, h]
  · rw [if_neg e, if_neg e]
theorem Fr.more {H H1 H2 : Hp} {l l' : List Addr} (f : AN.Fr l H H1) (g : AN.Fr l' H1 H2) (h : ∀ b ∈ l', b ∈ l) : AN.Fr l H H2 := f.trans g fun b m => .inl (h b m)
theorem Fr.over2 {H H1 H2 : Hp} {p a : Addr} (f : AN.Fr [] H H1) (n : H p = none) (g : AN.Fr [p, a] H1 H2) : AN.Fr [a] H H2 := f.of0.trans g fun b m => by
  rcases List.mem_cons.mp m with rfl | m
  · exact .inr n
  · exact .inl m
theorem addG_lst {K : PySem.W.Frag} {H : Hp} {a b : Addr} {xs zs : List V} {Q : VK} (h : H a = some (.lst xs)) (h' : H b = some (.lst zs)) (hl : xs.length + zs.length ≤ sizeLine) (q : ∀ H' p, AN.Fr [] H H' → H p = none → H' p = some (.lst (xs ++ zs)) → Q (.ref p) H') : rAddG K (.ref a) (.ref b) H Q :=
  .inr (.inr (.inr ⟨a, b, xs, zs, rfl, rfl, h, h', hl, fun p hp => q _ p (AN.Fr.new hp) hp upd_same⟩))
theorem sortedR_q {K : PySem.W.Frag} {H : Hp} {a : Addr} {xs : List V} {ds : List PyData} {Q : VK} (h : H a = some (.lst xs)) (r : Reps K H ds xs) (al : PySem.W.AllAlike ds) (so : PySem.W.Sortable ds) (dp : ∀ d ∈ ds, d.depth ≤ 40)
    (q : ∀ H' p ys es, es.Perm ds → Asc es → AN.Fr [] H H' → H p = none → H' p = some (.lst ys) → Reps K H' es ys → Q (.ref p) H') : rSorted2 K [.ref a] H Q := .inr (.inl ⟨a, xs, ds, rfl, .of h, r, al, so, dp, q⟩)
theorem dpop_g {σ : L2.St} {H : Hp} {Q : VK} {td ty : TE} (h : td σ H fun x H1 => ∃ a, x = .ref a ∧ IsD H1 a ∧ ty σ H1 fun y H2 => ∃ kvs k v, H2 a = some (.dK kvs) ∧ y = kV k ∧ valV kvs k = some v ∧ Q v (upd H2 a (.dK (dropK kvs k)))) : tDPop1 td ty σ H Q := h
theorem seqI {k n : Nat} (h : k < n) : seqIndex? (k : Int) n = some k := by
  unfold seqIndex?
  simp
  omega
theorem popAt_q {H : Hp} {a : Addr} {xs : List V} {y : V} {j : Int} {k : Nat} {Q : VK} (h : H a = some (.lst xs)) (hj : j = ((k : Nat) : Int)) (e : xs[k]? = some y) (hl : xs.length < 1000000) (q : ∀ H', AN.Fr [a] H H' → H' a = some (.lst (xs.eraseIdx k)) → Q y H') : rPopAt (.ref a) [.int j] H Q := by
  subst hj
  have hk := (List.getElem?_eq_some_iff.mp e).1
  exact ⟨a, xs, k, k, y, rfl, rfl, h, by omega, by omega, seqI hk, e, q _ (AN.Fr.setL h) upd_same⟩
theorem srep {K : PySem.W.Frag} {H : Hp} {x : Str} {v : V} (h : Rep K H (.str x) v) : v = .str x := by unfold Rep at h; exact h
theorem rows_at {β : Type} {f : β → PyData} {l : List β} {i : Nat} {d : PyData} (h : (l.map f)[i]? = some d) : ∃ e, l[i]? = some e ∧ d = f e := by
  rw [List.getElem?_map] at h
  obtain ⟨e, h1, h2⟩ := Option.map_eq_some_iff.mp h
  exact ⟨e, h1, h2.symm⟩
theorem Reps.erase {K : PySem.W.Frag} {H : Hp} {ds : List PyData} {vs : List V} (h : Reps K H ds vs) (k : Nat) : Reps K H (ds.eraseIdx k) (vs.eraseIdx k) := by
  rw [List.eraseIdx_eq_take_drop_succ, List.eraseIdx_eq_take_drop_succ]
  exact (h.take k).append (h.drop (k + 1))
theorem g_m1 {σ : L2.St} {H : Hp} {Q : VK} {to te : TE} {r : V → List V → Hp → VK → Prop} (h : to σ H fun x H1 => (∃ a, x = .str a) ∧ te σ H1 fun y H2 => r x [y] H2 Q) : tM1 r to te σ H Q := h
/-- the law's names -/
def poolL : List Str := (["a", "b2", "sum", "left", "r", "k0", "carry", "z9z", "full", "tail", "n", "q8", "aa", "busy", "cnt", "p", "t4", "even2", "ab1", "head", "u", "v", "w", "lowest", "high", "mid", "s", "t", "e", "f", "g", "h", "i", "j", "k", "x", "y", "q7", "deep", "turn", "gate", "l5", "hold", "next1", "o", "c0", "d", "two", "zz1", "near", "far9", "last", "ring2", "aaaaaaaaaaa8", "b", "c1", "top2", "net3", "row", "col7", "zz_a", "one_two", "r0", "r1", "x1", "y2", "w3", "b7", "k_k", "cup", "pen", "lamp", "desk"] : List String).map Str.ofString
theorem pool_nd : poolL.Nodup := by decide +kernel
theorem pool_ok : ∀ n ∈ poolL, PyData.strOk n = true := by decide +kernel
theorem pool_len : poolL.length = 73 := rfl
end AN

/-! AN: dicts whose keys are nested tuples. -/
namespace AN
open PySem PySem.Spec PyProof.Rows L2
mutual
def nkD : NestedKey → PyData
  | .none => .none
  | .num i => .int i
  | .text x => .str x
  | .tup ks => .tuple (nkDs ks)
def nkDs : List NestedKey → List PyData
  | [] => []
  | k :: ks => nkD k :: nkDs ks
end
section
variable {X : Cx} {pins : List (Addr × Obj)} {σ : L2.St} {H : Hp} {s : Shared}
mutual
theorem nested_is (I : Inv X pins σ H s) : ∀ (k : NestedKey) (x : V) (v : Value), Rep X.K H (nkD k) x → RelV x v → NestedIs s.heap k v
  | .none, x, v, h, r => by unfold nkD Rep at h; subst h; cases (show v = Value.none from r); exact .none
  | .num i, x, v, h, r => by unfold nkD Rep at h; subst h; obtain ⟨t, rfl⟩ := r; exact .int _ _
  | .text i, x, v, h, r => by unfold nkD Rep at h; subst h; obtain ⟨t, rfl⟩ := r; exact .text _ _
  | .tup ks, x, v, h, r => by
    unfold nkD at h
    obtain ⟨a, vs, e, q, rs⟩ := Rep.tup_iff.mp h
    subst e
    cases (show v = Value.ref a from r)
    obtain ⟨its, rv, ⟨o, ho, hc, n, hd⟩, _⟩ := I.tuple (.of q)
    exact .tup ho hc hd (by simpa using nested_all I ks vs its rs rv)
theorem nested_all (I : Inv X pins σ H s) : ∀ (ks : List NestedKey) (xs : List V) (vs : List Value), Reps X.K H (nkDs ks) xs → Vals xs vs → NestedAll s.heap ks vs
  | [], xs, vs, h, r => by unfold nkDs Reps at h; subst h; cases r; exact .nil
  | k :: ks, xs, vs, h, r => by
    unfold nkDs at h
    obtain ⟨x, ys, e, h1, h2⟩ := Reps.cons_iff.mp h
    subst e
    cases r with
    | cons r1 r2 => exact .cons (nested_is I k x _ h1 r1) (nested_all I ks ys _ h2 r2)
end
end
/-- at a: a dict; its entries: a key, the key's place, a value -/
def nO (P : Program) (w : World) (a : Addr) (xs : List (NestedKey × Addr × Value)) : HO :=
  .ext fun h => ∃ o es ep, h.get? a = some o ∧ o.ExactDict ∧ o.data = .dict es ep ∧ es.toList = xs.map (entryOfKey (nestedKind P w)) ∧ (xs.map (·.1)).Nodup
theorem nO_tup {P : Program} {w : World} {a : Addr} {xs : List (NestedKey × Addr × Value)} {ys : List V} : nO P w a xs ≠ .tup ys := fun z => by
  have z' : HO.ext _ = HO.tup ys := z
  cases z'
theorem nO_frz {P : Program} {w : World} {a : Addr} {xs : List (NestedKey × Addr × Value)} {o : Obj} {u : HO} : nO P w a xs ≠ .frz o u := fun z => by
  have z' : HO.ext _ = HO.frz o u := z
  cases z'
theorem nO_ok {P : Program} {w : World} {H : Hp} {h : Heap} {a : Addr} {xs : List (NestedKey × Addr × Value)} (d : h.DictOfH (nestedKind P w) a xs) : ObjOk P w H h a (nO P w a xs) := by
  obtain ⟨o, es, ep, h1, h2, h3, h4, _, h5⟩ := d
  exact ⟨⟨o, es, ep, h1, h2, h3, h4, h5⟩, ⟨o, h1⟩, fun h1 h2 z k => by
    obtain ⟨o, es, ep, e1, e2⟩ := z
    exact ⟨o, es, ep, k _ e1, e2⟩⟩
structure NRaw (P : Program) (w : World) (K : PySem.W.Frag) (H : Hp) (a : Addr) (xs : List (NestedKey × Addr × Value)) : Prop where
  ob : H a = some (nO P w a xs)
  sys : (a == sysModules) = false
  keys : ∀ x ∈ xs, Rep K H (nkD x.1) (.ref x.2.1) ∧ x.1.depth ≤ 8
theorem NRaw.dict {X : Cx} {pins : List (Addr × Obj)} {σ : L2.St} {H : Hp} {s : Shared} {a : Addr} {xs : List (NestedKey × Addr × Value)} (N : NRaw X.prog X.w X.K H a xs) (I : Inv X pins σ H s) : s.heap.DictOfH (nestedKind X.prog X.w) a xs := by
  obtain ⟨⟨o, es, ep, h1, h2, h3, h4, h5⟩, _⟩ := (show ObjOk X.prog X.w H s.heap a (.ext _) from I.hok a _ N.ob)
  exact ⟨o, es, ep, h1, h2, h3, h4, fun x hx => ⟨nested_is I _ _ _ (N.keys x hx).1 rfl, (N.keys x hx).2⟩, h5⟩
def rInN (P : Program) (w : World) (K : PySem.W.Frag) : R2 := fun x y H Q => ∃ (a : Addr) (xs : List (NestedKey × Addr × Value)) (ks : List NestedKey), y = .ref a ∧ NRaw P w K H a xs ∧ Rep K H (nkD (.tup ks)) x ∧ (NestedKey.tup ks).depth ≤ 8 ∧ Q (.bl (atKey xs (.tup ks)).isSome) H
def rIxN (P : Program) (w : World) (K : PySem.W.Frag) : R2 := fun x y H Q => ∃ (a : Addr) (xs : List (NestedKey × Addr × Value)) (ks : List NestedKey) (p : Addr × Value) (v : V), x = .ref a ∧ NRaw P w K H a xs ∧ Rep K H (nkD (.tup ks)) y ∧ (NestedKey.tup ks).depth ≤ 8 ∧ atKey xs (.tup ks) = some p ∧ RelV v p.2 ∧ Q v H
def rSetN (P : Program) (w : World) (K : PySem.W.Frag) : TSet := fun x y v H q => ∃ (a b : Addr) (xs : List (NestedKey × Addr × Value)) (ks : List NestedKey), x = .ref a ∧ y = .ref b ∧ NRaw P w K H a xs ∧ Rep K H (nkD (.tup ks)) y ∧ (NestedKey.tup ks).depth ≤ 8 ∧ xs.length ≤ sizeLine ∧
  ∀ u, RelV v u → q (upd H a (nO P w a (storedH xs (.tup ks) b u)))
def tDNewN (P : Program) (w : World) : TE := fun _ H Q => ∀ p, H p = none → (p == sysModules) = false → Q (.ref p) (upd H p (nO P w p []))
section
variable {X : Cx} {P : Program} {w : World} {K : PySem.W.Frag} {pos : Pos}
theorem pe_dnewN (hP : X.prog = P) (hw : X.w = w) : PE X (.Dict [] [] pos) (tDNewN P w) := by
  subst hP hw
  exact ⟨fun pins s σ H Q I h => wpAny_Dict_empty ⟨.ref s.heap.objs.size, _, I.laid (a := s.heap.objs.size) (o := nO X.prog X.w s.heap.objs.size []) (t' := s.toks) (fun _ _ q => Heap.get?_push_of_some _ q) (Nat.le_refl _) (nO_ok (Heap.DictOfH.new s.heap)), rfl,
    h _ (I.hok.fresh (Nat.le_refl _)) (beq_eq_false_iff_ne.mpr (Ne.symm (Nat.ne_of_lt I.big)))⟩⟩
theorem ref_key {H : Hp} {ks : List NestedKey} {x : V} (h : Rep K H (nkD (.tup ks)) x) : ∃ b, x = .ref b := by
  unfold nkD at h
  obtain ⟨b, _, e, _⟩ := Rep.tup_iff.mp h
  exact ⟨b, e⟩
theorem op_inN (hP : X.prog = P) (hw : X.w = w) (hK : X.K = K) (hu : X.A.units + 64 < cLine) : OpR X (compareOp .In) (rInN P w K) := by
  subst hP hw hK
  intro pins s σ H x y v u Q I rx ry h
  obtain ⟨a, xs, ks, rfl, N, hk, hd, q⟩ := h
  obtain rfl : u = Value.ref a := ry
  obtain ⟨b, rfl⟩ := ref_key hk
  obtain rfl : v = Value.ref b := rx
  exact wpAny_in_heap (knd := nestedKind X.prog X.w) (show X.A.in1.units + 8 < cLine by have e : X.A.in1.units = X.A.units + 1 := rfl; omega) ⟨nested_is I _ _ _ hk rfl, hd⟩ N.sys (N.dict I) ⟨.bl _, H, I.tok _, rfl, q⟩
theorem ix_N (hP : X.prog = P) (hw : X.w = w) (hK : X.K = K) (hu : X.A.units + 64 < cLine) : IxR X (rIxN P w K) := by
  subst hP hw hK
  intro value slice pins s σ H x y v u Q I rx ry h hs
  obtain ⟨a, xs, ks, p, z, rfl, N, hk, hd, hp, rz, q⟩ := h
  obtain rfl : v = Value.ref a := rx
  obtain ⟨b, rfl⟩ := ref_key hk
  obtain rfl : u = Value.ref b := ry
  have dd := N.dict I
  unfold subscriptTail
  refine wpAny_bind ?_
  have hT := dd.typeIs
  rw [getitemInPython_of_ne hT.not_modules]
  refine wpAny_bind (wpAny_specialOf hT PySem.F.slot_dict_getitem.lookup ?_)
  have h₂ : wpAny (model X.prog X.w) X.A (getItem (.ref a) (.ref b)) (EP X pins σ Q) X.xe s :=
    wpAny_getItem_heap (knd := nestedKind X.prog X.w) (show X.A.in1.units + 8 < cLine by have e : X.A.in1.units = X.A.units + 1 := rfl; omega) ⟨nested_is I _ _ _ hk rfl, hd⟩ dd hp ⟨z, H, I.tok _, rz, q⟩
  have fin : wpAny (model X.prog X.w) X.A (subscripted slice false (.ref a) (.ref b)) (fun r s₃ => wpAny (model X.prog X.w) X.A (letTemporaryGo value (.ref a) r >>= fun _ => pure r) (EP X pins σ Q) X.xe s₃) X.xe s := by
    rw [hs]
    exact wpAny_operating (wpAny_mono h₂ (fun r s₃ h₃ => wpAny_bind (wpAny_letTemporaryGo (wpAny_pure h₃))) fun _ _ x => x)
  first
    | exact wpAny_pure (wpAny_bind fin)
    | exact wpAny_bind (wpAny_pure (wpAny_bind fin))
    | exact wpAny_bind fin
theorem set_N (hP : X.prog = P) (hw : X.w = w) (hK : X.K = K) (hu : X.A.units + 64 < cLine) : PSet X (rSetN P w K) := by
  subst hP hw hK
  intro pins s σ H o i v ov iv u Q I ro ri rv h
  obtain ⟨a, b, xs, ks, rfl, rfl, N, hk, hd, hl, q⟩ := h
  obtain rfl : ov = Value.ref a := ro
  obtain rfl : iv = Value.ref b := ri
  refine wpAny_setItem_heap (knd := nestedKind X.prog X.w) (show X.A.in1.units + 8 < cLine by have e : X.A.in1.units = X.A.units + 1 := rfl; omega) ⟨nested_is I _ _ _ hk rfl, hd⟩ (N.dict I) (fun h' dd hs => ?_) hl
  obtain ⟨o', es, ep, e1, e2⟩ := id dd
  exact ⟨_, d_write I (by rw [N.ob]; exact True.intro) hs ⟨o', e1⟩ (nO_ok dd), q u rv⟩
end
/-! what such a dict stands for -/
section
variable {P : Program} {w : World} {K : PySem.W.Frag} {H H' : Hp} {a : Addr} {l : List Addr} {α : Type} {toD : α → PyData} {rr : List (NestedKey × α)} {Q : VK} {x : V} {ks : List NestedKey} {σ : L2.St}
def NW (P : Program) (w : World) (K : PySem.W.Frag) (H : Hp) (toD : α → PyData) (a : Addr) (rr : List (NestedKey × α)) : Prop :=
  ∃ xs, NRaw P w K H a xs ∧ Paired (fun (p : NestedKey × α) (x : NestedKey × Addr × Value) => x.1 = p.1 ∧ ∃ v, RelV v x.2.2 ∧ Rep K H (toD p.2) v) rr xs
theorem NW.fr (h : NW P w K H toD a rr) (f : AN.Fr l H H') (n : a ∉ l) : NW P w K H' toD a rr := by
  obtain ⟨xs, N, r⟩ := h
  exact ⟨xs, ⟨f.keep _ _ N.ob n, N.sys, fun x hx => ⟨(N.keys x hx).1.up f, (N.keys x hx).2⟩⟩, Paired.mapP r fun _ _ z => ⟨z.1, let ⟨v, e, q⟩ := z.2; ⟨v, e, q.up f⟩⟩⟩
theorem nw_get {xs : List (NestedKey × Addr × Value)} (r : Paired (fun (p : NestedKey × α) (x : NestedKey × Addr × Value) => x.1 = p.1 ∧ ∃ v, RelV v x.2.2 ∧ Rep K H (toD p.2) v) rr xs) (k : NestedKey) :
    (aget rr k = none ∧ atKey xs k = none) ∨ ∃ c p v, aget rr k = some c ∧ atKey xs k = some p ∧ RelV v p.2 ∧ Rep K H (toD c) v := by
  induction r with
  | nil => exact .inl ⟨rfl, rfl⟩
  | @cons p q ps qs hq t ih =>
    rw [aget_cons]
    by_cases e : p.1 = k
    · obtain ⟨v, h1, h2⟩ := hq.2
      exact .inr ⟨p.2, q.2, v, if_pos e, by unfold atKey; rw [List.find?_cons_of_pos (by simp [hq.1, e])]; rfl, h1, h2⟩
    · rw [if_neg e]
      have : atKey (q :: qs) k = atKey qs k := by unfold atKey; rw [List.find?_cons_of_neg (by simp [hq.1, e])]
      rw [this]
      exact ih
theorem nw_new (q : ∀ H' p, AN.Fr [] H H' → H p = none → NW P w K H' toD p [] → Q (.ref p) H') : tDNewN P w σ H Q := fun p hp hs => q _ p (AN.Fr.new hp) hp ⟨[], ⟨upd_same, hs, fun x hx => by cases hx⟩, .nil⟩
theorem nw_in (h : NW P w K H toD a rr) (hk : Rep K H (nkD (.tup ks)) x) (hd : (NestedKey.tup ks).depth ≤ 8) (q : Q (.bl (aget rr (.tup ks)).isSome) H) : rInN P w K x (.ref a) H Q := by
  obtain ⟨xs, N, r⟩ := h
  refine ⟨a, xs, ks, rfl, N, hk, hd, ?_⟩
  rcases nw_get r (.tup ks) with ⟨e1, e2⟩ | ⟨c, p, v, e1, e2, _⟩ <;> rw [e2] <;> rw [e1] at q <;> exact q
theorem nw_ix {c : α} (h : NW P w K H toD a rr) (hk : Rep K H (nkD (.tup ks)) x) (hd : (NestedKey.tup ks).depth ≤ 8) (e : aget rr (.tup ks) = some c) (q : ∀ v, Rep K H (toD c) v → Q v H) : rIxN P w K (.ref a) x H Q := by
  obtain ⟨xs, N, r⟩ := h
  rcases nw_get r (.tup ks) with ⟨e1, e2⟩ | ⟨c', p, v, e1, e2, h1, h2⟩
  · rw [e] at e1; cases e1
  · rw [e] at e1
    cases e1
    exact ⟨a, xs, ks, p, v, rfl, N, hk, hd, e2, h1, q v h2⟩
theorem _root_.AN.Fr.setN {xs : List (NestedKey × Addr × Value)} {o : HO} (h : H a = some (nO P w a xs)) : AN.Fr [a] H (upd H a o) := AN.Fr.set h (fun _ => nO_tup) (fun _ _ => nO_frz)
theorem nw_set {c : α} {v : V} {q : Hp → Prop} (h : NW P w K H toD a rr) (hk : Rep K H (nkD (.tup ks)) x) (hd : (NestedKey.tup ks).depth ≤ 8) (hv : Rep K H (toD c) v) (e : aget rr (.tup ks) = none) (hl : rr.length ≤ 100000)
    (w' : ∀ H', AN.Fr [a] H H' → NW P w K H' toD a (rr ++ [(.tup ks, c)]) → q H') : rSetN P w K (.ref a) x v H q := by
  obtain ⟨xs, N, r⟩ := h
  obtain ⟨b, rfl⟩ := ref_key hk
  refine ⟨a, b, xs, ks, rfl, rfl, N, hk, hd, by rw [← r.length, sizeLine_eq]; omega, fun u ru => ?_⟩
  have f : AN.Fr [a] H (upd H a (nO P w a (storedH xs (.tup ks) b u))) := AN.Fr.setN N.ob
  rcases nw_get r (.tup ks) with ⟨e1, e2⟩ | ⟨c', p, v', e1, _⟩
  · have es : storedH xs (.tup ks) b u = xs ++ [(.tup ks, b, u)] := by
      unfold storedH
      rw [e2]
      rfl
    rw [es] at f ⊢
    refine w' _ f ⟨_, ⟨upd_same, N.sys, fun y hy => ?_⟩, paired_app (Paired.mapP r fun _ _ z => ⟨z.1, let ⟨v, e, q⟩ := z.2; ⟨v, e, q.up f⟩⟩) (.cons ⟨rfl, v, ru, hv.up f⟩ .nil)⟩
    rcases List.mem_append.mp hy with hy | hy
    · exact ⟨(N.keys y hy).1.up f, (N.keys y hy).2⟩
    · rw [List.mem_singleton.mp hy]
      exact ⟨hk.up f, hd⟩
  · rw [e] at e1; cases e1
end
/-! ### objects -/
structure MCal (P : Program) (w : World) (K : PySem.W.Frag) (mg : Str → Option Value) (base : Heap) (CX : CXT) (k : Nat) (C : Addr) (m : Str) (ps : List Str) (sp : Sp) : Prop where
  ex : ∃ f fd, FnOk P w K mg base CX k f fd ps sp ∧ Meth K C m f ∧ Cls K C ∧ ∀ us : List Value, us.length = ps.length → bindArgs fd ⟨us, []⟩ = pure (ps.zip us)
structure KCal (P : Program) (w : World) (K : PySem.W.Frag) (mg : Str → Option Value) (base : Heap) (CX : CXT) (k : Nat) (x : Str) (C : Addr) (ps : List Str) (sp : Sp) : Prop where
  ex : ∃ f fd, FnOk P w K mg base CX k f fd ps sp ∧ Mk K C f ∧ mg x = some (.ref C) ∧ ∀ us : List Value, us.length = ps.length → bindArgs fd ⟨us, []⟩ = pure (ps.zip us)
/-- a method as the top leaves it; the __init__ -/
def MDef (K : PySem.W.Frag) (C : Addr) (m qual : Str) (st : Stmt) (ps : List Str) : Prop := ∃ f fd, Fun K m qual st f fd ∧ Meth K C m f ∧ ∀ us : List Value, us.length = ps.length → bindArgs fd ⟨us, []⟩ = pure (ps.zip us)
def IDef (K : PySem.W.Frag) (C : Addr) (qual : Str) (st : Stmt) (ps : List Str) : Prop := ∃ f fd, Fun K "__init__" qual st f fd ∧ Mk K C f ∧ ∀ us : List Value, us.length = ps.length → bindArgs fd ⟨us, []⟩ = pure (ps.zip us)
structure CDef (K : PySem.W.Frag) (mg : Str → Option Value) (x : Str) (C : Addr) (fl : List Str) : Prop where
  cl : Cls K C
  no : ∀ f ∈ fl, NoAttr K C f
  m : mg x = some (.ref C)
section
variable {X : Cx} {CX : CXT} {k : Nat} {C : Addr} {x m : Str} {ps : List Str} {sp : Sp} {E : XK} {p pos apos : Pos} {e o : Expr} {es : List Expr} {ta : TE} {t : TA}
theorem pe_met {pl : Sem Bool} (M : MCal X.prog X.w X.K X.mg X.base CX k C m ps sp) (hr : Room k X.A) (hx : Passes CX X E) (he : PE X o ta) (ha : PA X (e :: es) t)
    (hst : starEach (e :: es) X.env = (false, eval e X.env) :: starEach es X.env := by rfl) (hpl : (backTo pos (starEach es X.env)).any (·.1) = false := by rfl)
    (ht : eval (.Call (.Attribute o m apos) (e :: es) [] pos) X.env = (do
      let ov ← eval o X.env
      standAt apos.atName
      let (f, first) ← holding [ov] (getMethod ov m pl)
      callWith pos f first (backTo pos (starEach (e :: es) X.env)) (backToKw pos (keywordEach [] X.env))) := by rfl) :
    PE X (.Call (.Attribute o m apos) (e :: es) [] pos) (tMeth C m sp [] E ta t) := by
  obtain ⟨f, fd, F, mt, cl, b⟩ := M.ex
  exact pe_meth he cl mt F hr (.all b) .nil hx ha hst hpl ht
theorem pe_met0 {pl : Sem Bool} (M : MCal X.prog X.w X.K X.mg X.base CX k C m ps sp) (hr : Room k X.A) (hx : Passes CX X E) (he : PE X o ta)
    (ht : eval (.Call (.Attribute o m apos) [] [] pos) X.env = (do
      let ov ← eval o X.env
      standAt apos.atName
      let (f, first) ← holding [ov] (getMethod ov m pl)
      callWith pos f first (backTo pos (starEach [] X.env)) (backToKw pos (keywordEach [] X.env))) := by rfl) :
    PE X (.Call (.Attribute o m apos) [] [] pos) (tMeth C m sp [] E ta tNil) := by
  obtain ⟨f, fd, F, mt, cl, b⟩ := M.ex
  exact pe_meth0 he cl mt F hr (.all b) .nil hx ht
theorem pe_mkc (M : KCal X.prog X.w X.K X.mg X.base CX k x C ps sp) (hr : Room (k + 1) X.A) (hg : Gl X x) (hx : Passes CX X E)
    (ha : PA X (e :: es) t) (hdb : (x == ("__debug__" : Str)) = false := by decide) (he : starEach (e :: es) X.env = (false, eval e X.env) :: starEach es X.env := by rfl) (hpl : (backTo pos (starEach es X.env)).any (·.1) = false := by rfl) :
    PE X (.Call (.Name x p) (e :: es) [] pos) (tMake C sp [] E t) := by
  obtain ⟨f, fd, F, mk, mm, b⟩ := M.ex
  exact pe_make mk F hr hg mm (.all b) .nil hx ha hdb he hpl
theorem MDef.cal {P : Program} {w : World} {K : PySem.W.Frag} {mg : Str → Option Value} {base : Heap} {qual : Str} {st : Stmt} {N : List Str} (D : MDef K C m qual st ps) (cl : Cls K C) (S : FnScope N ps (defScope st)) (z : List (Option V)) (hz : List.replicate (N.length - ps.length) none = z) (len : ∀ vs H Q E, sp vs H Q E → vs.length = ps.length)
    (hbody : ∀ (f : Addr) (cdv : Value) (A : Around) (outer : List Env) (s : Shared) (H : Hp) (vs : List V) (Q : VK) (E : XK), Kk K → Room k (A.deeper (envOfC qual (defScope st) s.heap.objs.size f cdv)) → sp vs H Q E →
      ∃ t, PSs (cxOf CX0 P w K mg base N qual (defScope st) f cdv A outer s H E).nox (defBody st) t ∧ t ⟨fun _ H' => Q .non H', Q, fun _ _ => False, fun _ _ => False⟩ (vs.map some ++ z) H) : MCal P w K mg base CX0 (k + 1) C m ps sp := by
  obtain ⟨f, fd, F, mt, b⟩ := D
  refine ⟨f, fd, F.ok S len (fun cdv A outer s H vs Q E hr h => ?_), mt, cl, b⟩
  obtain ⟨t, h1, h2⟩ := hbody f cdv A outer s H vs Q E ⟨trivial⟩ hr h
  refine ⟨t, h1, ?_⟩
  have e : L2.start N vs = vs.map some ++ z := by
    unfold L2.start
    rw [len _ _ _ _ h, hz]
  rw [e]
  exact h2
theorem IDef.cal {P : Program} {w : World} {K : PySem.W.Frag} {mg : Str → Option Value} {base : Heap} {qual : Str} {st : Stmt} {N : List Str} (D : IDef K C qual st ps) (hm : mg x = some (.ref C)) (S : FnScope N ps (defScope st)) (z : List (Option V)) (hz : List.replicate (N.length - ps.length) none = z) (len : ∀ vs H Q E, sp vs H Q E → vs.length = ps.length)
    (hbody : ∀ (f : Addr) (cdv : Value) (A : Around) (outer : List Env) (s : Shared) (H : Hp) (vs : List V) (Q : VK) (E : XK), Kk K → Room k (A.deeper (envOfC qual (defScope st) s.heap.objs.size f cdv)) → sp vs H Q E →
      ∃ t, PSs (cxOf CX0 P w K mg base N qual (defScope st) f cdv A outer s H E).nox (defBody st) t ∧ t ⟨fun _ H' => Q .non H', Q, fun _ _ => False, fun _ _ => False⟩ (vs.map some ++ z) H) : KCal P w K mg base CX0 (k + 1) x C ps sp := by
  obtain ⟨f, fd, F, mk, b⟩ := D
  refine ⟨f, fd, F.ok S len (fun cdv A outer s H vs Q E hr h => ?_), mk, hm, b⟩
  obtain ⟨t, h1, h2⟩ := hbody f cdv A outer s H vs Q E ⟨trivial⟩ hr h
  refine ⟨t, h1, ?_⟩
  have e : L2.start N vs = vs.map some ++ z := by
    unfold L2.start
    rw [len _ _ _ _ h, hz]
  rw [e]
  exact h2
end
section
variable {K : PySem.W.Frag} {σ : L2.St} {H : Hp} {Q : VK} {n b c : L2.St → Hp → Prop} {r : VK} {ta tv : TE} {t : TA} {C a dx : Addr} {fs : List (Str × V)} {f m : Str} {v y : V} {sp : Sp} {E : XK}
theorem g_notV (h : ta σ H fun x H1 => ∃ c, x = .bl c ∧ Q (.bl (!c)) H1) : tNotV ta σ H Q := h
/-- x.f -/
def FldQ (K : PySem.W.Frag) (f : Str) (x : V) (H : Hp) (Q : VK) : Prop := ∃ a C dx fs v, x = .ref a ∧ H a = some (.ins C dx fs) ∧ Cls K C ∧ NoAttr K C f ∧ fs.lookup f = some v ∧ Q v H
theorem g_fld (h : ta σ H fun x H1 => FldQ K f x H1 Q) : tFld K ta f σ H Q := h
theorem fld_q (h : H a = some (.ins C dx fs)) (cl : Cls K C) (no : NoAttr K C f) (e : fs.lookup f = some v) (q : Q v H) : FldQ K f (.ref a) H Q := ⟨a, C, dx, fs, v, rfl, h, cl, no, e, q⟩
/-- x.f = y -/
def FldS (K : PySem.W.Frag) (f : Str) (x y : V) (H : Hp) (q : Hp → Prop) : Prop := ∃ a C dx fs, x = .ref a ∧ H a = some (.ins C dx fs) ∧ Cls K C ∧ NoAttr K C f ∧ fs.length < 1000 ∧ q (upd H a (.ins C dx (putF f y fs)))
theorem g_fldS (h : tv σ H fun y H1 => ta σ H1 fun x H2 => FldS K f x y H2 fun H3 => n σ H3) : sFld K ta tv f ⟨n, r, b, c⟩ σ H := h
theorem fldS_q {q : Hp → Prop} (h : H a = some (.ins C dx fs)) (cl : Cls K C) (no : NoAttr K C f) (hl : fs.length < 1000) (w : ∀ H', AN.Fr [a] H H' → H' a = some (.ins C dx (putF f y fs)) → q H') : FldS K f (.ref a) y H q :=
  ⟨a, C, dx, fs, rfl, h, cl, no, hl, w _ (AN.Fr.setI h) upd_same⟩
/-- x.m(..) -/
def MethQ (C : Addr) (m : Str) (sp : Sp) (E : XK) (t : TA) (σ : L2.St) (x : V) (H : Hp) (Q : VK) : Prop := ∃ a dx fs, x = .ref a ∧ H a = some (.ins C dx fs) ∧ fs.lookup m = none ∧ t σ H fun vs H2 => sp (x :: (vs ++ [])) H2 Q E
theorem g_meth (h : ta σ H fun x H1 => MethQ C m sp E t σ x H1 Q) : tMeth C m sp [] E ta t σ H Q := h
theorem meth_q (h : H a = some (.ins C dx fs)) (e : fs.lookup m = none) (q : t σ H fun vs H2 => sp (.ref a :: (vs ++ [])) H2 Q E) : MethQ C m sp E t σ (.ref a) H Q := ⟨a, dx, fs, rfl, h, e, q⟩
/-- what a new object of C is for -/
def MakeQ (C : Addr) (sp : Sp) (E : XK) (vs : List V) (H1 : Hp) (Q : VK) : Prop := ∀ x dx, H1 x = none → H1 dx = none → dx ≠ x → sp (.ref x :: (vs ++ [])) (upd (upd H1 dx (.own x)) x (.ins C dx [])) (fun v H2 => v = .non ∧ Q (.ref x) H2) E
theorem g_mk (h : t σ H fun vs H1 => MakeQ C sp E vs H1 Q) : tMake C sp [] E t σ H Q := h
theorem make_q {vs : List V} (q : ∀ x dx H2, H x = none → H dx = none → dx ≠ x → AN.Fr [] H H2 → H2 x = some (.ins C dx []) → sp (.ref x :: (vs ++ [])) H2 (fun v H2 => v = .non ∧ Q (.ref x) H2) E) : MakeQ C sp E vs H Q := fun x dx nx nd ne =>
  q x dx _ nx nd ne ((AN.Fr.new (p := dx) (o := .own x) nd).trans (AN.Fr.new (p := x) (o := .ins C dx []) (by rw [upd_ne ne.symm]; exact nx)) (fun _ m => by cases m)) upd_same
end
/-! ### good data -/
mutual
def szb : PyData → Bool
  | .tuple ds => decide (ds.length ≤ 900) && szbs ds
  | _ => true
def szbs : List PyData → Bool
  | [] => true
  | d :: ds => szb d && szbs ds
end
theorem szbs_all : ∀ {ds : List PyData}, szbs ds = true ↔ ∀ d ∈ ds, szb d = true
  | [] => by simp [szbs]
  | d :: ds => by simp [szbs, szbs_all (ds := ds)]
/-- good data: plain, not deep, not long -/
structure G (n : Nat) (d : PyData) : Prop where
  pl : pl d = true
  dp : d.depth ≤ n
  sz : szb d = true
def GL (n : Nat) (ds : List PyData) : Prop := ∀ d ∈ ds, G n d
theorem GL.nil {n : Nat} : GL n [] := fun d h => by cases h
theorem GL.cons {n : Nat} {d : PyData} {ds : List PyData} (h : G n d) (t : GL n ds) : GL n (d :: ds) := fun e he => by
  rcases List.mem_cons.mp he with rfl | he
  · exact h
  · exact t e he
theorem GL.app {n : Nat} {ds es : List PyData} (h : GL n ds) (t : GL n es) : GL n (ds ++ es) := fun e he => (List.mem_append.mp he).elim (h e) (t e)
theorem GL.take {n k : Nat} {ds : List PyData} (h : GL n ds) : GL n (ds.take k) := fun e he => h e (List.take_subset k ds he)
theorem GL.drop {n k : Nat} {ds : List PyData} (h : GL n ds) : GL n (ds.drop k) := fun e he => h e (List.drop_subset k ds he)
theorem G.mono {n m : Nat} {d : PyData} (h : G n d) (e : n ≤ m) : G m d := ⟨h.pl, Nat.le_trans h.dp e, h.sz⟩
theorem GL.mono {n m : Nat} {ds : List PyData} (h : GL n ds) (e : n ≤ m) : GL m ds := fun d hd => (h d hd).mono e
theorem G.tup {n : Nat} {ds : List PyData} (h : GL n ds) (hl : ds.length ≤ 900) : G (n + 1) (.tuple ds) := by
  refine ⟨?_, ?_, ?_⟩
  · simpa [AN.pl] using pls_all.mpr fun d hd => (h d hd).pl
  · have : PyData.depthAll ds ≤ n := depthAll_le.mpr fun d hd => (h d hd).dp
    simp only [PyData.depth]
    omega
  · simp only [szb, Bool.and_eq_true, decide_eq_true_eq]
    exact ⟨hl, szbs_all.mpr fun d hd => (h d hd).sz⟩
theorem G.all {n : Nat} {ds : List PyData} (h : G (n + 1) (.tuple ds)) : GL n ds ∧ ds.length ≤ 900 := by
  have h3 := h.sz
  simp only [szb, Bool.and_eq_true, decide_eq_true_eq] at h3
  have h2 := h.dp
  simp only [PyData.depth] at h2
  exact ⟨fun d hd => ⟨pls_all.mp (by simpa [AN.pl] using h.pl) d hd, depthAll_le.mp (show PyData.depthAll ds ≤ n by omega) d hd, szbs_all.mp h3.2 d hd⟩, h3.1⟩
theorem G.str {n : Nat} {x : Str} (h : PyData.strOk x = true) : G n (.str x) := ⟨by simpa [AN.pl] using h, by simp [PyData.depth], rfl⟩
theorem G.int {n : Nat} {x : Int} : G n (.int x) := ⟨rfl, by simp [PyData.depth], rfl⟩
theorem G.okd {n : Nat} {d : PyData} (h : G n d) (hn : n ≤ 40) : Okd d := ⟨h.pl, Nat.le_trans h.dp hn⟩
theorem G.bl {n : Nat} {x : List PyData} (h : GL n x) (hl : x.length ≤ 900) : G (n + 1) (.tuple x) := G.tup h hl
theorem GL.map {β : Type} {n : Nat} {f : β → PyData} {l : List β} (h : ∀ x ∈ l, G n (f x)) : GL n (l.map f) := fun d hd => by
  obtain ⟨x, hx, rfl⟩ := List.mem_map.mp hd
  exact h x hx
theorem extend_q {H : Hp} {a b : Addr} {xs zs : List V} {Q : VK} (h : H a = some (.lst xs)) (h' : H b = some (.lst zs)) (hl : xs.length + zs.length ≤ 10000) (q : ∀ H', AN.Fr [a] H H' → H' a = some (.lst (xs ++ zs)) → Q .non H') : rExtend (.ref a) [.ref b] H Q :=
  ⟨a, b, xs, zs, rfl, rfl, h, h', by rw [sizeLine_eq]; omega, q _ (AN.Fr.setL h) upd_same⟩
theorem atI_last {α : Type} (ys : List α) (v : α) : atI (ys ++ [v]) (-1) = some v := by
  unfold atI ixN
  rw [if_neg (by decide), List.length_append]
  simp only [List.length_cons, List.length_nil]
  rw [if_pos (by omega)]
  have e : ∀ z : Int, z = (ys.length : Int) → (ys ++ [v])[z.toNat]? = some v := fun z hz => by rw [hz, Int.toNat_natCast]; simp
  simp only [Option.bind_some]
  exact e _ (by omega)
theorem ixL_last {K : PySem.W.Frag} {H : Hp} {a : Addr} {ys : List V} {v : V} {j : Int} {Q : VK} (h : SqL K H a (ys ++ [v])) (hj : j = -1) (q : Q v H) : rIxG K (.ref a) (.int j) H Q := by
  subst hj
  exact .inr (.inl ⟨a, ys ++ [v], -1, v, rfl, rfl, h, atI_last ys v, q⟩)
theorem ixT_last {K : PySem.W.Frag} {H : Hp} {x : V} {ds : List PyData} {d : PyData} {j : Int} {Q : VK} (h : Rep K H (.tuple (ds ++ [d])) x) (hj : j = -1) (q : ∀ v, Rep K H d v → Q v H) : rIxG K x (.int j) H Q := by
  subst hj
  obtain ⟨a, vs, rfl, hs, hr⟩ := Rep.tup_iff.mp h
  obtain ⟨us, u, rfl, h1, h2⟩ := hr.snoc
  exact .inl ⟨a, us ++ [u], -1, u, rfl, rfl, .of hs, atI_last us u, q u h2⟩
end AN

/-! AN: list(reversed(a list)). -/
namespace AN
open PySem PySem.Spec PyProof.Rows L2 RT
section
variable {prog : Program} {w : World} {A : Around} {E : Value → Shared → Prop} {R : Result → Shared → Prop} {s : Shared}
theorem init_rev {it l S : Addr} {items : Array Value} (hh : A.handled = none) (hit : s.heap.IsRevIter it l ((items.size : Int) - 1)) (hl : s.heap.IsList l items) (hne : l ≠ it) (hn : items.size ≤ sizeLine) (hSi : S ≠ it) (hSl : S ≠ l)
    (hS : s.heap.get? S = some { cls := .type "list", data := .seq #[] })
    (hR : ∀ (h' : Heap) (tk : Nat) (acc : Array Value) (c' : Nat), (∀ b o, b ≠ S → b ≠ it → s.heap.get? b = some o → h'.get? b = some o) → h'.get? S = some { cls := .type "list", dict := none, data := .seq acc c', slots := #[] } → ItemsOf (fun i v => items[items.size - 1 - i]? = some v) acc items.size → R (.ok (.ret .none)) { s with heap := h', toks := tk }) :
    wpAny (model prog w) A.in1 (Builtin.«list.__init__» ⟨[.ref S, .ref it], []⟩)
      (fun fin s' => match fin with | .done f => R (.ok f) s' | .again c' => c'.quiet = true ∧ codeAny (model prog w) A c' R s') (fun e s' => R (.error e) s') s := by
  have W := (Walks.listRev (prog := prog) (w := w) (A := A.in1) hh it l hne items).toS
  have hSf : S ∉ [it, l] := by simp only [List.mem_cons, List.not_mem_nil, or_false, not_or]; exact ⟨hSi, hSl⟩
  show wpAny _ A.in1 (do let old ← Builtin.List.listItems (.ref S); Builtin.List.listUpdate (.ref S) (fun _ => #[]); letGo old.toList.reverse; Builtin.List.listExtendWith (.ref S) (.ref it) .none) _ _ s
  refine wpAny_bind ?_
  unfold Builtin.List.listItems
  refine wpAny_bind (wpAny_seqItems hS rfl (wpAny_pure ?_))
  show wpAny _ A.in1 (updateSeq S (fun _ => #[]) >>= fun _ => letGo (#[] : Array Value).toList.reverse >>= fun _ => Builtin.List.listExtendWith (.ref S) (.ref it) .none) _ _ s
  refine wpAny_bind (wpAny_updateSeq hS rfl ?_)
  have hS₂ := Heap.get?_update_self (Obj.mapSeq (fun _ => (#[] : Array Value))) hS rfl
  have oth : ∀ b o, b ≠ S → s.heap.get? b = some o → (s.heap.update S (Obj.mapSeq (fun _ => (#[] : Array Value)))).get? b = some o :=
    fun b o hb e => (Heap.get?_update_other _ _ (Ne.symm hb)).trans e
  refine wpAny_bind (wpAny_letGo ?_)
  generalize hh2 : s.heap.update S (Obj.mapSeq (fun _ => (#[] : Array Value))) = h2 at hS₂ oth
  have hit1 : h2.IsRevIter it l ((items.size : Int) - 1) := hit.at fun o e => oth it o (Ne.symm hSi) e
  have hl1 : h2.IsList l items := by
    obtain ⟨o, ho, r⟩ := hl
    exact ⟨o, oth l o (Ne.symm hSl) ho, r⟩
  have hT : ({ s with heap := h2 } : Shared).TypeIs (.ref it) "list_reverseiterator" := Heap.IsRevIter.typeIs (s := { s with heap := h2 }) hit1
  have h1 : Builtin.List.listSameRef (.ref S) (.ref it) = false := by simp [Builtin.List.listSameRef, hSi]
  unfold Builtin.List.listExtendWith
  refine wpAny_bind (wpAny_typeOf hT ?_)
  rw [if_neg (by rw [h1]; decide)]
  refine wpAny_bind (wpAny_pyIter_revIter (s := { s with heap := h2 }) hit1 ?_)
  refine wpAny_bind (wpAny_holding ?_)
  unfold Builtin.List.listLengthHint
  refine wpAny_bind (wpAny_specialOf hT nolen_lri ?_)
  show wpAny _ A.in1 (specialOf (Value.ref it) (Str.ofString "__length_hint__") >>= _) _ _ _
  refine wpAny_bind (wpAny_specialOf hT hint_lri ?_)
  generalize hid : ("list_reverseiterator.__length_hint__" : String) = id0
  wp_delta
  rw [show splitId id0 = some ("list_reverseiterator", "__length_hint__") from by subst hid; decide +kernel]
  subst hid
  refine wpAny_bind (wpAny_isInstance (b := true) hT (by rw [isSubtype_type]; kernel_rfl) ?_)
  refine wpAny_pure ?_
  rw [if_neg (by decide)]
  have e0 : ((items.size : Nat) : Int) - 1 - ((0 : Nat) : Int) = (items.size : Int) - 1 := by omega
  refine wpAny_pure ⟨plainId_quiet F.plain_extend_loop _, codeAny_extend_loopS W hn _ hSf _ items.size 0 _ _ _ rfl (Nat.zero_le _) ⟨Nat.zero_le _, by rw [e0]; exact hit1, hl1⟩ hS₂ (ItemsOf.nil _) fun s' acc' c' hm hS' hacc => ?_⟩
  rw [Moved.eq_with hm]
  refine hR s'.heap s'.toks acc' c' (fun b o hb hb2 e => hm.heap b o (fun hmem => ?_) (oth b o hb e)) hS' hacc
  rcases List.mem_cons.mp hmem with e' | hmem
  · exact hb e'
  · exact hb2 (List.mem_singleton.mp hmem)
theorem call_list_rev {it l : Addr} {items : Array Value} {Q : Value → Shared → Prop} (hh : A.handled = none) (hit : s.heap.IsRevIter it l ((items.size : Int) - 1)) (hl : s.heap.IsList l items) (hne : l ≠ it) (hn : items.size ≤ sizeLine)
    (hQ : ∀ (h' : Heap) (tk : Nat) (acc : Array Value) (c' : Nat), (∀ b o, b ≠ it → s.heap.get? b = some o → h'.get? b = some o) → h'.get? s.heap.objs.size = some { cls := .type "list", dict := none, data := .seq acc c', slots := #[] } → ItemsOf (fun i v => items[items.size - 1 - i]? = some v) acc items.size →
      Q (.ref s.heap.objs.size) { s with heap := h', toks := tk }) :
    wpAny (model prog w) A (call (.type "list") [.ref it]) Q E s := by
  obtain ⟨oi, hoi, _⟩ := id hit
  obtain ⟨ol, hol, _⟩ := id hl
  have hSi : s.heap.objs.size ≠ it := Nat.ne_of_gt (Heap.lt_size hoi)
  have hSl : s.heap.objs.size ≠ l := Nat.ne_of_gt (Heap.lt_size hol)
  refine callType_codes (Q₁ := fun obj s₁ => obj = .ref s.heap.objs.size ∧ s₁ = { s with heap := s.heap.push { cls := .type "list", data := .seq #[] } }) F.called_list (F.typeCall_list_1 _) F.entry_list_init
    (code_list_new _ ⟨rfl, rfl⟩) fun obj s₁ h₁ => ?_
  obtain ⟨rfl, rfl⟩ := h₁
  have hS : (s.heap.push { cls := .type "list", data := .seq #[] }).get? s.heap.objs.size = some { cls := .type "list", data := .seq #[] } := Heap.get?_push_size _ rfl
  refine ⟨⟨_, hS, rfl⟩, F.args_list_init_2 _ _, init_rev (A := A.in1) (s := { s with heap := s.heap.push { cls := .type "list", data := .seq #[] } }) hh (hit.at fun o e => Heap.get?_push_of_some _ e) (hl.push _) hne hn hSi hSl hS fun h' tk acc c' hk hS' hacc => ?_⟩
  exact ⟨rfl, hQ h' tk acc c' (fun b o hb e => hk b o (Nat.ne_of_lt (Heap.lt_size e)) hb (Heap.get?_push_of_some _ e)) hS' hacc⟩
end
def tLstRev (K : PySem.W.Frag) (te : TE) : TE := fun σ H Q => te σ H fun v H1 => ∃ (a : Addr) (xs : List V), v = .ref a ∧ SqL K H1 a xs ∧ ∀ q, H1 q = none → Q (.ref q) (upd H1 q (.lst xs.reverse))
section
variable {X : Cx}
theorem pe_listRev {e : Expr} {te : TE} {p p2 pos pos2 : Pos} (hc : X.calm = true) (hg : Gl X "list") (hm : X.mg "list" = none) (hg2 : Gl X "reversed") (hm2 : X.mg "reversed" = none) (he : PE X e te)
    (hs : starEach [e] X.env = (false, eval e X.env) :: starEach [] X.env := by rfl)
    (hs2 : starEach [.Call (.Name "reversed" p2) [e] [] pos2] X.env = (false, eval (.Call (.Name "reversed" p2) [e] [] pos2) X.env) :: starEach [] X.env := by rfl) :
    PE X (.Call (.Name "list" p) [.Call (.Name "reversed" p2) [e] [] pos2] [] pos) (tLstRev X.K te) := by
  refine ⟨fun pins s σ H Q I h => ?_⟩
  refine Call_ (ld_blt I hg hm boot_list (PyProof.Rows.callWith_type1 (args_cons (Call_ (ld_blt I hg2 hm2 PyProof.Rows.boot_reversed (PyProof.Rows.callWith_type1 (args_cons (thn (he.run pins s σ H _ I h) fun u s1 ⟨v, H1, I1, r1, q1⟩ => args_nil ?_) hs) hs) (by decide) (by decide))) hs2) hs2) (by decide) (by decide))
  obtain ⟨a, xs, ev, hq, q⟩ := q1
  subst ev
  obtain rfl : u = Value.ref a := r1
  obtain ⟨its, rv, p', hz⟩ := I1.list hq
  refine call_reversed_list p'.isList (args_nil ?_)
  have k0 : ∀ b o, s1.heap.get? b = some o → (s1.heap.push (revObj a ((its.toArray.size : Int) - 1))).get? b = some o := fun b o e => Heap.get?_push_of_some _ e
  have I2 : Inv X pins σ H1 { s1 with heap := s1.heap.push (revObj a ((its.toArray.size : Int) - 1)) } := I1.kept (t' := s1.toks) k0
  obtain ⟨f0, f1, f2, f3, f4, f5⟩ := I1.fpOk (H' := H1) (b := s1.heap.objs.size) (Nat.le_refl _) (I1.hok.fresh (Nat.le_refl _))
  have hl := p'.isList
  obtain ⟨ol, hol, _⟩ := id hl
  have hne : a ≠ s1.heap.objs.size := Nat.ne_of_lt (Heap.lt_size hol)
  have hn : its.toArray.size ≤ sizeLine := by rw [List.size_toArray, ← rv.length]; exact hz
  refine call_list_rev (s := { s1 with heap := s1.heap.push (revObj a ((its.toArray.size : Int) - 1)) }) (I1.ok.hd hc) ⟨_, Heap.get?_push_size _ rfl, rfl, rfl⟩ (hl.push _) hne hn fun h' tk acc c' hk hS hi => ?_
  have hsz : s1.heap.objs.size ≤ (s1.heap.push (revObj a ((its.toArray.size : Int) - 1))).objs.size := by rw [size_push']; exact Nat.le_succ _
  refine ⟨.ref (s1.heap.push (revObj a ((its.toArray.size : Int) - 1))).objs.size, upd H1 (s1.heap.push (revObj a ((its.toArray.size : Int) - 1))).objs.size (.lst xs.reverse), I1.laid (t' := tk) (fun b o e => hk b o (Nat.ne_of_lt (Heap.lt_size e)) (k0 b o e)) hsz
    (show ObjOk X.prog X.w _ _ _ (.lst xs.reverse) from ⟨by rw [List.length_reverse]; exact hz, acc.toList, c', vals_rev rv hi, by rw [Array.toArray_toList]; exact hS⟩), rfl, q _ (I1.hok.fresh hsz)⟩
end
section
variable {K : PySem.W.Frag} {σ : L2.St} {H : Hp} {Q : VK} {te : TE}
def LRevQ (K : PySem.W.Frag) (v : V) (H1 : Hp) (Q : VK) : Prop := ∃ (a : Addr) (xs : List V), v = .ref a ∧ SqL K H1 a xs ∧ ∀ q, H1 q = none → Q (.ref q) (upd H1 q (.lst xs.reverse))
theorem g_lrev (h : te σ H fun v H1 => LRevQ K v H1 Q) : tLstRev K te σ H Q := h
theorem lrev_q {a : Addr} {xs : List V} (h : H a = some (.lst xs)) (q : ∀ H' p, AN.Fr [] H H' → H p = none → H' p = some (.lst xs.reverse) → Q (.ref p) H') : LRevQ K (.ref a) H Q :=
  ⟨a, xs, rfl, .of h, fun p np => q _ p (AN.Fr.new np) np upd_same⟩
end
end AN

/-! AN: groves, plainly; woods on the heap. -/
namespace AN
open PySem PySem.Spec PyProof.Rows L2
inductive Nd where
  | val (v : Nat)
  | ask (p : Str) (a : Nat) (ks : List Nat)
def natD (k : Nat) : PyData := .int (k : Int)
def Nd.toD : Nd → PyData
  | .val v => .tuple [.str "value", .int (v : Int)]
  | .ask p a ks => .tuple [.str "ask", .str p, .int (a : Int), .tuple (ks.map natD)]
def askK (p : Str) (a : Nat) (ks : List Nat) : List NestedKey := [.text p, .num (a : Int), .tup (ks.map fun (k : Nat) => NestedKey.num (k : Int))]
def Nd.key : Nd → Option NestedKey
  | .val _ => none
  | .ask p a ks => some (.tup (askK p a ks))
theorem nkDs_map {α : Type} (f : α → NestedKey) : ∀ l : List α, nkDs (l.map f) = l.map fun x => nkD (f x)
  | [] => rfl
  | x :: l => by rw [List.map_cons, List.map_cons, ← nkDs_map f l]; rfl
theorem askK_D (p : Str) (a : Nat) (ks : List Nat) : nkD (.tup (askK p a ks)) = .tuple [.str p, .int (a : Int), .tuple (ks.map natD)] := by
  unfold askK
  simp only [nkD, nkDs, nkDs_map]
  rfl
theorem askK_depth (p : Str) (a : Nat) (ks : List Nat) : (NestedKey.tup (askK p a ks)).depth ≤ 8 := by
  have : ∀ l : List Nat, NestedKey.depthAll (l.map fun (k : Nat) => NestedKey.num (k : Int)) = 0 := fun l => by
    induction l with
    | nil => rfl
    | cons x l ih => rw [List.map_cons]; simp [NestedKey.depthAll, NestedKey.depth, ih]
  simp [askK, NestedKey.depth, NestedKey.depthAll, this]
theorem askK_inj {p p' : Str} {a a' : Nat} {ks ks' : List Nat} (h : NestedKey.tup (askK p a ks) = .tup (askK p' a' ks')) : p = p' ∧ a = a' ∧ ks = ks' := by
  simp only [askK, NestedKey.tup.injEq, List.cons.injEq, NestedKey.text.injEq, NestedKey.num.injEq, and_true] at h
  refine ⟨h.1, by omega, ?_⟩
  have : ∀ {l m : List Nat}, (l.map fun (k : Nat) => NestedKey.num (k : Int)) = m.map (fun (k : Nat) => NestedKey.num (k : Int)) → l = m := fun {l m} h => by
    induction l generalizing m with
    | nil => cases m with
      | nil => rfl
      | cons _ _ => cases h
    | cons x l ih => cases m with
      | nil => cases h
      | cons y m =>
        simp only [List.map_cons, List.cons.injEq, NestedKey.num.injEq] at h
        rw [ih h.2, show x = y by omega]
  exact this h.2.2
def knownOf (ns : List Nd) : List (NestedKey × Nat) := ns.zipIdx.filterMap fun x => x.1.key.map fun k => (k, x.2)
theorem known_at {ns : List Nd} {p : Str} {a i : Nat} {ks : List Nat} (h : aget (knownOf ns) (.tup (askK p a ks)) = some i) : ns[i]? = some (.ask p a ks) := by
  have m := aget_some h
  unfold knownOf at m
  obtain ⟨x, hx, e⟩ := List.mem_filterMap.mp m
  obtain ⟨nd, j⟩ := x
  obtain ⟨k, ek, e2⟩ := Option.map_eq_some_iff.mp e
  cases e2
  have hn := List.mem_zipIdx_iff_getElem?.mp hx
  simp only at hn
  rw [hn]
  cases nd with
  | val v => cases ek
  | ask q b js =>
    obtain ⟨h1, h2, h3⟩ := askK_inj (Option.some.inj ek)
    rw [h1, h2, h3]
theorem known_snoc (ns : List Nd) (p : Str) (a : Nat) (ks : List Nat) : knownOf (ns ++ [.ask p a ks]) = knownOf ns ++ [(.tup (askK p a ks), ns.length)] := by
  unfold knownOf
  rw [List.zipIdx_append, List.filterMap_append]
  simp [Nd.key]
theorem known_vals : ∀ vs : List Nat, knownOf (vs.map Nd.val) = [] := fun vs => by
  unfold knownOf
  rw [List.filterMap_eq_nil_iff]
  intro x hx
  obtain ⟨nd, j⟩ := x
  have hn := List.mem_zipIdx_iff_getElem?.mp hx
  simp only at hn
  rw [List.getElem?_map] at hn
  obtain ⟨v, _, rfl⟩ := Option.map_eq_some_iff.mp hn
  rfl
theorem known_len (ns : List Nd) : (knownOf ns).length ≤ ns.length := by
  unfold knownOf
  have := List.length_filterMap_le (fun x : Nd × Nat => x.1.key.map fun k => (k, x.2)) ns.zipIdx
  rwa [List.length_zipIdx] at this
theorem putF_len (f : Str) (v : V) : ∀ fs : List (Str × V), (putF f v fs).length ≤ fs.length + 1
  | [] => Nat.le_refl _
  | (g, x) :: r => by
    unfold putF
    split
    · simp
    · have := putF_len f v r
      simp only [List.length_cons]
      omega
/-! the fields of a grove -/
def gF (size : Nat) (nl kn : Addr) : List (Str × V) := putF "known" (.ref kn) (putF "nodes" (.ref nl) (putF "size" (.int (size : Int)) []))
theorem gF_size (size : Nat) (nl kn : Addr) : (gF size nl kn).lookup ("size" : Str) = some (V.int (size : Int)) := by
  unfold gF
  rw [lookup_putF, if_neg (by decide +kernel), lookup_putF, if_neg (by decide +kernel), lookup_putF, if_pos rfl]
theorem gF_nodes (size : Nat) (nl kn : Addr) : (gF size nl kn).lookup ("nodes" : Str) = some (V.ref nl) := by
  unfold gF
  rw [lookup_putF, if_neg (by decide +kernel), lookup_putF, if_pos rfl]
theorem gF_known (size : Nat) (nl kn : Addr) : (gF size nl kn).lookup ("known" : Str) = some (V.ref kn) := by
  unfold gF
  rw [lookup_putF, if_pos rfl]
theorem gF_no (size : Nat) (nl kn : Addr) {m : Str} (h1 : ¬ m = "size") (h2 : ¬ m = "nodes") (h3 : ¬ m = "known") : (gF size nl kn).lookup m = none := by
  unfold gF
  rw [lookup_putF, if_neg h3, lookup_putF, if_neg h2, lookup_putF, if_neg h1]
  rfl
/-! ### groves on the heap -/
section
variable {P : Program} {w : World} {K : PySem.W.Frag} {C : Addr} {H H' : Hp} {g nl kn : Addr} {size : Nat} {ns : List Nd} {l : List Addr}
structure GroveAt (P : Program) (w : World) (K : PySem.W.Frag) (C : Addr) (H : Hp) (g nl kn : Addr) (size : Nat) (ns : List Nd) : Prop where
  ob : ∃ dx, H g = some (.ins C dx (gF size nl kn))
  nd : ∃ us, H nl = some (.lst us) ∧ Reps K H (ns.map Nd.toD) us
  kn : NW P w K H natD kn (knownOf ns)
theorem GroveAt.fr (h : GroveAt P w K C H g nl kn size ns) (f : AN.Fr l H H') (n1 : g ∉ l) (n2 : nl ∉ l) (n3 : kn ∉ l) : GroveAt P w K C H' g nl kn size ns := by
  obtain ⟨⟨dx, e⟩, ⟨us, e2, r⟩, k⟩ := h
  exact ⟨⟨dx, f.keep _ _ e n1⟩, ⟨us, f.keep _ _ e2 n2, r.up f⟩, k.fr f n3⟩
theorem GroveAt.fr0 (h : GroveAt P w K C H g nl kn size ns) (f : AN.Fr [] H H') : GroveAt P w K C H' g nl kn size ns := h.fr f (by simp) (by simp) (by simp)
/-- two places of unlike content -/
theorem GroveAt.ne_gn (h : GroveAt P w K C H g nl kn size ns) : g ≠ nl := by
  obtain ⟨⟨dx, e⟩, ⟨us, e2, _⟩, _⟩ := h
  exact ne_of e e2 (fun z => by cases z)
theorem GroveAt.ne_gk (h : GroveAt P w K C H g nl kn size ns) : g ≠ kn := by
  obtain ⟨⟨dx, e⟩, _, ⟨xs, N, _⟩⟩ := h
  exact ne_of e N.ob (fun z => by
    have z' : HO.ins _ _ _ = HO.ext _ := z
    cases z')
theorem GroveAt.ne_nk (h : GroveAt P w K C H g nl kn size ns) : nl ≠ kn := by
  obtain ⟨_, ⟨us, e2, _⟩, ⟨xs, N, _⟩⟩ := h
  exact ne_of e2 N.ob (fun z => by
    have z' : HO.lst _ = HO.ext _ := z
    cases z')
end
/-! ### dicts keyed by numbers -/
section
variable {K : PySem.W.Frag} {H H' : Hp} {σ : L2.St} {a : Addr} {l : List Addr} {α : Type} {toD : α → PyData} {rr : List (Nat × α)} {Q : VK} {k : Nat}
def nk (i : Nat) : L2.Key := .inl (i : Int)
theorem nk_inj : ∀ a b : Nat, nk a = nk b → a = b := fun a b h => by
  have := Sum.inl.inj h
  omega
def DN (K : PySem.W.Frag) (H : Hp) (toD : α → PyData) (a : Addr) (rr : List (Nat × α)) : Prop := ∃ kvs, H a = some (.dK kvs) ∧ DR nk (fun c v => Rep K H (toD c) v) rr kvs
theorem DN.fr (h : DN K H toD a rr) (f : AN.Fr l H H') (na : a ∉ l) : DN K H' toD a rr := let ⟨kvs, e, r⟩ := h; ⟨kvs, f.keep _ _ e na, r.imp fun _ _ q => q.up f⟩
theorem dn_new (h : H a = some (.dK [])) : DN K H toD a [] := ⟨[], h, DR.nil⟩
theorem dn_in {j : Int} (h : DN K H toD a rr) (hj : j = (k : Int)) (q : Q (.bl (aget rr k).isSome) H) : rIn2 K (.int j) (.ref a) H Q := by
  subst hj
  obtain ⟨kvs, e, r⟩ := h
  refine .inl (.inr (.inl ⟨a, _, rfl, .inl ⟨kvs, nk k, .inl e, rfl, rfl⟩, ?_⟩))
  rw [r.isSome nk_inj k]
  exact q
theorem dn_notIn {j : Int} (h : DN K H toD a rr) (hj : j = (k : Int)) (q : Q (.bl (!(aget rr k).isSome)) H) : rNotIn2 K (.int j) (.ref a) H Q := by
  subst hj
  obtain ⟨kvs, e, r⟩ := h
  refine .inl (.inr (.inl ⟨a, _, rfl, .inl ⟨kvs, nk k, .inl e, rfl, rfl⟩, ?_⟩))
  rw [r.isSome nk_inj k]
  exact q
theorem dn_ix {y : α} {j : Int} (h : DN K H toD a rr) (hj : j = (k : Int)) (e : aget rr k = some y) (q : ∀ v, Rep K H (toD y) v → Q v H) : rIxG K (.ref a) (.int j) H Q := by
  subst hj
  obtain ⟨kvs, ed, r⟩ := h
  rcases r.get nk_inj k with ⟨e1, _⟩ | ⟨c, v, e1, e2, hv⟩
  · rw [e] at e1; cases e1
  · rw [e] at e1
    cases e1
    exact .inr (.inr (.inl ⟨a, v, rfl, .inl ⟨kvs, nk k, .inl ed, rfl, e2.symm⟩, q v hv⟩))
theorem dn_set {y : α} {v : V} {j : Int} {q : Hp → Prop} (h : DN K H toD a rr) (hj : j = (k : Int)) (hv : Rep K H (toD y) v) (hl : rr.length < 1000) (w : ∀ H', AN.Fr [a] H H' → DN K H' toD a (aput rr k y) → q H') : rSetL (.ref a) (.int j) v H q ∨ rSetD (.ref a) (.int j) v H q := by
  subst hj
  obtain ⟨kvs, e, r⟩ := h
  refine setD_q (k := nk k) e rfl (by rw [← r.length]; exact hl) fun H' f e' => w H' f ⟨_, e', ?_⟩
  exact (r.imp fun _ _ z => z.up f).put nk_inj k (hv.up f)
end
theorem aput_new {κ α : Type} [DecidableEq κ] {r : List (κ × α)} {k : κ} {c : α} (h : aget r k = none) : aput r k c = r ++ [(k, c)] := by
  unfold aput
  rw [any_aget, h]
  rfl
theorem aput_same {κ α : Type} [DecidableEq κ] {k : κ} {c : α} : ∀ {r : List (κ × α)}, (r.map (·.1)).Nodup → aget r k = some c → aput r k c = r := fun {r} nd h => by
  unfold aput
  rw [any_aget, h]
  simp only [Option.isSome_some, if_true]
  conv => rhs; rw [← List.map_id r]
  refine List.map_congr_left fun e he => ?_
  split
  · rename_i z
    have h2 := aget_of_mem nd (show (e.1, e.2) ∈ r from he)
    rw [z, h] at h2
    cases h2
    rfl
  · rfl
def ownOf (ns : List Nd) : List (Nat × Nd) := ns.zipIdx.map fun x => (x.2, x.1)
theorem own_keys (ns : List Nd) : (ownOf ns).map (·.1) = List.range ns.length := by
  unfold ownOf
  rw [List.map_map]
  show ns.zipIdx.map Prod.snd = _
  rw [List.zipIdx_map_snd, List.range_eq_range']
theorem own_nd (ns : List Nd) : ((ownOf ns).map (·.1)).Nodup := by rw [own_keys]; exact List.nodup_range
theorem own_get (ns : List Nd) (i : Nat) : aget (ownOf ns) i = ns[i]? := by
  cases h : ns[i]? with
  | some nd =>
    refine aget_of_mem (own_nd ns) ?_
    unfold ownOf
    exact List.mem_map.mpr ⟨(nd, i), List.mem_zipIdx_iff_getElem?.mpr h, rfl⟩
  | none =>
    cases h2 : aget (ownOf ns) i with
    | none => rfl
    | some c =>
      have m := aget_some h2
      unfold ownOf at m
      obtain ⟨x, hx, e⟩ := List.mem_map.mp m
      cases e
      have := List.mem_zipIdx_iff_getElem?.mp hx
      rw [h] at this
      cases this
theorem own_snoc (ns : List Nd) (nd : Nd) : ownOf (ns ++ [nd]) = ownOf ns ++ [(ns.length, nd)] := by
  unfold ownOf
  rw [List.zipIdx_append, List.map_append]
  simp
theorem own_len (ns : List Nd) : (ownOf ns).length = ns.length := by unfold ownOf; rw [List.length_map, List.length_zipIdx]
abbrev Op3 := Str × Nat × Nat
def op3D (o : Op3) : PyData := .tuple [.str o.1, .int (o.2.1 : Int), .int (o.2.2 : Int)]
structure OpsOk (size : Nat) (ops : List Op3) : Prop where
  len : ops.length ≤ 8
  all : ∀ o ∈ ops, PyData.strOk o.1 = true ∧ 1 ≤ o.2.1 ∧ o.2.1 ≤ size ∧ o.2.2 ≤ size
  wide : ∃ o ∈ ops, 0 < o.2.2
theorem map_erase (l : List Str) (i : Nat) : (l.map V.str).eraseIdx i = (l.eraseIdx i).map V.str := by
  rw [List.eraseIdx_eq_take_drop_succ, List.eraseIdx_eq_take_drop_succ, List.map_append, List.map_take, List.map_drop]
/-! ### woods: a grove, what it must hold, its numbers, its operations -/
structure WA where
  g : Addr
  nl : Addr
  kn : Addr
  o : Addr
  l : Addr
  q : Addr
def WA.mut (A : WA) : List Addr := [A.nl, A.kn, A.l, A.o]
def WA.all (A : WA) : List Addr := [A.g, A.nl, A.kn, A.o, A.l, A.q]
structure NsOk (size : Nat) (ns : List Nd) : Prop where
  wf : ∀ (i : Nat) p a ks, ns[i]? = some (Nd.ask p a ks) → ∀ k ∈ ks, k < i
  st : ∀ (i : Nat) p a ks, ns[i]? = some (Nd.ask p a ks) → PyData.strOk p = true ∧ ks.length ≤ 4
  vals : ∀ (i : Nat), i < size → ns[i]? = some (.val i)
  asks : ∀ (i : Nat), size ≤ i → i < ns.length → ∃ p a ks, ns[i]? = some (.ask p a ks)
  lo : 2 ≤ size
  hi : size ≤ 4
  len : size ≤ ns.length
theorem NsOk.base {size : Nat} (h2 : 2 ≤ size) (h4 : size ≤ 4) : NsOk size ((List.range size).map Nd.val) := by
  have e : ∀ (i : Nat), ((List.range size).map Nd.val)[i]? = if i < size then some (.val i) else none := fun i => by
    rw [List.getElem?_map]
    by_cases h : i < size
    · rw [List.getElem?_range h, if_pos h]; rfl
    · rw [if_neg h, List.getElem?_eq_none (by simp; omega)]; rfl
  refine ⟨fun i p a ks h => ?_, fun i p a ks h => ?_, fun i hi => by rw [e, if_pos hi], fun i h1 h2 => ?_, h2, h4, by simp⟩
  · rw [e] at h; split at h <;> cases h
  · rw [e] at h; split at h <;> cases h
  · simp at h2; omega
theorem NsOk.snoc {size : Nat} {ns : List Nd} {p : Str} {a : Nat} {ks : List Nat} (h : NsOk size ns) (hp : PyData.strOk p = true) (hk : ∀ k ∈ ks, k < ns.length) (hl : ks.length ≤ 4) : NsOk size (ns ++ [.ask p a ks]) := by
  have e : ∀ (i : Nat), (ns ++ [Nd.ask p a ks])[i]? = if i < ns.length then ns[i]? else if i = ns.length then some (.ask p a ks) else none := fun i => by
    by_cases h1 : i < ns.length
    · rw [if_pos h1, List.getElem?_append_left h1]
    · rw [if_neg h1, List.getElem?_append_right (by omega)]
      by_cases h2 : i = ns.length
      · rw [if_pos h2, h2]; simp
      · rw [if_neg h2, List.getElem?_eq_none (by simp; omega)]
  have hl2 := h.len
  refine ⟨fun i q b js hj k hk' => ?_, fun i q b js hj => ?_, fun i hi => by rw [e, if_pos (by omega)]; exact h.vals i hi, fun i h1 h2 => ?_, h.lo, h.hi, by rw [List.length_append]; omega⟩
  · rw [e] at hj
    split at hj
    · exact h.wf i q b js hj k hk'
    · split at hj
      · cases hj; rename_i z; rw [z]; exact hk k hk'
      · cases hj
  · rw [e] at hj
    split at hj
    · exact h.st i q b js hj
    · split at hj
      · cases hj; exact ⟨hp, hl⟩
      · cases hj
  · rw [List.length_append] at h2
    simp only [List.length_cons, List.length_nil] at h2
    rw [e]
    by_cases h3 : i < ns.length
    · rw [if_pos h3]; exact h.asks i h1 h3
    · rw [if_neg h3, if_pos (by omega)]; exact ⟨_, _, _, rfl⟩
section
variable {P : Program} {w : World} {K : PySem.W.Frag} {C : Addr} {H H' : Hp} {wd : Addr} {A B : WA} {size : Nat} {ops : List Op3} {ns : List Nd} {l : List Addr}
structure WoodAt (P : Program) (w : World) (K : PySem.W.Frag) (C : Addr) (H : Hp) (wd : Addr) (A : WA) (size : Nat) (ops : List Op3) (ns : List Nd) : Prop where
  ob : H wd = some (.lst [.ref A.g, .ref A.o, .ref A.l, .ref A.q])
  gr : GroveAt P w K C H A.g A.nl A.kn size ns
  own : DN K H Nd.toD A.o (ownOf ns)
  nums : H A.l = some (.lst ((List.range ns.length).map fun (i : Nat) => V.int (i : Int)))
  qs : ∃ us, H A.q = some (.lst us) ∧ Reps K H (ops.map op3D) us
  n1 : A.nl ≠ wd
  n2 : A.l ≠ wd
  n3 : A.l ≠ A.nl
  n4 : A.q ≠ A.nl
  n5 : A.q ≠ A.l
  ok : NsOk size ns
  oo : OpsOk size ops
theorem WoodAt.fr (h : WoodAt P w K C H wd A size ops ns) (f : AN.Fr l H H') (n0 : wd ∉ l) (n : ∀ x ∈ A.all, x ∉ l) : WoodAt P w K C H' wd A size ops ns := by
  obtain ⟨us, e, r⟩ := h.qs
  exact ⟨f.keep _ _ h.ob n0, h.gr.fr f (n _ (by simp [WA.all])) (n _ (by simp [WA.all])) (n _ (by simp [WA.all])), h.own.fr f (n _ (by simp [WA.all])), f.keep _ _ h.nums (n _ (by simp [WA.all])), ⟨us, f.keep _ _ e (n _ (by simp [WA.all])), r.up f⟩, h.n1, h.n2, h.n3, h.n4, h.n5, h.ok, h.oo⟩
theorem WoodAt.fr0 (h : WoodAt P w K C H wd A size ops ns) (f : AN.Fr [] H H') : WoodAt P w K C H' wd A size ops ns := h.fr f (by simp) (fun _ _ => by simp)
/-- every place of it is taken -/
theorem WoodAt.some (h : WoodAt P w K C H wd A size ops ns) : ∀ x ∈ A.all, H x ≠ none := by
  obtain ⟨us, e, r⟩ := h.qs
  obtain ⟨dx, e1⟩ := h.gr.ob
  obtain ⟨us2, e2, _⟩ := h.gr.nd
  obtain ⟨xs, N, _⟩ := h.gr.kn
  obtain ⟨kvs, e3, _⟩ := h.own
  have e4 := h.nums
  have e5 := N.ob
  intro x hx
  simp only [WA.all, List.mem_cons, List.not_mem_nil, or_false] at hx
  rcases hx with rfl | rfl | rfl | rfl | rfl | rfl <;> simp [e, e1, e2, e3, e4, e5]
end
/-- a wood's places are not those of the draws -/
structure Dis (wd : Addr) (A : WA) (a c : Addr) : Prop where
  wa : wd ≠ a
  wc : wd ≠ c
  al : ∀ x ∈ A.all, x ≠ a ∧ x ≠ c
theorem Dis.mut {wd : Addr} {A : WA} {a c : Addr} (h : Dis wd A a c) : ∀ x ∈ A.mut, x ≠ a ∧ x ≠ c := fun x hx => h.al x (by
  simp only [WA.mut, List.mem_cons, List.not_mem_nil, or_false] at hx
  simp only [WA.all, List.mem_cons, List.not_mem_nil, or_false]
  rcases hx with rfl | rfl | rfl | rfl <;> simp)
/-- a draw leaves a wood -/
theorem WoodAt.frA {P : Program} {w : World} {K : PySem.W.Frag} {C : Addr} {H H' : Hp} {wd : Addr} {A : WA} {size : Nat} {ops : List Op3} {ns : List Nd} {a c : Addr} (h : WoodAt P w K C H wd A size ops ns) (f : AN.Fr [a] H H') (d : Dis wd A a c) : WoodAt P w K C H' wd A size ops ns :=
  h.fr f (by simpa using d.wa) fun x hx => by simpa using (d.al x hx).1
theorem DrawOk.frM {H H' : Hp} {wd a c : Addr} {A : WA} (h : DrawOk H a c) (f : AN.Fr A.mut H H') (d : Dis wd A a c) : DrawOk H' a c :=
  h.fr f (fun m => (d.mut a m).1 rfl) (fun m => (d.mut c m).2 rfl)
end AN

/-! AN: the way down a grove, plainly. -/
namespace AN
open PySem PySem.Spec PyProof.Rows L2
abbrev St3 := Str × Nat × Nat
inductive En where
  | ends (v : Nat)
  | stops (p : Str) (a : Nat)
  | waits (p : Str) (a : Nat)
def st3D (s : St3) : PyData := .tuple [.str s.1, .int (s.2.1 : Int), .int (s.2.2 : Int)]
def En.toD : En → PyData
  | .ends v => .tuple [.str "ends", .int (v : Int)]
  | .stops p a => .tuple [.str "stops", .str p, .int (a : Int)]
  | .waits p a => .tuple [.str "waits", .str p, .int (a : Int)]
abbrev Tell := List St3 × En
def tellD (r : Tell) : PyData := .tuple [.tuple (r.1.map st3D), r.2.toD]
def down (ns : List Nd) : List Int → Nat → Tell
  | [], i => ([], match ns[i]? with
    | some (.val v) => .ends v
    | some (.ask p a []) => .stops p a
    | some (.ask p a (_ :: _)) => .waits p a
    | none => .ends 0)
  | x :: w, i => match ns[i]? with
    | some (.ask p a (k :: ks)) => ((p, a, (x % ((k :: ks).length : Int)).toNat) :: (down ns w ((k :: ks).getD (x % ((k :: ks).length : Int)).toNat 0)).1, (down ns w ((k :: ks).getD (x % ((k :: ks).length : Int)).toNat 0)).2)
    | some (.val v) => ([], .ends v)
    | some (.ask p a []) => ([], .stops p a)
    | none => ([], .ends 0)
section
variable {ns : List Nd} {w : List Int} {i j k : Nat} {v a : Nat} {p : Str} {ks : List Nat} {x : Int}
theorem down_val (h : ns[i]? = some (.val v)) : down ns w i = ([], .ends v) := by cases w <;> simp [down, h]
theorem down_stop (h : ns[i]? = some (.ask p a [])) : down ns w i = ([], .stops p a) := by cases w <;> simp [down, h]
theorem down_wait (h : ns[i]? = some (.ask p a ks)) (hk : 0 < ks.length) : down ns [] i = ([], .waits p a) := by
  cases ks with
  | nil => simp at hk
  | cons _ _ => simp [down, h]
theorem down_go (h : ns[i]? = some (.ask p a ks)) (hj : x % (ks.length : Int) = (j : Int)) (hk : ks[j]? = some k) : down ns (x :: w) i = ((p, a, j) :: (down ns w k).1, (down ns w k).2) := by
  cases ks with
  | nil => simp at hk
  | cons y ys =>
    simp only [down, h]
    rw [hj, Int.toNat_natCast]
    simp only [List.getD, hk, Option.getD_some]
/-- a way that a grove has -/
def OkSteps (ns : List Nd) : List St3 → Nat → Prop
  | [], i => i < ns.length
  | s :: r, i => ∃ ks k, ns[i]? = some (.ask s.1 s.2.1 ks) ∧ ks[s.2.2]? = some k ∧ OkSteps ns r k
def along (ns : List Nd) : List St3 → Nat → List Nat
  | [], i => [i]
  | s :: r, i => i :: along ns r (match ns[i]? with | some (.ask _ _ ks) => ks.getD s.2.2 0 | _ => 0)
theorem along_go {s : St3} {r : List St3} {ks : List Nat} (h : ns[i]? = some (.ask s.1 s.2.1 ks)) (hk : ks[s.2.2]? = some k) : along ns (s :: r) i = i :: along ns r k := by
  simp [along, h, List.getD, hk]
theorem along_len : ∀ (r : List St3) (i : Nat), (along ns r i).length = r.length + 1
  | [], _ => rfl
  | s :: r, i => by rw [along, List.length_cons, along_len r, List.length_cons]
/-- the cases of a node -/
theorem mod_lt (x : Int) {n : Nat} (h : 0 < n) : ∃ j : Nat, x % (n : Int) = (j : Int) ∧ j < n := draw_mod x n h
theorem down_ok {size : Nat} (ok : NsOk size ns) : ∀ (w : List Int) (i : Nat), i < ns.length → OkSteps ns (down ns w i).1 i
  | [], i, hi => hi
  | x :: w, i, hi => by
    have e : ns[i]? = some ns[i] := List.getElem?_eq_getElem hi
    cases h : ns[i] with
    | val v => rw [h] at e; rw [down_val e]; exact hi
    | ask p a ks =>
      rw [h] at e
      by_cases hk : ks = []
      · subst hk; rw [down_stop e]; exact hi
      · obtain ⟨j, hj, hjl⟩ := mod_lt x (List.length_pos_iff.mpr hk)
        have ek : ks[j]? = some ks[j] := List.getElem?_eq_getElem hjl
        rw [down_go e hj ek]
        refine ⟨ks, ks[j], e, ek, down_ok ok w _ ?_⟩
        exact Nat.lt_trans (ok.wf i p a ks e _ (List.getElem_mem hjl)) hi
theorem down_len : ∀ (w : List Int) (i : Nat), (down ns w i).1.length ≤ w.length
  | [], i => by simp [down]
  | x :: w, i => by
    unfold down
    split
    · exact Nat.succ_le_succ (down_len w _)
    all_goals simp
theorem down_cut {size : Nat} (ok : NsOk size ns) : ∀ (w : List Int) (i : Nat), i < ns.length → ∀ c, c ≤ (down ns w i).1.length → ∃ k, (along ns (down ns w i).1 i)[c]? = some k ∧ k < ns.length ∧ down ns (w.drop c) k = ((down ns w i).1.drop c, (down ns w i).2)
  | w, i, hi, 0, _ => ⟨i, by cases (down ns w i).1 <;> rfl, hi, by simp⟩
  | [], i, hi, c + 1, hc => by simp [down] at hc
  | x :: w, i, hi, c + 1, hc => by
    have e : ns[i]? = some ns[i] := List.getElem?_eq_getElem hi
    cases h : ns[i] with
    | val v => rw [h] at e; rw [down_val e] at hc; simp at hc
    | ask p a ks =>
      rw [h] at e
      by_cases hk : ks = []
      · subst hk; rw [down_stop e] at hc; simp at hc
      · obtain ⟨j, hj, hjl⟩ := mod_lt x (List.length_pos_iff.mpr hk)
        have ek : ks[j]? = some ks[j] := List.getElem?_eq_getElem hjl
        rw [down_go e hj ek] at hc ⊢
        obtain ⟨k, h1, h2, h3⟩ := down_cut ok w ks[j] (Nat.lt_trans (ok.wf i p a ks e _ (List.getElem_mem hjl)) hi) c (by simpa using hc)
        refine ⟨k, ?_, h2, by simpa using h3⟩
        rw [along_go (s := (p, a, j)) e ek]
        simpa using h1
def isW : En → Bool
  | .waits _ _ => true
  | _ => false
theorem down_long : ∀ (w : List Int) (i : Nat) (z : List Int), isW (down ns w i).2 = false → down ns (w ++ z) i = down ns w i
  | [], i, z, h => by
    cases e : ns[i]? with
    | none => cases z <;> simp [down, e]
    | some nd =>
      cases nd with
      | val v => rw [down_val e, down_val e]
      | ask p a ks =>
        cases ks with
        | nil => rw [down_stop e, down_stop e]
        | cons k ks => rw [down_wait e (by simp)] at h; simp [isW] at h
  | x :: w, i, z, h => by
    cases e : ns[i]? with
    | none => simp [down, e]
    | some nd =>
      cases nd with
      | val v => rw [down_val e, down_val e]
      | ask p a ks =>
        by_cases hk : ks = []
        · subst hk; rw [down_stop e, down_stop e]
        · obtain ⟨j, hj, hjl⟩ := mod_lt x (List.length_pos_iff.mpr hk)
          have ek : ks[j]? = some ks[j] := List.getElem?_eq_getElem hjl
          rw [down_go e hj ek] at h
          rw [List.cons_append, down_go e hj ek, down_go e hj ek, down_long w _ z h]
theorem down_more : ∀ (w : List Int) (i : Nat) (m : List Int), m.length = (down ns w i).1.length →
    (∀ c, c < m.length → ∃ (k : Nat) (p : Str) (a : Nat) (ks : List Nat) (n : Int), (along ns (down ns w i).1 i)[c]? = some k ∧ ns[k]? = some (.ask p a ks) ∧ m[c]? = some ((w.getD c 0) + (ks.length : Int) * n)) → down ns m i = down ns w i
  | [], i, m, hl, _ => by
    have : m = [] := List.eq_nil_of_length_eq_zero (by rw [hl]; simp [down])
    rw [this]
  | x :: w, i, m, hl, h => by
    cases e : ns[i]? with
    | none =>
      have : m = [] := List.eq_nil_of_length_eq_zero (by rw [hl]; simp [down, e])
      rw [this]; simp [down, e]
    | some nd =>
      cases nd with
      | val v => rw [down_val e, down_val e]
      | ask p a ks =>
        by_cases hk : ks = []
        · subst hk; rw [down_stop e, down_stop e]
        · obtain ⟨j, hj, hjl⟩ := mod_lt x (List.length_pos_iff.mpr hk)
          have ek : ks[j]? = some ks[j] := List.getElem?_eq_getElem hjl
          rw [down_go e hj ek] at hl h ⊢
          cases m with
          | nil => simp at hl
          | cons y m =>
            obtain ⟨k0, p0, a0, ks0, n, h1, h2, h3⟩ := h 0 (by simp)
            rw [along_go (s := (p, a, j)) e ek] at h1
            simp only [List.getElem?_cons_zero, Option.some.injEq] at h1 h3
            subst h1
            rw [e] at h2
            cases h2
            simp only [List.getD_cons_zero] at h3
            have hj2 : y % (ks.length : Int) = (j : Int) := by rw [h3, Int.add_mul_emod_self_left]; exact hj
            rw [down_go e hj2 ek]
            have := down_more w ks[j] m (by simpa using hl) (fun c hc => by
              obtain ⟨k, p', a', ks', n', g1, g2, g3⟩ := h (c + 1) (by simpa using hc)
              rw [along_go (s := (p, a, j)) e ek] at g1
              exact ⟨k, p', a', ks', n', by simpa using g1, g2, by simpa using g3⟩)
            rw [this]
/-- the node on the way -/
theorem along_at : ∀ (r : List St3) (i : Nat), OkSteps ns r i → ∀ c, c < r.length → ∃ k p a ks, (along ns r i)[c]? = some k ∧ ns[k]? = some (.ask p a ks) ∧ k < ns.length
  | [], i, _, c, hc => by simp at hc
  | s :: r, i, ⟨ks, k, e, ek, ok⟩, 0, _ => ⟨i, _, _, ks, by rw [along_go e ek]; rfl, e, (List.getElem?_eq_some_iff.mp e).1⟩
  | s :: r, i, ⟨ks, k, e, ek, ok⟩, c + 1, hc => by
    obtain ⟨k', p, a, ks', h1, h2, h3⟩ := along_at r k ok c (by simpa using hc)
    exact ⟨k', p, a, ks', by rw [along_go e ek]; simpa using h1, h2, h3⟩
theorem down_G {size : Nat} (ok : NsOk size ns) : ∀ (w : List Int) (i : Nat), (∀ s ∈ (down ns w i).1, PyData.strOk s.1 = true) ∧ G 3 (down ns w i).2.toD := by
  have endsG : ∀ v : Nat, G 3 (En.ends v).toD := fun v => .tup (.cons (.str (by decide +kernel)) (.cons .int .nil)) (Nat.le_of_ble_eq_true rfl)
  have stG : ∀ (p : Str) (a : Nat), PyData.strOk p = true → G 3 (En.stops p a).toD ∧ G 3 (En.waits p a).toD := fun p a h =>
    ⟨.tup (.cons (.str (by decide +kernel)) (.cons (.str h) (.cons .int .nil))) (Nat.le_of_ble_eq_true rfl), .tup (.cons (.str (by decide +kernel)) (.cons (.str h) (.cons .int .nil))) (Nat.le_of_ble_eq_true rfl)⟩
  intro w
  induction w with
  | nil =>
    intro i
    cases e : ns[i]? with
    | none => simp [down, e]; exact endsG 0
    | some nd =>
      cases nd with
      | val v => rw [down_val e]; exact ⟨fun s h => (by cases h), endsG v⟩
      | ask p a ks =>
        have hp := (ok.st i p a ks e).1
        by_cases hk : ks = []
        · subst hk; rw [down_stop e]; exact ⟨fun s h => (by cases h), (stG p a hp).1⟩
        · rw [down_wait e (List.length_pos_iff.mpr hk)]; exact ⟨fun s h => (by cases h), (stG p a hp).2⟩
  | cons x w ih =>
    intro i
    cases e : ns[i]? with
    | none => simp [down, e]; exact endsG 0
    | some nd =>
      cases nd with
      | val v => rw [down_val e]; exact ⟨fun s h => (by cases h), endsG v⟩
      | ask p a ks =>
        have hp := (ok.st i p a ks e).1
        by_cases hk : ks = []
        · subst hk; rw [down_stop e]; exact ⟨fun s h => (by cases h), (stG p a hp).1⟩
        · obtain ⟨j, hj, hjl⟩ := mod_lt x (List.length_pos_iff.mpr hk)
          have ek : ks[j]? = some ks[j] := List.getElem?_eq_getElem hjl
          rw [down_go e hj ek]
          refine ⟨fun s h => ?_, (ih ks[j]).2⟩
          rcases List.mem_cons.mp h with rfl | h
          · exact hp
          · exact (ih ks[j]).1 s h
theorem tell_G {size : Nat} (ok : NsOk size ns) (w : List Int) (i : Nat) (hw : w.length ≤ 800) : G 5 (tellD (down ns w i)) := by
  have h := down_G ok w i
  have hl := down_len (ns := ns) w i
  refine .tup (.cons (.tup (.map fun s hs => ?_) (by rw [List.length_map]; omega)) (.cons (h.2.mono (by decide)) .nil)) (Nat.le_of_ble_eq_true rfl)
  exact .tup (.cons (.str (h.1 s hs)) (.cons .int (.cons .int .nil))) (Nat.le_of_ble_eq_true rfl)
end
end AN

namespace K25
open PySem PySem.Spec PyProof.Rows L2 AN
def topS (i : Nat) : Stmt := PySem.Challenge.pw_asknest_k25_trace_down.main.body.getD i (.Pass ⟨0, 0, 0, 0⟩)
abbrev s_trace : Stmt := topS 6
abbrev N_trace : List Str := ["grove", "node", "world", "steps", "at", "used", "told", "children", "answer"]
theorem sc_trace : FnScope N_trace ["grove", "node", "world"] (defScope s_trace) := ⟨rfl, rfl, rfl, by decide +kernel, rfl, by decide +kernel, by decide +kernel⟩
abbrev s_Grove___init__ : Stmt := inClass (topS 8) 0
abbrev N_Grove___init__ : List Str := ["self", "size", "value"]
theorem sc_Grove___init__ : FnScope N_Grove___init__ ["self", "size"] (defScope s_Grove___init__) := ⟨rfl, rfl, rfl, by decide +kernel, rfl, by decide +kernel, by decide +kernel⟩
abbrev s_Grove_ask : Stmt := inClass (topS 8) 3
abbrev N_Grove_ask : List Str := ["self", "p", "argument", "children", "key"]
theorem sc_Grove_ask : FnScope N_Grove_ask ["self", "p", "argument", "children"] (defScope s_Grove_ask) := ⟨rfl, rfl, rfl, by decide +kernel, rfl, by decide +kernel, by decide +kernel⟩
abbrev s_Grove_node : Stmt := inClass (topS 8) 4
abbrev N_Grove_node : List Str := ["self", "number"]
theorem sc_Grove_node : FnScope N_Grove_node ["self", "number"] (defScope s_Grove_node) := ⟨rfl, rfl, rfl, by decide +kernel, rfl, by decide +kernel, by decide +kernel⟩
abbrev s_law_begin : Stmt := topS 10
abbrev N_law_begin : List Str := ["script", "cell"]
theorem sc_law_begin : FnScope N_law_begin ["script"] (defScope s_law_begin) := ⟨rfl, rfl, rfl, by decide +kernel, rfl, by decide +kernel, by decide +kernel⟩
abbrev s_law_draw : Stmt := topS 11
abbrev N_law_draw : List Str := ["d", "many", "found", "size", "cell"]
theorem sc_law_draw : FnScope N_law_draw ["d", "many"] (defScope s_law_draw) := ⟨rfl, rfl, rfl, by decide +kernel, rfl, by decide +kernel, by decide +kernel⟩
abbrev s_law_pick : Stmt := topS 12
abbrev N_law_pick : List Str := ["d", "row"]
theorem sc_law_pick : FnScope N_law_pick ["d", "row"] (defScope s_law_pick) := ⟨rfl, rfl, rfl, by decide +kernel, rfl, by decide +kernel, by decide +kernel⟩
abbrev s_law_pop : Stmt := topS 13
abbrev N_law_pop : List Str := ["d", "row"]
theorem sc_law_pop : FnScope N_law_pop ["d", "row"] (defScope s_law_pop) := ⟨rfl, rfl, rfl, by decide +kernel, rfl, by decide +kernel, by decide +kernel⟩
abbrev s_law_shuffled : Stmt := topS 14
abbrev N_law_shuffled : List Str := ["d", "row", "left", "found", "k"]
theorem sc_law_shuffled : FnScope N_law_shuffled ["d", "row"] (defScope s_law_shuffled) := ⟨rfl, rfl, rfl, by decide +kernel, rfl, by decide +kernel, by decide +kernel⟩
abbrev s_law_pool : Stmt := topS 15
abbrev N_law_pool : List Str := ["text"]
theorem sc_law_pool : FnScope N_law_pool [] (defScope s_law_pool) := ⟨rfl, rfl, rfl, by decide +kernel, rfl, by decide +kernel, by decide +kernel⟩
abbrev s_law_is_int : Stmt := topS 16
abbrev N_law_is_int : List Str := ["thing"]
theorem sc_law_is_int : FnScope N_law_is_int ["thing"] (defScope s_law_is_int) := ⟨rfl, rfl, rfl, by decide +kernel, rfl, by decide +kernel, by decide +kernel⟩
abbrev s_law_operations : Stmt := topS 17
abbrev N_law_operations : List Str := ["d", "size", "many", "names", "found", "k"]
theorem sc_law_operations : FnScope N_law_operations ["d", "size", "many"] (defScope s_law_operations) := ⟨rfl, rfl, rfl, by decide +kernel, rfl, by decide +kernel, by decide +kernel⟩
abbrev s_law_wood : Stmt := topS 18
abbrev N_law_wood : List Str := ["d", "many", "size", "wood", "v"]
theorem sc_law_wood : FnScope N_law_wood ["d", "many"] (defScope s_law_wood) := ⟨rfl, rfl, rfl, by decide +kernel, rfl, by decide +kernel, by decide +kernel⟩
abbrev s_law_kid : Stmt := topS 19
abbrev N_law_kid : List Str := ["d", "wood"]
theorem sc_law_kid : FnScope N_law_kid ["d", "wood"] (defScope s_law_kid) := ⟨rfl, rfl, rfl, by decide +kernel, rfl, by decide +kernel, by decide +kernel⟩
abbrev s_law_add : Stmt := topS 20
abbrev N_law_add : List Str := ["wood", "p", "argument", "kids", "number"]
theorem sc_law_add : FnScope N_law_add ["wood", "p", "argument", "kids"] (defScope s_law_add) := ⟨rfl, rfl, rfl, by decide +kernel, rfl, by decide +kernel, by decide +kernel⟩
abbrev s_law_grow : Stmt := topS 21
abbrev N_law_grow : List Str := ["d", "wood", "many", "k", "p", "kids", "j"]
theorem sc_law_grow : FnScope N_law_grow ["d", "wood", "many"] (defScope s_law_grow) := ⟨rfl, rfl, rfl, by decide +kernel, rfl, by decide +kernel, by decide +kernel⟩
abbrev s_law_chain : Stmt := topS 22
abbrev N_law_chain : List Str := ["d", "wood", "many", "wide", "node", "world", "k", "p", "place", "kids", "j"]
theorem sc_law_chain : FnScope N_law_chain ["d", "wood", "many"] (defScope s_law_chain) := ⟨rfl, rfl, rfl, by decide +kernel, rfl, by decide +kernel, by decide +kernel⟩
abbrev s_law_number : Stmt := topS 23
abbrev N_law_number : List Str := ["d"]
theorem sc_law_number : FnScope N_law_number ["d"] (defScope s_law_number) := ⟨rfl, rfl, rfl, by decide +kernel, rfl, by decide +kernel, by decide +kernel⟩
abbrev s_law_down : Stmt := topS 24
abbrev N_law_down : List Str := ["own", "node", "world", "steps", "used", "kids", "answer", "word"]
theorem sc_law_down : FnScope N_law_down ["own", "node", "world"] (defScope s_law_down) := ⟨rfl, rfl, rfl, by decide +kernel, rfl, by decide +kernel, by decide +kernel⟩
abbrev s_law_along : Stmt := topS 25
abbrev N_law_along : List Str := ["own", "node", "steps", "found", "row"]
theorem sc_law_along : FnScope N_law_along ["own", "node", "steps"] (defScope s_law_along) := ⟨rfl, rfl, rfl, by decide +kernel, rfl, by decide +kernel, by decide +kernel⟩
abbrev s_law_is_told : Stmt := topS 26
abbrev N_law_is_told : List Str := ["told", "numbers", "row", "one"]
theorem sc_law_is_told : FnScope N_law_is_told ["told"] (defScope s_law_is_told) := ⟨rfl, rfl, rfl, by decide +kernel, rfl, by decide +kernel, by decide +kernel⟩
abbrev s_law_is_way : Stmt := topS 27
abbrev N_law_is_way : List Str := ["d", "wood", "node", "world", "grove", "own", "steps", "end", "told", "along", "more", "cut", "longer", "k"]
theorem sc_law_is_way : FnScope N_law_is_way ["d", "wood", "node", "world"] (defScope s_law_is_way) := ⟨rfl, rfl, rfl, by decide +kernel, rfl, by decide +kernel, by decide +kernel⟩
abbrev s_law : Stmt := topS 28
abbrev N_law : List Str := ["script", "d", "woods", "asked", "wood", "node", "world", "k", "j"]
theorem sc_law : FnScope N_law ["script"] (defScope s_law) := ⟨rfl, rfl, rfl, by decide +kernel, rfl, by decide +kernel, by decide +kernel⟩
structure G_Grove (K : PySem.W.Frag) (mg : Str → Option Value) (C : Addr) : Prop where
  c : CDef K mg "Grove" C ["size", "nodes", "known"]
  i : IDef K C "Grove.__init__" s_Grove___init__ ["self", "size"]
  d_ask : MDef K C "ask" "Grove.ask" s_Grove_ask ["self", "p", "argument", "children"]
  d_node : MDef K C "node" "Grove.node" s_Grove_node ["self", "number"]
structure Top (K : PySem.W.Frag) (mg : Str → Option Value) : Prop where
  m_abs : mg "abs" = none
  m_all : mg "all" = none
  m_bool : mg "bool" = none
  m_int : mg "int" = none
  m_isinstance : mg "isinstance" = none
  m_len : mg "len" = none
  m_list : mg "list" = none
  m_min : mg "min" = none
  m_range : mg "range" = none
  m_reversed : mg "reversed" = none
  m_tuple : mg "tuple" = none
  g_GROVE_NODES : ∃ t : Tok, mg "GROVE_NODES" = some (.int 20000 t)
  d_trace : Def K mg "trace" s_trace ["grove", "node", "world"]
  d_law_begin : Def K mg "_law_begin" s_law_begin ["script"]
  d_law_draw : Def K mg "_law_draw" s_law_draw ["d", "many"]
  d_law_pick : Def K mg "_law_pick" s_law_pick ["d", "row"]
  d_law_pop : Def K mg "_law_pop" s_law_pop ["d", "row"]
  d_law_shuffled : Def K mg "_law_shuffled" s_law_shuffled ["d", "row"]
  d_law_pool : Def K mg "_law_pool" s_law_pool []
  d_law_is_int : Def K mg "_law_is_int" s_law_is_int ["thing"]
  d_law_operations : Def K mg "_law_operations" s_law_operations ["d", "size", "many"]
  d_law_wood : Def K mg "_law_wood" s_law_wood ["d", "many"]
  d_law_kid : Def K mg "_law_kid" s_law_kid ["d", "wood"]
  d_law_add : Def K mg "_law_add" s_law_add ["wood", "p", "argument", "kids"]
  d_law_grow : Def K mg "_law_grow" s_law_grow ["d", "wood", "many"]
  d_law_chain : Def K mg "_law_chain" s_law_chain ["d", "wood", "many"]
  d_law_number : Def K mg "_law_number" s_law_number ["d"]
  d_law_down : Def K mg "_law_down" s_law_down ["own", "node", "world"]
  d_law_along : Def K mg "_law_along" s_law_along ["own", "node", "steps"]
  d_law_is_told : Def K mg "_law_is_told" s_law_is_told ["told"]
  d_law_is_way : Def K mg "_law_is_way" s_law_is_way ["d", "wood", "node", "world"]
  d_law : Def K mg "law" s_law ["script"]
  c_Grove : ∃ C, G_Grove K mg C
section
variable {P : Program} {w : World} {K : PySem.W.Frag} {mg : Str → Option Value} {base : Heap}
local macro_rules | `(tactic| regloopunroll_open) => `(tactic| (repeat (first | kct_strs | regstrif_slice | (first | with_reducible refine g_fld ?_ | ((with_reducible refine' fld_q ?h ?c ?n ?e ?_); (case h => regstrif_fact); (case c => assumption); (case n => assumption); (case e => assumption))) | (first | with_reducible refine g_meth ?_ | ((with_reducible refine' meth_q ?h ?e ?_); (case h => regstrif_fact); (case e => assumption))) | kfm_turns | ((with_reducible refine' ixL_q ?h ?e ?j ?_); (case j => exact rfl); (case h => first | assumption | exact SqL.of (by regstrif_fact)); (case e => first | exact rfl | assumption)) | (with_reducible first | refine rI0_int ?_ | refine ipI_int ?_ | refine addG_int ?_ | refine intOf_int ?_ | refine intOf_bl ?_ | refine absOf_int ?_ | refine rU_int ?_ | refine eqG_int ?_ | refine neG_int ?_ | refine neG_str ?_ | refine ltI_q ?_ | refine lenS_q (by decide +kernel) ?_) | ((with_reducible refine' rI_int ?c ?_); (case c => (first | exact Int.mul_pos (by decide) (Int.pow_pos (by decide)) | omega | exact ⟨by omega, by omega⟩ | exact Or.inl ⟨by omega, by omega⟩ | exact Or.inr ⟨by omega, by omega⟩ | exact ⟨by omega, by omega, by decide⟩ | decide))) | (first | ((with_reducible refine' tupOf_rep ?h ?_); (case h => lcg_src)) | ((with_reducible refine' tupOf_lst ?h ?_); (case h => regstrif_fact); intro _ _ _ _ _)) | ((with_reducible refine' isi_rep ?h ?e ?_); (case h => lcg_src); (case e => first | exact (show kitB "tuple" _ = some true by decide +kernel) | exact (show kitB "tuple" _ = some false by decide +kernel) | exact (show kitB "int" _ = some true by decide +kernel) | exact (show kitB "int" _ = some false by decide +kernel) | exact (show kitB "str" _ = some true by decide +kernel) | exact (show kitB "str" _ = some false by decide +kernel) | exact (show kitB "bool" _ = some true by decide +kernel) | exact (show kitB "bool" _ = some false by decide +kernel))) | ((with_reducible refine' draw_q ?h ?a ?b ?_); (case h => regstrif_gather); (case a => first | decide | omega); (case b => first | decide | omega); intro _ _ _ _ _) | ((with_reducible refine' setD_q ?h ?x ?l ?_); (case h => regstrif_fact); (case x => (first | exact (show V.str _ = kV (Sum.inr _) from rfl) | exact (show V.int _ = kV (Sum.inl _) from rfl))); (case l => assumption); intro _ _ _) | ((with_reducible first | refine' inD_q ?h ?x ?_ | refine' notInD_q ?h ?x ?_); (case h => regstrif_fact); (case x => (first | exact (show V.str _ = kV (Sum.inr _) from rfl) | exact (show V.int _ = kV (Sum.inl _) from rfl)))) | (with_reducible refine g_dnew (fun _ _ _ _ _ => ?_)) | ((with_reducible refine' lst_ty ?h ?_); (case h => regstrif_fact)) | ((with_reducible refine' append_q ?h ?l ?_); (case h => regstrif_fact); (case l => assumption); intro _ _ _) | ((with_reducible refine' pop_q ?h ?_); (case h => regstrif_fact); intro _ _ _) | ((with_reducible refine' gTup2_rep ?h ?_); (case h => lcg_src); intro _ _ _ _) | ((with_reducible refine' gTup3_rep ?h ?_); (case h => lcg_src); intro _ _ _ _ _ _) | ((with_reducible refine' setL_q ?h ?j ?k ?_); (case j => exact rfl); (case h => regstrif_fact); (case k => first | exact Nat.le_of_ble_eq_true rfl | assumption); intro _ _ _) | ((with_reducible refine' len_lst ?h ?_); (case h => lsm_bools)) | ((with_reducible refine' len_tup ?h ?_); (case h => lcg_src)) | ((with_reducible refine' g_aug ?e ?_); (case e => exact rfl)) | ((with_reducible refine' getL_q ?h ?e ?j ?_); (case j => exact rfl); (case h => lsm_bools); (case e => first | exact rfl | assumption)) | ((with_reducible refine' setL1_q ?h ?j ?k ?_); (case j => exact rfl); (case h => regstrif_fact); (case k => first | exact Nat.le_of_ble_eq_true rfl | assumption); intro _ _ _) | ((with_reducible refine' newR ?k ?r ?l ?_); (case k => assumption); (case r => lcg_sub); (case l => exact Nat.le_of_ble_eq_true rfl); intro _ _ _ _) | (with_reducible refine newT (Nat.le_of_ble_eq_true rfl) (fun _ _ _ _ _ => ?_)) | (with_reducible refine newL (Nat.le_of_ble_eq_true rfl) (fun _ _ _ _ _ => ?_)) | ((with_reducible refine' in_rep ?h ?e1 ?e2 ?e3 ?e4 ?_); (case h => lcg_src); (case e1 => exact rfl); (case e2 => exact rfl); (case e3 => exact rfl); (case e4 => first | exact (show _ = true by decide +kernel) | exact (show _ = false by decide +kernel))) | with_reducible refine eqG_str ?_ | (first | ((with_reducible refine' ifT ?e ?_); (case e => (with_reducible rfl))) | ((with_reducible refine' ifF ?e ?_); (case e => decide +kernel)) | ((with_reducible refine' ifNF ?e ?_); (case e => (with_reducible rfl))) | ((with_reducible refine' ifNT ?e ?_); (case e => decide +kernel)) | with_reducible refine iteN1 ?_ | with_reducible refine iteN0 ?_ | with_reducible refine iteT ?_ | with_reducible refine iteF ?_))))
local macro_rules | `(tactic| kpf_close) => `(tactic| (repeat (first | (first | (with_reducible first | refine g_seq ?_ | refine g_next ?_ | refine g_asg ?_ | refine g_name ?_ | refine g_c ?_ | refine g_op ?_ | refine g_tup ?_ | refine g_lst ?_ | refine g_nil ?_ | refine g_cons ?_ | refine g_ret ?_ | refine g_retN ?_ | refine g_test ?_ | refine g_b ?_ | refine g_drop ?_ | refine g_bl ?_ | refine g_and ?_ | refine g_or ?_ | refine g_not ?_ | refine g_andV ?_ | refine g_orV ?_ | refine g_cb ?_ | refine g_call ?_ | refine g_un ?_ | refine g_if ?_ | refine g_sub ?_ | refine g_yes ?_ | refine g_tapp ?_ | refine g_tapp0 ?_ | refine g_sl ?_ | refine g_nopart ?_ | refine g_part ?_ | refine g_int ?_ | refine g_augs ?_ | refine g_forR1 ?_ | refine g_lcR1 ?_ | refine g_notV ?_) | ((with_reducible refine' g_var ?e ?_); (case e => exact rfl))) | regstrif_slice | (first | with_reducible refine g_fld ?_ | ((with_reducible refine' fld_q ?h ?c ?n ?e ?_); (case h => regstrif_fact); (case c => assumption); (case n => assumption); (case e => assumption))) | (first | with_reducible refine g_meth ?_ | ((with_reducible refine' meth_q ?h ?e ?_); (case h => regstrif_fact); (case e => assumption))) | kfm_turns | ((with_reducible refine' ixL_q ?h ?e ?j ?_); (case j => exact rfl); (case h => first | assumption | exact SqL.of (by regstrif_fact)); (case e => first | exact rfl | assumption)) | (with_reducible first | refine rI0_int ?_ | refine ipI_int ?_ | refine addG_int ?_ | refine intOf_int ?_ | refine intOf_bl ?_ | refine absOf_int ?_ | refine rU_int ?_ | refine eqG_int ?_ | refine neG_int ?_ | refine neG_str ?_ | refine ltI_q ?_ | refine lenS_q (by decide +kernel) ?_) | ((with_reducible refine' rI_int ?c ?_); (case c => (first | exact Int.mul_pos (by decide) (Int.pow_pos (by decide)) | omega | exact ⟨by omega, by omega⟩ | exact Or.inl ⟨by omega, by omega⟩ | exact Or.inr ⟨by omega, by omega⟩ | exact ⟨by omega, by omega, by decide⟩ | decide))) | (first | ((with_reducible refine' tupOf_rep ?h ?_); (case h => lcg_src)) | ((with_reducible refine' tupOf_lst ?h ?_); (case h => regstrif_fact); intro _ _ _ _ _)) | ((with_reducible refine' isi_rep ?h ?e ?_); (case h => lcg_src); (case e => first | exact (show kitB "tuple" _ = some true by decide +kernel) | exact (show kitB "tuple" _ = some false by decide +kernel) | exact (show kitB "int" _ = some true by decide +kernel) | exact (show kitB "int" _ = some false by decide +kernel) | exact (show kitB "str" _ = some true by decide +kernel) | exact (show kitB "str" _ = some false by decide +kernel) | exact (show kitB "bool" _ = some true by decide +kernel) | exact (show kitB "bool" _ = some false by decide +kernel))) | ((with_reducible refine' draw_q ?h ?a ?b ?_); (case h => regstrif_gather); (case a => first | decide | omega); (case b => first | decide | omega); intro _ _ _ _ _) | ((with_reducible refine' setD_q ?h ?x ?l ?_); (case h => regstrif_fact); (case x => (first | exact (show V.str _ = kV (Sum.inr _) from rfl) | exact (show V.int _ = kV (Sum.inl _) from rfl))); (case l => assumption); intro _ _ _) | ((with_reducible first | refine' inD_q ?h ?x ?_ | refine' notInD_q ?h ?x ?_); (case h => regstrif_fact); (case x => (first | exact (show V.str _ = kV (Sum.inr _) from rfl) | exact (show V.int _ = kV (Sum.inl _) from rfl)))) | (with_reducible refine g_dnew (fun _ _ _ _ _ => ?_)) | ((with_reducible refine' lst_ty ?h ?_); (case h => regstrif_fact)) | ((with_reducible refine' append_q ?h ?l ?_); (case h => regstrif_fact); (case l => assumption); intro _ _ _) | ((with_reducible refine' pop_q ?h ?_); (case h => regstrif_fact); intro _ _ _) | ((with_reducible refine' gTup2_rep ?h ?_); (case h => lcg_src); intro _ _ _ _) | ((with_reducible refine' gTup3_rep ?h ?_); (case h => lcg_src); intro _ _ _ _ _ _) | ((with_reducible refine' setL_q ?h ?j ?k ?_); (case j => exact rfl); (case h => regstrif_fact); (case k => first | exact Nat.le_of_ble_eq_true rfl | assumption); intro _ _ _) | ((with_reducible refine' len_lst ?h ?_); (case h => lsm_bools)) | ((with_reducible refine' len_tup ?h ?_); (case h => lcg_src)) | ((with_reducible refine' g_aug ?e ?_); (case e => exact rfl)) | ((with_reducible refine' getL_q ?h ?e ?j ?_); (case j => exact rfl); (case h => lsm_bools); (case e => first | exact rfl | assumption)) | ((with_reducible refine' setL1_q ?h ?j ?k ?_); (case j => exact rfl); (case h => regstrif_fact); (case k => first | exact Nat.le_of_ble_eq_true rfl | assumption); intro _ _ _) | ((with_reducible refine' newR ?k ?r ?l ?_); (case k => assumption); (case r => lcg_sub); (case l => exact Nat.le_of_ble_eq_true rfl); intro _ _ _ _) | (with_reducible refine newT (Nat.le_of_ble_eq_true rfl) (fun _ _ _ _ _ => ?_)) | (with_reducible refine newL (Nat.le_of_ble_eq_true rfl) (fun _ _ _ _ _ => ?_)) | ((with_reducible refine' in_rep ?h ?e1 ?e2 ?e3 ?e4 ?_); (case h => lcg_src); (case e1 => exact rfl); (case e2 => exact rfl); (case e3 => exact rfl); (case e4 => first | exact (show _ = true by decide +kernel) | exact (show _ = false by decide +kernel))) | with_reducible refine eqG_str ?_ | (first | ((with_reducible refine' ifT ?e ?_); (case e => (with_reducible rfl))) | ((with_reducible refine' ifF ?e ?_); (case e => decide +kernel)) | ((with_reducible refine' ifNF ?e ?_); (case e => (with_reducible rfl))) | ((with_reducible refine' ifNT ?e ?_); (case e => decide +kernel)) | with_reducible refine iteN1 ?_ | with_reducible refine iteN0 ?_ | with_reducible refine iteT ?_ | with_reducible refine iteF ?_))))
local macro_rules | `(tactic| lcg_src) => `(tactic| (repeat' (first | exact rep_as (by assumption) | exact rep_int | exact rep_str | exact rep_bl | exact rep_non | (with_reducible refine' Rep.up ?_ (by assumption)))))
local macro_rules | `(tactic| lcg_sub) => `(tactic| (repeat' (first | (with_reducible exact reps_nil) | (with_reducible refine' reps_cons ?_ ?_) | exact rep_as (by assumption) | exact reps_as (by assumption) | exact rep_int | exact rep_str | exact rep_bl | exact rep_non | (with_reducible refine' Rep.up ?_ (by assumption)) | (with_reducible refine' Reps.up ?_ (by assumption)))))
local macro_rules | `(tactic| lcg_off) => `(tactic| (repeat' (first | exact Fr.refl _ _ | exact fr_as (by assumption) | refine Fr.step0 ?_ (by assumption) | refine Fr.step ?_ (by assumption))))
local macro_rules | `(tactic| regstrif_fact) => `(tactic| (repeat' (first | exact at_as (by assumption) | refine' Fr.at (by assumption) ?_ | refine' Fr.at1 (by assumption) ?_ (by first | assumption | exact Ne.symm (by assumption)))))
local macro_rules | `(tactic| regstrif_gather) => `(tactic| (repeat' (first | exact dok_as (by assumption) | refine' DrawOk.fr0 ?_ (by assumption) | refine' DrawOk.fr1 ?_ (by assumption) (by assumption) (by assumption))))
local macro_rules | `(tactic| regstrif_slice) => `(tactic| (dsimp only [List.set, List.cons_append, List.nil_append, List.append_nil, Option.isSome_none, Option.isSome_some, Option.getD_none, Option.getD_some, Bool.not_true, Bool.not_false]))
local macro_rules | `(tactic| kpt_turns) => `(tactic| dsimp only [cxOf, List.map, List.cons_append, List.nil_append])
local macro_rules | `(tactic| kpc_turns) => `(tactic| (repeat (first | kct_strs | regstrif_slice)))
local macro_rules | `(tactic| kfm_turns) => `(tactic| ((with_reducible refine' ix_get ?h ?j ?e ?_); (case h => lcg_src); (case j => exact rfl); (case e => exact rfl); (first | with_reducible refine get_str ?_ | with_reducible refine get_int ?_ | with_reducible refine get_bl ?_ | refine get_any (fun _ _ => ?_))))
local macro_rules | `(tactic| lsm_bools) => `(tactic| (first | assumption | exact SqL.of (by regstrif_fact)))
local macro_rules | `(tactic| kct_strs) => `(tactic| (first | (with_reducible first | refine g_seq ?_ | refine g_next ?_ | refine g_asg ?_ | refine g_name ?_ | refine g_c ?_ | refine g_op ?_ | refine g_tup ?_ | refine g_lst ?_ | refine g_nil ?_ | refine g_cons ?_ | refine g_ret ?_ | refine g_retN ?_ | refine g_ifs ?_ | refine g_test ?_ | refine g_b ?_ | refine g_drop ?_ | refine g_bl ?_ | refine g_and ?_ | refine g_or ?_ | refine g_not ?_ | refine g_andV ?_ | refine g_orV ?_ | refine g_cb ?_ | refine g_call ?_ | refine g_un ?_ | refine g_if ?_ | refine g_sub ?_ | refine g_yes ?_ | refine g_tapp ?_ | refine g_tapp0 ?_ | refine g_sl ?_ | refine g_nopart ?_ | refine g_part ?_ | refine g_int ?_ | refine g_augs ?_ | refine g_forR1 ?_ | refine g_lcR1 ?_ | refine g_notV ?_) | ((with_reducible refine' g_var ?e ?_); (case e => exact rfl))))

theorem ok_law_draw (T : Top K mg) : Cal P w K mg base CX0 1 "_law_draw" ["d", "many"] spDraw := by
  refine T.d_law_draw.cal sc_law_draw [none, none, none] rfl (fun vs H Q E h => ?_) (fun f cdv A outer s H vs Q E hk hr h => ?_)
  · obtain ⟨a, c, m, rfl, _⟩ := h; rfl
  obtain ⟨a, c, m, rfl, ⟨ns, p, fo, sd, ha, hc, hne⟩, m0, m1, q⟩ := h
  have hu := hu_of hr
  have fin : ∀ (H' : Hp) (z f2 s2 : Int) (p2 : Nat), Fr [a] H H' → H' a = some (.lst [.ref c, .int (p2 : Int), .int f2, .int s2, .int 3]) → Q (.int (z % (m : Int))) H' := by
    intro H' z f2 s2 p2 f1 e1
    obtain ⟨k, e, hk⟩ := draw_mod z m m0
    rw [e]
    exact q H' k f1 ⟨ns, p2, f2, s2, e1, f1.at1 hc hne, hne⟩ hk
  refine ⟨_, (pss_cons (ps_if (pt_cmpR op_gt (pe_ix (ix_GK (K := K) rfl hu) (pv 0) pe_int (fun _ _ => rfl)) pe_int (nomark _)) (pss_cons (ps_set (i := 2) sc_law_draw.nd rfl (Or.inl rfl) (pe_ix (ix_GK (K := K) rfl hu) (pv 0) pe_int (fun _ _ => rfl))) (pss_cons (ps_asg (pe_op op_fdiv (pv 2) (pv 1)) (pg_sub (pv 0) pe_int (set_G hu))) (pss_one (ps_ret (pe_op op_mod (pe_callTy call_intG (by rfl) T.m_int (by decide +kernel) (pa_cons (pv 2) pa_nil)) (pv 1)))))) pss_nil) (pss_cons (ps_set (i := 3) sc_law_draw.nd rfl (Or.inl rfl) pe_int) (pss_cons (ps_if (pt_cmpR (op_lt2K (K := K) rfl hr.u65) (pe_ix (ix_GK (K := K) rfl hu) (pv 0) pe_int (fun _ _ => rfl)) (pe_callB (call_lenGK (K := K) rfl) (by rfl) T.m_len (by decide +kernel) (pa_cons (pe_ix (ix_GK (K := K) rfl hu) (pv 0) pe_int (fun _ _ => rfl)) pa_nil)) (nomark _)) (pss_cons (ps_set (i := 4) sc_law_draw.nd rfl (Or.inl rfl) (pe_ix (ix_GK (K := K) rfl hu) (pe_ix (ix_GK (K := K) rfl hu) (pv 0) pe_int (fun _ _ => rfl)) (pe_ix (ix_GK (K := K) rfl hu) (pv 0) pe_int (fun _ _ => rfl)) (fun _ _ => rfl))) (pss_one (ps_set (i := 3) sc_law_draw.nd rfl (Or.inl rfl) (pe_op (op_addGK (K := K) rfl) (pe_op op_mul pe_int (pe_callB call_absG (by rfl) T.m_abs (by decide +kernel) (pa_cons (pv 4) pa_nil))) (pe_callTy call_intG (by rfl) T.m_int (by decide +kernel) (pa_cons (pe_cmpR (op_lt2K (K := K) rfl hr.u65) (pv 4) pe_int (nomark _)) pa_nil)))))) pss_nil) (pss_cons (ps_augS (pv 0) pe_int get_list pe_int ip_add set_list) (pss_cons (ps_if (pt_cmpR op_ge (pv 3) (pe_op op_mul pe_int (pe_op op_pow pe_int pe_int)) (nomark _)) (pss_cons (ps_set (i := 2) sc_law_draw.nd rfl (Or.inl rfl) (pe_op op_mod (pe_callTy call_intG (by rfl) T.m_int (by decide +kernel) (pa_cons (pe_op op_fdiv (pv 3) pe_int) pa_nil)) (pe_op op_shl pe_int pe_int))) (pss_cons (ps_asg (pe_op op_fdiv (pv 2) (pv 1)) (pg_sub (pv 0) pe_int (set_G hu))) (pss_one (ps_ret (pe_op op_mod (pe_callTy call_intG (by rfl) T.m_int (by decide +kernel) (pa_cons (pv 2) pa_nil)) (pv 1)))))) pss_nil) (pss_cons (ps_asg (pe_op op_mod (pe_callTy call_intG (by rfl) T.m_int (by decide +kernel) (pa_cons (pe_op (op_addGK (K := K) rfl) (pe_op (op_addGK (K := K) rfl) (pe_op (op_addGK (K := K) rfl) (pe_op op_mul (pe_ix (ix_GK (K := K) rfl hu) (pv 0) pe_int (fun _ _ => rfl)) pe_int) (pe_op op_mul (pe_op op_mod (pe_callTy call_intG (by rfl) T.m_int (by decide +kernel) (pa_cons (pv 3) pa_nil)) pe_int) pe_int)) (pe_op op_mul (pe_ix (ix_GK (K := K) rfl hu) (pv 0) pe_int (fun _ _ => rfl)) pe_int)) pe_int) pa_nil)) pe_int) (pg_sub (pv 0) pe_int (set_G hu))) (pss_one (ps_ret (pe_op op_mod (pe_callTy call_intG (by rfl) T.m_int (by decide +kernel) (pa_cons (pe_op op_fdiv (pe_ix (ix_GK (K := K) rfl hu) (pv 0) pe_int (fun _ _ => rfl)) pe_int) pa_nil)) (pv 1)))))))))), ?_⟩
  kpt_turns
  regloopunroll_open
  refine ifD (fun h1 => ?_) (fun h1 => ?_)
  · regloopunroll_open
    exact fin _ _ _ _ _ (by lcg_off) (by assumption)
  · regloopunroll_open
    refine ifD (fun h2 => ?_) (fun h2 => ?_)
    · have hp : p < ns.length := by simpa using h2
      have hz : (ns.map V.int)[p]? = some (.int ns[p]) := by simp [hp]
      regloopunroll_open
      refine ifD (fun h3 => ?_) (fun h3 => ?_)
      all_goals regloopunroll_open
      all_goals exact fin _ _ _ _ (p + 1) (by lcg_off) (by assumption)
    · regloopunroll_open
      exact fin _ _ _ _ (p + 1) (by lcg_off) (by assumption)
theorem ok_law_pick (T : Top K mg) : Cal P w K mg base CX0 2 "_law_pick" ["d", "row"] (spPick K) := by
  refine T.d_law_pick.cal sc_law_pick [] rfl (fun vs H Q E h => ?_) (fun f cdv A outer s H vs Q E hk hr h => ?_)
  · obtain ⟨a, c, l, xs, rfl, _⟩ := h; rfl
  obtain ⟨a, c, l, xs, rfl, hd, hl, hne, h0, h1, q⟩ := h
  have hu := hu_of hr
  have C_law_draw := ok_law_draw (P := P) (w := w) (base := base) T
  refine ⟨_, (pss_one (ps_ret (pe_ix (ix_GK (K := K) rfl hu) (pv 1) (pe_cal C_law_draw (hr.mono (by omega)) (by rfl) pass0 (pa_cons (pv 0) (pa_cons (pe_callB (call_lenGK (K := K) rfl) (by rfl) T.m_len (by decide +kernel) (pa_cons (pv 1) pa_nil)) pa_nil))) (fun _ _ => rfl)))), ?_⟩
  kpt_turns
  regloopunroll_open
  rename_i H' k fr hd' hk
  have hl' := fr.sqL hl (by simpa using hne)
  have hk2 : k < xs.length := by omega
  have e : xs[k]? = some xs[k] := by simp [hk2]
  regloopunroll_open
  exact q _ k _ fr hd' e
theorem ok_law_begin (T : Top K mg) : Cal P w K mg base CX0 1 "_law_begin" ["script"] (spBegin K) := by
  refine T.d_law_begin.cal sc_law_begin [none] rfl (fun vs H Q E h => ?_) (fun f cdv A outer s H vs Q E hk hr h => ?_)
  · obtain ⟨a, l, rfl, _⟩ := h; rfl
  obtain ⟨a, ns, rfl, hs, hl, q⟩ := h
  have hu := hu_of hr
  refine ⟨_, (pss_one (ps_ret (pe_lst (pa_cons (pe_lc (own := [("cell", 1)]) (g := gName 1) rfl sc_law_begin.nd (pi_seqK (K := K) rfl (pv 0)) (blkOk_by (N := N_law_begin) (sc := defScope s_law_begin) (by decide +kernel)) (fun _ _ _ _ _ => pg_name (i := 1) sc_law_begin.nd rfl (Or.inl rfl)) (fun _ _ _ _ _ => pts_nil) (fun _ _ _ _ _ => (pe_callTy call_intG (by rfl) T.m_int (by decide +kernel) (pa_cons (pv 1) pa_nil)))) (pa_cons pe_int (pa_cons pe_int (pa_cons pe_int (pa_cons pe_int pa_nil)))))))), ?_⟩
  kpt_turns
  regloopunroll_open
  refine g_lcL ?_
  regloopunroll_open
  refine lcL_q hs (fun D i H' => Fr [] H H' ∧ H' D = some (.lst ((ns.take i).map V.int))) (fun D nD => ⟨Fr.new nD, by rw [upd_same]; rfl⟩) (fun D i H' nD p => p.1.sqL hs (by simp)) (fun D i x H' nD e p => ?_) (fun D H' nD p => ?_)
  · obtain ⟨f1, e1⟩ := p
    obtain ⟨z, hz, rfl⟩ : ∃ z, ns[i]? = some z ∧ V.int z = x := by simpa [List.getElem?_map, Option.map_eq_some_iff] using e
    regloopunroll_open
    refine ⟨rfl, ?_⟩
    regloopunroll_open
    refine ⟨_, e1, small1000 (by simp; omega), f1.updN nD e1, ?_⟩
    rw [upd_same, List.take_add_one, hz, List.map_append]
    rfl
  · obtain ⟨f1, e1⟩ := p
    regloopunroll_open
    rename_i H2 l f2 n2 e2
    rw [List.length_map, List.take_length] at e1
    exact q H2 l D (f1.step0 f2) (f1.free n2 (by simp)) nD ⟨ns, 0, 0, 7, e2, f2.at e1, fun z => by subst z; rw [e1] at n2; cases n2⟩

def spGInit (P : Program) (w : World) (K : PySem.W.Frag) (C : Addr) : Sp := fun vs H Q _ => ∃ (g dx : Addr) (size : Nat), vs = [.ref g, .int (size : Int)] ∧ H g = some (.ins C dx []) ∧ size ≤ 100 ∧ ∀ H' nl kn, Fr [g] H H' → H nl = none → H kn = none → GroveAt P w K C H' g nl kn size ((List.range size).map Nd.val) → Q .non H'
theorem ok_Grove_init (T : Top K mg) {C : Addr} (G : G_Grove K mg C) : KCal P w K mg base CX0 1 "Grove" C ["self", "size"] (spGInit P w K C) := by
  refine G.i.cal G.c.m sc_Grove___init__ [none] rfl (fun vs H Q E h => ?_) (fun f cdv A outer s H vs Q E hk hr h => ?_)
  · obtain ⟨g, dx, size, rfl, _⟩ := h; rfl
  obtain ⟨g, dx, size, rfl, hg, hs, q⟩ := h
  have hu := hu_of hr
  have cl := G.c.cl
  have no1 : NoAttr K C "size" := G.c.no _ (by simp)
  have no2 : NoAttr K C "nodes" := G.c.no _ (by simp)
  have no3 : NoAttr K C "known" := G.c.no _ (by simp)
  refine ⟨_, (pss_cons (ps_fld (pv 0) (pv 1) rfl) (pss_cons (ps_fld (pv 0) (pe_lc (own := [("value", 2)]) (g := gName 2) rfl sc_Grove___init__.nd (pi_range1 (by rfl) T.m_range (pa_cons (pv 1) pa_nil)) (blkOk_by (N := N_Grove___init__) (sc := defScope s_Grove___init__) (by decide +kernel)) (fun _ _ _ _ _ => pg_name (i := 2) sc_Grove___init__.nd rfl (Or.inl rfl)) (fun _ _ _ _ _ => pts_nil) (fun _ _ _ _ _ => (pe_tup (pa_cons pe_str (pa_cons (pv 2) pa_nil))))) rfl) (pss_one (ps_fld (pv 0) (pe_dnewN (P := P) (w := w) rfl rfl) rfl)))), ?_⟩
  kpt_turns
  regloopunroll_open
  refine g_fldS ?_
  regloopunroll_open
  refine fldS_q hg cl no1 (by decide) (fun H1 f1 e1 => ?_)
  regloopunroll_open
  refine g_fldS ?_
  regloopunroll_open
  refine lcR1_q (k := size) rfl (by omega) (fun D i H' => Fr [] H1 H' ∧ ∃ ws, H' D = some (.lst ws) ∧ Reps K H' (((List.range i).map Nd.val).map Nd.toD) ws) (fun D nD => ⟨Fr.new nD, [], upd_same, reps_nil⟩) (fun D i H' nD hi p => ?_) (fun D H2 nD p => ?_)
  · obtain ⟨fr, ws, eD, rw1⟩ := p
    regloopunroll_open
    refine ⟨rfl, ?_⟩
    regloopunroll_open
    rename_i H3 v3 f3 r3
    have gD : Fr [D] H3 (upd H3 D (.lst (ws ++ [v3]))) := Fr.setL (f3.at eD)
    refine ⟨ws, f3.at eD, ?_, (fr.step f3).updN nD (f3.at eD), _, upd_same, ?_⟩
    · have := rw1.length
      rw [List.length_map, List.length_map, List.length_range] at this
      exact small1000 (by omega)
    · rw [List.range_succ, List.map_append, List.map_append]
      exact ((rw1.up f3).up gD).append (reps_one (r3.up gD))
  obtain ⟨f2, ws, eD, rw2⟩ := p
  regloopunroll_open
  refine fldS_q (f2.at e1) cl no2 (Nat.lt_of_le_of_lt (putF_len _ _ _) (by decide)) (fun H4 f4 e4 => ?_)
  regloopunroll_open
  refine g_fldS ?_
  refine nw_new (K := K) (toD := natD) (fun H5 kn f5 n5 k5 => ?_)
  regloopunroll_open
  refine fldS_q (f5.at e4) cl no3 (Nat.lt_of_le_of_lt (putF_len _ _ _) (Nat.lt_of_le_of_lt (Nat.succ_le_succ (putF_len _ _ _)) (by decide))) (fun H6 f6 e6 => ?_)
  regloopunroll_open
  have hDg : D ≠ g := fun z => by subst z; rw [nD] at e1; cases e1
  have hkg : kn ≠ g := fun z => by subst z; rw [n5] at e4; cases e4
  have n5' : H kn = none := f1.free (f2.free (f4.free n5 (by simpa using hkg)) (by simp)) (by simpa using hkg)
  refine q H6 D kn ?_ (f1.free nD (by simpa using hDg)) n5' ⟨⟨dx, e6⟩, ⟨ws, f6.at1 (f5.at (f4.at1 eD hDg)) hDg, ((rw2.up f4).up f5).up f6⟩, by rw [known_vals]; exact k5.fr f6 (by simpa using hkg)⟩
  exact (((f1.step0 f2).step f4).step0 f5).step f6
def spGAsk (P : Program) (w : World) (K : PySem.W.Frag) (C : Addr) : Sp := fun vs H Q _ => ∃ (g nl kn : Addr) (size : Nat) (ns : List Nd) (p : Str) (a : Nat) (ks : List Nat) (x : V), vs = [.ref g, .str p, .int (a : Int), x] ∧ GroveAt P w K C H g nl kn size ns ∧ Rep K H (.tuple (ks.map natD)) x ∧ ns.length < 15000 ∧
  (∀ (H' : Hp) (i : Nat), Fr [] H H' → GroveAt P w K C H' g nl kn size ns → ns[i]? = some (Nd.ask p a ks) → Q (.int (i : Int)) H') ∧
  (∀ H', Fr [nl, kn] H H' → GroveAt P w K C H' g nl kn size (ns ++ [Nd.ask p a ks]) → Q (.int (ns.length : Int)) H')
theorem ok_Grove_ask (T : Top K mg) {C : Addr} (G : G_Grove K mg C) : MCal P w K mg base CX0 1 C "ask" ["self", "p", "argument", "children"] (spGAsk P w K C) := by
  refine G.d_ask.cal G.c.cl sc_Grove_ask [none] rfl (fun vs H Q E h => ?_) (fun f cdv A outer s H vs Q E hk hr h => ?_)
  · obtain ⟨g, nl, kn, size, ns, p, a, ks, x, rfl, _⟩ := h; rfl
  obtain ⟨g, nl, kn, size, ns, p, a, ks, x, rfl, hg, hx, hl, q1, q2⟩ := h
  have hu := hu_of hr
  have cl := G.c.cl
  have no2 : NoAttr K C "nodes" := G.c.no _ (by simp)
  have no3 : NoAttr K C "known" := G.c.no _ (by simp)
  have l2 := gF_nodes size nl kn
  have l3 := gF_known size nl kn
  refine ⟨_, (pss_cons (ps_set (i := 4) sc_Grove_ask.nd rfl (Or.inl rfl) (pe_tup (pa_cons (pv 1) (pa_cons (pv 2) (pa_cons (pe_callTy (call_tupGK (K := K) rfl) (by rfl) T.m_tuple (by decide +kernel) (pa_cons (pv 3) pa_nil)) pa_nil))))) (pss_cons (ps_if (pt_cmpR (op_inN (P := P) (w := w) (K := K) rfl rfl rfl hr.units) (pv 4) (pe_fld (pv 0) rfl) (by rfl)) (pss_one (ps_ret (pe_ix (ix_N (P := P) (w := w) (K := K) rfl rfl rfl hr.units) (pe_fld (pv 0) rfl) (pv 4) (fun _ _ => rfl)))) pss_nil) (pss_cons (ps_if (pt_cmpR op_ge (pe_callB (call_lenGK (K := K) rfl) (by rfl) T.m_len (by decide +kernel) (pa_cons (pe_fld (pv 0) rfl) pa_nil)) (pe_glob (v := .int 20000) (by rfl) T.g_GROVE_NODES.choose_spec ⟨_, rfl⟩) (nomark _)) (pss_one ps_never) pss_nil) (pss_cons (ps_asg (pe_callB (call_lenGK (K := K) rfl) (by rfl) T.m_len (by decide +kernel) (pa_cons (pe_fld (pv 0) rfl) pa_nil)) (pg_sub (pe_fld (pv 0) rfl) (pv 4) (set_N (P := P) (w := w) (K := K) rfl rfl rfl hr.units))) (pss_cons (ps_expr (pe_bm PySem.F.plainAttrs_list PySem.F.slot_list_append PySem.F.type_list_append mt_append (pe_fld (pv 0) rfl) (pa_cons (pe_tup (pa_cons pe_str (pa_cons (pv 1) (pa_cons (pv 2) (pa_cons (pe_callTy (call_tupGK (K := K) rfl) (by rfl) T.m_tuple (by decide +kernel) (pa_cons (pv 3) pa_nil)) pa_nil))))) pa_nil))) (pss_one (ps_ret (pe_ix (ix_N (P := P) (w := w) (K := K) rfl rfl rfl hr.units) (pe_fld (pv 0) rfl) (pv 4) (fun _ _ => rfl))))))))), ?_⟩
  kpt_turns
  regloopunroll_open
  rename_i H1 k f1 r1
  have rk : Rep K H1 (nkD (.tup (askK p a ks))) k := by rw [askK_D]; exact r1
  have hg1 := hg.fr0 f1
  obtain ⟨dx, eg⟩ := hg1.ob
  regloopunroll_open
  refine nw_in hg1.kn rk (askK_depth p a ks) ?_
  cases e0 : aget (knownOf ns) (.tup (askK p a ks)) with
  | some i =>
    regloopunroll_open
    refine nw_ix hg1.kn rk (askK_depth p a ks) e0 (fun v hv => ?_)
    unfold natD Rep at hv
    subst hv
    exact q1 H1 i f1 hg1 (known_at e0)
  | none =>
    obtain ⟨us, el, ru⟩ := hg1.nd
    have lus : us.length = ns.length := by rw [ru.length, List.length_map]
    regloopunroll_open
    refine ifF (by omega) ?_
    regloopunroll_open
    refine nw_set (c := ns.length) hg1.kn rk (askK_depth p a ks) (by unfold natD; rw [← lus]; exact rep_int) e0 (by have := known_len ns; omega) (fun H2 f2 k2 => ?_)
    have n2 := hg1.ne_gk
    have n3 := hg1.ne_nk
    have n1 := hg1.ne_gn
    have eg2 := f2.at1 eg n2
    have el2 := f2.at1 el n3
    have hx2 := (hx.up f1).up f2
    have rk2 := rk.up f2
    regloopunroll_open
    have hus : us.length < sizeLine := by rw [sizeLine_eq]; omega
    regloopunroll_open
    rename_i H3 v3 f3 r3 H4 f4 e4
    have eg4 := f4.at1 (f3.at eg2) n1
    regloopunroll_open
    have k4 := (k2.fr f3 (by simp)).fr f4 (by simpa using n3.symm)
    refine nw_ix (c := ns.length) k4 ((rk2.up f3).up f4) (askK_depth p a ks) (by rw [aget_app, e0]; simp [aget_cons]) (fun v hv => ?_)
    unfold natD Rep at hv
    subst hv
    refine q2 H4 ?_ ⟨⟨dx, eg4⟩, ⟨_, e4, ?_⟩, by rw [known_snoc]; exact k4⟩
    · exact (((f1.of0).more f2 (by simp)).step0 f3).more f4 (by simp)
    · rw [List.map_append]
      exact (((ru.up f2).up f3).up f4).append (reps_one (r3.up f4))
def spGNode (P : Program) (w : World) (K : PySem.W.Frag) (C : Addr) : Sp := fun vs H Q _ => ∃ (g nl kn : Addr) (size : Nat) (ns : List Nd) (i : Nat) (nd : Nd), vs = [.ref g, .int (i : Int)] ∧ GroveAt P w K C H g nl kn size ns ∧ ns[i]? = some nd ∧ ∀ v, Rep K H nd.toD v → Q v H
theorem ok_Grove_node (T : Top K mg) {C : Addr} (G : G_Grove K mg C) : MCal P w K mg base CX0 1 C "node" ["self", "number"] (spGNode P w K C) := by
  refine G.d_node.cal G.c.cl sc_Grove_node [] rfl (fun vs H Q E h => ?_) (fun f cdv A outer s H vs Q E hk hr h => ?_)
  · obtain ⟨g, nl, kn, size, ns, i, nd, rfl, _⟩ := h; rfl
  obtain ⟨g, nl, kn, size, ns, i, nd, rfl, hg, hi, q⟩ := h
  have hu := hu_of hr
  have cl := G.c.cl
  have no2 : NoAttr K C "nodes" := G.c.no _ (by simp)
  have l2 := gF_nodes size nl kn
  obtain ⟨dx, eg⟩ := hg.ob
  obtain ⟨us, el, ru⟩ := hg.nd
  refine ⟨_, (pss_one (ps_ret (pe_ix (ix_GK (K := K) rfl hu) (pe_fld (pv 0) rfl) (pv 1) (fun _ _ => rfl)))), ?_⟩
  kpt_turns
  regloopunroll_open
  obtain ⟨v, ev, rv⟩ := ru.get (i := i) (d := nd.toD) (by rw [List.getElem?_map, hi]; rfl)
  exact ixL_q (.of el) ev rfl (q v rv)

def spPop (K : PySem.W.Frag) : Sp := fun vs H Q _ => ∃ (a c l : Addr) (xs : List V), vs = [.ref a, .ref l] ∧ DrawOk H a c ∧ H l = some (.lst xs) ∧ l ≠ a ∧ l ≠ c ∧ 0 < xs.length ∧ xs.length < 1000000 ∧ ∀ H' (i : Nat) (v : V), Fr [l, a] H H' → DrawOk H' a c → xs[i]? = some v → H' l = some (.lst (xs.eraseIdx i)) → Q v H'
theorem ok_law_pop (T : Top K mg) : Cal P w K mg base CX0 2 "_law_pop" ["d", "row"] (spPop K) := by
  refine T.d_law_pop.cal sc_law_pop [] rfl (fun vs H Q E h => ?_) (fun f cdv A outer s H vs Q E hk hr h => ?_)
  · obtain ⟨a, c, l, xs, rfl, _⟩ := h; rfl
  obtain ⟨a, c, l, xs, rfl, hd, hl, hne, hnc, h0, h1, q⟩ := h
  have hu := hu_of hr
  have C_law_draw := ok_law_draw (P := P) (w := w) (base := base) T
  refine ⟨_, (pss_one (ps_ret (pe_bm PySem.F.plainAttrs_list PySem.F.slot_list_pop PySem.F.type_list_pop mt_popAt (pv 1) (pa_cons (pe_cal C_law_draw (hr.mono (by omega)) (by rfl) pass0 (pa_cons (pv 0) (pa_cons (pe_callB (call_lenGK (K := K) rfl) (by rfl) T.m_len (by decide +kernel) (pa_cons (pv 1) pa_nil)) pa_nil))) pa_nil)))), ?_⟩
  kpt_turns
  regloopunroll_open
  rename_i H' k fr hd' hk
  have hl' := fr.at1 hl hne
  have hk2 : k < xs.length := by omega
  have e : xs[k]? = some xs[k] := List.getElem?_eq_getElem hk2
  refine popAt_q hl' rfl e h1 (fun H2 f2 e2 => ?_)
  exact q H2 k _ ((Fr.refl _ _).more fr (by simp) |>.more f2 (by simp)) (hd'.fr1 f2 hne hnc) e e2
def spShuf (K : PySem.W.Frag) : Sp := fun vs H Q _ => ∃ a c l0 us0 ds, vs = [.ref a, .ref l0] ∧ DrawOk H a c ∧ H l0 = some (.lst us0) ∧ Reps K H ds us0 ∧ ds.length ≤ 1000 ∧ ∀ H' L us es, Fr [a] H H' → DrawOk H' a c → H L = none → H' L = some (.lst us) → Reps K H' es us → es.Perm ds → Q (.ref L) H'
theorem ok_law_shuffled (T : Top K mg) : Cal P w K mg base CX0 2 "_law_shuffled" ["d", "row"] (spShuf K) := by
  refine T.d_law_shuffled.cal sc_law_shuffled [none, none, none] rfl (fun vs H Q E h => ?_) (fun f cdv A outer s H vs Q E hk hr h => ?_)
  · obtain ⟨a, c, l0, us0, ds, rfl, _⟩ := h; rfl
  obtain ⟨a, c, l0, us, ds, rfl, hd, hx, hrx, hl, q⟩ := h
  have hu := hu_of hr
  have C_law_draw := ok_law_draw (P := P) (w := w) (base := base) T
  refine ⟨_, (pss_cons (ps_set (i := 2) sc_law_shuffled.nd rfl (Or.inl rfl) (pe_callTy (call_listGK (K := K) rfl rfl) (by rfl) T.m_list (by decide +kernel) (pa_cons (pv 1) pa_nil))) (pss_cons (ps_set (i := 3) sc_law_shuffled.nd rfl (Or.inl rfl) (pe_lst pa_nil)) (pss_cons (ps_for PassesOwn.never rfl (pi_range1 (by rfl) T.m_range (pa_cons (pe_callB (call_lenGK (K := K) rfl) (by rfl) T.m_len (by decide +kernel) (pa_cons (pv 2) pa_nil)) pa_nil)) (pg_name (i := 4) sc_law_shuffled.nd rfl (Or.inl rfl)) (pss_one (ps_expr (pe_bm PySem.F.plainAttrs_list PySem.F.slot_list_append PySem.F.type_list_append mt_append (pv 3) (pa_cons (pe_bm PySem.F.plainAttrs_list PySem.F.slot_list_pop PySem.F.type_list_pop mt_popAt (pv 2) (pa_cons (pe_cal C_law_draw (hr.mono (by omega)) (by rfl) pass0 (pa_cons (pv 0) (pa_cons (pe_callB (call_lenGK (K := K) rfl) (by rfl) T.m_len (by decide +kernel) (pa_cons (pv 2) pa_nil)) pa_nil))) pa_nil)) pa_nil))))) (pss_one (ps_ret (pv 3)))))), ?_⟩
  kpt_turns
  regloopunroll_open
  refine listL_q (.of hx) (fun H1 l1 f1 n1 e1 => ?_)
  have r1 := hrx.up f1
  regloopunroll_open
  rename_i H2 L f2 nL eL
  have e2 := f2.at e1
  have r2 := r1.up f2
  have hd2 := (hd.fr0 f1).fr0 f2
  have lus : us.length = ds.length := r1.length
  have h1a := hd.neL n1
  have h1c := hd.neC n1
  have hLa := (hd.fr0 f1).neL nL
  have hLc := (hd.fr0 f1).neC nL
  have hL1 : L ≠ l1 := (ne_of_none e1 nL).symm
  regloopunroll_open
  refine forR1_q (k := us.length) rfl (by omega) (fun i σ' H' => Fr [l1, L, a] H2 H' ∧ DrawOk H' a c ∧ (∃ (ws zs : List V) (ps qs : List PyData), H' l1 = some (.lst ws) ∧ H' L = some (.lst zs) ∧ Reps K H' ps ws ∧ Reps K H' qs zs ∧ (qs ++ ps).Perm ds ∧ ws.length + i = us.length) ∧ ∃ o1, σ' = [some (.ref a), some (.ref l0), some (.ref l1), some (.ref L), o1]) ⟨Fr.refl _ _, hd2, ⟨us, [], ds, [], e2, eL, r2, reps_nil, List.Perm.refl _, rfl⟩, _, rfl⟩ (fun i σ' H3 hi p3 => ?_) (fun σ' H3 p3 => ?_)
  · obtain ⟨g3, hd3, ⟨ws, zs, ps, qs, e3, eL3, rw3, rz3, hp3, hlen⟩, o1, rfl⟩ := p3
    have hw : (0 : Int) < (ws.length : Nat) := by omega
    have hw2 : ((ws.length : Nat) : Int) < 1000000000 := by omega
    regloopunroll_open
    rename_i H4 k4 f4 hd4 hk4
    have e4 := f4.at1 e3 h1a
    have eL4 := f4.at1 eL3 hLa
    have hk5 : k4 < ws.length := by omega
    have ek : ws[k4]? = some ws[k4] := List.getElem?_eq_getElem hk5
    obtain ⟨d4, ed4, rd4⟩ := (rw3.up f4).get' ek
    have hzs : zs.length < sizeLine := by
      have h1 := hp3.length_eq
      rw [List.length_append] at h1
      have h2 := rz3.length
      exact small1000 (by omega)
    refine popAt_q e4 rfl ek (by omega) (fun H5 f5 e5 => ?_)
    have eL5 := f5.at1 eL4 hL1
    regloopunroll_open
    rename_i H6 f6 e6
    refine ⟨((g3.more f4 (by simp)).more f5 (by simp)).more f6 (by simp), (hd4.fr1 f5 h1a h1c).fr1 f6 hLa hLc, ⟨_, _, ps.eraseIdx k4, qs ++ [d4], f6.at1 e5 hL1.symm, e6, ?_, ?_, ?_, ?_⟩, _, rfl⟩
    · exact (((rw3.up f4).up f5).up f6).erase k4
    · exact (((rz3.up f4).up f5).up f6).append (reps_one ((rd4.up f5).up f6))
    · refine List.Perm.trans ?_ hp3
      rw [List.append_assoc]
      refine List.Perm.append_left _ ?_
      have hk6 : k4 < ps.length := (List.getElem?_eq_some_iff.mp ed4).1
      have e7 : ps = ps.take k4 ++ d4 :: ps.drop (k4 + 1) := by
        have h8 : ps[k4] = d4 := (List.getElem?_eq_some_iff.mp ed4).2
        rw [← h8, ← List.drop_eq_getElem_cons hk6, List.take_append_drop]
      rw [List.eraseIdx_eq_take_drop_succ]
      conv => rhs; rw [e7]
      show (d4 :: (ps.take k4 ++ ps.drop (k4 + 1))).Perm _
      exact (List.perm_middle).symm
    · rw [List.length_eraseIdx_of_lt hk5]
      omega
  · obtain ⟨g3, hd3, ⟨ws, zs, ps, qs, e3, eL3, rw3, rz3, hp3, hlen⟩, o1, rfl⟩ := p3
    have : ps = [] := List.length_eq_zero_iff.mp (by rw [← rw3.length]; omega)
    subst this
    rw [List.append_nil] at hp3
    regloopunroll_open
    refine q H3 L zs qs (((f1.step0 f2).of0).trans g3 fun b m => ?_) hd3 (f1.free nL (by simp)) eL3 rz3 hp3
    simp only [List.mem_cons, List.not_mem_nil, or_false] at m
    rcases m with rfl | rfl | rfl
    · exact .inr n1
    · exact .inr (f1.free nL (by simp))
    · exact .inl (by simp)
def spPool : Sp := fun vs H Q _ => vs = [] ∧ ∀ H' L, Fr [] H H' → H L = none → H' L = some (.lst (poolL.map V.str)) → Q (.ref L) H'
theorem ok_law_pool (T : Top K mg) : Cal P w K mg base CX0 1 "_law_pool" [] spPool := by
  refine T.d_law_pool.cal sc_law_pool [none] rfl (fun vs H Q E h => ?_) (fun f cdv A outer s H vs Q E hk hr h => ?_)
  · obtain ⟨rfl, _⟩ := h; rfl
  obtain ⟨rfl, q⟩ := h
  have hu := hu_of hr
  refine ⟨_, (pss_cons (ps_set (i := 0) sc_law_pool.nd rfl (Or.inl rfl) pe_str) (pss_cons (ps_set (i := 0) sc_law_pool.nd rfl (Or.inl rfl) (pe_op (op_addGK (K := K) rfl) (pv 0) pe_str)) (pss_cons (ps_set (i := 0) sc_law_pool.nd rfl (Or.inl rfl) (pe_op (op_addGK (K := K) rfl) (pv 0) pe_str)) (pss_one (ps_ret (pe_split (pv 0) pe_str)))))), ?_⟩
  kpt_turns
  regloopunroll_open
  refine addG_str (by decide +kernel) ?_
  regloopunroll_open
  refine addG_str (by decide +kernel) ?_
  regloopunroll_open
  refine g_m1 ?_
  regloopunroll_open
  refine ⟨⟨_, rfl⟩, ?_⟩
  regloopunroll_open
  refine ⟨_, _, rfl, rfl, by decide +kernel, by decide +kernel, fun p np => ?_⟩
  refine q _ p (Fr.new np) np ?_
  rw [upd_same]
  exact congrArg (fun z : List Str => some (HO.lst (z.map V.str))) (by decide +kernel)

def spInt : Sp := fun vs H Q _ => ∃ i : Int, vs = [.int i] ∧ Q (.bl true) H
theorem ok_law_is_int (T : Top K mg) : Cal P w K mg base CX0 1 "_law_is_int" ["thing"] spInt := by
  refine T.d_law_is_int.cal sc_law_is_int [] rfl (fun vs H Q E h => ?_) (fun f cdv A outer s H vs Q E hk hr h => ?_)
  · obtain ⟨i, rfl, _⟩ := h; rfl
  obtain ⟨i, rfl, q⟩ := h
  have hu := hu_of hr
  refine ⟨_, (pss_one (ps_ret (pe_and (pe_callB (call_isiGK (K := K) rfl) (by rfl) T.m_isinstance (by decide +kernel) (pa_cons (pv 0) (pa_cons (pe_bltn (v := .ty "int") (u := .type "int") (by rfl) T.m_int (by decide +kernel) rfl) pa_nil))) (pe_one (pe_not (pe_callB (call_isiGK (K := K) rfl) (by rfl) T.m_isinstance (by decide +kernel) (pa_cons (pv 0) (pa_cons (pe_bltn (v := .ty "bool") (u := .type "bool") (by rfl) T.m_bool (by decide +kernel) rfl) pa_nil)))))))), ?_⟩
  kpt_turns
  regloopunroll_open
  exact q
def spOps (K : PySem.W.Frag) : Sp := fun vs H Q _ => ∃ (a c : Addr) (size many : Nat), vs = [.ref a, .int (size : Int), .int (many : Int)] ∧ DrawOk H a c ∧ 2 ≤ size ∧ size ≤ 4 ∧ 1 ≤ many ∧ many ≤ 8 ∧
  ∀ H' q us ops, Fr [a] H H' → DrawOk H' a c → H q = none → H' q = some (.lst us) → Reps K H' (ops.map op3D) us → OpsOk size ops → Q (.ref q) H'
theorem ok_law_operations (T : Top K mg) : Cal P w K mg base CX0 3 "_law_operations" ["d", "size", "many"] (spOps K) := by
  refine T.d_law_operations.cal sc_law_operations [none, none, none] rfl (fun vs H Q E h => ?_) (fun f cdv A outer s H vs Q E hk hr h => ?_)
  · obtain ⟨a, c, size, many, rfl, _⟩ := h; rfl
  obtain ⟨a, c, size, many, rfl, hd, hs1, hs2, hm1, hm2, q⟩ := h
  have hu := hu_of hr
  have C_law_draw := ok_law_draw (P := P) (w := w) (base := base) T
  have C_law_pop := ok_law_pop (P := P) (w := w) (base := base) T
  have C_law_pool := ok_law_pool (P := P) (w := w) (base := base) T
  have C_law_shuffled := ok_law_shuffled (P := P) (w := w) (base := base) T
  refine ⟨_, (pss_cons (ps_set (i := 3) sc_law_operations.nd rfl (Or.inl rfl) (pe_cal0 C_law_pool (hr.mono (by omega)) (by rfl) pass0)) (pss_cons (ps_set (i := 4) sc_law_operations.nd rfl (Or.inl rfl) (pe_lst (pa_cons (pe_tup (pa_cons (pe_cal C_law_pop (hr.mono (by omega)) (by rfl) pass0 (pa_cons (pv 0) (pa_cons (pv 3) pa_nil))) (pa_cons (pe_op (op_addGK (K := K) rfl) pe_int (pe_cal C_law_draw (hr.mono (by omega)) (by rfl) pass0 (pa_cons (pv 0) (pa_cons (pv 1) pa_nil)))) (pa_cons (pe_op op_sub (pv 1) (pe_cal C_law_draw (hr.mono (by omega)) (by rfl) pass0 (pa_cons (pv 0) (pa_cons (pe_op op_sub (pv 1) pe_int) pa_nil)))) pa_nil)))) pa_nil))) (pss_cons (ps_for PassesOwn.never rfl (pi_range1 (by rfl) T.m_range (pa_cons (pe_op op_sub (pv 2) pe_int) pa_nil)) (pg_name (i := 5) sc_law_operations.nd rfl (Or.inl rfl)) (pss_one (ps_expr (pe_bm PySem.F.plainAttrs_list PySem.F.slot_list_append PySem.F.type_list_append mt_append (pv 4) (pa_cons (pe_tup (pa_cons (pe_cal C_law_pop (hr.mono (by omega)) (by rfl) pass0 (pa_cons (pv 0) (pa_cons (pv 3) pa_nil))) (pa_cons (pe_op (op_addGK (K := K) rfl) pe_int (pe_cal C_law_draw (hr.mono (by omega)) (by rfl) pass0 (pa_cons (pv 0) (pa_cons (pv 1) pa_nil)))) (pa_cons (pe_cal C_law_draw (hr.mono (by omega)) (by rfl) pass0 (pa_cons (pv 0) (pa_cons (pe_op (op_addGK (K := K) rfl) (pv 1) pe_int) pa_nil))) pa_nil)))) pa_nil))))) (pss_one (ps_ret (pe_cal C_law_shuffled (hr.mono (by omega)) (by rfl) pass0 (pa_cons (pv 0) (pa_cons (pv 4) pa_nil)))))))), ?_⟩
  kpt_turns
  regloopunroll_open
  refine ⟨rfl, fun H1 N f1 nN eN => ?_⟩
  have hd1 := hd.fr0 f1
  have hNa := hd.neL nN
  have hNc := hd.neC nN
  have lpool : poolL.length = 73 := pool_len
  regloopunroll_open
  refine ⟨a, c, N, poolL.map V.str, rfl, hd1, eN, hNa, hNc, by rw [List.length_map]; omega, by rw [List.length_map]; omega, fun H2 j2 v2 f2 hd2 ev2 e2 => ?_⟩
  rw [List.getElem?_map] at ev2
  obtain ⟨nm, enm, rfl⟩ := Option.map_eq_some_iff.mp ev2
  rw [map_erase] at e2
  have hnm : nm ∈ poolL := List.mem_of_getElem? enm
  have lrem : (poolL.eraseIdx j2).length + 0 + 1 = 73 := by
    have := (List.getElem?_eq_some_iff.mp enm).1
    rw [List.length_eraseIdx_of_lt this]
    omega
  have srem : ∀ n ∈ poolL.eraseIdx j2, n ∈ poolL := fun n hn => List.mem_of_mem_eraseIdx hn
  generalize poolL.eraseIdx j2 = rem0 at e2 lrem srem
  regloopunroll_open
  rename_i H3 k3 f3 hd3 hk3 H4 k4 f4 hd4 hk4 H5 v5 f5 r5 H6 L f6 n6 e6
  have r5' : Rep K H5 (op3D (nm, 1 + k3, size - k4)) v5 := by
    unfold op3D
    rw [show ((1 + k3 : Nat) : Int) = 1 + (k3 : Int) by omega, show ((size - k4 : Nat) : Int) = (size : Int) - (k4 : Int) by omega]
    exact r5
  have hLa : L ≠ a := (hd4.fr0 f5).neL n6
  have hLc : L ≠ c := (hd4.fr0 f5).neC n6
  have eN6 : H6 N = some (.lst (rem0.map V.str)) := f6.at (f5.at (f4.at1 (f3.at1 e2 hNa) hNa))
  have hLN : L ≠ N := fun z => by
    subst z
    rw [f5.at (f4.at1 (f3.at1 e2 hNa) hNa)] at n6
    cases n6
  have hd6 := (hd4.fr0 f5).fr0 f6
  have g16 : Fr [N, a] H1 H6 := (((f2.more f3 (by simp)).more f4 (by simp)).step0 f5).step0 f6
  refine forR1_q (k := many - 1) (by omega) (by omega) (fun i σ' H' => Fr [N, L, a] H6 H' ∧ DrawOk H' a c ∧ (∃ (rem : List Str) (us : List V) (ops : List Op3), H' N = some (.lst (rem.map V.str)) ∧ rem.length + i + 1 = 73 ∧ (∀ n ∈ rem, n ∈ poolL) ∧ H' L = some (.lst us) ∧ Reps K H' (ops.map op3D) us ∧ ops.length = i + 1 ∧
      (∀ o ∈ ops, PyData.strOk o.1 = true ∧ 1 ≤ o.2.1 ∧ o.2.1 ≤ size ∧ o.2.2 ≤ size) ∧ ∃ o ∈ ops, 0 < o.2.2) ∧ ∃ o5, σ' = [some (.ref a), some (.int (size : Int)), some (.int (many : Int)), some (.ref N), some (.ref L), o5])
    ⟨Fr.refl _ _, hd6, ⟨rem0, _, [(nm, 1 + k3, size - k4)], eN6, lrem, srem, e6, reps_one (r5'.up f6), rfl, ?_, ?_⟩, _, rfl⟩ (fun i σ' H7 hi p7 => ?_) (fun σ' H7 p7 => ?_)
  · intro o ho
    rw [List.mem_singleton.mp ho]
    exact ⟨pool_ok nm hnm, by simp only; omega, by simp only; omega, by simp only; omega⟩
  · exact ⟨_, List.mem_singleton.mpr rfl, by simp only; omega⟩
  · obtain ⟨g7, hd7, ⟨rem, us, ops, eN7, lr, sr, eL7, rL, lo, allo, wo⟩, o5, rfl⟩ := p7
    regloopunroll_open
    refine ⟨a, c, N, rem.map V.str, rfl, hd7, eN7, hNa, hNc, by rw [List.length_map]; omega, by rw [List.length_map]; omega, fun H8 j8 v8 f8 hd8 ev8 e8 => ?_⟩
    rw [List.getElem?_map] at ev8
    obtain ⟨nm2, enm2, rfl⟩ := Option.map_eq_some_iff.mp ev8
    rw [map_erase] at e8
    have hj8 := (List.getElem?_eq_some_iff.mp enm2).1
    have eL8 := f8.keep _ _ eL7 (by simpa using ⟨hLN, hLa⟩)
    have lus : us.length < sizeLine := by
      have := rL.length
      rw [List.length_map] at this
      exact small1000 (by omega)
    regloopunroll_open
    rename_i H9 k9 f9 hd9 hk9 H10 k10 f10 hd10 hk10 H11 v11 f11 r11 H12 f12 e12
    have r11' : Rep K H11 (op3D (nm2, 1 + k9, k10)) v11 := by
      unfold op3D
      rw [show ((1 + k9 : Nat) : Int) = 1 + (k9 : Int) by omega]
      exact r11
    have g811 : Fr [a] H8 H11 := (f9.step f10).step0 f11
    have g712 : Fr [N, L, a] H7 H12 := (((Fr.refl _ _).more f8 (by simp)).more g811 (by simp)).more f12 (by simp)
    refine ⟨g7.step g712, (hd10.fr0 f11).fr1 f12 hLa hLc, ⟨rem.eraseIdx j8, _, ops ++ [(nm2, 1 + k9, k10)], f12.at1 (g811.at1 e8 hNa) hLN.symm, ?_, fun n hn => sr n (List.mem_of_mem_eraseIdx hn), e12, ?_, by simp [lo], ?_, ?_⟩, _, rfl⟩
    · rw [List.length_eraseIdx_of_lt hj8]
      omega
    · rw [List.map_append]
      exact (((rL.up f8).up g811).up f12).append (reps_one (r11'.up f12))
    · intro o ho
      rcases List.mem_append.mp ho with ho | ho
      · exact allo o ho
      · rw [List.mem_singleton.mp ho]
        exact ⟨pool_ok nm2 (sr _ (List.mem_of_getElem? enm2)), by simp only; omega, by simp only; omega, by simp only; omega⟩
    · obtain ⟨o, h1, h2⟩ := wo
      exact ⟨o, List.mem_append.mpr (.inl h1), h2⟩
  · obtain ⟨g7, hd7, ⟨rem, us, ops, eN7, lr, sr, eL7, rL, lo, allo, o, wo1, wo2⟩, o5, rfl⟩ := p7
    regloopunroll_open
    refine ⟨a, c, L, us, ops.map op3D, rfl, hd7, eL7, rL, by rw [List.length_map]; omega, fun H8 q8 ws es f8 hd8 n8 e8 r8 hperm => ?_⟩
    have hall : ∀ {es : List PyData}, (∀ e ∈ es, e ∈ ops.map op3D) → ∃ ops' : List Op3, es = ops'.map op3D ∧ ∀ o ∈ ops', o ∈ ops := fun {es} => by
      induction es with
      | nil => exact fun _ => ⟨[], rfl, fun o h => by cases h⟩
      | cons e es ih =>
        intro h
        obtain ⟨o, ho, rfl⟩ := List.mem_map.mp (h e (List.mem_cons_self ..))
        obtain ⟨os, rfl, h2⟩ := ih fun e he => h e (List.mem_cons_of_mem _ he)
        exact ⟨o :: os, rfl, fun x hx => by
          rcases List.mem_cons.mp hx with rfl | hx
          · exact ho
          · exact h2 x hx⟩
    obtain ⟨ops', rfl, hsub⟩ := hall fun e he => hperm.mem_iff.mp he
    have lo' : ops'.length = ops.length := by
      have := hperm.length_eq
      rwa [List.length_map, List.length_map] at this
    have g78 : Fr [N, L, a] H6 H8 := g7.more f8 (by simp)
    have nL1 : H1 L = none := by
      have g15 : Fr [N, a] H1 H5 := ((f2.more f3 (by simp)).more f4 (by simp)).step0 f5
      exact g15.free n6 (by simpa using ⟨hLN, hLa⟩)
    have hqL : q8 ≠ L := fun z => by subst z; rw [eL7] at n8; cases n8
    have hqN : q8 ≠ N := fun z => by subst z; rw [eN7] at n8; cases n8
    have hqa : q8 ≠ a := hd7.neL n8
    refine q H8 q8 ws ops' ?_ hd8 ?_ e8 r8 ⟨by omega, fun o ho => allo o (hsub o ho), ?_⟩
    · refine (f1.of0).trans (g16.trans g78 (fun b m => ?_) : Fr [N, a] H1 H8) (fun b m => ?_)
      · simp only [List.mem_cons, List.not_mem_nil, or_false] at m
        rcases m with rfl | rfl | rfl
        · exact .inl (by simp)
        · exact .inr nL1
        · exact .inl (by simp)
      · simp only [List.mem_cons, List.not_mem_nil, or_false] at m
        rcases m with rfl | rfl
        · exact .inr nN
        · exact .inl (by simp)
    · exact f1.free (g16.free (g7.free n8 (by simpa using ⟨hqN, hqL, hqa⟩)) (by simpa using ⟨hqN, hqa⟩)) (by simp)
    · have : op3D o ∈ ops'.map op3D := hperm.mem_iff.mpr (List.mem_map.mpr ⟨o, wo1, rfl⟩)
      obtain ⟨o', ho', e⟩ := List.mem_map.mp this
      refine ⟨o', ho', ?_⟩
      simp only [op3D, PyData.tuple.injEq, List.cons.injEq, PyData.int.injEq, and_true] at e
      omega

def spKid (P : Program) (w : World) (K : PySem.W.Frag) (C : Addr) : Sp := fun vs H Q _ => ∃ (a c wd : Addr) (A : WA) (size : Nat) (ops : List Op3) (ns : List Nd), vs = [.ref a, .ref wd] ∧ DrawOk H a c ∧ WoodAt P w K C H wd A size ops ns ∧ Dis wd A a c ∧ ns.length ≤ 900 ∧ ∀ H' k, Fr [a] H H' → DrawOk H' a c → k < ns.length → Q (.int ((k : Nat) : Int)) H'
theorem ok_law_kid (T : Top K mg) {C : Addr} : Cal P w K mg base CX0 3 "_law_kid" ["d", "wood"] (spKid P w K C) := by
  refine T.d_law_kid.cal sc_law_kid [] rfl (fun vs H Q E h => ?_) (fun f cdv A0 outer s H vs Q E hk hr h => ?_)
  · obtain ⟨a, c, wd, A, size, ops, ns, rfl, _⟩ := h; rfl
  obtain ⟨a, c, wd, A, size, ops, ns, rfl, hd, W, D, hl, q⟩ := h
  have hu := hu_of hr
  have C_law_draw := ok_law_draw (P := P) (w := w) (base := base) T
  have C_law_pick := ok_law_pick (P := P) (w := w) (base := base) T
  have hlo := W.ok.len
  have hl2 := W.ok.lo
  refine ⟨_, (pss_cons (ps_if (pt_cmpR (op_eqGK (K := K) rfl hr.units) (pe_cal C_law_draw (hr.mono (by omega)) (by rfl) pass0 (pa_cons (pv 0) (pa_cons pe_int pa_nil))) pe_int (nomark _)) (pss_one (ps_ret (pe_ix (ix_GK (K := K) rfl hu) (pe_ix (ix_GK (K := K) rfl hu) (pv 1) pe_int (fun _ _ => rfl)) (pe_op op_sub (pe_op op_sub (pe_callB (call_lenGK (K := K) rfl) (by rfl) T.m_len (by decide +kernel) (pa_cons (pe_ix (ix_GK (K := K) rfl hu) (pv 1) pe_int (fun _ _ => rfl)) pa_nil)) pe_int) (pe_cal C_law_draw (hr.mono (by omega)) (by rfl) pass0 (pa_cons (pv 0) (pa_cons (pe_callB (call_min2 rfl) (by rfl) T.m_min (by decide +kernel) (pa_cons (pe_callB (call_lenGK (K := K) rfl) (by rfl) T.m_len (by decide +kernel) (pa_cons (pe_ix (ix_GK (K := K) rfl hu) (pv 1) pe_int (fun _ _ => rfl)) pa_nil)) (pa_cons pe_int pa_nil))) pa_nil)))) (fun _ _ => rfl)))) pss_nil) (pss_one (ps_ret (pe_cal C_law_pick (hr.mono (by omega)) (by rfl) pass0 (pa_cons (pv 0) (pa_cons (pe_ix (ix_GK (K := K) rfl hu) (pv 1) pe_int (fun _ _ => rfl)) pa_nil)))))), ?_⟩
  kpt_turns
  regloopunroll_open
  rename_i H1 k1 f1 hd1 hk1
  have W1 := W.frA f1 D
  have ob := W1.ob
  have en := W1.nums
  have lln : ((List.range ns.length).map fun (i : Nat) => V.int (i : Int)).length = ns.length := by simp
  refine ifD (fun w0 => ?_) (fun w0 => ?_)
  · regloopunroll_open
    refine ⟨_, _, rfl, ?_⟩
    rw [lln]
    have hm : 0 < (if (5 : Int) < (ns.length : Int) then (5 : Int) else (ns.length : Int)) ∧ (if (5 : Int) < (ns.length : Int) then (5 : Int) else (ns.length : Int)) ≤ ns.length := by split <;> omega
    have hm2 : (if (5 : Int) < (ns.length : Int) then (5 : Int) else (ns.length : Int)) < 1000000000 := by omega
    have hm1 := hm.1
    generalize (if (5 : Int) < (ns.length : Int) then (5 : Int) else (ns.length : Int)) = m at hm hm1 hm2
    regloopunroll_open
    rename_i H2 k2 f2 hd2 hk2
    have ev : ((List.range ns.length).map fun (i : Nat) => V.int (i : Int))[ns.length - 1 - k2]? = some (.int ((ns.length - 1 - k2 : Nat) : Int)) := by
      rw [List.getElem?_map, List.getElem?_range (by omega)]; rfl
    refine ixL_q (.of (f2.at1 en (D.al _ (by simp [WA.all])).1)) ev (by omega) ?_
    exact q H2 _ (f1.step f2) hd2 (by omega)
  · regloopunroll_open
    refine pick_q hd1 (.of en) (D.al _ (by simp [WA.all])).1 (by rw [lln]; omega) (by rw [lln]; omega) (fun H2 i2 v2 f2 hd2 e2 => ?_)
    rw [List.getElem?_map] at e2
    obtain ⟨i, ei, rfl⟩ := Option.map_eq_some_iff.mp e2
    have := List.mem_range.mp (List.mem_of_getElem? ei)
    exact q H2 i (f1.step f2) hd2 this
def spAdd (P : Program) (w : World) (K : PySem.W.Frag) (C : Addr) : Sp := fun vs H Q _ => ∃ (wd : Addr) (A : WA) (size : Nat) (ops : List Op3) (ns : List Nd) (p : Str) (a : Nat) (ks : List Nat) (x : V), vs = [.ref wd, .str p, .int (a : Int), x] ∧ WoodAt P w K C H wd A size ops ns ∧ Rep K H (.tuple (ks.map natD)) x ∧ PyData.strOk p = true ∧ (∀ k ∈ ks, k < ns.length) ∧ ks.length ≤ 4 ∧ ns.length ≤ 900 ∧
  ∀ (H' : Hp) (i : Nat) (ns' : List Nd), Fr A.mut H H' → WoodAt P w K C H' wd A size ops ns' → (ns' = ns ∨ ns' = ns ++ [Nd.ask p a ks]) → ns'[i]? = some (Nd.ask p a ks) → Q (.int (i : Int)) H'
theorem ok_law_add (T : Top K mg) {C : Addr} (G : G_Grove K mg C) : Cal P w K mg base CX0 2 "_law_add" ["wood", "p", "argument", "kids"] (spAdd P w K C) := by
  refine T.d_law_add.cal sc_law_add [none] rfl (fun vs H Q E h => ?_) (fun f cdv A0 outer s H vs Q E hk hr h => ?_)
  · obtain ⟨wd, A, size, ops, ns, p, a, ks, x, rfl, _⟩ := h; rfl
  obtain ⟨wd, A, size, ops, ns, p, a, ks, x, rfl, W, hx, hp, hks, hkl, hl, q⟩ := h
  have hu := hu_of hr
  have C_Grove_ask := ok_Grove_ask (P := P) (w := w) (base := base) T G
  have ob := W.ob
  obtain ⟨dx, eg⟩ := W.gr.ob
  have noask : (gF size A.nl A.kn).lookup ("ask" : Str) = none := gF_no _ _ _ (by decide +kernel) (by decide +kernel) (by decide +kernel)
  have n1 := W.n1
  have n2 := W.n2
  have hkn : A.kn ≠ wd := by
    obtain ⟨xs, N, _⟩ := W.gr.kn
    exact fun z => by
      have e := N.ob
      rw [z, ob] at e
      have e' : HO.lst _ = HO.ext _ := Option.some.inj e
      cases e'
  have hlk : A.l ≠ A.kn := by
    obtain ⟨xs, N, _⟩ := W.gr.kn
    have e0 := W.nums
    exact fun z => by
      have e := N.ob
      rw [← z, e0] at e
      have e' : HO.lst _ = HO.ext _ := Option.some.inj e
      cases e'
  have hok : A.o ≠ A.kn := by
    obtain ⟨xs, N, _⟩ := W.gr.kn
    obtain ⟨kvs, e0, _⟩ := W.own
    exact fun z => by
      have e := N.ob
      rw [← z, e0] at e
      have e' : HO.dK _ = HO.ext _ := Option.some.inj e
      cases e'
  have hon : A.o ≠ A.nl := by
    obtain ⟨us, e1, _⟩ := W.gr.nd
    obtain ⟨kvs, e0, _⟩ := W.own
    exact ne_of e0 e1 (fun z => by cases z)
  have hol : A.o ≠ A.l := by
    obtain ⟨kvs, e0, _⟩ := W.own
    exact ne_of e0 W.nums (fun z => by cases z)
  have how : A.o ≠ wd := by
    obtain ⟨kvs, e0, _⟩ := W.own
    exact ne_of e0 ob (fun z => by cases z)
  have hqk : A.q ≠ A.kn := by
    obtain ⟨xs, N, _⟩ := W.gr.kn
    obtain ⟨us, e0, _⟩ := W.qs
    exact fun z => by
      have e := N.ob
      rw [← z, e0] at e
      have e' : HO.lst _ = HO.ext _ := Option.some.inj e
      cases e'
  have hqo : A.q ≠ A.o := by
    obtain ⟨us, e0, _⟩ := W.qs
    obtain ⟨kvs, e1, _⟩ := W.own
    exact ne_of e0 e1 (fun z => by cases z)
  have hgl : A.g ≠ A.l := ne_of eg W.nums (fun z => by cases z)
  have hgo : A.g ≠ A.o := by
    obtain ⟨kvs, e1, _⟩ := W.own
    exact ne_of eg e1 (fun z => by cases z)
  refine ⟨_, (pss_cons (ps_set (i := 4) sc_law_add.nd rfl (Or.inl rfl) (pe_met C_Grove_ask (hr.mono (by omega)) pass0 (pe_ix (ix_GK (K := K) rfl hu) (pv 0) pe_int (fun _ _ => rfl)) (pa_cons (pv 1) (pa_cons (pv 2) (pa_cons (pv 3) pa_nil))))) (pss_cons (ps_if (pt_cmpR (op_notIn2K (K := K) rfl hr.u65) (pv 4) (pe_ix (ix_GK (K := K) rfl hu) (pv 0) pe_int (fun _ _ => rfl)) (by rfl)) (pss_one (ps_expr (pe_bm PySem.F.plainAttrs_list PySem.F.slot_list_append PySem.F.type_list_append mt_append (pe_ix (ix_GK (K := K) rfl hu) (pv 0) pe_int (fun _ _ => rfl)) (pa_cons (pv 4) pa_nil)))) pss_nil) (pss_cons (ps_asg (pe_tup (pa_cons pe_str (pa_cons (pv 1) (pa_cons (pv 2) (pa_cons (pv 3) pa_nil))))) (pg_sub (pe_ix (ix_GK (K := K) rfl hu) (pv 0) pe_int (fun _ _ => rfl)) (pv 4) (set_G hu))) (pss_one (ps_ret (pv 4)))))), ?_⟩
  kpt_turns
  regloopunroll_open
  refine ⟨A.g, A.nl, A.kn, size, ns, p, a, ks, x, rfl, W.gr, hx, by omega, fun H1 i f1 g1 e1 => ?_, fun H1 f1 g1 => ?_⟩
  · have ob1 := f1.at ob
    have own1 := W.own.fr f1 (by simp)
    have hi : i < ns.length := (List.getElem?_eq_some_iff.mp e1).1
    have eo : aget (ownOf ns) i = some (.ask p a ks) := by rw [own_get]; exact e1
    regloopunroll_open
    refine dn_notIn own1 rfl ?_
    rw [eo]
    regloopunroll_open
    rename_i H2 v2 f2 r2
    refine dn_set (y := Nd.ask p a ks) (own1.fr f2 (by simp)) rfl r2 (by rw [own_len]; omega) (fun H3 f3 d3 => ?_)
    rw [aput_same (own_nd ns) eo] at d3
    regloopunroll_open
    have f13 : Fr A.mut H H3 := (((f1.of0).step0 f2).more f3 (by simp [WA.mut]))
    obtain ⟨us, e0, r0⟩ := W.qs
    refine q H3 i ns f13 ⟨f3.at1 (f2.at ob1) how.symm, (g1.fr0 f2).fr f3 (by simpa using hgo) (by simpa using hon.symm) (by simpa using hok.symm), d3, f3.at1 (f2.at (f1.at W.nums)) hol.symm, ⟨us, f3.at1 (f2.at (f1.at e0)) hqo, ((r0.up f1).up f2).up f3⟩, W.n1, W.n2, W.n3, W.n4, W.n5, W.ok, W.oo⟩ (.inl rfl) e1
  · have hnm : ∀ x, x ≠ A.nl → x ≠ A.kn → x ∉ [A.nl, A.kn] := fun x h1 h2 => by simpa using ⟨h1, h2⟩
    have ob1 := f1.keep _ _ ob (hnm _ W.n1.symm hkn.symm)
    have own1 := W.own.fr f1 (hnm _ hon hok)
    have en1 := f1.keep _ _ W.nums (hnm _ W.n3 hlk)
    have eo : aget (ownOf ns) ns.length = none := by rw [own_get]; simp
    have lln : ((List.range ns.length).map fun (i : Nat) => V.int (i : Int)).length < sizeLine := by
      rw [List.length_map, List.length_range, sizeLine_eq]; omega
    have hx1 := hx.up f1
    regloopunroll_open
    refine dn_notIn own1 rfl ?_
    rw [eo]
    regloopunroll_open
    rename_i H2 f2 e2 H3 v3 f3 r3
    have own3 := (own1.fr f2 (by simpa using hol)).fr f3 (by simp)
    have ob3 := f3.at (f2.at1 ob1 W.n2.symm)
    refine dn_set (y := Nd.ask p a ks) own3 rfl r3 (by rw [own_len]; omega) (fun H4 f4 d4 => ?_)
    rw [aput_new eo, ← own_snoc] at d4
    regloopunroll_open
    have f14 : Fr A.mut H H4 := ((((Fr.refl _ _).more f1 (by simp [WA.mut])).more f2 (by simp [WA.mut])).step0 f3).more f4 (by simp [WA.mut])
    obtain ⟨us, e0, r0⟩ := W.qs
    have g4 := ((g1.fr f2 (by simpa using hgl) (by simpa using W.n3.symm) (by simpa using hlk.symm)).fr0 f3).fr f4 (by simpa using hgo) (by simpa using hon.symm) (by simpa using hok.symm)
    refine q H4 ns.length _ f14 ⟨f4.at1 ob3 how.symm, g4, d4, ?_, ⟨us, f4.at1 (f3.at (f2.at1 (f1.keep _ _ e0 (hnm _ W.n4 hqk)) W.n5)) hqo, ((((r0.up f1).up f2).up f3).up f4)⟩, W.n1, W.n2, W.n3, W.n4, W.n5, W.ok.snoc hp hks hkl, W.oo⟩ (.inr rfl) (by simp)
    rw [f4.at1 (f3.at e2) hol.symm, List.length_append]
    simp [List.range_succ]

theorem reps_nats {K : PySem.W.Frag} {H : Hp} : ∀ ks : List Nat, Reps K H (ks.map natD) (ks.map fun (k : Nat) => V.int (k : Int))
  | [] => reps_nil
  | k :: ks => reps_cons rep_int (reps_nats ks)
def spGrow (P : Program) (w : World) (K : PySem.W.Frag) (C : Addr) : Sp := fun vs H Q _ => ∃ (a c wd : Addr) (A : WA) (size : Nat) (ops : List Op3) (ns : List Nd) (many : Nat), vs = [.ref a, .ref wd, .int (many : Int)] ∧ DrawOk H a c ∧ WoodAt P w K C H wd A size ops ns ∧ Dis wd A a c ∧ ns.length + many ≤ 900 ∧
  ∀ H' ns', Fr (a :: A.mut) H H' → DrawOk H' a c → WoodAt P w K C H' wd A size ops ns' → ns <+: ns' → ns'.length ≤ ns.length + many → Q .non H'
theorem ok_law_grow (T : Top K mg) {C : Addr} (G : G_Grove K mg C) : Cal P w K mg base CX0 4 "_law_grow" ["d", "wood", "many"] (spGrow P w K C) := by
  refine T.d_law_grow.cal sc_law_grow [none, none, none, none] rfl (fun vs H Q E h => ?_) (fun f cdv A0 outer s H vs Q E hk hr h => ?_)
  · obtain ⟨a, c, wd, A, size, ops, ns, many, rfl, _⟩ := h; rfl
  obtain ⟨a, c, wd, A, size, ops, ns, many, rfl, hd, W, D, hl, q⟩ := h
  have hu := hu_of hr
  have C_law_draw := ok_law_draw (P := P) (w := w) (base := base) T
  have C_law_pick := ok_law_pick (P := P) (w := w) (base := base) T
  have C_law_kid := ok_law_kid (P := P) (w := w) (base := base) T (C := C)
  have C_law_add := ok_law_add (P := P) (w := w) (base := base) T G
  have hAa : ∀ x ∈ A.mut, x ∈ a :: A.mut := fun x hx => List.mem_cons_of_mem _ hx
  have haA : ∀ x ∈ [a], x ∈ a :: A.mut := fun x hx => by rw [List.mem_singleton.mp hx]; exact List.mem_cons_self ..
  refine ⟨_, (pss_one (ps_for PassesOwn.never rfl (pi_range1 (by rfl) T.m_range (pa_cons (pv 2) pa_nil)) (pg_name (i := 3) sc_law_grow.nd rfl (Or.inl rfl)) (pss_cons (ps_set (i := 4) sc_law_grow.nd rfl (Or.inl rfl) (pe_cal C_law_pick (hr.mono (by omega)) (by rfl) pass0 (pa_cons (pv 0) (pa_cons (pe_ix (ix_GK (K := K) rfl hu) (pv 1) pe_int (fun _ _ => rfl)) pa_nil)))) (pss_cons (ps_set (i := 5) sc_law_grow.nd rfl (Or.inl rfl) (pe_callTy (call_tupGK (K := K) rfl) (by rfl) T.m_tuple (by decide +kernel) (pa_cons (pe_lc (own := [("j", 6)]) (g := gName 6) rfl sc_law_grow.nd (pi_range1 (by rfl) T.m_range (pa_cons (pe_ix (ix_GK (K := K) rfl hu) (pv 4) pe_int (fun _ _ => rfl)) pa_nil)) (blkOk_by (N := N_law_grow) (sc := defScope s_law_grow) (by decide +kernel)) (fun _ _ _ _ _ => pg_name (i := 6) sc_law_grow.nd rfl (Or.inl rfl)) (fun _ _ _ _ _ => pts_nil) (fun _ _ _ _ _ => (pe_cal C_law_kid (hr.mono (by omega)) (by rfl) pass0 (pa_cons (pv 0) (pa_cons (pv 1) pa_nil))))) pa_nil))) (pss_one (ps_expr (pe_cal C_law_add (hr.mono (by omega)) (by rfl) pass0 (pa_cons (pv 1) (pa_cons (pe_ix (ix_GK (K := K) rfl hu) (pv 4) pe_int (fun _ _ => rfl)) (pa_cons (pe_cal C_law_draw (hr.mono (by omega)) (by rfl) pass0 (pa_cons (pv 0) (pa_cons (pe_ix (ix_GK (K := K) rfl hu) (pv 4) pe_int (fun _ _ => rfl)) pa_nil))) (pa_cons (pv 5) pa_nil))))))))))), ?_⟩
  kpt_turns
  regloopunroll_open
  refine forR1_q (k := many) rfl (by omega) (fun i σ' H' => Fr (a :: A.mut) H H' ∧ DrawOk H' a c ∧ (∃ ns', WoodAt P w K C H' wd A size ops ns' ∧ ns <+: ns' ∧ ns'.length ≤ ns.length + i) ∧ ∃ o1 o2 o3, σ' = [some (.ref a), some (.ref wd), some (.int (many : Int)), o1, o2, o3, none]) ⟨Fr.refl _ _, hd, ⟨ns, W, List.prefix_refl _, Nat.le_refl _⟩, _, _, _, rfl⟩ (fun i σ' H1 hi p => ?_) (fun σ' H1 p => ?_)
  · obtain ⟨f1, hd1, ⟨ns1, W1, hpre, hl1⟩, o1, o2, o3, rfl⟩ := p
    have ob := W1.ob
    obtain ⟨us, eq, rq⟩ := W1.qs
    have lus : us.length = ops.length := by rw [rq.length, List.length_map]
    have lo8 := W1.oo.len
    have lo0 : 0 < ops.length := by
      obtain ⟨o, ho, _⟩ := W1.oo.wide
      exact List.length_pos_of_mem ho
    regloopunroll_open
    refine pick_q hd1 (.of eq) (D.al _ (by simp [WA.all])).1 (by omega) (by omega) (fun H2 i2 v2 f2 hd2 e2 => ?_)
    obtain ⟨dd, edd, rdd⟩ := rq.get' e2
    obtain ⟨o, eo, rfl⟩ := rows_at edd
    obtain ⟨so, ho1, ho2, ho3⟩ := W1.oo.all o (List.mem_of_getElem? eo)
    have W2 := W1.frA f2 D
    have hs4 := W1.ok.hi
    have rv2 : Rep K H2 (.tuple [.str o.1, .int (o.2.1 : Int), .int (o.2.2 : Int)]) v2 := rdd.up f2
    regloopunroll_open
    refine lcR1_q (k := o.2.2) rfl (by omega) (fun Dd j H' => Fr [a] H2 H' ∧ DrawOk H' a c ∧ ∃ ks : List Nat, H' Dd = some (.lst (ks.map fun (k : Nat) => V.int (k : Int))) ∧ ks.length = j ∧ ∀ k ∈ ks, k < ns1.length) (fun Dd nD => ⟨(Fr.new nD).of0, hd2.fr0 (Fr.new nD), [], upd_same, rfl, fun k h => by cases h⟩) (fun Dd j H' nD hj p => ?_) (fun Dd H3 nD p => ?_)
    · obtain ⟨fr, hd', ks, eD, lk, hks⟩ := p
      have hDa := hd2.neL nD
      have hDc := hd2.neC nD
      regloopunroll_open
      refine ⟨rfl, ?_⟩
      regloopunroll_open
      refine ⟨a, c, wd, A, size, ops, ns1, rfl, hd', W2.frA fr D, D, by omega, fun H4 k4 f4 hd4 hk4 => ?_⟩
      have eD4 := f4.at1 eD hDa
      have gD : Fr [Dd] H4 (upd H4 Dd (.lst ((ks.map fun (k : Nat) => V.int (k : Int)) ++ [.int (k4 : Int)]))) := Fr.setL eD4
      refine ⟨_, eD4, small1000 (by rw [List.length_map]; omega), (fr.step f4).over1 nD gD, hd4.fr1 gD hDa hDc, ks ++ [k4], by rw [upd_same, List.map_append]; rfl, by simp [lk], fun k h => ?_⟩
      rcases List.mem_append.mp h with h | h
      · exact hks k h
      · rw [List.mem_singleton.mp h]; exact hk4
    obtain ⟨f3, hd3, ks, eD, lk, hks⟩ := p
    have rv3 := rv2.up f3
    regloopunroll_open
    rename_i H4 p4 f4 n4 e4 H5 k5 f5 hd5 hk5
    have rk : Rep K H4 (.tuple (ks.map natD)) (.ref p4) := rep_tup e4 (reps_nats ks)
    have f25 : Fr [a] H2 H5 := (f3.step0 f4).step f5
    refine ⟨wd, A, size, ops, ns1, o.1, k5, ks, _, rfl, W2.frA f25 D, rk.up f5, so, hks, by omega, by omega, fun H6 i6 ns6 f6 W6 hcase e6 => ?_⟩
    regloopunroll_open
    refine ⟨((f1.more f2 haA).more f25 haA).more f6 hAa, hd5.frM f6 D, ⟨ns6, W6, ?_, ?_⟩, _, _, _, rfl⟩
    · rcases hcase with rfl | rfl
      · exact hpre
      · exact hpre.trans (List.prefix_append _ _)
    · rcases hcase with rfl | rfl
      · omega
      · rw [List.length_append]; simp only [List.length_cons, List.length_nil]; omega
  · obtain ⟨f1, hd1, ⟨ns1, W1, hpre, hl1⟩, o1, o2, o3, rfl⟩ := p
    regloopunroll_open
    exact q H1 ns1 f1 hd1 W1 hpre hl1
def spWood (P : Program) (w : World) (K : PySem.W.Frag) (C : Addr) : Sp := fun vs H Q _ => ∃ (a c : Addr) (many : Nat), vs = [.ref a, .int (many : Int)] ∧ DrawOk H a c ∧ many ≤ 800 ∧
  ∀ H' wd A size ops ns, Fr [a] H H' → DrawOk H' a c → WoodAt P w K C H' wd A size ops ns → Dis wd A a c → H wd = none → (∀ x ∈ A.all, H x = none) → ns.length ≤ 4 + many → Q (.ref wd) H'
theorem ok_law_wood (T : Top K mg) {C : Addr} (G : G_Grove K mg C) : Cal P w K mg base CX0 5 "_law_wood" ["d", "many"] (spWood P w K C) := by
  refine T.d_law_wood.cal sc_law_wood [none, none, none] rfl (fun vs H Q E h => ?_) (fun f cdv A0 outer s H vs Q E hk hr h => ?_)
  · obtain ⟨a, c, many, rfl, _⟩ := h; rfl
  obtain ⟨a, c, many, rfl, hd, hm, q⟩ := h
  have hu := hu_of hr
  have C_law_draw := ok_law_draw (P := P) (w := w) (base := base) T
  have C_law_operations := ok_law_operations (P := P) (w := w) (base := base) T
  have C_law_grow := ok_law_grow (P := P) (w := w) (base := base) T G
  have M_Grove := ok_Grove_init (P := P) (w := w) (base := base) T G
  refine ⟨_, (pss_cons (ps_set (i := 2) sc_law_wood.nd rfl (Or.inl rfl) (pe_op (op_addGK (K := K) rfl) pe_int (pe_cal C_law_draw (hr.mono (by omega)) (by rfl) pass0 (pa_cons (pv 0) (pa_cons pe_int pa_nil))))) (pss_cons (ps_set (i := 3) sc_law_wood.nd rfl (Or.inl rfl) (pe_lst (pa_cons (pe_mkc M_Grove (hr.mono (by omega)) (by rfl) pass0 (pa_cons (pv 2) pa_nil)) (pa_cons pe_dnewK (pa_cons (pe_lst pa_nil) (pa_cons (pe_cal C_law_operations (hr.mono (by omega)) (by rfl) pass0 (pa_cons (pv 0) (pa_cons (pv 2) (pa_cons (pe_op (op_addGK (K := K) rfl) pe_int (pe_cal C_law_draw (hr.mono (by omega)) (by rfl) pass0 (pa_cons (pv 0) (pa_cons pe_int pa_nil)))) pa_nil)))) pa_nil)))))) (pss_cons (ps_for PassesOwn.never rfl (pi_range1 (by rfl) T.m_range (pa_cons (pv 2) pa_nil)) (pg_name (i := 4) sc_law_wood.nd rfl (Or.inl rfl)) (pss_cons (ps_asg (pe_tup (pa_cons pe_str (pa_cons (pv 4) pa_nil))) (pg_sub (pe_ix (ix_GK (K := K) rfl hu) (pv 3) pe_int (fun _ _ => rfl)) (pv 4) (set_G hu))) (pss_one (ps_expr (pe_bm PySem.F.plainAttrs_list PySem.F.slot_list_append PySem.F.type_list_append mt_append (pe_ix (ix_GK (K := K) rfl hu) (pv 3) pe_int (fun _ _ => rfl)) (pa_cons (pv 4) pa_nil)))))) (pss_cons (ps_expr (pe_cal C_law_grow (hr.mono (by omega)) (by rfl) pass0 (pa_cons (pv 0) (pa_cons (pv 3) (pa_cons (pv 1) pa_nil))))) (pss_one (ps_ret (pv 3))))))), ?_⟩
  kpt_turns
  regloopunroll_open
  rename_i H1 k1 f1 hd1 hk1
  refine g_mk ?_
  regloopunroll_open
  refine make_q (fun g dx H2 ng ndx nedx f2 e2 => ?_)
  have hs2 : 2 ≤ 2 + k1 ∧ 2 + k1 ≤ 4 := by omega
  rw [show (2 : Int) + (k1 : Int) = ((2 + k1 : Nat) : Int) by omega]
  generalize 2 + k1 = size at hs2
  refine ⟨g, dx, size, rfl, e2, by omega, fun H3 nl kn f3 nnl nkn g3 => ⟨rfl, ?_⟩⟩
  have f13 : Fr [] H1 H3 := f2.over ng f3
  have nnl1 : H1 nl = none := f2.free nnl (by simp)
  have nkn1 : H1 kn = none := f2.free nkn (by simp)
  have hd3 := hd1.fr0 f13
  regloopunroll_open
  rename_i H4 o f4 no eo H5 l f5 nl5 el H6 k6 f6 hd6 hk6
  refine ⟨a, c, size, 1 + k6, by rw [show ((1 + k6 : Nat) : Int) = 1 + (k6 : Int) by omega], hd6, hs2.1, hs2.2, by omega, by omega, fun H7 q7 us7 ops f7 hd7 n7 e7 r7 oo => ?_⟩
  regloopunroll_open
  rename_i H8 wd f8 nwd ewd
  have hd4 := hd3.fr0 f4
  have hd5 := hd4.fr0 f5
  have hd8 := hd7.fr0 f8
  obtain ⟨dx3, eg3⟩ := g3.ob
  obtain ⟨usn, enl3, rnl3⟩ := g3.nd
  have hga : g ≠ a := hd1.neL ng
  have hna : nl ≠ a := hd1.neL nnl1
  have hka : kn ≠ a := hd1.neL nkn1
  have hoa : o ≠ a := hd3.neL no
  have hla : l ≠ a := hd4.neL nl5
  have hqa : q7 ≠ a := hd6.neL n7
  have hwa : wd ≠ a := hd7.neL nwd
  have f35 : Fr [] H3 H5 := f4.step f5
  have f57 : Fr [a] H5 H7 := f6.step f7
  have f38 : Fr [a] H3 H8 := ((f35.of0).step f57).step0 f8
  have g8 : GroveAt P w K C H8 g nl kn size ((List.range size).map Nd.val) := g3.fr f38 (by simpa using hga) (by simpa using hna) (by simpa using hka)
  have eo8 : H8 o = some (.dK []) := f8.at (f57.at1 (f5.at eo) hoa)
  have el8 : H8 l = some (.lst []) := f8.at (f57.at1 el hla)
  have eq8 := f8.at e7
  have rq8 := r7.up f8
  have hlo : l ≠ o := fun z => by subst z; rw [eo] at nl5; cases nl5
  have hwo : wd ≠ o := fun z => by subst z; rw [f57.at1 (f5.at eo) hoa] at nwd; cases nwd
  have hwl : wd ≠ l := fun z => by subst z; rw [f57.at1 el hla] at nwd; cases nwd
  have hwn : nl ≠ wd := fun z => by subst z; rw [(f35.of0 (l := [a]) |>.step f57).at1 enl3 hna] at nwd; cases nwd
  have hln : l ≠ nl := fun z => by subst z; rw [f4.at enl3] at nl5; cases nl5
  have hqn : q7 ≠ nl := fun z => by subst z; rw [f6.at1 (f35.at enl3) hna] at n7; cases n7
  have hql : q7 ≠ l := fun z => by subst z; rw [f6.at1 el hla] at n7; cases n7
  have hqo : q7 ≠ o := fun z => by subst z; rw [f6.at1 (f5.at eo) hoa] at n7; cases n7
  have hgo : g ≠ o := fun z => by subst z; rw [eg3] at no; cases no
  have hgl : g ≠ l := fun z => by subst z; rw [f4.at eg3] at nl5; cases nl5
  have hno : nl ≠ o := fun z => by subst z; rw [enl3] at no; cases no
  have hko : kn ≠ o := fun z => by
    obtain ⟨xs, N, _⟩ := g3.kn
    have e := N.ob
    rw [z, no] at e
    cases e
  have hkl : kn ≠ l := fun z => by
    obtain ⟨xs, N, _⟩ := g3.kn
    have e := f4.at N.ob
    rw [z, nl5] at e
    cases e
  have nH : ∀ x, H1 x = none → x ≠ a → H x = none := fun x h1 h2 => f1.free h1 (by simpa using h2)
  have n3H : ∀ x, H3 x = none → x ≠ a → H x = none := fun x h1 h2 => nH x (f13.free h1 (by simp)) h2
  have hHo : H o = none := n3H o no hoa
  have hHl : H l = none := n3H l (f4.free nl5 (by simp)) hla
  have hHq : H q7 = none := n3H q7 (f35.free (f6.free n7 (by simpa using hqa)) (by simp)) hqa
  have hHw : H wd = none := n3H wd (f35.free (f57.free nwd (by simpa using hwa)) (by simp)) hwa
  have f08 : Fr [a] H H8 := ((f1.step0 f13).step f38)
  have Ds : Dis wd ⟨g, nl, kn, o, l, q7⟩ a c := ⟨hwa, hd7.neC nwd, fun x hx => by
    simp only [WA.all, List.mem_cons, List.not_mem_nil, or_false] at hx
    rcases hx with rfl | rfl | rfl | rfl | rfl | rfl
    · exact ⟨hga, hd1.neC ng⟩
    · exact ⟨hna, hd1.neC nnl1⟩
    · exact ⟨hka, hd1.neC nkn1⟩
    · exact ⟨hoa, hd3.neC no⟩
    · exact ⟨hla, hd4.neC nl5⟩
    · exact ⟨hqa, hd6.neC n7⟩⟩
  refine forR1_q (k := size) rfl (by omega) (fun i σ' H' => Fr [o, l] H8 H' ∧ DN K H' Nd.toD o (ownOf ((List.range i).map Nd.val)) ∧ H' l = some (.lst ((List.range i).map fun (i : Nat) => V.int (i : Int))) ∧ ∃ o4, σ' = [some (.ref a), some (.int (many : Int)), some (.int (size : Int)), some (.ref wd), o4]) ⟨Fr.refl _ _, dn_new eo8, el8, _, rfl⟩ (fun i σ' H9 hi p => ?_) (fun σ' H9 p => ?_)
  · obtain ⟨f9, d9, e9, o4, rfl⟩ := p
    have ob9 := f9.keep _ _ ewd (by simpa using ⟨hwo, hwl⟩)
    have eo9 : aget (ownOf ((List.range i).map Nd.val)) i = none := by rw [own_get]; simp
    have ll9 : ((List.range i).map fun (i : Nat) => V.int (i : Int)).length < sizeLine := by rw [List.length_map, List.length_range, sizeLine_eq]; omega
    regloopunroll_open
    rename_i H10 v10 f10 r10
    refine dn_set (y := Nd.val i) (d9.fr f10 (by simp)) rfl r10 (by rw [own_len, List.length_map, List.length_range]; omega) (fun H11 f11 d11 => ?_)
    have ob11 := f11.at1 (f10.at ob9) hwo
    have e11 := f11.at1 (f10.at e9) hlo
    regloopunroll_open
    rename_i H12 f12 e12
    refine ⟨((f9.step0 f10).more f11 (by simp)).more f12 (by simp), ?_, ?_, _, rfl⟩
    · rw [List.range_succ, List.map_append]
      show DN K H12 Nd.toD o (ownOf ((List.range i).map Nd.val ++ [Nd.val i]))
      rw [own_snoc]
      rw [aput_new eo9] at d11
      have := d11.fr f12 (by simpa using hlo.symm)
      rwa [List.length_map, List.length_range]
    · rw [e12, List.range_succ, List.map_append]
      rfl
  · obtain ⟨f9, d9, e9, o4, rfl⟩ := p
    have ob9 := f9.keep _ _ ewd (by simpa using ⟨hwo, hwl⟩)
    have hols : ∀ x, x ≠ o → x ≠ l → x ∉ [o, l] := fun x h1 h2 => by simpa using ⟨h1, h2⟩
    have W9 : WoodAt P w K C H9 wd ⟨g, nl, kn, o, l, q7⟩ size ops ((List.range size).map Nd.val) := ⟨ob9, g8.fr f9 (hols _ hgo hgl) (hols _ hno hln.symm) (hols _ hko hkl), d9, by rw [List.length_map, List.length_range]; exact e9, ⟨us7, f9.keep _ _ eq8 (hols _ hqo hql), rq8.up f9⟩, hwn, hwl.symm, hln, hqn, hql, .base hs2.1 hs2.2, oo⟩
    have hd9 : DrawOk H9 a c := hd8.fr f9 (by simpa using ⟨hoa.symm, hla.symm⟩) (by simpa using ⟨(hd3.neC no).symm, (hd4.neC nl5).symm⟩)
    regloopunroll_open
    refine ⟨a, c, wd, _, size, ops, _, many, rfl, hd9, W9, Ds, by rw [List.length_map, List.length_range]; omega, fun H10 ns' f10 hd10 W10 hpre hl10 => ?_⟩
    regloopunroll_open
    refine q H10 wd _ size ops ns' ?_ hd10 W10 Ds hHw (fun x hx => ?_) (by rw [List.length_map, List.length_range] at hl10; omega)
    · have f89 : Fr [o, l, a, nl, kn] H8 H9 := f9.mono fun b m => by
        simp only [List.mem_cons, List.not_mem_nil, or_false] at m ⊢
        rcases m with rfl | rfl <;> simp
      refine f08.trans (f89.more f10 fun b m => ?_) (fun b m => ?_)
      · simp only [WA.mut, List.mem_cons, List.not_mem_nil, or_false] at m ⊢
        rcases m with rfl | rfl | rfl | rfl | rfl <;> simp
      · simp only [List.mem_cons, List.not_mem_nil, or_false] at m
        rcases m with rfl | rfl | rfl | rfl | rfl
        · exact .inr hHo
        · exact .inr hHl
        · exact .inl (by simp)
        · exact .inr (nH _ nnl1 hna)
        · exact .inr (nH _ nkn1 hka)
    · simp only [WA.all, List.mem_cons, List.not_mem_nil, or_false] at hx
      rcases hx with rfl | rfl | rfl | rfl | rfl | rfl
      · exact nH _ ng hga
      · exact nH _ nnl1 hna
      · exact nH _ nkn1 hka
      · exact hHo
      · exact hHl
      · exact hHq

theorem gF_nonode {size : Nat} {nl kn : Addr} : (gF size nl kn).lookup ("node" : Str) = none := gF_no _ _ _ (by decide +kernel) (by decide +kernel) (by decide +kernel)
theorem reps_ints' {K : PySem.W.Frag} {H : Hp} (ys : List Int) : Reps K H (ys.map .int) (ys.map V.int) := reps_ints ys
def spTrace (P : Program) (w : World) (K : PySem.W.Frag) (C : Addr) : Sp := fun vs H Q _ => ∃ (g nl kn : Addr) (size : Nat) (ns : List Nd) (i : Nat) (wl : List Int) (x : V), vs = [.ref g, .int (i : Int), x] ∧ GroveAt P w K C H g nl kn size ns ∧ NsOk size ns ∧ i < ns.length ∧ wl.length ≤ 800 ∧ Rep K H (.tuple (wl.map .int)) x ∧ ∀ H' v, Fr [] H H' → Rep K H' (tellD (down ns wl i)) v → Q v H'
theorem ok_trace (T : Top K mg) {C : Addr} (G : G_Grove K mg C) : Cal P w K mg base CX0 2 "trace" ["grove", "node", "world"] (spTrace P w K C) := by
  refine T.d_trace.cal sc_trace [none, none, none, none, none, none] rfl (fun vs H Q E h => ?_) (fun f cdv A0 outer s H vs Q E hk hr h => ?_)
  · obtain ⟨g, nl, kn, size, ns, i, wl, x, rfl, _⟩ := h; rfl
  obtain ⟨g, nl, kn, size, ns, i0, wl, x, rfl, hg, hok, hi, hl, hx, q⟩ := h
  have hu := hu_of hr
  have C_Grove_node := ok_Grove_node (P := P) (w := w) (base := base) T G
  have nono := gF_nonode (size := size) (nl := nl) (kn := kn)
  refine ⟨_, (pss_cons (ps_set (i := 3) sc_trace.nd rfl (Or.inl rfl) (pe_lst pa_nil)) (pss_cons (ps_set (i := 4) sc_trace.nd rfl (Or.inl rfl) (pv 1)) (pss_cons (ps_set (i := 5) sc_trace.nd rfl (Or.inl rfl) pe_int) (pss_one (ps_while PassesOwn.never (pt_val pe_bl) (pss_cons (ps_set (i := 6) sc_trace.nd rfl (Or.inl rfl) (pe_met C_Grove_node (hr.mono (by omega)) pass0 (pv 0) (pa_cons (pv 4) pa_nil))) (pss_cons (ps_if (pt_cmpR (op_eqGK (K := K) rfl hr.units) (pe_ix (ix_GK (K := K) rfl hu) (pv 6) pe_int (fun _ _ => rfl)) pe_str (nomark _)) (pss_one (ps_ret (pe_tup (pa_cons (pe_callTy (call_tupGK (K := K) rfl) (by rfl) T.m_tuple (by decide +kernel) (pa_cons (pv 3) pa_nil)) (pa_cons (pe_tup (pa_cons pe_str (pa_cons (pe_ix (ix_GK (K := K) rfl hu) (pv 6) pe_int (fun _ _ => rfl)) pa_nil))) pa_nil))))) pss_nil) (pss_cons (ps_set (i := 7) sc_trace.nd rfl (Or.inl rfl) (pe_ix (ix_GK (K := K) rfl hu) (pv 6) pe_int (fun _ _ => rfl))) (pss_cons (ps_if (pt_cmpR (op_eqGK (K := K) rfl hr.units) (pe_callB (call_lenGK (K := K) rfl) (by rfl) T.m_len (by decide +kernel) (pa_cons (pv 7) pa_nil)) pe_int (nomark _)) (pss_one (ps_ret (pe_tup (pa_cons (pe_callTy (call_tupGK (K := K) rfl) (by rfl) T.m_tuple (by decide +kernel) (pa_cons (pv 3) pa_nil)) (pa_cons (pe_tup (pa_cons pe_str (pa_cons (pe_ix (ix_GK (K := K) rfl hu) (pv 6) pe_int (fun _ _ => rfl)) (pa_cons (pe_ix (ix_GK (K := K) rfl hu) (pv 6) pe_int (fun _ _ => rfl)) pa_nil)))) pa_nil))))) pss_nil) (pss_cons (ps_if (pt_cmpR op_ge (pv 5) (pe_callB (call_lenGK (K := K) rfl) (by rfl) T.m_len (by decide +kernel) (pa_cons (pv 2) pa_nil)) (nomark _)) (pss_one (ps_ret (pe_tup (pa_cons (pe_callTy (call_tupGK (K := K) rfl) (by rfl) T.m_tuple (by decide +kernel) (pa_cons (pv 3) pa_nil)) (pa_cons (pe_tup (pa_cons pe_str (pa_cons (pe_ix (ix_GK (K := K) rfl hu) (pv 6) pe_int (fun _ _ => rfl)) (pa_cons (pe_ix (ix_GK (K := K) rfl hu) (pv 6) pe_int (fun _ _ => rfl)) pa_nil)))) pa_nil))))) pss_nil) (pss_cons (ps_set (i := 8) sc_trace.nd rfl (Or.inl rfl) (pe_op op_mod (pe_ix (ix_GK (K := K) rfl hu) (pv 2) (pv 5) (fun _ _ => rfl)) (pe_callB (call_lenGK (K := K) rfl) (by rfl) T.m_len (by decide +kernel) (pa_cons (pv 7) pa_nil)))) (pss_cons (ps_expr (pe_bm PySem.F.plainAttrs_list PySem.F.slot_list_append PySem.F.type_list_append mt_append (pv 3) (pa_cons (pe_tup (pa_cons (pe_ix (ix_GK (K := K) rfl hu) (pv 6) pe_int (fun _ _ => rfl)) (pa_cons (pe_ix (ix_GK (K := K) rfl hu) (pv 6) pe_int (fun _ _ => rfl)) (pa_cons (pv 8) pa_nil)))) pa_nil))) (pss_cons (ps_set (i := 4) sc_trace.nd rfl (Or.inl rfl) (pe_ix (ix_GK (K := K) rfl hu) (pv 7) (pv 8) (fun _ _ => rfl))) (pss_one (ps_aug (i := 5) sc_trace.nd rfl (Or.inl rfl) pe_int ip_add))))))))))))))), ?_⟩
  kpt_turns
  regloopunroll_open
  rename_i H1 S f1 nS eS
  have hg1 := hg.fr0 f1
  have hx1 := hx.up f1
  have hSg : S ≠ g := fun z => by
    subst z
    obtain ⟨dx, e⟩ := hg.ob
    rw [e] at nS
    cases nS
  have hSn : S ≠ nl := fun z => by
    subst z
    obtain ⟨us, e, _⟩ := hg.nd
    rw [e] at nS
    cases nS
  have hSk : S ≠ kn := fun z => by
    subst z
    obtain ⟨xs, N, _⟩ := hg.kn
    rw [N.ob] at nS
    cases nS
  refine g_while (fun m σ H' => ∃ (pre : List St3) (i u : Nat) (o6 o7 o8 : Option V), m = wl.length - u ∧ σ = [some (.ref g), some (.int (i0 : Int)), some x, some (.ref S), some (.int (i : Int)), some (.int (u : Int)), o6, o7, o8] ∧ Fr [S] H1 H' ∧ (∃ us, H' S = some (.lst us) ∧ Reps K H' (pre.map st3D) us) ∧ i < ns.length ∧ u ≤ wl.length ∧ pre.length = u ∧ down ns wl i0 = (pre ++ (down ns (wl.drop u) i).1, (down ns (wl.drop u) i).2)) wl.length
    ⟨[], i0, 0, none, none, none, rfl, rfl, Fr.refl _ _, ⟨[], eS, reps_nil⟩, hi, Nat.zero_le _, rfl, by simp⟩ (fun m σ H' hW => ?_)
  obtain ⟨pre, i, u, o6, o7, o8, rfl, rfl, fr, ⟨us, eS', rus⟩, hi', hu', hpre, hdn⟩ := hW
  regloopunroll_open
  refine wb_mk ?_
  have hg' := hg1.fr fr (by simpa using hSg.symm) (by simpa using hSn.symm) (by simpa using hSk.symm)
  obtain ⟨dx, eg⟩ := hg'.ob
  have hx' := hx1.up fr
  have e : ns[i]? = some ns[i] := List.getElem?_eq_getElem hi'
  generalize ns[i] = nd at e
  regloopunroll_open
  refine ⟨g, nl, kn, size, ns, i, nd, rfl, hg', e, fun v hv => ?_⟩
  have fin : ∀ (H3 H4 H5 : Hp) (p3 p5 : Addr) (v4 : V) (en : En), Fr [] H' H3 → H3 p3 = some (.tup us) → Fr [] H3 H4 → Rep K H4 en.toD v4 → Fr [] H4 H5 → H5 p5 = some (.tup [.ref p3, v4]) → down ns wl i0 = (pre, en) → Q (.ref p5) H5 := fun H3 H4 H5 p3 p5 v4 en f3 e3 f4 r4 f5 e5 hd => by
    refine q H5 (.ref p5) ((((f1.over nS fr).step f3).step f4).step f5) ?_
    rw [hd]
    exact rep_tup e5 (reps_cons (rep_tup (f5.at (f4.at e3)) (((rus.up f3).up f4).up f5)) (reps_one (r4.up f5)))
  cases nd with
  | val vv =>
    replace hv : Rep K H' (.tuple [.str "value", .int (vv : Int)]) v := hv
    have hd : down ns wl i0 = (pre, .ends vv) := by rw [hdn, down_val e]; simp
    regloopunroll_open
    rename_i H3 p3 f3 n3 e3 H4 v4 f4 r4 H5 p5 f5 n5 e5
    exact fin H3 H4 H5 p3 p5 v4 (.ends vv) f3 e3 f4 r4 f5 e5 hd
  | ask p a ks =>
    replace hv : Rep K H' (.tuple [.str "ask", .str p, .int (a : Int), .tuple (ks.map natD)]) v := hv
    regloopunroll_open
    rename_i v7 h7
    refine ifD (fun w0 => ?_) (fun w0 => ?_)
    · have hk : ks = [] := by
        cases ks with
        | nil => rfl
        | cons _ _ => exact absurd w0 (by simp; omega)
      subst hk
      have hd : down ns wl i0 = (pre, .stops p a) := by rw [hdn, down_stop e]; simp
      regloopunroll_open
      rename_i H3 p3 f3 n3 e3 H4 v4 f4 r4 H5 p5 f5 n5 e5
      exact fin H3 H4 H5 p3 p5 v4 (.stops p a) f3 e3 f4 r4 f5 e5 hd
    · have hk : 0 < ks.length := by
        cases ks with
        | nil => exact absurd rfl w0
        | cons _ _ => simp
      regloopunroll_open
      refine ifD (fun w1 => ?_) (fun w1 => ?_)
      · rw [List.length_map] at w1
        have hd : down ns wl i0 = (pre, .waits p a) := by
          rw [hdn, List.drop_of_length_le (by omega), down_wait e hk]; simp
        regloopunroll_open
        rename_i H3 p3 f3 n3 e3 H4 v4 f4 r4 H5 p5 f5 n5 e5
        exact fin H3 H4 H5 p3 p5 v4 (.waits p a) f3 e3 f4 r4 f5 e5 hd
      · rw [List.length_map] at w1
        have hul : u < wl.length := by omega
        have ew : wl[u]? = some wl[u] := List.getElem?_eq_getElem hul
        have edrop : wl.drop u = wl[u] :: wl.drop (u + 1) := List.drop_eq_getElem_cons hul
        generalize wl[u] = wu at ew edrop
        have hkl : (0 : Int) < (((ks.map natD).length : Nat) : Int) := by rw [List.length_map]; omega
        have hus : us.length < sizeLine := by
          have := rus.length
          rw [List.length_map] at this
          exact small1000 (by omega)
        obtain ⟨j, hj, hjl⟩ := mod_lt wu (n := (ks.map natD).length) (by rw [List.length_map]; exact hk)
        regloopunroll_open
        refine ix_repI (i := u) hx' (by rw [List.getElem?_map, ew]; rfl) ?_
        regloopunroll_open
        rename_i H3 v3 f3 r3 H4 f4 e4
        rw [hj] at r3 ⊢
        rw [List.length_map] at hj hjl
        have ek : ks[j]? = some ks[j] := List.getElem?_eq_getElem hjl
        refine ix_rep (i := j) ((h7.up f3).up f4) (by rw [List.getElem?_map, ek]; rfl) (fun v5 h5 => ?_)
        unfold natD Rep at h5
        subst h5
        have hkid : ks[j] < ns.length := Nat.lt_trans (hok.wf i p a ks e _ (List.getElem_mem hjl)) hi'
        regloopunroll_open
        rw [show (u : Int) + 1 = ((u + 1 : Nat) : Int) by omega]
        refine ⟨wl.length - (u + 1), by omega, pre ++ [(p, a, j)], ks[j], u + 1, _, _, _, rfl, rfl, (fr.step0 f3).step f4, ⟨_, e4, ?_⟩, hkid, by omega, by simp [hpre], ?_⟩
        · rw [List.map_append]
          exact ((rus.up f3).up f4).append (reps_one (r3.up f4))
        · rw [hdn, edrop, down_go e hj ek]
          simp

def spDown (K : PySem.W.Frag) : Sp := fun vs H Q _ => ∃ (o : Addr) (size : Nat) (ns : List Nd) (i : Nat) (wl : List Int) (x : V), vs = [.ref o, .int (i : Int), x] ∧ DN K H Nd.toD o (ownOf ns) ∧ NsOk size ns ∧ i < ns.length ∧ wl.length ≤ 800 ∧ Rep K H (.tuple (wl.map .int)) x ∧ ∀ H' v, Fr [] H H' → Rep K H' (tellD (down ns wl i)) v → Q v H'
theorem ok_law_down (T : Top K mg) : Cal P w K mg base CX0 2 "_law_down" ["own", "node", "world"] (spDown K) := by
  refine T.d_law_down.cal sc_law_down [none, none, none, none, none] rfl (fun vs H Q E h => ?_) (fun f cdv A0 outer s H vs Q E hk hr h => ?_)
  · obtain ⟨o, size, ns, i, wl, x, rfl, _⟩ := h; rfl
  obtain ⟨o, size, ns, i0, wl, x, rfl, hown, hok, hi, hl, hx, q⟩ := h
  have hu := hu_of hr
  refine ⟨_, (pss_cons (ps_set (i := 3) sc_law_down.nd rfl (Or.inl rfl) (pe_lst pa_nil)) (pss_cons (ps_set (i := 4) sc_law_down.nd rfl (Or.inl rfl) pe_int) (pss_cons (ps_while PassesOwn.never (PW.pt (pw_and (pt_cmpR (op_eqGK (K := K) rfl hr.units) (pe_ix (ix_GK (K := K) rfl hu) (pe_ix (ix_GK (K := K) rfl hu) (pv 0) (pv 1) (fun _ _ => rfl)) pe_int (fun _ _ => rfl)) pe_str (nomark _)) (pw_and (pt_cmpR op_gt (pe_callB (call_lenGK (K := K) rfl) (by rfl) T.m_len (by decide +kernel) (pa_cons (pe_ix (ix_GK (K := K) rfl hu) (pe_ix (ix_GK (K := K) rfl hu) (pv 0) (pv 1) (fun _ _ => rfl)) pe_int (fun _ _ => rfl)) pa_nil)) pe_int (nomark _)) (pw_and1 (pt_cmpR (op_lt2K (K := K) rfl hr.u65) (pv 4) (pe_callB (call_lenGK (K := K) rfl) (by rfl) T.m_len (by decide +kernel) (pa_cons (pv 2) pa_nil)) (nomark _)))))) (pss_cons (ps_set (i := 5) sc_law_down.nd rfl (Or.inl rfl) (pe_ix (ix_GK (K := K) rfl hu) (pe_ix (ix_GK (K := K) rfl hu) (pv 0) (pv 1) (fun _ _ => rfl)) pe_int (fun _ _ => rfl))) (pss_cons (ps_set (i := 6) sc_law_down.nd rfl (Or.inl rfl) (pe_op op_mod (pe_callTy call_intG (by rfl) T.m_int (by decide +kernel) (pa_cons (pe_ix (ix_GK (K := K) rfl hu) (pv 2) (pv 4) (fun _ _ => rfl)) pa_nil)) (pe_callB (call_lenGK (K := K) rfl) (by rfl) T.m_len (by decide +kernel) (pa_cons (pv 5) pa_nil)))) (pss_cons (ps_expr (pe_bm PySem.F.plainAttrs_list PySem.F.slot_list_append PySem.F.type_list_append mt_append (pv 3) (pa_cons (pe_tup (pa_cons (pe_ix (ix_GK (K := K) rfl hu) (pe_ix (ix_GK (K := K) rfl hu) (pv 0) (pv 1) (fun _ _ => rfl)) pe_int (fun _ _ => rfl)) (pa_cons (pe_ix (ix_GK (K := K) rfl hu) (pe_ix (ix_GK (K := K) rfl hu) (pv 0) (pv 1) (fun _ _ => rfl)) pe_int (fun _ _ => rfl)) (pa_cons (pv 6) pa_nil)))) pa_nil))) (pss_cons (ps_set (i := 1) sc_law_down.nd rfl (Or.inl rfl) (pe_ix (ix_GK (K := K) rfl hu) (pv 5) (pv 6) (fun _ _ => rfl))) (pss_one (ps_aug (i := 4) sc_law_down.nd rfl (Or.inl rfl) pe_int ip_add))))))) (pss_cons (ps_if (pt_cmpR (op_eqGK (K := K) rfl hr.units) (pe_ix (ix_GK (K := K) rfl hu) (pe_ix (ix_GK (K := K) rfl hu) (pv 0) (pv 1) (fun _ _ => rfl)) pe_int (fun _ _ => rfl)) pe_str (nomark _)) (pss_one (ps_ret (pe_tup (pa_cons (pe_callTy (call_tupGK (K := K) rfl) (by rfl) T.m_tuple (by decide +kernel) (pa_cons (pv 3) pa_nil)) (pa_cons (pe_tup (pa_cons pe_str (pa_cons (pe_ix (ix_GK (K := K) rfl hu) (pe_ix (ix_GK (K := K) rfl hu) (pv 0) (pv 1) (fun _ _ => rfl)) pe_int (fun _ _ => rfl)) pa_nil))) pa_nil))))) pss_nil) (pss_cons (ps_set (i := 7) sc_law_down.nd rfl (Or.inl rfl) (pe_ifExp (pt_cmpR (op_eqGK (K := K) rfl hr.units) (pe_callB (call_lenGK (K := K) rfl) (by rfl) T.m_len (by decide +kernel) (pa_cons (pe_ix (ix_GK (K := K) rfl hu) (pe_ix (ix_GK (K := K) rfl hu) (pv 0) (pv 1) (fun _ _ => rfl)) pe_int (fun _ _ => rfl)) pa_nil)) pe_int (nomark _)) pe_str pe_str)) (pss_one (ps_ret (pe_tup (pa_cons (pe_callTy (call_tupGK (K := K) rfl) (by rfl) T.m_tuple (by decide +kernel) (pa_cons (pv 3) pa_nil)) (pa_cons (pe_tup (pa_cons (pv 7) (pa_cons (pe_ix (ix_GK (K := K) rfl hu) (pe_ix (ix_GK (K := K) rfl hu) (pv 0) (pv 1) (fun _ _ => rfl)) pe_int (fun _ _ => rfl)) (pa_cons (pe_ix (ix_GK (K := K) rfl hu) (pe_ix (ix_GK (K := K) rfl hu) (pv 0) (pv 1) (fun _ _ => rfl)) pe_int (fun _ _ => rfl)) pa_nil)))) pa_nil)))))))))), ?_⟩
  kpt_turns
  regloopunroll_open
  rename_i H1 S f1 nS eS
  have hown1 := hown.fr f1 (by simp)
  have hx1 := hx.up f1
  have hSo : o ≠ S := fun z => by
    subst z
    obtain ⟨kvs, e, _⟩ := hown
    rw [e] at nS
    cases nS
  refine g_while (fun m σ H' => ∃ (pre : List St3) (i u : Nat) (o5 o6 : Option V), m = wl.length - u ∧ σ = [some (.ref o), some (.int (i : Int)), some x, some (.ref S), some (.int (u : Int)), o5, o6, none] ∧ Fr [S] H1 H' ∧ (∃ us, H' S = some (.lst us) ∧ Reps K H' (pre.map st3D) us) ∧ i < ns.length ∧ u ≤ wl.length ∧ pre.length = u ∧ down ns wl i0 = (pre ++ (down ns (wl.drop u) i).1, (down ns (wl.drop u) i).2)) wl.length
    ⟨[], i0, 0, none, none, rfl, rfl, Fr.refl _ _, ⟨[], eS, reps_nil⟩, hi, Nat.zero_le _, rfl, by simp⟩ (fun m σ H' hW => ?_)
  obtain ⟨pre, i, u, o5, o6, rfl, rfl, fr, ⟨us, eS', rus⟩, hi', hu', hpre, hdn⟩ := hW
  have hown' := hown1.fr fr (by simpa using hSo)
  have hx' := hx1.up fr
  have e : ns[i]? = some ns[i] := List.getElem?_eq_getElem hi'
  generalize ns[i] = nd at e
  have eo : aget (ownOf ns) i = some nd := by rw [own_get]; exact e
  have fin : ∀ (H3 H4 H5 : Hp) (p3 p5 : Addr) (v4 : V) (en : En), Fr [] H' H3 → H3 p3 = some (.tup us) → Fr [] H3 H4 → Rep K H4 en.toD v4 → Fr [] H4 H5 → H5 p5 = some (.tup [.ref p3, v4]) → down ns wl i0 = (pre, en) → Q (.ref p5) H5 := fun H3 H4 H5 p3 p5 v4 en f3 e3 f4 r4 f5 e5 hd => by
    refine q H5 (.ref p5) ((((f1.over nS fr).step f3).step f4).step f5) ?_
    rw [hd]
    exact rep_tup e5 (reps_cons (rep_tup (f5.at (f4.at e3)) (((rus.up f3).up f4).up f5)) (reps_one (r4.up f5)))
  regloopunroll_open
  refine dn_ix hown' rfl eo (fun v1 h1 => ?_)
  cases nd with
  | val vv =>
    replace h1 : Rep K H' (.tuple [.str "value", .int (vv : Int)]) v1 := h1
    have hd : down ns wl i0 = (pre, .ends vv) := by rw [hdn, down_val e]; simp
    regloopunroll_open
    refine dn_ix hown' rfl eo (fun v2 h2 => ?_)
    replace h2 : Rep K H' (.tuple [.str "value", .int (vv : Int)]) v2 := h2
    regloopunroll_open
    rename_i H3 p3 f3 n3 e3
    refine dn_ix (hown'.fr f3 (by simp)) rfl eo (fun v3 h3 => ?_)
    replace h3 : Rep K H3 (.tuple [.str "value", .int (vv : Int)]) v3 := h3
    regloopunroll_open
    rename_i H4 v4 f4 r4 H5 p5 f5 n5 e5
    exact fin H3 H4 H5 p3 p5 v4 (.ends vv) f3 e3 f4 r4 f5 e5 hd
  | ask p a ks =>
    replace h1 : Rep K H' (.tuple [.str "ask", .str p, .int (a : Int), .tuple (ks.map natD)]) v1 := h1
    have askv : ∀ {H2 : Hp} {v : V}, Rep K H2 (Nd.ask p a ks).toD v → Rep K H2 (.tuple [.str "ask", .str p, .int (a : Int), .tuple (ks.map natD)]) v := fun h => h
    regloopunroll_open
    refine dn_ix hown' rfl eo (fun v2 h2 => ?_)
    replace h2 := askv h2
    regloopunroll_open
    rename_i v3 h3
    refine ifD (fun w0 => ?_) (fun w0 => ?_)
    · have hk : 0 < ks.length := by rw [List.length_map] at w0; omega
      regloopunroll_open
      refine ifD (fun w1 => ?_) (fun w1 => ?_)
      · rw [List.length_map] at w1
        refine wb_mk ?_
        have hul : u < wl.length := by omega
        have ew : wl[u]? = some wl[u] := List.getElem?_eq_getElem hul
        have edrop : wl.drop u = wl[u] :: wl.drop (u + 1) := List.drop_eq_getElem_cons hul
        generalize wl[u] = wu at ew edrop
        have hkl : (0 : Int) < (((ks.map natD).length : Nat) : Int) := by rw [List.length_map]; omega
        have hus : us.length < sizeLine := by
          have := rus.length
          rw [List.length_map] at this
          exact small1000 (by omega)
        obtain ⟨j, hj, hjl⟩ := mod_lt wu (n := (ks.map natD).length) (by rw [List.length_map]; exact hk)
        regloopunroll_open
        refine dn_ix hown' rfl eo (fun v4 h4 => ?_)
        replace h4 := askv h4
        regloopunroll_open
        rename_i v5 h5
        refine ix_repI (i := u) hx' (by rw [List.getElem?_map, ew]; rfl) ?_
        regloopunroll_open
        refine dn_ix hown' rfl eo (fun v6 h6 => ?_)
        replace h6 := askv h6
        regloopunroll_open
        refine dn_ix hown' rfl eo (fun v7 h7 => ?_)
        replace h7 := askv h7
        regloopunroll_open
        rename_i H3 v8 f3 r3 H4 f4 e4
        rw [hj] at r3 ⊢
        rw [List.length_map] at hj hjl
        have ek : ks[j]? = some ks[j] := List.getElem?_eq_getElem hjl
        refine ix_rep (i := j) ((h5.up f3).up f4) (by rw [List.getElem?_map, ek]; rfl) (fun v9 h9 => ?_)
        unfold natD Rep at h9
        subst h9
        have hkid : ks[j] < ns.length := Nat.lt_trans (hok.wf i p a ks e _ (List.getElem_mem hjl)) hi'
        regloopunroll_open
        rw [show (u : Int) + 1 = ((u + 1 : Nat) : Int) by omega]
        refine ⟨wl.length - (u + 1), by omega, pre ++ [(p, a, j)], ks[j], u + 1, _, _, rfl, rfl, (fr.step0 f3).step f4, ⟨_, e4, ?_⟩, hkid, by omega, by simp [hpre], ?_⟩
        · rw [List.map_append]
          exact ((rus.up f3).up f4).append (reps_one (r3.up f4))
        · rw [hdn, edrop, down_go e hj ek]
          simp
      · rw [List.length_map] at w1
        have hd : down ns wl i0 = (pre, .waits p a) := by
          rw [hdn, List.drop_of_length_le (by omega), down_wait e hk]; simp
        regloopunroll_open
        refine dn_ix hown' rfl eo (fun v4 h4 => ?_)
        replace h4 := askv h4
        regloopunroll_open
        refine dn_ix hown' rfl eo (fun v5 h5 => ?_)
        replace h5 := askv h5
        regloopunroll_open
        rename_i v6 h6
        refine ifF (by rw [List.length_map]; intro z; have := V.int.inj z; omega) ?_
        regloopunroll_open
        rename_i H3 p3 f3 n3 e3
        refine dn_ix (hown'.fr f3 (by simp)) rfl eo (fun v7 h7 => ?_)
        replace h7 := askv h7
        regloopunroll_open
        refine dn_ix (hown'.fr f3 (by simp)) rfl eo (fun v8 h8 => ?_)
        replace h8 := askv h8
        regloopunroll_open
        rename_i H4 v9 f4 r4 H5 p5 f5 n5 e5
        exact fin H3 H4 H5 p3 p5 v9 (.waits p a) f3 e3 f4 r4 f5 e5 hd
    · have hk : ks = [] := by
        cases ks with
        | nil => rfl
        | cons _ _ => exact absurd (by simp) w0
      subst hk
      have hd : down ns wl i0 = (pre, .stops p a) := by rw [hdn, down_stop e]; simp
      regloopunroll_open
      refine dn_ix hown' rfl eo (fun v4 h4 => ?_)
      replace h4 := askv h4
      regloopunroll_open
      refine dn_ix hown' rfl eo (fun v5 h5 => ?_)
      replace h5 := askv h5
      regloopunroll_open
      rename_i v6 h6
      refine ifT rfl ?_
      regloopunroll_open
      rename_i H3 p3 f3 n3 e3
      refine dn_ix (hown'.fr f3 (by simp)) rfl eo (fun v7 h7 => ?_)
      replace h7 := askv h7
      regloopunroll_open
      refine dn_ix (hown'.fr f3 (by simp)) rfl eo (fun v8 h8 => ?_)
      replace h8 := askv h8
      regloopunroll_open
      rename_i H4 v9 f4 r4 H5 p5 f5 n5 e5
      exact fin H3 H4 H5 p3 p5 v9 (.stops p a) f3 e3 f4 r4 f5 e5 hd

def spNumber : Sp := fun vs H Q _ => ∃ (a c : Addr), vs = [.ref a] ∧ DrawOk H a c ∧ ∀ H' (z : Int), Fr [a] H H' → DrawOk H' a c → Q (.int z) H'
theorem ok_law_number (T : Top K mg) : Cal P w K mg base CX0 2 "_law_number" ["d"] spNumber := by
  refine T.d_law_number.cal sc_law_number [] rfl (fun vs H Q E h => ?_) (fun f cdv A0 outer s H vs Q E hk hr h => ?_)
  · obtain ⟨a, c, rfl, _⟩ := h; rfl
  obtain ⟨a, c, rfl, hd, q⟩ := h
  have hu := hu_of hr
  have C_law_draw := ok_law_draw (P := P) (w := w) (base := base) T
  refine ⟨_, (pss_cons (ps_if (pt_cmpR (op_eqGK (K := K) rfl hr.units) (pe_cal C_law_draw (hr.mono (by omega)) (by rfl) pass0 (pa_cons (pv 0) (pa_cons pe_int pa_nil))) pe_int (nomark _)) (pss_one (ps_ret (pe_op (op_addGK (K := K) rfl) (pe_op op_mul (pe_cal C_law_draw (hr.mono (by omega)) (by rfl) pass0 (pa_cons (pv 0) (pa_cons pe_int pa_nil))) (pe_op op_pow pe_int pe_int)) (pe_cal C_law_draw (hr.mono (by omega)) (by rfl) pass0 (pa_cons (pv 0) (pa_cons pe_int pa_nil)))))) pss_nil) (pss_one (ps_ret (pe_cal C_law_draw (hr.mono (by omega)) (by rfl) pass0 (pa_cons (pv 0) (pa_cons pe_int pa_nil)))))), ?_⟩
  kpt_turns
  regloopunroll_open
  rename_i H1 k1 f1 hd1 hk1
  refine ifD (fun w0 => ?_) (fun w0 => ?_)
  · regloopunroll_open
    rename_i H2 k2 f2 hd2 hk2 H3 k3 f3 hd3 hk3
    exact q H3 _ ((f1.step f2).step f3) hd3
  · regloopunroll_open
    rename_i H2 k2 f2 hd2 hk2
    exact q H2 _ (f1.step f2) hd2
def spAlong (K : PySem.W.Frag) : Sp := fun vs H Q _ => ∃ (o : Addr) (ns : List Nd) (i : Nat) (r : List St3) (x : V), vs = [.ref o, .int (i : Int), x] ∧ DN K H Nd.toD o (ownOf ns) ∧ OkSteps ns r i ∧ Rep K H (.tuple (r.map st3D)) x ∧ r.length ≤ 800 ∧ ∀ H' p, Fr [] H H' → H p = none → H' p = some (.lst ((along ns r i).map fun (k : Nat) => V.int (k : Int))) → Q (.ref p) H'
theorem ok_law_along (T : Top K mg) : Cal P w K mg base CX0 1 "_law_along" ["own", "node", "steps"] (spAlong K) := by
  refine T.d_law_along.cal sc_law_along [none, none] rfl (fun vs H Q E h => ?_) (fun f cdv A0 outer s H vs Q E hk hr h => ?_)
  · obtain ⟨o, ns, i, r, x, rfl, _⟩ := h; rfl
  obtain ⟨o, ns, i, r, x, rfl, hown, hok, hx, hl, q⟩ := h
  have hu := hu_of hr
  refine ⟨_, (pss_cons (ps_set (i := 3) sc_law_along.nd rfl (Or.inl rfl) (pe_lst (pa_cons (pv 1) pa_nil))) (pss_cons (ps_for PassesOwn.never rfl (pi_seqK (K := K) rfl (pv 2)) (pg_name (i := 4) sc_law_along.nd rfl (Or.inl rfl)) (pss_one (ps_expr (pe_bm PySem.F.plainAttrs_list PySem.F.slot_list_append PySem.F.type_list_append mt_append (pv 3) (pa_cons (pe_ix (ix_GK (K := K) rfl hu) (pe_ix (ix_GK (K := K) rfl hu) (pe_ix (ix_GK (K := K) rfl hu) (pv 0) (pe_ix (ix_GK (K := K) rfl hu) (pv 3) (pe_un un_neg pe_int) (fun _ _ => rfl)) (fun _ _ => rfl)) pe_int (fun _ _ => rfl)) (pe_ix (ix_GK (K := K) rfl hu) (pv 4) pe_int (fun _ _ => rfl)) (fun _ _ => rfl)) pa_nil))))) (pss_one (ps_ret (pv 3))))), ?_⟩
  kpt_turns
  regloopunroll_open
  rename_i H1 S f1 nS eS
  have hSo : o ≠ S := fun z => by
    subst z
    obtain ⟨kvs, e, _⟩ := hown
    rw [e] at nS
    cases nS
  have hown1 := hown.fr f1 (by simp)
  refine g_forT ?_
  regloopunroll_open
  have hal := along_len (ns := ns) r i
  have htake1 : (along ns r i).take 1 = [i] := by cases r <;> rfl
  refine forT_rep (hx.up f1) (fun c σ' H' => Fr [S] H1 H' ∧ H' S = some (.lst (((along ns r i).take (c + 1)).map fun (k : Nat) => V.int (k : Int))) ∧ ∃ o4, σ' = [some (.ref o), some (.int (i : Int)), some x, some (.ref S), o4]) ⟨Fr.refl _ _, by rw [htake1]; exact eS, _, rfl⟩ (fun c σ' H' p => ⟨_, p.1⟩) (fun c d y σ' H' hd hy p => ?_) (fun σ' H' p => ?_)
  · obtain ⟨fr, e, o4, rfl⟩ := p
    obtain ⟨s1, es, rfl⟩ := rows_at hd
    replace hy : Rep K H' (.tuple [.str s1.1, .int (s1.2.1 : Int), .int (s1.2.2 : Int)]) y := hy
    have hc := (List.getElem?_eq_some_iff.mp es).1
    have step : ∀ (r : List St3) (i : Nat), OkSteps ns r i → ∀ c s1, r[c]? = some s1 → ∃ k p a ks k', (along ns r i)[c]? = some k ∧ ns[k]? = some (.ask p a ks) ∧ ks[s1.2.2]? = some k' ∧ (along ns r i)[c + 1]? = some k' := by
      intro r
      induction r with
      | nil => intro i _ c s1 h; simp at h
      | cons s0 r ih =>
        rintro i ⟨ks, k, e, ek, ok⟩ c s1 h
        rw [along_go e ek]
        cases c with
        | zero =>
          simp only [List.getElem?_cons_zero, Option.some.injEq] at h
          subst h
          exact ⟨i, _, _, ks, k, rfl, e, ek, by cases r <;> rfl⟩
        | succ c =>
          obtain ⟨k1, p, a, ks1, k2, h1, h2, h3, h4⟩ := ih k ok c s1 (by simpa using h)
          exact ⟨k1, p, a, ks1, k2, by simpa using h1, h2, h3, by simpa using h4⟩
    obtain ⟨k, p, a, ks, k', h1, h2, h3, h4⟩ := step r i hok c s1 es
    have hown' := hown1.fr fr (by simpa using hSo)
    have esnoc : ((along ns r i).take (c + 1)).map (fun (k : Nat) => V.int (k : Int)) = ((along ns r i).take c).map (fun (k : Nat) => V.int (k : Int)) ++ [V.int (k : Int)] := by
      rw [List.take_add_one, h1, List.map_append]; rfl
    have hz : (((along ns r i).take (c + 1)).map fun (k : Nat) => V.int (k : Int)).length < sizeLine := by
      rw [List.length_map, List.length_take, sizeLine_eq]; omega
    regloopunroll_open
    refine ixL_last (.of (by rw [e, esnoc])) rfl ?_
    regloopunroll_open
    refine dn_ix hown' rfl (by rw [own_get]; exact h2) (fun v hv => ?_)
    replace hv : Rep K H' (.tuple [.str "ask", .str p, .int (a : Int), .tuple (ks.map natD)]) v := hv
    regloopunroll_open
    rename_i v2 hv2
    refine ix_rep (i := s1.2.2) hv2 (by rw [List.getElem?_map, h3]; rfl) (fun v3 hv3 => ?_)
    unfold natD Rep at hv3
    subst hv3
    regloopunroll_open
    rename_i H3 f3 e3
    refine ⟨fr.step f3, ?_, _, rfl⟩
    rw [e3, List.take_add_one (i := c + 1), h4, List.map_append]
    rfl
  · obtain ⟨fr, e, o4, rfl⟩ := p
    rw [List.length_map, List.take_of_length_le (by omega)] at e
    regloopunroll_open
    exact q H' S (f1.over nS fr) nS e
def spTold (K : PySem.W.Frag) : Sp := fun vs H Q _ => ∃ (t : Tell) (x : V), vs = [x] ∧ Rep K H (tellD t) x ∧ t.1.length ≤ 800 ∧ ∀ H', Fr [] H H' → Q (.bl true) H'
theorem ok_law_is_told (T : Top K mg) : Cal P w K mg base CX0 2 "_law_is_told" ["told"] (spTold K) := by
  refine T.d_law_is_told.cal sc_law_is_told [none, none, none] rfl (fun vs H Q E h => ?_) (fun f cdv A0 outer s H vs Q E hk hr h => ?_)
  · obtain ⟨t, x, rfl, _⟩ := h; rfl
  obtain ⟨t, x, rfl, hx, hl, q⟩ := h
  have hu := hu_of hr
  have C_law_is_int := ok_law_is_int (P := P) (w := w) (base := base) T
  replace hx : Rep K H (.tuple [.tuple (t.1.map st3D), t.2.toD]) x := hx
  have hen : ∃ (ds : List PyData) (z : Int), t.2.toD = .tuple (ds ++ [.int z]) := by
    cases t.2 with
    | ends v => exact ⟨[.str "ends"], v, rfl⟩
    | stops p a => exact ⟨[.str "stops", .str p], a, rfl⟩
    | waits p a => exact ⟨[.str "waits", .str p], a, rfl⟩
  obtain ⟨ds, z, ez⟩ := hen
  refine ⟨_, (pss_cons (ps_set (i := 1) sc_law_is_told.nd rfl (Or.inl rfl) (pe_lst (pa_cons (pe_ix (ix_GK (K := K) rfl hu) (pe_ix (ix_GK (K := K) rfl hu) (pv 0) pe_int (fun _ _ => rfl)) (pe_un un_neg pe_int) (fun _ _ => rfl)) pa_nil))) (pss_cons (ps_for PassesOwn.never rfl (pi_seqK (K := K) rfl (pe_ix (ix_GK (K := K) rfl hu) (pv 0) pe_int (fun _ _ => rfl))) (pg_name (i := 2) sc_law_is_told.nd rfl (Or.inl rfl)) (pss_one (ps_expr (pe_bm PySem.F.plainAttrs_list PySem.F.slot_list_extend PySem.F.type_list_extend mt_extend (pv 1) (pa_cons (pe_lst (pa_cons (pe_ix (ix_GK (K := K) rfl hu) (pv 2) pe_int (fun _ _ => rfl)) (pa_cons (pe_ix (ix_GK (K := K) rfl hu) (pv 2) pe_int (fun _ _ => rfl)) pa_nil))) pa_nil))))) (pss_one (ps_ret (pe_callB (cr_all rfl) (by rfl) T.m_all (by decide +kernel) (pa_cons (pe_lc (own := [("one", 3)]) (g := gName 3) rfl sc_law_is_told.nd (pi_seqK (K := K) rfl (pv 1)) (blkOk_by (N := N_law_is_told) (sc := defScope s_law_is_told) (by decide +kernel)) (fun _ _ _ _ _ => pg_name (i := 3) sc_law_is_told.nd rfl (Or.inl rfl)) (fun _ _ _ _ _ => pts_nil) (fun _ _ _ _ _ => (pe_cal C_law_is_int (hr.mono (by omega)) (by rfl) pass0 (pa_cons (pv 3) pa_nil)))) pa_nil)))))), ?_⟩
  kpt_turns
  regloopunroll_open
  rename_i v1 h1
  rw [ez] at h1
  refine ixT_last h1 rfl (fun v2 h2 => ?_)
  unfold Rep at h2
  subst h2
  regloopunroll_open
  rename_i H1 S f1 nS eS
  refine g_forT ?_
  regloopunroll_open
  rename_i v3 h3
  refine forT_rep (h3) (fun c σ' H' => Fr [S] H1 H' ∧ (∃ zs : List Int, H' S = some (.lst (zs.map V.int)) ∧ zs.length ≤ 2 * c + 1) ∧ ∃ o2, σ' = [some x, some (.ref S), o2, none]) ⟨Fr.refl _ _, ⟨[z], eS, by simp⟩, _, rfl⟩ (fun c σ' H' p => ⟨_, p.1⟩) (fun c d y σ' H' hd hy p => ?_) (fun σ' H' p => ?_)
  · obtain ⟨fr, ⟨zs, e, lz⟩, o2, rfl⟩ := p
    obtain ⟨s1, es, rfl⟩ := rows_at hd
    replace hy : Rep K H' (.tuple [.str s1.1, .int (s1.2.1 : Int), .int (s1.2.2 : Int)]) y := hy
    have hc := (List.getElem?_eq_some_iff.mp es).1
    regloopunroll_open
    rename_i H3 S3 f3 n3 e3
    refine extend_q (f3.at e) e3 (by simp only [List.length_map, List.length_cons, List.length_nil]; omega) (fun H4 f4 e4 => ?_)
    regloopunroll_open
    refine ⟨(fr.step0 f3).step f4, ⟨zs ++ [(s1.2.1 : Int), (s1.2.2 : Int)], by rw [e4, List.map_append]; rfl, by simp; omega⟩, _, rfl⟩
  · obtain ⟨fr, ⟨zs, e, lz⟩, o2, rfl⟩ := p
    rw [List.length_map] at lz
    regloopunroll_open
    refine g_lcL ?_
    regloopunroll_open
    refine lcL_q (.of e) (fun D j H2 => Fr [] H' H2 ∧ H2 D = some (.lst ((List.replicate j true).map V.bl))) (fun D nD => ⟨Fr.new nD, upd_same⟩) (fun D j H2 nD p => .of (p.1.at e)) (fun D j v H2 nD hv p' => ?_) (fun D H2 nD p' => ?_)
    · obtain ⟨f2, eD⟩ := p'
      rw [List.getElem?_map] at hv
      obtain ⟨z1, ez1, rfl⟩ := Option.map_eq_some_iff.mp hv
      have hj := (List.getElem?_eq_some_iff.mp ez1).1
      regloopunroll_open
      refine ⟨rfl, ?_⟩
      regloopunroll_open
      refine ⟨z1, rfl, ?_⟩
      refine ⟨_, eD, by rw [List.length_map, List.length_replicate, sizeLine_eq]; omega, f2.updN nD eD, ?_⟩
      rw [upd_same, List.replicate_succ', List.map_append]
      rfl
    · obtain ⟨f2, eD⟩ := p'
      regloopunroll_open
      refine ⟨D, _, rfl, .of eD, ?_⟩
      have : (List.replicate (zs.map V.int).length true).all id = true := by simp
      rw [this]
      exact q H2 ((f1.over nS fr).step f2)

theorem fr_overC {H H1 H2 : Hp} {p : Addr} {l : List Addr} (f : AN.Fr l H H1) (n : H p = none) (g : AN.Fr (p :: l) H1 H2) : AN.Fr l H H2 := f.trans g fun b m => by
  rcases List.mem_cons.mp m with rfl | m
  · exact .inr n
  · exact .inl m
def spChain (P : Program) (w : World) (K : PySem.W.Frag) (C : Addr) : Sp := fun vs H Q _ => ∃ (a c wd : Addr) (A : WA) (size : Nat) (ops : List Op3) (ns : List Nd) (many : Nat), vs = [.ref a, .ref wd, .int (many : Int)] ∧ DrawOk H a c ∧ WoodAt P w K C H wd A size ops ns ∧ Dis wd A a c ∧ ns.length + many ≤ 900 ∧ many ≤ 300 ∧
  ∀ H' x ns' (i : Nat) (wl : List Int), Fr (a :: A.mut) H H' → DrawOk H' a c → WoodAt P w K C H' wd A size ops ns' → ns <+: ns' → ns'.length ≤ ns.length + many → i < ns'.length → wl.length ≤ many → Rep K H' (.tuple [.int (i : Int), .tuple (wl.map .int)]) x → Q x H'
theorem ok_law_chain (T : Top K mg) {C : Addr} (G : G_Grove K mg C) : Cal P w K mg base CX0 4 "_law_chain" ["d", "wood", "many"] (spChain P w K C) := by
  refine T.d_law_chain.cal sc_law_chain [none, none, none, none, none, none, none, none] rfl (fun vs H Q E h => ?_) (fun f cdv A0 outer s H vs Q E hk hr h => ?_)
  · obtain ⟨a, c, wd, A, size, ops, ns, many, rfl, _⟩ := h; rfl
  obtain ⟨a, c, wd, A, size, ops, ns, many, rfl, hd, W, D, hl, hmany, q⟩ := h
  have hu := hu_of hr
  have C_law_draw := ok_law_draw (P := P) (w := w) (base := base) T
  have C_law_pick := ok_law_pick (P := P) (w := w) (base := base) T
  have C_law_kid := ok_law_kid (P := P) (w := w) (base := base) T (C := C)
  have C_law_add := ok_law_add (P := P) (w := w) (base := base) T G
  have hAa : ∀ x ∈ A.mut, x ∈ a :: A.mut := fun x hx => List.mem_cons_of_mem _ hx
  have haA : ∀ x ∈ [a], x ∈ a :: A.mut := fun x hx => by rw [List.mem_singleton.mp hx]; exact List.mem_cons_self ..
  have ob := W.ob
  obtain ⟨us, eq, rq⟩ := W.qs
  have lus : us.length = ops.length := by rw [rq.length, List.length_map]
  have lo8 := W.oo.len
  have hAall : ∀ x ∈ A.mut, x ∈ A.all := fun x hx => by
    simp only [WA.mut, List.mem_cons, List.not_mem_nil, or_false] at hx
    simp only [WA.all, List.mem_cons, List.not_mem_nil, or_false]
    rcases hx with rfl | rfl | rfl | rfl <;> simp
  refine ⟨_, (pss_cons (ps_setLc (i := 3) (own := [("p", 7)]) (g := gName 7) rfl sc_law_chain.nd rfl rfl (sw_true rfl rfl rfl (by decide +kernel)) (pi_seqK (K := K) rfl (pe_ix (ix_GK (K := K) rfl hu) (pv 1) pe_int (fun _ _ => rfl))) (blkOk_by (N := N_law_chain) (sc := defScope s_law_chain) (by decide +kernel)) (fun _ _ _ _ _ => pg_name (i := 7) sc_law_chain.nd rfl (Or.inl rfl)) (fun _ _ _ _ _ => pts_one (pt_cmpR op_gt (pe_ix (ix_GK (K := K) rfl hu) (pv 7) pe_int (fun _ _ => rfl)) pe_int (nomark _))) (fun _ _ _ _ _ => (pv 7))) (pss_cons (ps_set (i := 4) sc_law_chain.nd rfl (Or.inl rfl) (pe_cal C_law_pick (hr.mono (by omega)) (by rfl) pass0 (pa_cons (pv 0) (pa_cons (pe_ix (ix_GK (K := K) rfl hu) (pv 1) pe_int (fun _ _ => rfl)) pa_nil)))) (pss_cons (ps_set (i := 5) sc_law_chain.nd rfl (Or.inl rfl) (pe_lst pa_nil)) (pss_cons (ps_for PassesOwn.never rfl (pi_range1 (by rfl) T.m_range (pa_cons (pv 2) pa_nil)) (pg_name (i := 6) sc_law_chain.nd rfl (Or.inl rfl)) (pss_cons (ps_set (i := 7) sc_law_chain.nd rfl (Or.inl rfl) (pe_cal C_law_pick (hr.mono (by omega)) (by rfl) pass0 (pa_cons (pv 0) (pa_cons (pv 3) pa_nil)))) (pss_cons (ps_set (i := 8) sc_law_chain.nd rfl (Or.inl rfl) (pe_cal C_law_draw (hr.mono (by omega)) (by rfl) pass0 (pa_cons (pv 0) (pa_cons (pe_ix (ix_GK (K := K) rfl hu) (pv 7) pe_int (fun _ _ => rfl)) pa_nil)))) (pss_cons (ps_setLc (i := 9) (own := [("j", 10)]) (g := gName 10) rfl sc_law_chain.nd rfl rfl (sw_true rfl rfl rfl (by decide +kernel)) (pi_range1 (by rfl) T.m_range (pa_cons (pe_ix (ix_GK (K := K) rfl hu) (pv 7) pe_int (fun _ _ => rfl)) pa_nil)) (blkOk_by (N := N_law_chain) (sc := defScope s_law_chain) (by decide +kernel)) (fun _ _ _ _ _ => pg_name (i := 10) sc_law_chain.nd rfl (Or.inl rfl)) (fun _ _ _ _ _ => pts_nil) (fun _ _ _ _ _ => (pe_cal C_law_kid (hr.mono (by omega)) (by rfl) pass0 (pa_cons (pv 0) (pa_cons (pv 1) pa_nil))))) (pss_cons (ps_asg (pv 4) (pg_sub (pv 9) (pv 8) (set_G hu))) (pss_cons (ps_set (i := 4) sc_law_chain.nd rfl (Or.inl rfl) (pe_cal C_law_add (hr.mono (by omega)) (by rfl) pass0 (pa_cons (pv 1) (pa_cons (pe_ix (ix_GK (K := K) rfl hu) (pv 7) pe_int (fun _ _ => rfl)) (pa_cons (pe_cal C_law_draw (hr.mono (by omega)) (by rfl) pass0 (pa_cons (pv 0) (pa_cons (pe_ix (ix_GK (K := K) rfl hu) (pv 7) pe_int (fun _ _ => rfl)) pa_nil))) (pa_cons (pe_callTy (call_tupGK (K := K) rfl) (by rfl) T.m_tuple (by decide +kernel) (pa_cons (pv 9) pa_nil)) pa_nil)))))) (pss_one (ps_expr (pe_bm PySem.F.plainAttrs_list PySem.F.slot_list_append PySem.F.type_list_append mt_append (pv 5) (pa_cons (pe_op (op_addGK (K := K) rfl) (pv 8) (pe_op op_mul (pe_ix (ix_GK (K := K) rfl hu) (pv 7) pe_int (fun _ _ => rfl)) (pe_cal C_law_draw (hr.mono (by omega)) (by rfl) pass0 (pa_cons (pv 0) (pa_cons pe_int pa_nil))))) pa_nil)))))))))) (pss_one (ps_ret (pe_tup (pa_cons (pv 4) (pa_cons (pe_callTy (call_tupGK (K := K) rfl) (by rfl) T.m_tuple (by decide +kernel) (pa_cons (pe_listRev rfl (by rfl) T.m_list (by rfl) T.m_reversed (pv 5)) pa_nil)) pa_nil))))))))), ?_⟩
  kpt_turns
  regloopunroll_open
  refine g_lcL ?_
  regloopunroll_open
  refine lcL_q (.of eq) (fun Dd j H' => Fr [] H H' ∧ ∃ ws, H' Dd = some (.lst ws) ∧ Reps K H' (((ops.take j).filter fun o => decide (0 < o.2.2)).map op3D) ws) (fun Dd nD => ⟨Fr.new nD, [], upd_same, reps_nil⟩) (fun Dd j H' nD p => .of (p.1.at eq)) (fun Dd j v H' nD hv p => ?_) (fun S H1 nS p => ?_)
  · obtain ⟨fr, ws, eD, rw0⟩ := p
    obtain ⟨dd, edd, rdd⟩ := rq.get' hv
    obtain ⟨o, eo, rfl⟩ := rows_at edd
    have rv : Rep K H' (.tuple [.str o.1, .int (o.2.1 : Int), .int (o.2.2 : Int)]) v := rdd.up fr
    have hnext : (ops.take (j + 1)).filter (fun o => decide (0 < o.2.2)) = (ops.take j).filter (fun o => decide (0 < o.2.2)) ++ (if 0 < o.2.2 then [o] else []) := by
      rw [List.take_add_one, eo, List.filter_append]
      simp [List.filter_cons]
    regloopunroll_open
    refine ⟨rfl, ?_⟩
    regloopunroll_open
    refine ifD (fun h1 => ?_) (fun h1 => ?_)
    · regloopunroll_open
      have h1' : 0 < o.2.2 := by omega
      refine ⟨_, eD, small1000 ?_, fr.updN nD eD, _, upd_same, ?_⟩
      · have h0 := rw0.length
        rw [List.length_map] at h0
        have h1 := List.length_filter_le (fun o => decide (0 < o.2.2)) (ops.take j)
        have h2 : (ops.take j).length ≤ ops.length := by rw [List.length_take]; omega
        omega
      · rw [hnext, if_pos h1', List.map_append]
        have g : Fr [Dd] H' (upd H' Dd (.lst (ws ++ [v]))) := Fr.setL eD
        exact (rw0.up g).append (reps_one (rv.up g))
    · regloopunroll_open
      have h1' : ¬ 0 < o.2.2 := by omega
      exact ⟨fr, ws, eD, by rw [hnext, if_neg h1', List.append_nil]; exact rw0⟩
  obtain ⟨f1, ws, eS, rws⟩ := p
  rw [lus, List.take_length] at rws
  generalize ewide : (ops.filter fun o => decide (0 < o.2.2)) = wide at rws
  have hwide : ∀ o ∈ wide, o ∈ ops ∧ 0 < o.2.2 := fun o ho => by
    rw [← ewide] at ho
    have := List.mem_filter.mp ho
    exact ⟨this.1, by simpa using this.2⟩
  have hw0 : 0 < wide.length := by
    obtain ⟨o, ho, h0⟩ := W.oo.wide
    exact List.length_pos_of_mem (a := o) (by rw [← ewide]; exact List.mem_filter.mpr ⟨ho, by simpa using h0⟩)
  have hw8 : wide.length ≤ 8 := by
    rw [← ewide]
    exact Nat.le_trans (List.length_filter_le _ _) lo8
  have lws : ws.length = wide.length := by rw [rws.length, List.length_map]
  have hSa : S ≠ a := hd.neL nS
  have hSA : S ∉ A.mut := fun m => W.some S (hAall S m) nS
  have W1 := W.fr0 f1
  have hd1 := hd.fr0 f1
  have en := W1.nums
  have hlo := W.ok.len
  have hl2 := W.ok.lo
  have lln : ((List.range ns.length).map fun (i : Nat) => V.int (i : Int)).length = ns.length := by simp
  regloopunroll_open
  refine pick_q hd1 (.of en) (D.al _ (by simp [WA.all])).1 (by rw [lln]; omega) (by rw [lln]; omega) (fun H2 i2 v2 f2 hd2 e2 => ?_)
  rw [List.getElem?_map] at e2
  obtain ⟨i0, ei0, rfl⟩ := Option.map_eq_some_iff.mp e2
  have hi0 := List.mem_range.mp (List.mem_of_getElem? ei0)
  regloopunroll_open
  rename_i H3 L f3 nL e3
  have hLa : L ≠ a := hd2.neL nL
  have hLS : L ≠ S := fun z => by
    have e := f2.at1 eS hSa
    rw [z] at nL
    rw [nL] at e
    cases e
  have W3 := (W1.frA f2 D).fr0 f3
  have hd3 := hd2.fr0 f3
  have eS3 := f3.at (f2.at1 eS hSa)
  have rws3 := (rws.up f2).up f3
  have hLA : L ∉ A.mut := fun m => (W1.frA f2 D).some L (hAall L m) nL
  have hLAll : ∀ x ∈ A.all, x ≠ L := fun x hx z => (W1.frA f2 D).some x hx (z ▸ nL)
  have hLwd : wd ≠ L := fun z => by
    have e := (W1.frA f2 D).ob
    rw [z, nL] at e
    cases e
  have hLc : L ≠ c := hd2.neC nL
  refine forR1_q (k := many) rfl (by omega) (fun k σ' H' => Fr (L :: a :: A.mut) H3 H' ∧ DrawOk H' a c ∧ (∃ (ns' : List Nd) (i : Nat) (zs : List Int), WoodAt P w K C H' wd A size ops ns' ∧ ns <+: ns' ∧ ns'.length ≤ ns.length + k ∧ i < ns'.length ∧ zs.length = k ∧ H' L = some (.lst (zs.map V.int)) ∧ ∃ o6 o7 o8 o9, σ' = [some (.ref a), some (.ref wd), some (.int (many : Int)), some (.ref S), some (.int (i : Int)), some (.ref L), o6, o7, o8, o9, none])) ⟨Fr.refl _ _, hd3, ns, i0, [], W3, List.prefix_refl _, Nat.le_refl _, hi0, rfl, e3, _, _, _, _, rfl⟩ (fun k σ' H4 hk p => ?_) (fun σ' H4 p => ?_)
  · obtain ⟨f4, hd4, ns4, i4, zs, W4, hpre, hl4, hi4, hzs, eL, o6, o7, o8, o9, rfl⟩ := p
    have eS4 : H4 S = some (.lst ws) := f4.keep _ _ eS3 (by simp only [List.mem_cons, not_or]; exact ⟨hLS.symm, hSa, hSA⟩)
    have rws4 := rws3.up f4
    regloopunroll_open
    refine pick_q hd4 (.of eS4) hSa (by omega) (by omega) (fun H5 i5 v5 f5 hd5 e5 => ?_)
    obtain ⟨dd, edd, rdd⟩ := rws4.get' e5
    obtain ⟨o, eo, rfl⟩ := rows_at edd
    have howide := hwide o (List.mem_of_getElem? eo)
    obtain ⟨so, ho1, ho2, ho3⟩ := W.oo.all o howide.1
    have ho4 := howide.2
    have rv5 : Rep K H5 (.tuple [.str o.1, .int (o.2.1 : Int), .int (o.2.2 : Int)]) v5 := rdd.up f5
    regloopunroll_open
    rename_i H6 place f6 hd6 hplace
    have rv6 := rv5.up f6
    refine lcR1_q (k := o.2.2) rfl (by omega) (fun Dd j H' => Fr [a] H6 H' ∧ DrawOk H' a c ∧ ∃ ks : List Nat, H' Dd = some (.lst (ks.map fun (k : Nat) => V.int (k : Int))) ∧ ks.length = j ∧ ∀ k ∈ ks, k < ns4.length) (fun Dd nD => ⟨(Fr.new nD).of0, hd6.fr0 (Fr.new nD), [], upd_same, rfl, fun k h => by cases h⟩) (fun Dd j H' nD hj p => ?_) (fun Dd H7 nD p => ?_)
    · obtain ⟨fr, hd', ks, eD, lk, hks⟩ := p
      have hDa := hd6.neL nD
      have hDc := hd6.neC nD
      regloopunroll_open
      refine ⟨rfl, ?_⟩
      regloopunroll_open
      refine ⟨a, c, wd, A, size, ops, ns4, rfl, hd', ((W4.frA f5 D).frA f6 D).frA fr D, D, by omega, fun H8 k8 f8 hd8 hk8 => ?_⟩
      have eD8 := f8.at1 eD hDa
      have gD : Fr [Dd] H8 (upd H8 Dd (.lst ((ks.map fun (k : Nat) => V.int (k : Int)) ++ [.int (k8 : Int)]))) := Fr.setL eD8
      refine ⟨_, eD8, small1000 (by rw [List.length_map]; omega), (fr.step f8).over1 nD gD, hd8.fr1 gD hDa hDc, ks ++ [k8], by rw [upd_same, List.map_append]; rfl, by simp [lk], fun k h => ?_⟩
      rcases List.mem_append.mp h with h | h
      · exact hks k h
      · rw [List.mem_singleton.mp h]; exact hk8
    obtain ⟨f7, hd7, ks, eD, lk, hks⟩ := p
    have hpl : place < (ks.map fun (k : Nat) => V.int (k : Int)).length := by rw [List.length_map]; omega
    have hDL : Dd ≠ L := fun z => by
      have e := f6.at1 (f5.at1 eL hLa) hLa
      rw [z] at nD
      rw [nD] at e
      cases e
    regloopunroll_open
    rename_i H8 f8 e8
    rw [← List.map_set] at e8
    have rv8 := (rv6.up f7).up f8
    have hd8 := hd7.fr1 f8 (hd6.neL nD) (hd6.neC nD)
    have f68 : Fr [a] H6 H8 := f7.over1 nD f8
    have hDa := hd6.neL nD
    regloopunroll_open
    rename_i H9 k9 f9 hd9 hk9 H10 p10 f10 n10 e10
    generalize hks2 : ks.set place i4 = ks2 at e10
    have hks3 : ∀ k ∈ ks2, k < ns4.length := fun k h => by
      rw [← hks2] at h
      rcases List.mem_or_eq_of_mem_set h with h | h
      · exact hks k h
      · rw [h]; exact hi4
    have lk2 : ks2.length = o.2.2 := by rw [← hks2, List.length_set, lk]
    have rk : Rep K H10 (.tuple (ks2.map natD)) (.ref p10) := rep_tup e10 (reps_nats ks2)
    have f40 : Fr [a] H4 H10 := (((f5.step f6).step f68).step f9).step0 f10
    have W10 := W4.frA f40 D
    have hs4 := W4.ok.hi
    refine ⟨wd, A, size, ops, ns4, o.1, k9, ks2, _, rfl, W10, rk, so, hks3, by omega, by omega, fun H11 i11 ns11 f11 W11 hcase e11 => ?_⟩
    have eL11 : H11 L = some (.lst (zs.map V.int)) := f11.keep _ _ (f40.at1 eL hLa) hLA
    have rv11 := ((rv8.up f9).up f10).up f11
    have hd11 : DrawOk H11 a c := (hd9.fr0 f10).frM f11 D
    regloopunroll_open
    rename_i H12 k12 f12 hd12 hk12
    have eL12 := f12.at1 eL11 hLa
    have hzl : (zs.map V.int).length < sizeLine := small1000 (by rw [List.length_map]; omega)
    regloopunroll_open
    rename_i H13 f13 e13
    have f412 : Fr (L :: a :: A.mut) H4 H12 := ((Fr.refl _ _).more f40 (fun x hx => List.mem_cons_of_mem _ (haA x hx))).more f11 (fun x hx => List.mem_cons_of_mem _ (hAa x hx)) |>.more f12 (fun x hx => List.mem_cons_of_mem _ (haA x hx))
    refine ⟨(f4.step f412).more f13 (fun x hx => by rw [List.mem_singleton.mp hx]; exact List.mem_cons_self ..), hd12.fr1 f13 hLa hLc, ns11, i11, zs ++ [_], (W11.frA f12 D).fr f13 (by simpa using hLwd) (fun x hx => by simpa using hLAll x hx), ?_, ?_, (List.getElem?_eq_some_iff.mp e11).1, by rw [List.length_append]; simp [hzs], by rw [e13, List.map_append]; rfl, _, _, _, _, rfl⟩
    · rcases hcase with rfl | rfl
      · exact hpre
      · exact hpre.trans (List.prefix_append _ _)
    · rcases hcase with rfl | rfl
      · omega
      · rw [List.length_append]; simp only [List.length_cons, List.length_nil]; omega
  · obtain ⟨f4, hd4, ns4, i4, zs, W4, hpre, hl4, hi4, hzs, eL, o6, o7, o8, o9, rfl⟩ := p
    regloopunroll_open
    refine g_lrev ?_
    regloopunroll_open
    refine lrev_q eL (fun H5 p5 f5 n5 e5 => ?_)
    rw [← List.map_reverse] at e5
    regloopunroll_open
    rename_i H6 p6 f6 n6 e6 H7 p7 f7 n7 e7
    have f47 : Fr [] H4 H7 := (f5.step f6).step f7
    refine q H7 (.ref p7) ns4 i4 zs.reverse ((fr_overC ((f1.of0.more f2 haA).step0 f3) (((f1.of0.more f2 haA)).free nL (by simp only [List.mem_cons, not_or]; exact ⟨hLa, hLA⟩)) f4).step0 f47) (hd4.fr0 f47) (W4.fr0 f47) hpre hl4 hi4 (by rw [List.length_reverse]; omega) ?_
    exact rep_tup e7 (reps_cons rep_int (reps_one (rep_tup (f7.at e6) (reps_ints _))))

theorem gTup2_raw {K : PySem.W.Frag} {σ : L2.St} {H : Hp} {i j : Nat} {a : Addr} {v1 v2 : V} {q : L2.St → Hp → Prop} (h : H a = some (.tup [v1, v2])) (w : q ((σ.set i (some v1)).set j (some v2)) H) : gTup K 2 (gCons (gName i) (gCons (gName j) gNil)) (.ref a) σ H q :=
  ⟨a, _, rfl, .of h, rfl, v1, _, rfl, v2, _, rfl, rfl, w⟩
theorem gTup3_raw {K : PySem.W.Frag} {σ : L2.St} {H : Hp} {i j k : Nat} {a : Addr} {v1 v2 v3 : V} {q : L2.St → Hp → Prop} (h : H a = some (.tup [v1, v2, v3])) (w : q (((σ.set i (some v1)).set j (some v2)).set k (some v3)) H) : gTup K 3 (gCons (gName i) (gCons (gName j) (gCons (gName k) gNil))) (.ref a) σ H q :=
  ⟨a, _, rfl, .of h, rfl, v1, _, rfl, v2, _, rfl, v3, _, rfl, rfl, w⟩
def spWay (P : Program) (w : World) (K : PySem.W.Frag) (C : Addr) : Sp := fun vs H Q _ => ∃ (a c wd : Addr) (A : WA) (size : Nat) (ops : List Op3) (ns : List Nd) (i : Nat) (wl : List Int) (x : V), vs = [.ref a, .ref wd, .int (i : Int), x] ∧ DrawOk H a c ∧ WoodAt P w K C H wd A size ops ns ∧ Dis wd A a c ∧ i < ns.length ∧ wl.length ≤ 700 ∧ Rep K H (.tuple (wl.map .int)) x ∧ ∀ H', Fr [a] H H' → DrawOk H' a c → Q (.bl true) H'
theorem ok_law_is_way (T : Top K mg) {C : Addr} (G : G_Grove K mg C) : Cal P w K mg base CX0 4 "_law_is_way" ["d", "wood", "node", "world"] (spWay P w K C) := by
  refine T.d_law_is_way.cal sc_law_is_way [none, none, none, none, none, none, none, none, none, none] rfl (fun vs H Q E h => ?_) (fun f cdv A0 outer s H vs Q E hk hr h => ?_)
  · obtain ⟨a, c, wd, A, size, ops, ns, i, wl, x, rfl, _⟩ := h; rfl
  obtain ⟨a, c, wd, A, size, ops, ns, i, wl, x, rfl, hd, W, D, hi, hl, hx, q⟩ := h
  have hu := hu_of hr
  have C_law_draw := ok_law_draw (P := P) (w := w) (base := base) T
  have C_law_number := ok_law_number (P := P) (w := w) (base := base) T
  have C_law_down := ok_law_down (P := P) (w := w) (base := base) T
  have C_law_along := ok_law_along (P := P) (w := w) (base := base) T
  have C_law_is_told := ok_law_is_told (P := P) (w := w) (base := base) T
  have C_trace := ok_trace (P := P) (w := w) (base := base) T G
  have ob := W.ob
  have ok := W.ok
  have gT := tell_G (ns := ns) ok
  have sT : ∀ (u : List Int) (j : Nat), u.length ≤ 800 → SeqAt.shaped (tellD (down ns u j)) = true := fun u j h => ((gT u j h).okd (by decide)).shaped
  have hdl := down_len (ns := ns) wl i
  have hdo := down_ok ok wl i hi
  have hdc := down_cut ok wl i hi
  have hdm := down_more (ns := ns) wl i
  have hdg := down_long (ns := ns) wl i
  have sd := sT wl i (by omega)
  generalize hdn : down ns wl i = t at hdl hdo hdc hdm hdg sd
  obtain ⟨sts, en⟩ := t
  simp only at hdl hdo hdc hdm hdg
  have hml : (sts.map st3D).length ≤ 700 := by rw [List.length_map]; omega
  have sdt : SeqAt.shaped (.tuple [.tuple (sts.map st3D), en.toD]) = true := sd
  refine ⟨_, (pss_cons (ps_asg (pe_tup (pa_cons (pe_ix (ix_GK (K := K) rfl hu) (pv 1) pe_int (fun _ _ => rfl)) (pa_cons (pe_ix (ix_GK (K := K) rfl hu) (pv 1) pe_int (fun _ _ => rfl)) pa_nil))) (pg_tupK (K := K) (n := 2) rfl rfl (pgs_cons (pg_name (i := 4) sc_law_is_way.nd rfl (Or.inl rfl)) (pgs_cons (pg_name (i := 5) sc_law_is_way.nd rfl (Or.inr rfl)) pgs_nil)))) (pss_cons (ps_asg (pe_cal C_law_down (hr.mono (by omega)) (by rfl) pass0 (pa_cons (pv 5) (pa_cons (pv 2) (pa_cons (pv 3) pa_nil)))) (pg_tupK (K := K) (n := 2) rfl rfl (pgs_cons (pg_name (i := 6) sc_law_is_way.nd rfl (Or.inl rfl)) (pgs_cons (pg_name (i := 7) sc_law_is_way.nd rfl (Or.inl rfl)) pgs_nil)))) (pss_cons (ps_set (i := 8) sc_law_is_way.nd rfl (Or.inl rfl) (pe_cal C_trace (hr.mono (by omega)) (by rfl) pass0 (pa_cons (pv 4) (pa_cons (pv 2) (pa_cons (pv 3) pa_nil))))) (pss_cons (ps_if (PW.pt (pw_or (pt_cmpR (op_neGK (K := K) rfl hr.units) (pv 8) (pe_tup (pa_cons (pv 6) (pa_cons (pv 7) pa_nil))) (nomark _)) (pw_or1 (pt_not (pt_val (pe_cal C_law_is_told (hr.mono (by omega)) (by rfl) pass0 (pa_cons (pv 8) pa_nil))))))) (pss_one (ps_ret pe_bl)) pss_nil) (pss_cons (ps_set (i := 9) sc_law_is_way.nd rfl (Or.inr rfl) (pe_cal C_law_along (hr.mono (by omega)) (by rfl) pass0 (pa_cons (pv 5) (pa_cons (pv 2) (pa_cons (pv 6) pa_nil))))) (pss_cons (ps_set (i := 10) sc_law_is_way.nd rfl (Or.inl rfl) (pe_callTy (call_tupGK (K := K) rfl) (by rfl) T.m_tuple (by decide +kernel) (pa_cons (pe_lc (own := [("k", 13)]) (g := gName 13) rfl sc_law_is_way.nd (pi_range1 (by rfl) T.m_range (pa_cons (pe_callB (call_lenGK (K := K) rfl) (by rfl) T.m_len (by decide +kernel) (pa_cons (pv 6) pa_nil)) pa_nil)) (blkOk_by (N := N_law_is_way) (sc := defScope s_law_is_way) (by decide +kernel)) (fun _ _ _ _ _ => pg_name (i := 13) sc_law_is_way.nd rfl (Or.inl rfl)) (fun _ _ _ _ _ => pts_nil) (fun _ _ _ _ _ => (pe_op (op_addGK (K := K) rfl) (pe_ix (ix_GK (K := K) rfl hu) (pv 3) (pv 13) (fun _ _ => rfl)) (pe_op op_mul (pe_callB (call_lenGK (K := K) rfl) (by rfl) T.m_len (by decide +kernel) (pa_cons (pe_ix (ix_GK (K := K) rfl hu) (pe_ix (ix_GK (K := K) rfl hu) (pv 5) (pe_ix (ix_GK (K := K) rfl hu) (pv 9) (pv 13) (fun _ _ => rfl)) (fun _ _ => rfl)) pe_int (fun _ _ => rfl)) pa_nil)) (pe_cal C_law_number (hr.mono (by omega)) (by rfl) pass0 (pa_cons (pv 0) pa_nil)))))) pa_nil))) (pss_cons (ps_if (pt_cmpR (op_neGK (K := K) rfl hr.units) (pe_cal C_trace (hr.mono (by omega)) (by rfl) pass0 (pa_cons (pv 4) (pa_cons (pv 2) (pa_cons (pv 10) pa_nil)))) (pe_tup (pa_cons (pv 6) (pa_cons (pv 7) pa_nil))) (nomark _)) (pss_one (ps_ret pe_bl)) pss_nil) (pss_cons (ps_set (i := 11) sc_law_is_way.nd rfl (Or.inl rfl) (pe_cal C_law_draw (hr.mono (by omega)) (by rfl) pass0 (pa_cons (pv 0) (pa_cons (pe_op (op_addGK (K := K) rfl) (pe_callB (call_lenGK (K := K) rfl) (by rfl) T.m_len (by decide +kernel) (pa_cons (pv 6) pa_nil)) pe_int) pa_nil)))) (pss_cons (ps_if (pt_cmpR (op_neGK (K := K) rfl hr.units) (pe_cal C_trace (hr.mono (by omega)) (by rfl) pass0 (pa_cons (pv 4) (pa_cons (pv 2) (pa_cons (pe_slice (sl_GK (K := K) rfl) (pv 3) po_none (po_some (pv 11))) pa_nil)))) (pe_cal C_law_down (hr.mono (by omega)) (by rfl) pass0 (pa_cons (pv 5) (pa_cons (pv 2) (pa_cons (pe_slice (sl_GK (K := K) rfl) (pv 3) po_none (po_some (pv 11))) pa_nil)))) (nomark _)) (pss_one (ps_ret pe_bl)) pss_nil) (pss_cons (ps_if (pt_cmpR (op_neGK (K := K) rfl hr.units) (pe_cal C_trace (hr.mono (by omega)) (by rfl) pass0 (pa_cons (pv 4) (pa_cons (pe_ix (ix_GK (K := K) rfl hu) (pv 9) (pv 11) (fun _ _ => rfl)) (pa_cons (pe_slice (sl_GK (K := K) rfl) (pv 3) (po_some (pv 11)) po_none) pa_nil)))) (pe_tup (pa_cons (pe_slice (sl_GK (K := K) rfl) (pv 6) (po_some (pv 11)) po_none) (pa_cons (pv 7) pa_nil))) (nomark _)) (pss_one (ps_ret pe_bl)) pss_nil) (pss_cons (ps_set (i := 12) sc_law_is_way.nd rfl (Or.inl rfl) (pe_op (op_addGK (K := K) rfl) (pv 3) (pe_callTy (call_tupGK (K := K) rfl) (by rfl) T.m_tuple (by decide +kernel) (pa_cons (pe_lc (own := [("k", 13)]) (g := gName 13) rfl sc_law_is_way.nd (pi_range1 (by rfl) T.m_range (pa_cons pe_int pa_nil)) (blkOk_by (N := N_law_is_way) (sc := defScope s_law_is_way) (by decide +kernel)) (fun _ _ _ _ _ => pg_name (i := 13) sc_law_is_way.nd rfl (Or.inl rfl)) (fun _ _ _ _ _ => pts_nil) (fun _ _ _ _ _ => (pe_cal C_law_number (hr.mono (by omega)) (by rfl) pass0 (pa_cons (pv 0) pa_nil)))) pa_nil)))) (pss_cons (ps_if (pt_cmpR (op_neGK (K := K) rfl hr.units) (pe_ix (ix_GK (K := K) rfl hu) (pv 7) pe_int (fun _ _ => rfl)) pe_str (nomark _)) (pss_one (ps_ret (pe_cmpR (op_eqGK (K := K) rfl hr.units) (pe_cal C_trace (hr.mono (by omega)) (by rfl) pass0 (pa_cons (pv 4) (pa_cons (pv 2) (pa_cons (pv 12) pa_nil)))) (pe_tup (pa_cons (pv 6) (pa_cons (pv 7) pa_nil))) (nomark _)))) pss_nil) (pss_one (ps_ret (pe_cmpR (op_eqGK (K := K) rfl hr.units) (pe_cal C_trace (hr.mono (by omega)) (by rfl) pass0 (pa_cons (pv 4) (pa_cons (pv 2) (pa_cons (pv 12) pa_nil)))) (pe_cal C_law_down (hr.mono (by omega)) (by rfl) pass0 (pa_cons (pv 5) (pa_cons (pv 2) (pa_cons (pv 12) pa_nil)))) (nomark _)))))))))))))))), ?_⟩
  kpt_turns
  regloopunroll_open
  rename_i H0 p0 f0 n0 e0
  refine gTup2_raw e0 ?_
  have W0 := W.fr0 f0
  have hd0 := hd.fr0 f0
  regloopunroll_open
  refine ⟨A.o, size, ns, i, wl, x, rfl, W0.own, ok, hi, by omega, hx.up f0, fun H1 v1 f1 r1 => ?_⟩
  rw [hdn] at r1
  replace r1 : Rep K H1 (.tuple [.tuple (sts.map st3D), en.toD]) v1 := r1
  regloopunroll_open
  rename_i vs ve rs re
  refine ⟨A.g, A.nl, A.kn, size, ns, i, wl, x, rfl, (W0.fr0 f1).gr, ok, hi, by omega, (hx.up f0).up f1, fun H2 v2 f2 r2 => ?_⟩
  rw [hdn] at r2
  have f02 : Fr [] H H2 := (f0.step f1).step f2
  have W2 := W.fr0 f02
  have hd2 := hd.fr0 f02
  have rs2 := rs.up f2
  have re2 := re.up f2
  have hx2 := hx.up f02
  have ob2 := f02.at ob
  regloopunroll_open
  rename_i H3 v3 f3 r3
  refine neG_same (r2.up f3) r3 sdt ?_
  regloopunroll_open
  refine ⟨(sts, en), v2, rfl, r2.up f3, (show sts.length ≤ 800 by omega), fun H4 f4 => ?_⟩
  regloopunroll_open
  refine ⟨A.o, ns, i, sts, vs, rfl, ((W2.fr0 f3).fr0 f4).own, hdo, (rs2.up f3).up f4, by omega, fun H5 pA f5 nA eA => ?_⟩
  have f25 : Fr [] H2 H5 := (f3.step f4).step f5
  have W5 := W2.fr0 f25
  have hd5 := hd2.fr0 f25
  have rs5 := rs2.up f25
  have hal := along_len (ns := ns) sts i
  have hAa : pA ≠ a := ((hd2.fr0 f3).fr0 f4).neL nA
  regloopunroll_open
  refine lcR1_q (k := sts.length) (by rw [List.length_map]) (by omega) (fun Dd j H' => Fr [a] H5 H' ∧ DrawOk H' a c ∧ ∃ ms : List Int, H' Dd = some (.lst (ms.map V.int)) ∧ ms.length = j ∧ ∀ c, c < ms.length → ∃ (k : Nat) (p : Str) (a : Nat) (ks : List Nat) (n : Int), (along ns sts i)[c]? = some k ∧ ns[k]? = some (.ask p a ks) ∧ ms[c]? = some ((wl.getD c 0) + (ks.length : Int) * n)) (fun Dd nD => ⟨(Fr.new nD).of0, hd5.fr0 (Fr.new nD), [], upd_same, rfl, fun c h => by simp at h⟩) (fun Dd j H' nD hj p => ?_) (fun Dd H6 nD p => ?_)
  · obtain ⟨fr, hd', ms, eD, lk, hms⟩ := p
    have hDa := hd5.neL nD
    have hDc := hd5.neC nD
    obtain ⟨k, p, ag, ks, h1, h2, h3⟩ := along_at sts i hdo j hj
    have ew : wl[j]? = some wl[j] := List.getElem?_eq_getElem (by omega)
    have eA' := fr.at1 eA hAa
    have own' := (W5.frA fr D).own
    have hk4 : (ks.map natD).length ≤ 4 := by rw [List.length_map]; exact (ok.st k p ag ks h2).2
    regloopunroll_open
    refine ⟨rfl, ?_⟩
    regloopunroll_open
    refine ix_repI (i := j) (((hx2.up f25).up fr)) (by rw [List.getElem?_map, ew]; rfl) ?_
    regloopunroll_open
    refine ixL_q (.of eA') (i := j) (by rw [List.getElem?_map, h1]; rfl) rfl ?_
    regloopunroll_open
    refine dn_ix own' rfl (by rw [own_get]; exact h2) (fun v hv => ?_)
    replace hv : Rep K H' (.tuple [.str "ask", .str p, .int (ag : Int), .tuple (ks.map natD)]) v := hv
    regloopunroll_open
    refine ⟨a, c, rfl, hd', fun H7 z f7 hd7 => ?_⟩
    regloopunroll_open
    have eD7 := f7.at1 eD hDa
    have gD : Fr [Dd] H7 (upd H7 Dd (.lst ((ms.map V.int) ++ [.int (wl[j] + ((ks.map natD).length : Int) * z)]))) := Fr.setL eD7
    refine ⟨_, eD7, small1000 (by rw [List.length_map]; omega), (fr.step f7).over1 nD gD, hd7.fr1 gD hDa hDc, ms ++ [wl[j] + ((ks.map natD).length : Int) * z], by rw [upd_same, List.map_append]; rfl, by simp [lk], fun c' h => ?_⟩
    by_cases hc' : c' < ms.length
    · obtain ⟨k', p', a', ks', n', g1, g2, g3⟩ := hms c' hc'
      exact ⟨k', p', a', ks', n', g1, g2, by rw [List.getElem?_append_left hc', g3]⟩
    · rw [List.length_append, List.length_singleton] at h
      obtain rfl : c' = j := by omega
      exact ⟨k, p, ag, ks, z, h1, h2, by rw [List.getElem?_append_right (by omega), lk, Nat.sub_self, List.getD, ew, List.length_map]; rfl⟩
  obtain ⟨f6, hd6, ms, eD, lk, hms⟩ := p
  have hDa := hd5.neL nD
  regloopunroll_open
  rename_i H7 p7 f7 n7 e7
  have rm : Rep K H7 (.tuple (ms.map .int)) (.ref p7) := rep_tup e7 (reps_ints _)
  have W7 := (W5.frA f6 D).fr0 f7
  refine ⟨A.g, A.nl, A.kn, size, ns, i, ms, _, rfl, W7.gr, ok, hi, by omega, rm, fun H8 v8 f8 r8 => ?_⟩
  rw [hdm ms lk (fun c' hc' => hms c' hc')] at r8
  have rs8 := ((rs5.up f6).up f7).up f8
  have re8 := (((re2.up f25).up f6).up f7).up f8
  regloopunroll_open
  rename_i H9 v9 f9 r9
  refine neG_same (r8.up f9) r9 sdt ?_
  have f59 : Fr [a] H5 H9 := ((f6.step0 f7).step0 f8).step0 f9
  have W9 := W5.frA f59 D
  have hd9 : DrawOk H9 a c := ((hd6.fr0 f7).fr0 f8).fr0 f9
  have rs9 := rs8.up f9
  have re9 := re8.up f9
  have hx9 := (hx2.up f25).up f59
  have eA9 := f59.at1 eA hAa
  regloopunroll_open
  rename_i H10 cut f10 hd10 hcut
  rw [List.length_map] at hcut
  obtain ⟨kc, hk1, hk2, hk3⟩ := hdc cut (by omega)
  refine slT_to (k := cut) (hx9.up f10) rfl (fun H11 v11 f11 r11 => ?_)
  rw [← List.map_take] at r11
  have W11 := (W9.frA f10 D).fr0 f11
  regloopunroll_open
  refine ⟨A.g, A.nl, A.kn, size, ns, i, wl.take cut, _, rfl, W11.gr, ok, hi, by rw [List.length_take]; omega, r11, fun H12 v12 f12 r12 => ?_⟩
  regloopunroll_open
  refine slT_to (k := cut) (((hx9.up f10).up f11).up f12) rfl (fun H13 v13 f13 r13 => ?_)
  rw [← List.map_take] at r13
  have W13 := (W11.fr0 f12).fr0 f13
  regloopunroll_open
  refine ⟨A.o, size, ns, i, wl.take cut, _, rfl, W13.own, ok, hi, by rw [List.length_take]; omega, r13, fun H14 v14 f14 r14 => ?_⟩
  regloopunroll_open
  refine neG_same ((r12.up f13).up f14) r14 (sT _ _ (by rw [List.length_take]; omega)) ?_
  have f1014 : Fr [] H10 H14 := ((f11.step f12).step f13).step f14
  have W14 := W13.fr0 f14
  have eA14 := f1014.at (f10.at1 eA9 hAa)
  have hx14 := (hx9.up f10).up f1014
  have hd14 := hd10.fr0 f1014
  regloopunroll_open
  refine ixL_q (.of eA14) (i := cut) (by rw [List.getElem?_map, hk1]; rfl) rfl ?_
  regloopunroll_open
  refine slT_from (k := cut) hx14 rfl (fun H15 v15 f15 r15 => ?_)
  rw [← List.map_drop] at r15
  have W15 := W14.fr0 f15
  regloopunroll_open
  refine ⟨A.g, A.nl, A.kn, size, ns, kc, wl.drop cut, _, rfl, W15.gr, ok, hk2, by rw [List.length_drop]; omega, r15, fun H16 v16 f16 r16 => ?_⟩
  have sk := sT (wl.drop cut) kc (by rw [List.length_drop]; omega)
  rw [hk3] at r16 sk
  regloopunroll_open
  refine slT_from (k := cut) ((((rs9.up f10).up f1014).up f15).up f16) rfl (fun H17 v17 f17 r17 => ?_)
  rw [← List.map_drop] at r17
  have re17 := ((((re9.up f10).up f1014).up f15).up f16).up f17
  regloopunroll_open
  rename_i H18 v18 f18 r18
  refine neG_same ((r16.up f17).up f18) r18 sk ?_
  have f1418 : Fr [] H14 H18 := ((f15.step f16).step f17).step f18
  have W18 := W14.fr0 f1418
  have hd18 := hd14.fr0 f1418
  have hx18 := hx14.up f1418
  have rs18 := ((rs9.up f10).up f1014).up f1418
  have re18 := ((re9.up f10).up f1014).up f1418
  regloopunroll_open
  refine lcR1_q (k := 3) rfl (by omega) (fun Dd j H' => Fr [a] H18 H' ∧ DrawOk H' a c ∧ ∃ ms : List Int, H' Dd = some (.lst (ms.map V.int)) ∧ ms.length = j) (fun Dd nD => ⟨(Fr.new nD).of0, hd18.fr0 (Fr.new nD), [], upd_same, rfl⟩) (fun Dd j H' nD hj p => ?_) (fun Dd H19 nD p => ?_)
  · obtain ⟨fr, hd', ms, eD, lk⟩ := p
    have hDa := hd18.neL nD
    have hDc := hd18.neC nD
    regloopunroll_open
    refine ⟨rfl, ?_⟩
    regloopunroll_open
    refine ⟨a, c, rfl, hd', fun H7 z f7 hd7 => ?_⟩
    have eD7 := f7.at1 eD hDa
    have gD : Fr [Dd] H7 (upd H7 Dd (.lst ((ms.map V.int) ++ [.int z]))) := Fr.setL eD7
    exact ⟨_, eD7, small1000 (by rw [List.length_map]; omega), (fr.step f7).over1 nD gD, hd7.fr1 gD hDa hDc, ms ++ [z], by rw [upd_same, List.map_append]; rfl, by simp [lk]⟩
  obtain ⟨f19, hd19, mz, eD2, lk2⟩ := p
  regloopunroll_open
  rename_i H20 p20 f20 n20 e20
  have rz : Rep K H20 (.tuple (mz.map .int)) (.ref p20) := rep_tup e20 (reps_ints _)
  refine addG_tup ((hx18.up f19).up f20) rz (by rw [List.length_map, List.length_map]; omega) (fun H21 v21 f21 r21 => ?_)
  rw [← List.map_append] at r21
  have f1821 : Fr [a] H18 H21 := (f19.step0 f20).step0 f21
  have W21 := W18.frA f1821 D
  have hd21 := (hd19.fr0 f20).fr0 f21
  have rs21 := rs18.up f1821
  have re21 := re18.up f1821
  have hlong : (wl ++ mz).length ≤ 800 := by rw [List.length_append]; omega
  have ffin : Fr [a] H H21 := ((((((f02.step f25).of0.step f59).step f10).step0 f1014).step0 f1418).step f1821)
  regloopunroll_open
  have hnw : isW en = false → ∃ (s : Str) (ds : List PyData), en.toD = .tuple (.str s :: ds) ∧ ¬ s = "waits" := fun h => by
    cases en with
    | ends v => exact ⟨_, _, rfl, by decide +kernel⟩
    | stops p a => exact ⟨_, _, rfl, by decide +kernel⟩
    | waits p a => cases h
  have hw : isW en = true → ∃ (ds : List PyData), en.toD = .tuple (.str "waits" :: ds) := fun h => by
    cases en with
    | ends v => cases h
    | stops p a => cases h
    | waits p a => exact ⟨_, rfl⟩
  cases hwz : isW en with
  | false =>
    obtain ⟨s0, ds, eds, hs0⟩ := hnw hwz
    have re21' := re21
    rw [eds] at re21'
    refine ix_repS (i := 0) re21' rfl ?_
    regloopunroll_open
    refine ifNT (fun z => hs0 (V.str.inj z)) ?_
    regloopunroll_open
    refine ⟨A.g, A.nl, A.kn, size, ns, i, wl ++ mz, v21, rfl, W21.gr, ok, hi, hlong, r21, fun H22 v22 f22 r22 => ?_⟩
    rw [hdg mz hwz] at r22
    have rs22 := rs21.up f22
    have re22 := re21.up f22
    regloopunroll_open
    rename_i H23 v23 f23 r23
    refine eqG_same (r22.up f23) r23 sdt ?_
    exact q H23 ((ffin.step0 f22).step0 f23) ((hd21.fr0 f22).fr0 f23)
  | true =>
    obtain ⟨ds, eds⟩ := hw hwz
    have re21' := re21
    rw [eds] at re21'
    refine ix_repS (i := 0) re21' rfl ?_
    regloopunroll_open
    refine ⟨A.g, A.nl, A.kn, size, ns, i, wl ++ mz, v21, rfl, W21.gr, ok, hi, hlong, r21, fun H22 v22 f22 r22 => ?_⟩
    regloopunroll_open
    refine ⟨A.o, size, ns, i, wl ++ mz, v21, rfl, (W21.fr0 f22).own, ok, hi, hlong, r21.up f22, fun H23 v23 f23 r23 => ?_⟩
    regloopunroll_open
    refine eqG_same (r22.up f23) r23 (sT _ _ hlong) ?_
    exact q H23 ((ffin.step0 f22).step0 f23) ((hd21.fr0 f22).fr0 f23)

structure Two where
  wd : Bool → Addr
  A : Bool → WA
  sz : Bool → Nat
  op : Bool → List Op3
def Two.At (P : Program) (w : World) (K : PySem.W.Frag) (C : Addr) (t : Two) (H : Hp) (ns : Bool → List Nd) : Prop := ∀ b, WoodAt P w K C H (t.wd b) (t.A b) (t.sz b) (t.op b) (ns b)
structure Two.Sep (t : Two) (a c : Addr) : Prop where
  dis : ∀ b, Dis (t.wd b) (t.A b) a c
  sep : ∀ b b', b' ≠ b → t.wd b' ∉ (t.A b).mut ∧ ∀ x ∈ (t.A b').all, x ∉ (t.A b).mut
theorem Two.At.frA {C : Addr} {t : Two} {H H' : Hp} {ns : Bool → List Nd} {a c : Addr} (h : t.At P w K C H ns) (s : t.Sep a c) (f : Fr [a] H H') : t.At P w K C H' ns := fun b => (h b).frA f (s.dis b)
theorem Two.At.fr0 {C : Addr} {t : Two} {H H' : Hp} {ns : Bool → List Nd} (h : t.At P w K C H ns) (f : Fr [] H H') : t.At P w K C H' ns := fun b => (h b).fr0 f
theorem Two.At.frB {C : Addr} {t : Two} {H H' : Hp} {ns : Bool → List Nd} {p : Addr} (h : t.At P w K C H ns) (f : Fr [p] H H') (hp : ∀ b, t.wd b ≠ p ∧ ∀ x ∈ (t.A b).all, x ≠ p) : t.At P w K C H' ns := fun b => (h b).fr f (by simpa using (hp b).1) fun x hx => by simpa using (hp b).2 x hx
theorem Two.At.free {C : Addr} {t : Two} {H : Hp} {ns : Bool → List Nd} {p : Addr} (h : t.At P w K C H ns) (e : H p = none) (b : Bool) : t.wd b ≠ p ∧ ∀ x ∈ (t.A b).all, x ≠ p := by
  refine ⟨fun z => ?_, fun x hx z => (h b).some x hx (by rw [z]; exact e)⟩
  have := (h b).ob
  rw [z, e] at this
  cases this
theorem Two.At.grow {C : Addr} {t : Two} {H H' : Hp} {ns : Bool → List Nd} {a c : Addr} (b : Bool) {ns1 : List Nd} (h : t.At P w K C H ns) (s : t.Sep a c) (f : Fr (a :: (t.A b).mut) H H') (W : WoodAt P w K C H' (t.wd b) (t.A b) (t.sz b) (t.op b) ns1) (hp : ns b <+: ns1) :
    ∃ ns' : Bool → List Nd, t.At P w K C H' ns' ∧ (∀ b', ns b' <+: ns' b') ∧ ns' b = ns1 ∧ ∀ b', b' ≠ b → ns' b' = ns b' := by
  refine ⟨fun b' => if b' = b then ns1 else ns b', fun b' => ?_, fun b' => ?_, by simp, fun b' e => by simp [e]⟩
  · by_cases e : b' = b
    · subst e; simpa using W
    · have := (h b').fr f (by simp only [List.mem_cons, not_or]; exact ⟨(s.dis b').wa, (s.sep b b' e).1⟩) (fun x hx => by simp only [List.mem_cons, not_or]; exact ⟨((s.dis b').al x hx).1, (s.sep b b' e).2 x hx⟩)
      simpa [e] using this
  · by_cases e : b' = b
    · subst e; simpa using hp
    · simp [e]
/-- one that is asked -/
def AskOk (K : PySem.W.Frag) (H : Hp) (t : Two) (ns : Bool → List Nd) (v : V) : Prop := ∃ (p : Addr) (b : Bool) (i : Nat) (wl : List Int) (x : V), v = .ref p ∧ H p = some (.tup [.ref (t.wd b), .int (i : Int), x]) ∧ Rep K H (.tuple (wl.map .int)) x ∧ i < (ns b).length ∧ wl.length ≤ 300
theorem AskOk.fr {K : PySem.W.Frag} {H H' : Hp} {t : Two} {ns ns' : Bool → List Nd} {v : V} {l : List Addr} (h : AskOk K H t ns v) (f : Fr l H H') (hp : ∀ b, ns b <+: ns' b) : AskOk K H' t ns' v := by
  obtain ⟨p, b, i, wl, x, rfl, e, r, hi, hl⟩ := h
  exact ⟨p, b, i, wl, x, rfl, f.tups _ _ e, r.up f, Nat.lt_of_lt_of_le hi (hp b).length_le, hl⟩
theorem bool_of {k : Nat} (h : k < 2) : ∃ b : Bool, k = if b then 1 else 0 := by
  by_cases e : k = 0
  · exact ⟨false, e⟩
  · exact ⟨true, by simp; omega⟩
theorem bool_ix {α : Type} (f : Bool → α) (b : Bool) : [f false, f true][if b then 1 else 0]? = some (f b) := by cases b <;> rfl
def spLaw (K : PySem.W.Frag) : Sp := fun vs H Q _ => ∃ (s : Addr) (ns : List Int), vs = [.ref s] ∧ SqL K H s (ns.map V.int) ∧ ns.length ≤ 63 ∧ ∀ H', Q (.bl true) H'
theorem ok_law (T : Top K mg) {fl : Addr} {fdl : FuncData} (F : Fun K "law" "law" s_law fl fdl) : FnOk P w K mg base CX0 40 fl fdl ["script"] (spLaw K) := by
  refine fun_ok F sc_law [none, none, none, none, none, none, none, none] rfl (fun vs H Q E h => ?_) (fun f cdv A0 outer s H vs Q E hk hr h => ?_)
  · obtain ⟨s, ns, rfl, _⟩ := h; rfl
  obtain ⟨sa, ns0, rfl, hsq, hlen, q⟩ := h
  have hu := hu_of hr
  obtain ⟨C, G⟩ := T.c_Grove
  have C_law_begin := ok_law_begin (P := P) (w := w) (base := base) T
  have C_law_draw := ok_law_draw (P := P) (w := w) (base := base) T
  have C_law_number := ok_law_number (P := P) (w := w) (base := base) T
  have C_law_wood := ok_law_wood (P := P) (w := w) (base := base) T G
  have C_law_kid := ok_law_kid (P := P) (w := w) (base := base) T (C := C)
  have C_law_grow := ok_law_grow (P := P) (w := w) (base := base) T G
  have C_law_chain := ok_law_chain (P := P) (w := w) (base := base) T G
  have C_law_down := ok_law_down (P := P) (w := w) (base := base) T
  have C_law_is_way := ok_law_is_way (P := P) (w := w) (base := base) T G
  have C_trace := ok_trace (P := P) (w := w) (base := base) T G
  refine ⟨_, (pss_cons (ps_set (i := 1) sc_law.nd rfl (Or.inr rfl) (pe_cal C_law_begin (hr.mono (by omega)) (by rfl) pass0 (pa_cons (pv 0) pa_nil))) (pss_cons (ps_set (i := 2) sc_law.nd rfl (Or.inl rfl) (pe_lst (pa_cons (pe_cal C_law_wood (hr.mono (by omega)) (by rfl) pass0 (pa_cons (pv 1) (pa_cons (pe_op (op_addGK (K := K) rfl) pe_int (pe_cal C_law_draw (hr.mono (by omega)) (by rfl) pass0 (pa_cons (pv 1) (pa_cons pe_int pa_nil)))) pa_nil))) (pa_cons (pe_cal C_law_wood (hr.mono (by omega)) (by rfl) pass0 (pa_cons (pv 1) (pa_cons (pe_op (op_addGK (K := K) rfl) pe_int (pe_cal C_law_draw (hr.mono (by omega)) (by rfl) pass0 (pa_cons (pv 1) (pa_cons pe_int pa_nil)))) pa_nil))) pa_nil)))) (pss_cons (ps_set (i := 3) sc_law.nd rfl (Or.inl rfl) (pe_lst pa_nil)) (pss_cons (ps_if (pt_cmpR (op_eqGK (K := K) rfl hr.units) (pe_cal C_law_draw (hr.mono (by omega)) (by rfl) pass0 (pa_cons (pv 1) (pa_cons pe_int pa_nil))) pe_int (nomark _)) (pss_cons (ps_set (i := 4) sc_law.nd rfl (Or.inl rfl) (pe_ix (ix_GK (K := K) rfl hu) (pv 2) (pe_cal C_law_draw (hr.mono (by omega)) (by rfl) pass0 (pa_cons (pv 1) (pa_cons pe_int pa_nil))) (fun _ _ => rfl))) (pss_cons (ps_asg (pe_cal C_law_chain (hr.mono (by omega)) (by rfl) pass0 (pa_cons (pv 1) (pa_cons (pv 4) (pa_cons (pe_op (op_addGK (K := K) rfl) pe_int (pe_cal C_law_draw (hr.mono (by omega)) (by rfl) pass0 (pa_cons (pv 1) (pa_cons pe_int pa_nil)))) pa_nil)))) (pg_tupK (K := K) (n := 2) rfl rfl (pgs_cons (pg_name (i := 5) sc_law.nd rfl (Or.inl rfl)) (pgs_cons (pg_name (i := 6) sc_law.nd rfl (Or.inl rfl)) pgs_nil)))) (pss_one (ps_expr (pe_bm PySem.F.plainAttrs_list PySem.F.slot_list_append PySem.F.type_list_append mt_append (pv 3) (pa_cons (pe_tup (pa_cons (pv 4) (pa_cons (pv 5) (pa_cons (pv 6) pa_nil)))) pa_nil)))))) pss_nil) (pss_cons (ps_for PassesOwn.never rfl (pi_range1 (by rfl) T.m_range (pa_cons pe_int pa_nil)) (pg_name (i := 7) sc_law.nd rfl (Or.inl rfl)) (pss_cons (ps_set (i := 4) sc_law.nd rfl (Or.inl rfl) (pe_ix (ix_GK (K := K) rfl hu) (pv 2) (pe_op op_mod (pv 7) pe_int) (fun _ _ => rfl))) (pss_cons (ps_set (i := 6) sc_law.nd rfl (Or.inl rfl) (pe_callTy (call_tupGK (K := K) rfl) (by rfl) T.m_tuple (by decide +kernel) (pa_cons (pe_lc (own := [("j", 8)]) (g := gName 8) rfl sc_law.nd (pi_range1 (by rfl) T.m_range (pa_cons (pe_cal C_law_draw (hr.mono (by omega)) (by rfl) pass0 (pa_cons (pv 1) (pa_cons pe_int pa_nil))) pa_nil)) (blkOk_by (N := N_law) (sc := defScope s_law) (by decide +kernel)) (fun _ _ _ _ _ => pg_name (i := 8) sc_law.nd rfl (Or.inl rfl)) (fun _ _ _ _ _ => pts_nil) (fun _ _ _ _ _ => (pe_cal C_law_number (hr.mono (by omega)) (by rfl) pass0 (pa_cons (pv 1) pa_nil)))) pa_nil))) (pss_one (ps_expr (pe_bm PySem.F.plainAttrs_list PySem.F.slot_list_append PySem.F.type_list_append mt_append (pv 3) (pa_cons (pe_tup (pa_cons (pv 4) (pa_cons (pe_cal C_law_kid (hr.mono (by omega)) (by rfl) pass0 (pa_cons (pv 1) (pa_cons (pv 4) pa_nil))) (pa_cons (pv 6) pa_nil)))) pa_nil))))))) (pss_cons (ps_for PassesOwn.never rfl (pi_seqK (K := K) rfl (pv 3)) (pg_tupK (K := K) (n := 3) rfl rfl (pgs_cons (pg_name (i := 4) sc_law.nd rfl (Or.inl rfl)) (pgs_cons (pg_name (i := 5) sc_law.nd rfl (Or.inl rfl)) (pgs_cons (pg_name (i := 6) sc_law.nd rfl (Or.inl rfl)) pgs_nil)))) (pss_one (ps_if (pt_not (pt_val (pe_cal C_law_is_way (hr.mono (by omega)) (by rfl) pass0 (pa_cons (pv 1) (pa_cons (pv 4) (pa_cons (pv 5) (pa_cons (pv 6) pa_nil))))))) (pss_one (ps_ret pe_bl)) pss_nil))) (pss_cons (ps_for PassesOwn.never rfl (pi_seqK (K := K) rfl (pv 2)) (pg_name (i := 4) sc_law.nd rfl (Or.inl rfl)) (pss_cons (ps_expr (pe_cal C_law_grow (hr.mono (by omega)) (by rfl) pass0 (pa_cons (pv 1) (pa_cons (pv 4) (pa_cons pe_int pa_nil))))) (pss_one (ps_for PassesOwn.never rfl (pi_seqK (K := K) rfl (pe_ix (ix_GK (K := K) rfl hu) (pv 4) pe_int (fun _ _ => rfl))) (pg_name (i := 5) sc_law.nd rfl (Or.inl rfl)) (pss_one (ps_if (pt_cmpR (op_neGK (K := K) rfl hr.units) (pe_cal C_trace (hr.mono (by omega)) (by rfl) pass0 (pa_cons (pe_ix (ix_GK (K := K) rfl hu) (pv 4) pe_int (fun _ _ => rfl)) (pa_cons (pv 5) (pa_cons (pe_tup pa_nil) pa_nil)))) (pe_cal C_law_down (hr.mono (by omega)) (by rfl) pass0 (pa_cons (pe_ix (ix_GK (K := K) rfl hu) (pv 4) pe_int (fun _ _ => rfl)) (pa_cons (pv 5) (pa_cons (pe_tup pa_nil) pa_nil)))) (nomark _)) (pss_one (ps_ret pe_bl)) pss_nil)))))) (pss_cons (ps_for PassesOwn.never rfl (pi_seqK (K := K) rfl (pv 3)) (pg_tupK (K := K) (n := 3) rfl rfl (pgs_cons (pg_name (i := 4) sc_law.nd rfl (Or.inl rfl)) (pgs_cons (pg_name (i := 5) sc_law.nd rfl (Or.inl rfl)) (pgs_cons (pg_name (i := 6) sc_law.nd rfl (Or.inl rfl)) pgs_nil)))) (pss_one (ps_if (pt_cmpR (op_neGK (K := K) rfl hr.units) (pe_cal C_trace (hr.mono (by omega)) (by rfl) pass0 (pa_cons (pe_ix (ix_GK (K := K) rfl hu) (pv 4) pe_int (fun _ _ => rfl)) (pa_cons (pv 5) (pa_cons (pv 6) pa_nil)))) (pe_cal C_law_down (hr.mono (by omega)) (by rfl) pass0 (pa_cons (pe_ix (ix_GK (K := K) rfl hu) (pv 4) pe_int (fun _ _ => rfl)) (pa_cons (pv 5) (pa_cons (pv 6) pa_nil)))) (nomark _)) (pss_one (ps_ret pe_bl)) pss_nil))) (pss_one (ps_ret pe_bl)))))))))), ?_⟩
  kpt_turns
  regloopunroll_open
  refine ⟨sa, ns0, rfl, hsq, hlen, fun H1 a c f1 na nc hd1 => ?_⟩
  regloopunroll_open
  rename_i H2 k2 f2 hd2 hk2
  refine ⟨a, c, 4 + k2, by rw [show ((4 + k2 : Nat) : Int) = 4 + (k2 : Int) by omega], hd2, by omega, fun H3 wd1 A1 sz1 op1 ns1 f3 hd3 W1 D1 nw1 nA1 hl1 => ?_⟩
  regloopunroll_open
  rename_i H4 k4 f4 hd4 hk4
  refine ⟨a, c, 4 + k4, by rw [show ((4 + k4 : Nat) : Int) = 4 + (k4 : Int) by omega], hd4, by omega, fun H5 wd2 A2 sz2 op2 ns2 f5 hd5 W2 D2 nw2 nA2 hl2 => ?_⟩
  have W1' := W1.frA f4 D1
  have hmut : ∀ (B : WA), ∀ x ∈ B.mut, x ∈ B.all := fun B x hx => by
    simp only [WA.mut, List.mem_cons, List.not_mem_nil, or_false] at hx
    simp only [WA.all, List.mem_cons, List.not_mem_nil, or_false]
    rcases hx with rfl | rfl | rfl | rfl <;> simp
  have h12 : ∀ x ∈ A1.all, ∀ y ∈ A2.all, x ≠ y := fun x hx y hy z => W1'.some x hx (z ▸ nA2 y hy)
  have hw12 : ∀ y ∈ A2.all, wd1 ≠ y := fun y hy z => by
    have := W1'.ob
    rw [z, nA2 y hy] at this
    cases this
  have hw21 : ∀ x ∈ A1.all, x ≠ wd2 := fun x hx z => W1'.some x hx (z ▸ nw2)
  obtain ⟨t, et⟩ : ∃ t : Two, t = ⟨fun b => cond b wd2 wd1, fun b => cond b A2 A1, fun b => cond b sz2 sz1, fun b => cond b op2 op1⟩ := ⟨_, rfl⟩
  have S : t.Sep a c := by
    subst et
    refine ⟨fun b => ?_, fun b b' h => ?_⟩
    · cases b
      · exact D1
      · exact D2
    · cases b <;> cases b'
      · exact absurd rfl h
      · exact ⟨fun m => hw21 _ (hmut _ _ m) rfl, fun x hx m => h12 x (hmut _ _ m) x hx rfl⟩
      · exact ⟨fun m => hw12 _ (hmut _ _ m) rfl, fun x hx m => h12 x hx x (hmut _ _ m) rfl⟩
      · exact absurd rfl h
  have WW : t.At P w K C H5 (fun b => cond b ns2 ns1) := by
    subst et
    intro b
    cases b
    · exact (W1'.frA f5 D1)
    · exact W2
  have ew1 : wd1 = t.wd false := by rw [et]; rfl
  have ew2 : wd2 = t.wd true := by rw [et]; rfl
  generalize hns : (fun b => cond b ns2 ns1) = ns at WW
  have hln : ∀ b, (ns b).length ≤ 37 := fun b => by rw [← hns]; cases b <;> simp only [cond_true, cond_false] <;> omega
  clear et
  subst ew1
  subst ew2
  regloopunroll_open
  rename_i H6 Wl f6 nWl eWl H7 L f7 nL eL H8 k8 f8 hd8 hk8
  have WW6 := WW.fr0 f6
  have hWa : Wl ≠ a := hd5.neL nWl
  have hLa : L ≠ a := (hd5.fr0 f6).neL nL
  have hLc : L ≠ c := (hd5.fr0 f6).neC nL
  have hLW : Wl ≠ L := fun z => by rw [z, nL] at eWl; cases eWl
  have hWm : ∀ b, Wl ∉ (t.A b).mut := fun b m => (WW.free nWl b).2 _ (hmut _ _ m) rfl
  have hLm : ∀ b, L ∉ (t.A b).mut := fun b m => (WW6.free nL b).2 _ (hmut _ _ m) rfl
  have hLt := WW6.free nL
  have WW8 := (WW6.fr0 f7).frA S f8
  have eW8 := f8.at1 (f7.at eWl) hWa
  have eL8 := f8.at1 eL hLa
  have gAt : ∀ {H' : Hp} {b : Bool} {p : Addr} {o : HO} {H'' : Hp}, Fr (a :: (t.A b).mut) H' H'' → H' p = some o → p ≠ a → (∀ b, p ∉ (t.A b).mut) → H'' p = some o := fun {H' b p o H''} f e h1 h2 => f.keep _ _ e (by simp only [List.mem_cons, not_or]; exact ⟨h1, h2 b⟩)
  obtain ⟨Stt, hStt⟩ : ∃ Stt : Hp → Nat → Nat → Prop, Stt = fun H' n m => ∃ ns' : Bool → List Nd, t.At P w K C H' ns' ∧ DrawOk H' a c ∧ (∀ b, (ns' b).length ≤ m) ∧ H' Wl = some (.lst [.ref (t.wd false), .ref (t.wd true)]) ∧ ∃ vs, H' L = some (.lst vs) ∧ vs.length ≤ n ∧ ∀ v ∈ vs, AskOk K H' t ns' v := ⟨_, rfl⟩
  refine cut_ite (fun σ' H' => Stt H' 1 297 ∧ ∃ o4 o5 o6, σ' = [some (.ref sa), some (.ref a), some (.ref Wl), some (.ref L), o4, o5, o6, none, none]) (fun σ' H' p => ?_) (fun n' hn' => ?_)
  · obtain ⟨p, o4, o5, o6, rfl⟩ := p
    regloopunroll_open
    refine forR1_q (k := 12) rfl (by omega) (fun k σ' H' => Stt H' (k + 1) 297 ∧ ∃ o4 o5 o6 o7, σ' = [some (.ref sa), some (.ref a), some (.ref Wl), some (.ref L), o4, o5, o6, o7, none]) ⟨p, _, _, _, _, rfl⟩ (fun k σ' H9 hk p => ?_) (fun σ' H9 p => ?_)
    · obtain ⟨p, o4, o5, o6, o7, rfl⟩ := p
      rw [hStt] at p
      obtain ⟨ns9, WW9, hd9, hl9, eW9, vs, eL9, hvs, hask⟩ := p
      obtain ⟨b, hb⟩ := bool_of (k := k % 2) (by omega)
      regloopunroll_open
      refine ixL_q (.of eW9) (bool_ix (fun b => V.ref (t.wd b)) b) (by rw [← hb]; omega) ?_
      regloopunroll_open
      rename_i H10 k10 f10 hd10 hk10
      have WW10 := WW9.frA S f10
      refine lcR1_q (k := k10) rfl (by omega) (fun Dd j H' => Fr [a] H10 H' ∧ DrawOk H' a c ∧ ∃ ms : List Int, H' Dd = some (.lst (ms.map V.int)) ∧ ms.length = j) (fun Dd nD => ⟨(Fr.new nD).of0, hd10.fr0 (Fr.new nD), [], upd_same, rfl⟩) (fun Dd j H' nD hj p => ?_) (fun Dd H11 nD p => ?_)
      · obtain ⟨fr, hd', ms, eD, lk⟩ := p
        have hDa := hd10.neL nD
        have hDc := hd10.neC nD
        regloopunroll_open
        refine ⟨rfl, ?_⟩
        regloopunroll_open
        refine ⟨a, c, rfl, hd', fun H7 z f7 hd7 => ?_⟩
        have eD7 := f7.at1 eD hDa
        have gD : Fr [Dd] H7 (upd H7 Dd (.lst ((ms.map V.int) ++ [.int z]))) := Fr.setL eD7
        exact ⟨_, eD7, small1000 (by rw [List.length_map]; omega), (fr.step f7).over1 nD gD, hd7.fr1 gD hDa hDc, ms ++ [z], by rw [upd_same, List.map_append]; rfl, by simp [lk]⟩
      obtain ⟨f11, hd11, ms, eD, lk⟩ := p
      regloopunroll_open
      rename_i H12 p12 f12 n12 e12
      have r12 : Rep K H12 (.tuple (ms.map .int)) (.ref p12) := rep_tup e12 (reps_ints _)
      have WW12 := (WW10.frA S f11).fr0 f12
      have hlb := hl9 b
      refine ⟨a, c, t.wd b, t.A b, t.sz b, t.op b, ns9 b, rfl, hd11.fr0 f12, WW12 b, S.dis b, by omega, fun H13 i f13 hd13 hi => ?_⟩
      have f913 : Fr [a] H9 H13 := ((f10.step f11).step0 f12).step f13
      have eL13 := f913.at1 eL9 hLa
      have hvl : vs.length < sizeLine := small1000 (by omega)
      regloopunroll_open
      rename_i H14 p14 f14 n14 e14 H15 f15 e15
      refine ⟨?_, _, _, _, _, rfl⟩
      rw [hStt]
      have f915 : Fr [a, L] H9 H15 := ((f913.mono (fun x hx => by simp at hx; simp [hx])).step0 f14).more f15 (fun x hx => by simp at hx; simp [hx])
      refine ⟨ns9, (((WW12.frA S f13).fr0 f14).frB f15 hLt), (hd13.fr0 f14).fr1 f15 hLa hLc, hl9, f15.at1 (f14.at (f913.at1 eW9 hWa)) hLW, _, e15, by rw [List.length_append]; simp only [List.length_cons, List.length_nil]; omega, fun v hv => ?_⟩
      rcases List.mem_append.mp hv with hv | hv
      · exact (hask v hv).fr f915 fun _ => List.prefix_refl _
      · rw [List.mem_singleton] at hv
        subst hv
        exact ⟨p14, b, i, ms, .ref p12, rfl, f15.tups _ _ e14, (((r12.up f13).up f14).up f15), hi, by omega⟩
    · obtain ⟨p, o4, o5, o6, o7, rfl⟩ := p
      rw [hStt] at p
      obtain ⟨ns9, WW9, hd9, hl9, eW9, vs, eL9, hvs, hask⟩ := p
      regloopunroll_open
      refine g_forL ?_
      regloopunroll_open
      refine forL_q (.of eL9) (fun k σ' H' => Fr [a] H9 H' ∧ DrawOk H' a c ∧ ∃ o4 o5 o6 o7, σ' = [some (.ref sa), some (.ref a), some (.ref Wl), some (.ref L), o4, o5, o6, o7, none]) ⟨Fr.refl _ _, hd9, _, _, _, _, rfl⟩ (fun k σ' H' p => .of (p.1.at1 eL9 hLa)) (fun k v σ' H10 hv p => ?_) (fun σ' H10 p => ?_)
      · obtain ⟨f10, hd10, o4, o5, o6, o7, rfl⟩ := p
        obtain ⟨p, b, i, wl, x, rfl, e, r, hi, hl⟩ := hask v (List.mem_of_getElem? hv)
        refine gTup3_raw (f10.tups _ _ e) ?_
        regloopunroll_open
        refine ⟨a, c, t.wd b, t.A b, t.sz b, t.op b, ns9 b, i, wl, x, rfl, hd10, (WW9.frA S f10) b, S.dis b, hi, by omega, r.up f10, fun H11 f11 hd11 => ?_⟩
        regloopunroll_open
        exact ⟨f10.step f11, hd11, _, _, _, _, rfl⟩
      obtain ⟨f10, hd10, o4, o5, o6, o7, rfl⟩ := p
      have WW10 := WW9.frA S f10
      have eW10 := f10.at1 eW9 hWa
      have eL10 := f10.at1 eL9 hLa
      regloopunroll_open
      refine g_forL ?_
      regloopunroll_open
      refine forL_q (.of eW10) (fun k σ' H' => (∃ ns' : Bool → List Nd, t.At P w K C H' ns' ∧ DrawOk H' a c ∧ (∀ b, (ns' b).length ≤ 297 + 5 * k) ∧ H' Wl = some (.lst [.ref (t.wd false), .ref (t.wd true)]) ∧ H' L = some (.lst vs) ∧ ∀ v ∈ vs, AskOk K H' t ns' v) ∧ ∃ o4 o5 o6 o7, σ' = [some (.ref sa), some (.ref a), some (.ref Wl), some (.ref L), o4, o5, o6, o7, none]) ⟨⟨ns9, WW10, hd10, hl9, eW10, eL10, fun v hv => (hask v hv).fr f10 fun _ => List.prefix_refl _⟩, _, _, _, _, rfl⟩ (fun k σ' H' p => ?_) (fun k v σ' H11 hv p => ?_) (fun σ' H11 p => ?_)
      · obtain ⟨⟨_, _, _, _, e, _⟩, _⟩ := p
        exact .of e
      · obtain ⟨⟨ns11, WW11, hd11, hl11, eW11, eL11, hask11⟩, o4, o5, o6, o7, rfl⟩ := p
        have hk2 : k < 2 := (List.getElem?_eq_some_iff.mp hv).1
        obtain ⟨b, rfl⟩ := bool_of hk2
        rw [bool_ix (fun b => V.ref (t.wd b)) b] at hv
        cases hv
        have hlb := hl11 b
        have hkb : (if b = true then 1 else 0) ≤ 1 := by split <;> omega
        regloopunroll_open
        refine ⟨a, c, t.wd b, t.A b, t.sz b, t.op b, ns11 b, 5, rfl, hd11, WW11 b, S.dis b, by omega, fun H12 ns12 f12 hd12 W12 hpre hl12 => ?_⟩
        obtain ⟨ns13, WW12, hpre12, e12, hoth⟩ := WW11.grow b S f12 W12 hpre
        have eL12 := gAt f12 eL11 hLa hLm
        have eW12 := gAt f12 eW11 hWa hWm
        subst e12
        have ob := (WW12 b).ob
        have en := (WW12 b).nums
        have hl13 : ∀ b', (ns13 b').length ≤ 297 + 5 * ((if b = true then 1 else 0) + 1) := fun b' => by
          by_cases eb : b' = b
          · subst eb; omega
          · rw [hoth b' eb]; have := hl11 b'; omega
        have hask12 : ∀ v ∈ vs, AskOk K H12 t ns13 v := fun v hv => (hask11 v hv).fr f12 hpre12
        regloopunroll_open
        refine g_forL ?_
        regloopunroll_open
        refine forL_q (.of en) (fun k σ' H' => Fr [] H12 H' ∧ ∃ o5, σ' = [some (.ref sa), some (.ref a), some (.ref Wl), some (.ref L), some (.ref (t.wd b)), o5, o6, o7, none]) ⟨Fr.refl _ _, _, rfl⟩ (fun k σ' H' p => .of (p.1.at en)) (fun k v σ' H13 hv p => ?_) (fun σ' H13 p => ?_)
        · obtain ⟨f13, o5, rfl⟩ := p
          rw [List.getElem?_map] at hv
          obtain ⟨i, ei, rfl⟩ := Option.map_eq_some_iff.mp hv
          have hi := List.mem_range.mp (List.mem_of_getElem? ei)
          have W13 := (WW12 b).fr0 f13
          have ob13 := f13.at ob
          have hlb13 := hl13 b
          regloopunroll_open
          rename_i H14 p14 f14 r14
          replace r14 : Rep K H14 (.tuple (([] : List Int).map .int)) p14 := r14
          refine ⟨(t.A b).g, (t.A b).nl, (t.A b).kn, t.sz b, ns13 b, i, [], _, rfl, (W13.fr0 f14).gr, W13.ok, hi, by simp, r14, fun H15 v15 f15 r15 => ?_⟩
          have ob15 := f15.at (f14.at ob13)
          regloopunroll_open
          rename_i H16 p16 f16 r16
          replace r16 : Rep K H16 (.tuple (([] : List Int).map .int)) p16 := r16
          refine ⟨(t.A b).o, t.sz b, ns13 b, i, [], _, rfl, (((W13.fr0 f14).fr0 f15).fr0 f16).own, W13.ok, hi, by simp, r16, fun H17 v17 f17 r17 => ?_⟩
          refine neG_same ((r15.up f16).up f17) r17 (((tell_G W13.ok _ _ (by simp)).okd (by decide)).shaped) ?_
          regloopunroll_open
          exact ⟨(((f13.step f14).step f15).step f16).step f17, _, rfl⟩
        · obtain ⟨f13, o5, rfl⟩ := p
          regloopunroll_open
          exact ⟨⟨ns13, WW12.fr0 f13, hd12.fr0 f13, hl13, f13.at eW12, f13.at eL12, fun v hv => (hask12 v hv).fr f13 fun _ => List.prefix_refl _⟩, _, _, _, _, rfl⟩
      · obtain ⟨⟨ns11, WW11, hd11, hl11, eW11, eL11, hask11⟩, o4, o5, o6, o7, rfl⟩ := p
        regloopunroll_open
        refine g_forL ?_
        regloopunroll_open
        refine forL_q (.of eL11) (fun k σ' H' => Fr [] H11 H' ∧ ∃ o4 o5 o6, σ' = [some (.ref sa), some (.ref a), some (.ref Wl), some (.ref L), o4, o5, o6, o7, none]) ⟨Fr.refl _ _, _, _, _, rfl⟩ (fun k σ' H' p => .of (p.1.at eL11)) (fun k v σ' H12 hv p => ?_) (fun σ' H12 p => ?_)
        · obtain ⟨f12, o4, o5, o6, rfl⟩ := p
          obtain ⟨p, b, i, wl, x, rfl, e, r, hi, hl⟩ := hask11 v (List.mem_of_getElem? hv)
          refine gTup3_raw (f12.tups _ _ e) ?_
          have W12 := (WW11 b).fr0 f12
          have ob12 := W12.ob
          regloopunroll_open
          refine ⟨(t.A b).g, (t.A b).nl, (t.A b).kn, t.sz b, ns11 b, i, wl, x, rfl, W12.gr, W12.ok, hi, by omega, r.up f12, fun H13 v13 f13 r13 => ?_⟩
          have ob13 := f13.at ob12
          regloopunroll_open
          refine ⟨(t.A b).o, t.sz b, ns11 b, i, wl, x, rfl, (W12.fr0 f13).own, W12.ok, hi, by omega, (r.up f12).up f13, fun H14 v14 f14 r14 => ?_⟩
          refine neG_same (r13.up f14) r14 (((tell_G W12.ok _ _ (by omega)).okd (by decide)).shaped) ?_
          regloopunroll_open
          exact ⟨(f12.step f13).step f14, _, _, _, rfl⟩
        · obtain ⟨f12, o4, o5, o6, rfl⟩ := p
          regloopunroll_open
          exact q _
  · refine ifD (fun w0 => ?_) (fun w0 => ?_)
    · regloopunroll_open
      rename_i H9 k9 f9 hd9 hk9
      obtain ⟨b, rfl⟩ := bool_of (k := k9) (by omega)
      refine ixL_q (.of (f9.at1 eW8 hWa)) (bool_ix (fun b => V.ref (t.wd b)) b) rfl ?_
      regloopunroll_open
      rename_i H10 k10 f10 hd10 hk10
      have WW10 := (WW8.frA S f9).frA S f10
      have hlb := hln b
      refine ⟨a, c, t.wd b, t.A b, t.sz b, t.op b, ns b, 1 + k10, by rw [show ((1 + k10 : Nat) : Int) = 1 + (k10 : Int) by omega], hd10, WW10 b, S.dis b, by omega, by omega, fun H11 x ns11 i wl f11 hd11 W11 hpre hl11 hi hwl r11 => ?_⟩
      have eL11 := gAt f11 (f10.at1 (f9.at1 eL8 hLa) hLa) hLa hLm
      have eW11 := gAt f11 (f10.at1 (f9.at1 eW8 hWa) hWa) hWa hWm
      obtain ⟨ns12, WW11, hpre12, e12, hoth⟩ := WW10.grow b S f11 W11 hpre
      have h0 : ([] : List V).length < sizeLine := small1000 (Nat.zero_le _)
      refine gTup2_rep r11 (fun v1 v2 h1 h2 => ?_)
      unfold Rep at h1
      subst h1
      regloopunroll_open
      rename_i H12 p12 f12 n12 e12' H13 f13 e13
      refine hn' _ _ ⟨?_, _, _, _, rfl⟩
      rw [hStt]
      have hLt13 : ∀ b', t.wd b' ≠ L ∧ ∀ x ∈ (t.A b').all, x ≠ L := hLt
      refine ⟨ns12, (WW11.fr0 f12).frB f13 hLt13, (hd11.fr0 f12).fr1 f13 hLa hLc, fun b' => ?_, f13.at1 (f12.at eW11) hLW, _, e13, by simp, fun v hv => ?_⟩
      · by_cases eb : b' = b
        · subst eb; rw [e12]; omega
        · rw [hoth b' eb]; have := hln b'; omega
      · rw [List.nil_append, List.mem_singleton] at hv
        subst hv
        exact ⟨p12, b, i, wl, v2, rfl, f13.tups _ _ e12', (h2.up f12).up f13, by rw [e12]; exact hi, by omega⟩
    · regloopunroll_open
      refine hn' _ _ ⟨?_, none, none, none, rfl⟩
      rw [hStt]
      exact ⟨ns, WW8, hd8, fun b => by have := hln b; omega, eW8, [], eL8, by simp, fun v hv => by cases hv⟩

end
theorem top_mk {K : PySem.W.Frag} {h : Heap} {mg : Str → Option Value} (X : K.In h) (G : h.Ns mainGlobals mg)
    {f0 : Addr} {od0 an0 : Option Addr} {sl0 : Array (Option Value)} {oc0 kV0 dc0 pm0 cd0 ct0 : Value}
    {f1 : Addr} {od1 an1 : Option Addr} {sl1 : Array (Option Value)} {oc1 kV1 dc1 pm1 cd1 ct1 : Value}
    {f2 : Addr} {od2 an2 : Option Addr} {sl2 : Array (Option Value)} {oc2 kV2 dc2 pm2 cd2 ct2 : Value}
    {f3 : Addr} {od3 an3 : Option Addr} {sl3 : Array (Option Value)} {oc3 kV3 dc3 pm3 cd3 ct3 : Value}
    {f4 : Addr} {od4 an4 : Option Addr} {sl4 : Array (Option Value)} {oc4 kV4 dc4 pm4 cd4 ct4 : Value}
    {f5 : Addr} {od5 an5 : Option Addr} {sl5 : Array (Option Value)} {oc5 kV5 dc5 pm5 cd5 ct5 : Value}
    {f6 : Addr} {od6 an6 : Option Addr} {sl6 : Array (Option Value)} {oc6 kV6 dc6 pm6 cd6 ct6 : Value}
    {f7 : Addr} {od7 an7 : Option Addr} {sl7 : Array (Option Value)} {oc7 kV7 dc7 pm7 cd7 ct7 : Value}
    {f8 : Addr} {od8 an8 : Option Addr} {sl8 : Array (Option Value)} {oc8 kV8 dc8 pm8 cd8 ct8 : Value}
    {f9 : Addr} {od9 an9 : Option Addr} {sl9 : Array (Option Value)} {oc9 kV9 dc9 pm9 cd9 ct9 : Value}
    {f10 : Addr} {od10 an10 : Option Addr} {sl10 : Array (Option Value)} {oc10 kV10 dc10 pm10 cd10 ct10 : Value}
    {f11 : Addr} {od11 an11 : Option Addr} {sl11 : Array (Option Value)} {oc11 kV11 dc11 pm11 cd11 ct11 : Value}
    {f12 : Addr} {od12 an12 : Option Addr} {sl12 : Array (Option Value)} {oc12 kV12 dc12 pm12 cd12 ct12 : Value}
    {f13 : Addr} {od13 an13 : Option Addr} {sl13 : Array (Option Value)} {oc13 kV13 dc13 pm13 cd13 ct13 : Value}
    {f14 : Addr} {od14 an14 : Option Addr} {sl14 : Array (Option Value)} {oc14 kV14 dc14 pm14 cd14 ct14 : Value}
    {f15 : Addr} {od15 an15 : Option Addr} {sl15 : Array (Option Value)} {oc15 kV15 dc15 pm15 cd15 ct15 : Value}
    {f16 : Addr} {od16 an16 : Option Addr} {sl16 : Array (Option Value)} {oc16 kV16 dc16 pm16 cd16 ct16 : Value}
    {f17 : Addr} {od17 an17 : Option Addr} {sl17 : Array (Option Value)} {oc17 kV17 dc17 pm17 cd17 ct17 : Value}
    {f18 : Addr} {od18 an18 : Option Addr} {sl18 : Array (Option Value)} {oc18 kV18 dc18 pm18 cd18 ct18 : Value}
    {f19 : Addr} {od19 an19 : Option Addr} {sl19 : Array (Option Value)} {oc19 kV19 dc19 pm19 cd19 ct19 : Value}
    (a0 : PySem.W.nsIn K mainGlobals "trace" = some (some (.ref f0))) (l0 : K.lookup f0 = some ⟨oc0, od0, .func (PySem.W.fnOf "trace" "trace" (defArgs s_trace) (defBody s_trace) (defScope s_trace) .none kV0 dc0 pm0 an0 cd0 ct0), sl0⟩) (c0 : PySem.W.codeIn K cd0 "trace" = true) (k0 : PySem.W.keepIn K (.ref f0) = true)
    (a1 : PySem.W.nsIn K mainGlobals "_law_begin" = some (some (.ref f1))) (l1 : K.lookup f1 = some ⟨oc1, od1, .func (PySem.W.fnOf "_law_begin" "_law_begin" (defArgs s_law_begin) (defBody s_law_begin) (defScope s_law_begin) .none kV1 dc1 pm1 an1 cd1 ct1), sl1⟩) (c1 : PySem.W.codeIn K cd1 "_law_begin" = true) (k1 : PySem.W.keepIn K (.ref f1) = true)
    (a2 : PySem.W.nsIn K mainGlobals "_law_draw" = some (some (.ref f2))) (l2 : K.lookup f2 = some ⟨oc2, od2, .func (PySem.W.fnOf "_law_draw" "_law_draw" (defArgs s_law_draw) (defBody s_law_draw) (defScope s_law_draw) .none kV2 dc2 pm2 an2 cd2 ct2), sl2⟩) (c2 : PySem.W.codeIn K cd2 "_law_draw" = true) (k2 : PySem.W.keepIn K (.ref f2) = true)
    (a3 : PySem.W.nsIn K mainGlobals "_law_pick" = some (some (.ref f3))) (l3 : K.lookup f3 = some ⟨oc3, od3, .func (PySem.W.fnOf "_law_pick" "_law_pick" (defArgs s_law_pick) (defBody s_law_pick) (defScope s_law_pick) .none kV3 dc3 pm3 an3 cd3 ct3), sl3⟩) (c3 : PySem.W.codeIn K cd3 "_law_pick" = true) (k3 : PySem.W.keepIn K (.ref f3) = true)
    (a4 : PySem.W.nsIn K mainGlobals "_law_pop" = some (some (.ref f4))) (l4 : K.lookup f4 = some ⟨oc4, od4, .func (PySem.W.fnOf "_law_pop" "_law_pop" (defArgs s_law_pop) (defBody s_law_pop) (defScope s_law_pop) .none kV4 dc4 pm4 an4 cd4 ct4), sl4⟩) (c4 : PySem.W.codeIn K cd4 "_law_pop" = true) (k4 : PySem.W.keepIn K (.ref f4) = true)
    (a5 : PySem.W.nsIn K mainGlobals "_law_shuffled" = some (some (.ref f5))) (l5 : K.lookup f5 = some ⟨oc5, od5, .func (PySem.W.fnOf "_law_shuffled" "_law_shuffled" (defArgs s_law_shuffled) (defBody s_law_shuffled) (defScope s_law_shuffled) .none kV5 dc5 pm5 an5 cd5 ct5), sl5⟩) (c5 : PySem.W.codeIn K cd5 "_law_shuffled" = true) (k5 : PySem.W.keepIn K (.ref f5) = true)
    (a6 : PySem.W.nsIn K mainGlobals "_law_pool" = some (some (.ref f6))) (l6 : K.lookup f6 = some ⟨oc6, od6, .func (PySem.W.fnOf "_law_pool" "_law_pool" (defArgs s_law_pool) (defBody s_law_pool) (defScope s_law_pool) .none kV6 dc6 pm6 an6 cd6 ct6), sl6⟩) (c6 : PySem.W.codeIn K cd6 "_law_pool" = true) (k6 : PySem.W.keepIn K (.ref f6) = true)
    (a7 : PySem.W.nsIn K mainGlobals "_law_is_int" = some (some (.ref f7))) (l7 : K.lookup f7 = some ⟨oc7, od7, .func (PySem.W.fnOf "_law_is_int" "_law_is_int" (defArgs s_law_is_int) (defBody s_law_is_int) (defScope s_law_is_int) .none kV7 dc7 pm7 an7 cd7 ct7), sl7⟩) (c7 : PySem.W.codeIn K cd7 "_law_is_int" = true) (k7 : PySem.W.keepIn K (.ref f7) = true)
    (a8 : PySem.W.nsIn K mainGlobals "_law_operations" = some (some (.ref f8))) (l8 : K.lookup f8 = some ⟨oc8, od8, .func (PySem.W.fnOf "_law_operations" "_law_operations" (defArgs s_law_operations) (defBody s_law_operations) (defScope s_law_operations) .none kV8 dc8 pm8 an8 cd8 ct8), sl8⟩) (c8 : PySem.W.codeIn K cd8 "_law_operations" = true) (k8 : PySem.W.keepIn K (.ref f8) = true)
    (a9 : PySem.W.nsIn K mainGlobals "_law_wood" = some (some (.ref f9))) (l9 : K.lookup f9 = some ⟨oc9, od9, .func (PySem.W.fnOf "_law_wood" "_law_wood" (defArgs s_law_wood) (defBody s_law_wood) (defScope s_law_wood) .none kV9 dc9 pm9 an9 cd9 ct9), sl9⟩) (c9 : PySem.W.codeIn K cd9 "_law_wood" = true) (k9 : PySem.W.keepIn K (.ref f9) = true)
    (a10 : PySem.W.nsIn K mainGlobals "_law_kid" = some (some (.ref f10))) (l10 : K.lookup f10 = some ⟨oc10, od10, .func (PySem.W.fnOf "_law_kid" "_law_kid" (defArgs s_law_kid) (defBody s_law_kid) (defScope s_law_kid) .none kV10 dc10 pm10 an10 cd10 ct10), sl10⟩) (c10 : PySem.W.codeIn K cd10 "_law_kid" = true) (k10 : PySem.W.keepIn K (.ref f10) = true)
    (a11 : PySem.W.nsIn K mainGlobals "_law_add" = some (some (.ref f11))) (l11 : K.lookup f11 = some ⟨oc11, od11, .func (PySem.W.fnOf "_law_add" "_law_add" (defArgs s_law_add) (defBody s_law_add) (defScope s_law_add) .none kV11 dc11 pm11 an11 cd11 ct11), sl11⟩) (c11 : PySem.W.codeIn K cd11 "_law_add" = true) (k11 : PySem.W.keepIn K (.ref f11) = true)
    (a12 : PySem.W.nsIn K mainGlobals "_law_grow" = some (some (.ref f12))) (l12 : K.lookup f12 = some ⟨oc12, od12, .func (PySem.W.fnOf "_law_grow" "_law_grow" (defArgs s_law_grow) (defBody s_law_grow) (defScope s_law_grow) .none kV12 dc12 pm12 an12 cd12 ct12), sl12⟩) (c12 : PySem.W.codeIn K cd12 "_law_grow" = true) (k12 : PySem.W.keepIn K (.ref f12) = true)
    (a13 : PySem.W.nsIn K mainGlobals "_law_chain" = some (some (.ref f13))) (l13 : K.lookup f13 = some ⟨oc13, od13, .func (PySem.W.fnOf "_law_chain" "_law_chain" (defArgs s_law_chain) (defBody s_law_chain) (defScope s_law_chain) .none kV13 dc13 pm13 an13 cd13 ct13), sl13⟩) (c13 : PySem.W.codeIn K cd13 "_law_chain" = true) (k13 : PySem.W.keepIn K (.ref f13) = true)
    (a14 : PySem.W.nsIn K mainGlobals "_law_number" = some (some (.ref f14))) (l14 : K.lookup f14 = some ⟨oc14, od14, .func (PySem.W.fnOf "_law_number" "_law_number" (defArgs s_law_number) (defBody s_law_number) (defScope s_law_number) .none kV14 dc14 pm14 an14 cd14 ct14), sl14⟩) (c14 : PySem.W.codeIn K cd14 "_law_number" = true) (k14 : PySem.W.keepIn K (.ref f14) = true)
    (a15 : PySem.W.nsIn K mainGlobals "_law_down" = some (some (.ref f15))) (l15 : K.lookup f15 = some ⟨oc15, od15, .func (PySem.W.fnOf "_law_down" "_law_down" (defArgs s_law_down) (defBody s_law_down) (defScope s_law_down) .none kV15 dc15 pm15 an15 cd15 ct15), sl15⟩) (c15 : PySem.W.codeIn K cd15 "_law_down" = true) (k15 : PySem.W.keepIn K (.ref f15) = true)
    (a16 : PySem.W.nsIn K mainGlobals "_law_along" = some (some (.ref f16))) (l16 : K.lookup f16 = some ⟨oc16, od16, .func (PySem.W.fnOf "_law_along" "_law_along" (defArgs s_law_along) (defBody s_law_along) (defScope s_law_along) .none kV16 dc16 pm16 an16 cd16 ct16), sl16⟩) (c16 : PySem.W.codeIn K cd16 "_law_along" = true) (k16 : PySem.W.keepIn K (.ref f16) = true)
    (a17 : PySem.W.nsIn K mainGlobals "_law_is_told" = some (some (.ref f17))) (l17 : K.lookup f17 = some ⟨oc17, od17, .func (PySem.W.fnOf "_law_is_told" "_law_is_told" (defArgs s_law_is_told) (defBody s_law_is_told) (defScope s_law_is_told) .none kV17 dc17 pm17 an17 cd17 ct17), sl17⟩) (c17 : PySem.W.codeIn K cd17 "_law_is_told" = true) (k17 : PySem.W.keepIn K (.ref f17) = true)
    (a18 : PySem.W.nsIn K mainGlobals "_law_is_way" = some (some (.ref f18))) (l18 : K.lookup f18 = some ⟨oc18, od18, .func (PySem.W.fnOf "_law_is_way" "_law_is_way" (defArgs s_law_is_way) (defBody s_law_is_way) (defScope s_law_is_way) .none kV18 dc18 pm18 an18 cd18 ct18), sl18⟩) (c18 : PySem.W.codeIn K cd18 "_law_is_way" = true) (k18 : PySem.W.keepIn K (.ref f18) = true)
    (a19 : PySem.W.nsIn K mainGlobals "law" = some (some (.ref f19))) (l19 : K.lookup f19 = some ⟨oc19, od19, .func (PySem.W.fnOf "law" "law" (defArgs s_law) (defBody s_law) (defScope s_law) .none kV19 dc19 pm19 an19 cd19 ct19), sl19⟩) (c19 : PySem.W.codeIn K cd19 "law" = true) (k19 : PySem.W.keepIn K (.ref f19) = true)
    (z0 : PySem.W.nsIn K mainGlobals "abs" = some none)
    (z1 : PySem.W.nsIn K mainGlobals "all" = some none)
    (z2 : PySem.W.nsIn K mainGlobals "bool" = some none)
    (z3 : PySem.W.nsIn K mainGlobals "int" = some none)
    (z4 : PySem.W.nsIn K mainGlobals "isinstance" = some none)
    (z5 : PySem.W.nsIn K mainGlobals "len" = some none)
    (z6 : PySem.W.nsIn K mainGlobals "list" = some none)
    (z7 : PySem.W.nsIn K mainGlobals "min" = some none)
    (z8 : PySem.W.nsIn K mainGlobals "range" = some none)
    (z9 : PySem.W.nsIn K mainGlobals "reversed" = some none)
    (z10 : PySem.W.nsIn K mainGlobals "tuple" = some none)
    {ti0 : Tok} (y0 : PySem.W.nsIn K mainGlobals "GROVE_NODES" = some (some (.int 20000 ti0)))
    {C0 : Addr} (xC0 : PySem.W.nsIn K mainGlobals "Grove" = some (some (.ref C0)))
    (pg0 : PySem.W.plainGet K C0 Str.empty = true) (hd0 : PySem.W.hasDictIn K C0 = true) (po0 : PySem.W.plainOver K C0 = true) (sa0 : PySem.W.findIn K (.ref C0) "__setattr__" = some (some (.builtin "object.__setattr__"))) (mk0 : PySem.W.makesIn K C0 = true) (kc0 : PySem.W.keepIn K (.ref C0) = true)
    (nf0_0 : PySem.W.findIn K (.ref C0) "size" = some none)
    (nf0_1 : PySem.W.findIn K (.ref C0) "nodes" = some none)
    (nf0_2 : PySem.W.findIn K (.ref C0) "known" = some none)
    {f20 : Addr} {od20 an20 : Option Addr} {sl20 : Array (Option Value)} {oc20 kV20 dc20 pm20 cd20 ct20 : Value}
    (m20 : PySem.W.findIn K (.ref C0) "__init__" = some (some (.ref f20))) (w20 : PySem.W.isFn K (.ref f20) = true)
    (l20 : K.lookup f20 = some ⟨oc20, od20, .func (PySem.W.fnOf "__init__" "Grove.__init__" (defArgs s_Grove___init__) (defBody s_Grove___init__) (defScope s_Grove___init__) .none kV20 dc20 pm20 an20 cd20 ct20), sl20⟩) (c20 : PySem.W.codeIn K cd20 "Grove.__init__" = true) (k20 : PySem.W.keepIn K (.ref f20) = true)
    {f21 : Addr} {od21 an21 : Option Addr} {sl21 : Array (Option Value)} {oc21 kV21 dc21 pm21 cd21 ct21 : Value}
    (m21 : PySem.W.findIn K (.ref C0) "ask" = some (some (.ref f21))) (w21 : PySem.W.isFn K (.ref f21) = true)
    (l21 : K.lookup f21 = some ⟨oc21, od21, .func (PySem.W.fnOf "ask" "Grove.ask" (defArgs s_Grove_ask) (defBody s_Grove_ask) (defScope s_Grove_ask) .none kV21 dc21 pm21 an21 cd21 ct21), sl21⟩) (c21 : PySem.W.codeIn K cd21 "Grove.ask" = true) (k21 : PySem.W.keepIn K (.ref f21) = true)
    {f22 : Addr} {od22 an22 : Option Addr} {sl22 : Array (Option Value)} {oc22 kV22 dc22 pm22 cd22 ct22 : Value}
    (m22 : PySem.W.findIn K (.ref C0) "node" = some (some (.ref f22))) (w22 : PySem.W.isFn K (.ref f22) = true)
    (l22 : K.lookup f22 = some ⟨oc22, od22, .func (PySem.W.fnOf "node" "Grove.node" (defArgs s_Grove_node) (defBody s_Grove_node) (defScope s_Grove_node) .none kV22 dc22 pm22 an22 cd22 ct22), sl22⟩) (c22 : PySem.W.codeIn K cd22 "Grove.node" = true) (k22 : PySem.W.keepIn K (.ref f22) = true)
    : Top K mg := {
    g_GROVE_NODES := ⟨_, PySem.W.mg_of X G y0⟩
    c_Grove := ⟨C0, ⟨⟨⟨pg0, hd0, po0, sa0⟩, (fun f hf => by
      simp only [List.mem_cons, List.not_mem_nil, or_false] at hf
      rcases hf with rfl | rfl | rfl
      · exact nf0_0
      · exact nf0_1
      · exact nf0_2), PySem.W.mg_of X G xC0⟩,
            ⟨f20, _, fun_mk l20 c20 k20, ⟨mk0, m20, w20, kc0⟩, fun us hl => match us, hl with | [_, _], _ => rfl⟩,
            ⟨f21, _, fun_mk l21 c21 k21, ⟨m21, w21, k21⟩, fun us hl => match us, hl with | [_, _, _, _], _ => rfl⟩,
            ⟨f22, _, fun_mk l22 c22 k22, ⟨m22, w22, k22⟩, fun us hl => match us, hl with | [_, _], _ => rfl⟩⟩⟩
    m_abs := PySem.W.mg_none_of X G z0
    m_all := PySem.W.mg_none_of X G z1
    m_bool := PySem.W.mg_none_of X G z2
    m_int := PySem.W.mg_none_of X G z3
    m_isinstance := PySem.W.mg_none_of X G z4
    m_len := PySem.W.mg_none_of X G z5
    m_list := PySem.W.mg_none_of X G z6
    m_min := PySem.W.mg_none_of X G z7
    m_range := PySem.W.mg_none_of X G z8
    m_reversed := PySem.W.mg_none_of X G z9
    m_tuple := PySem.W.mg_none_of X G z10
    d_trace := ⟨f0, _, fun_mk l0 c0 k0, PySem.W.mg_of X G a0, fun us hl => match us, hl with | [_, _, _], _ => rfl⟩
    d_law_begin := ⟨f1, _, fun_mk l1 c1 k1, PySem.W.mg_of X G a1, fun us hl => match us, hl with | [_], _ => rfl⟩
    d_law_draw := ⟨f2, _, fun_mk l2 c2 k2, PySem.W.mg_of X G a2, fun us hl => match us, hl with | [_, _], _ => rfl⟩
    d_law_pick := ⟨f3, _, fun_mk l3 c3 k3, PySem.W.mg_of X G a3, fun us hl => match us, hl with | [_, _], _ => rfl⟩
    d_law_pop := ⟨f4, _, fun_mk l4 c4 k4, PySem.W.mg_of X G a4, fun us hl => match us, hl with | [_, _], _ => rfl⟩
    d_law_shuffled := ⟨f5, _, fun_mk l5 c5 k5, PySem.W.mg_of X G a5, fun us hl => match us, hl with | [_, _], _ => rfl⟩
    d_law_pool := ⟨f6, _, fun_mk l6 c6 k6, PySem.W.mg_of X G a6, fun us hl => match us, hl with | [], _ => rfl⟩
    d_law_is_int := ⟨f7, _, fun_mk l7 c7 k7, PySem.W.mg_of X G a7, fun us hl => match us, hl with | [_], _ => rfl⟩
    d_law_operations := ⟨f8, _, fun_mk l8 c8 k8, PySem.W.mg_of X G a8, fun us hl => match us, hl with | [_, _, _], _ => rfl⟩
    d_law_wood := ⟨f9, _, fun_mk l9 c9 k9, PySem.W.mg_of X G a9, fun us hl => match us, hl with | [_, _], _ => rfl⟩
    d_law_kid := ⟨f10, _, fun_mk l10 c10 k10, PySem.W.mg_of X G a10, fun us hl => match us, hl with | [_, _], _ => rfl⟩
    d_law_add := ⟨f11, _, fun_mk l11 c11 k11, PySem.W.mg_of X G a11, fun us hl => match us, hl with | [_, _, _, _], _ => rfl⟩
    d_law_grow := ⟨f12, _, fun_mk l12 c12 k12, PySem.W.mg_of X G a12, fun us hl => match us, hl with | [_, _, _], _ => rfl⟩
    d_law_chain := ⟨f13, _, fun_mk l13 c13 k13, PySem.W.mg_of X G a13, fun us hl => match us, hl with | [_, _, _], _ => rfl⟩
    d_law_number := ⟨f14, _, fun_mk l14 c14 k14, PySem.W.mg_of X G a14, fun us hl => match us, hl with | [_], _ => rfl⟩
    d_law_down := ⟨f15, _, fun_mk l15 c15 k15, PySem.W.mg_of X G a15, fun us hl => match us, hl with | [_, _, _], _ => rfl⟩
    d_law_along := ⟨f16, _, fun_mk l16 c16 k16, PySem.W.mg_of X G a16, fun us hl => match us, hl with | [_, _, _], _ => rfl⟩
    d_law_is_told := ⟨f17, _, fun_mk l17 c17 k17, PySem.W.mg_of X G a17, fun us hl => match us, hl with | [_], _ => rfl⟩
    d_law_is_way := ⟨f18, _, fun_mk l18 c18 k18, PySem.W.mg_of X G a18, fun us hl => match us, hl with | [_, _, _, _], _ => rfl⟩
    d_law := ⟨f19, _, fun_mk l19 c19 k19, PySem.W.mg_of X G a19, fun us hl => match us, hl with | [_], _ => rfl⟩
  }
theorem law_fn {l : PySem.W.OpenLaw} {w : World} {K : PySem.W.Frag} {mg : Str → Option Value} {fa : Addr} (T : Top K mg) (hfa : mg "law" = some (.ref fa)) :
    ∃ fd : FuncData, (∀ (s : Shared) (v : Value), BindsTo s fd ⟨[v], []⟩ [("script", v)]) ∧ ∀ base : Heap, K.In base → base.Ns mainGlobals mg → FnOk l.prog w K mg base CX0 40 fa fd ["script"] (spLaw K) := by
  obtain ⟨f, fd, F, m, b⟩ := T.d_law
  have e := hfa.symm.trans m
  cases e
  exact ⟨fd, fun s v => .of_eq (b [v] rfl), fun base _ _ => ok_law T F⟩
end K25
open PySem PySem.W PyProof.Rows
set_option maxRecDepth 100000 in
set_option maxHeartbeats 0 in
theorem PySem.Challenge.cw_asknest_k25_trace_down_holds : PySem.Challenge.rw_asknest_k25_trace_down.Holds := by
  w_on; o_law; k_head; (case hw => w_witness2)
  k_fill
  refine L2.walk_of (l := PySem.Challenge.rw_asknest_k25_trace_down) (n := 63) (k := 40) (x := "script") (CX := fun _ => L2.CX0) (sp := fun w => K25.spLaw _) rfl (by decide) rfl ⟨rfl, by decide, by decide⟩ (fun w h Y => PySem.W.kIn_of Y) ?F (fun _ _ a ns hl _ hS => ⟨a, ns, rfl, hS, hl, fun _ => rfl⟩) (fun _ _ _ _ _ h => h)
  case F =>
    intro w mg fa h KX G hmg
    refine' K25.law_fn (K25.top_mk KX G ?a0 ?l0 ?c0 ?k0 ?a1 ?l1 ?c1 ?k1 ?a2 ?l2 ?c2 ?k2 ?a3 ?l3 ?c3 ?k3 ?a4 ?l4 ?c4 ?k4 ?a5 ?l5 ?c5 ?k5 ?a6 ?l6 ?c6 ?k6 ?a7 ?l7 ?c7 ?k7 ?a8 ?l8 ?c8 ?k8 ?a9 ?l9 ?c9 ?k9 ?a10 ?l10 ?c10 ?k10 ?a11 ?l11 ?c11 ?k11 ?a12 ?l12 ?c12 ?k12 ?a13 ?l13 ?c13 ?k13 ?a14 ?l14 ?c14 ?k14 ?a15 ?l15 ?c15 ?k15 ?a16 ?l16 ?c16 ?k16 ?a17 ?l17 ?c17 ?k17 ?a18 ?l18 ?c18 ?k18 ?a19 ?l19 ?c19 ?k19 ?z0 ?z1 ?z2 ?z3 ?z4 ?z5 ?z6 ?z7 ?z8 ?z9 ?z10 ?y0 ?xC0 ?pg0 ?hd0 ?po0 ?sa0 ?mk0 ?kc0 ?nf0_0 ?nf0_1 ?nf0_2 ?m20 ?w20 ?l20 ?c20 ?k20 ?m21 ?w21 ?l21 ?c21 ?k21 ?m22 ?w22 ?l22 ?c22 ?k22) hmg
    (case a0 => k_is)
    (case l0 => k_is)
    (case c0 => k_is)
    (case k0 => k_is)
    (case a1 => k_is)
    (case l1 => k_is)
    (case c1 => k_is)
    (case k1 => k_is)
    (case a2 => k_is)
    (case l2 => k_is)
    (case c2 => k_is)
    (case k2 => k_is)
    (case a3 => k_is)
    (case l3 => k_is)
    (case c3 => k_is)
    (case k3 => k_is)
    (case a4 => k_is)
    (case l4 => k_is)
    (case c4 => k_is)
    (case k4 => k_is)
    (case a5 => k_is)
    (case l5 => k_is)
    (case c5 => k_is)
    (case k5 => k_is)
    (case a6 => k_is)
    (case l6 => k_is)
    (case c6 => k_is)
    (case k6 => k_is)
    (case a7 => k_is)
    (case l7 => k_is)
    (case c7 => k_is)
    (case k7 => k_is)
    (case a8 => k_is)
    (case l8 => k_is)
    (case c8 => k_is)
    (case k8 => k_is)
    (case a9 => k_is)
    (case l9 => k_is)
    (case c9 => k_is)
    (case k9 => k_is)
    (case a10 => k_is)
    (case l10 => k_is)
    (case c10 => k_is)
    (case k10 => k_is)
    (case a11 => k_is)
    (case l11 => k_is)
    (case c11 => k_is)
    (case k11 => k_is)
    (case a12 => k_is)
    (case l12 => k_is)
    (case c12 => k_is)
    (case k12 => k_is)
    (case a13 => k_is)
    (case l13 => k_is)
    (case c13 => k_is)
    (case k13 => k_is)
    (case a14 => k_is)
    (case l14 => k_is)
    (case c14 => k_is)
    (case k14 => k_is)
    (case a15 => k_is)
    (case l15 => k_is)
    (case c15 => k_is)
    (case k15 => k_is)
    (case a16 => k_is)
    (case l16 => k_is)
    (case c16 => k_is)
    (case k16 => k_is)
    (case a17 => k_is)
    (case l17 => k_is)
    (case c17 => k_is)
    (case k17 => k_is)
    (case a18 => k_is)
    (case l18 => k_is)
    (case c18 => k_is)
    (case k18 => k_is)
    (case a19 => k_is)
    (case l19 => k_is)
    (case c19 => k_is)
    (case k19 => k_is)
    (case z0 => k_is)
    (case z1 => k_is)
    (case z2 => k_is)
    (case z3 => k_is)
    (case z4 => k_is)
    (case z5 => k_is)
    (case z6 => k_is)
    (case z7 => k_is)
    (case z8 => k_is)
    (case z9 => k_is)
    (case z10 => k_is)
    (case y0 => k_is)
    (case xC0 => k_is)
    (case pg0 => k_is)
    (case hd0 => k_is)
    (case po0 => k_is)
    (case sa0 => k_is)
    (case mk0 => k_is)
    (case kc0 => k_is)
    (case nf0_0 => k_is)
    (case nf0_1 => k_is)
    (case nf0_2 => k_is)
    (case m20 => k_is)
    (case w20 => k_is)
    (case l20 => k_is)
    (case c20 => k_is)
    (case k20 => k_is)
    (case m21 => k_is)
    (case w21 => k_is)
    (case l21 => k_is)
    (case c21 => k_is)
    (case k21 => k_is)
    (case m22 => k_is)
    (case w22 => k_is)
    (case l22 => k_is)
    (case c22 => k_is)
    (case k22 => k_is)
