import PyProof.Rows.All
import Wide.All
import OpenK.AllK
import Wide.FinOn
import HandS.ForMost
import HandS.IsInst
import HandS.TupAny
import HandS.Small
import HandS.Conv
import HandS.Finally
import HandS.DeepEq
import HandS.TupLen
import HandS.Codes
import KE.SortData
import KE.DataCmp
import HandS.DictTup
import HandS.Deep
import KE.KDictCopyH
import KE.KDictKeyed
import HandS.Rev
import HandS.RevTup
import PyProof.ListNew
import KE.KDictSum
import PySem.Challenge.RW_asknest_k27_least_world
set_option Elab.async false
set_option linter.all false
set_option maxRecDepth 100000
set_option maxHeartbeats 4000000
/-! AN: own kit over HandS: calls bundled, general rules, data in tuples, heaps that grow. -/
namespace AN
open PySem PySem.Spec PyProof.Rows L2

/-- marks the written part in a context -/
structure Kk (K : PySem.W.Frag) : Prop where
  ok : True
/-! ### calls -/
structure Cal (P : Program) (w : World) (K : PySem.W.Frag) (mg : Str → Option Value) (base : Heap) (CX : CXT) (k : Nat) (x : Str) (ps : List Str) (sp : Sp) : Prop where
  ex : ∃ f fd, FnOk P w K mg base CX k f fd ps sp ∧ mg x = some (.ref f) ∧ PySem.W.keepIn K (.ref f) = true ∧ ∀ us : List Value, us.length = ps.length → bindArgs fd ⟨us, []⟩ = pure (ps.zip us)
section
variable {X : Cx} {CX : CXT} {k : Nat} {x : Str} {ps : List Str} {sp : Sp} {E : XK} {p pos : Pos} {e : Expr} {es : List Expr} {t : TA}
theorem pe_cal (C : Cal X.prog X.w X.K X.mg X.base CX k x ps sp) (hr : Room k X.A) (hg : Gl X x) (hx : Passes CX X E)
    (ha : PA X (e :: es) t) (hdb : (x == ("__debug__" : Str)) = false := by decide) (he : starEach (e :: es) X.env = (false, eval e X.env) :: starEach es X.env := by rfl) (hpl : (backTo pos (starEach es X.env)).any (·.1) = false := by rfl) :
    PE X (.Call (.Name x p) (e :: es) [] pos) (tCall sp [] E t) := by
  obtain ⟨f, fd, F, m, kp, b⟩ := C.ex
  exact pe_call F hr hg m kp (.all b) .nil hx ha hdb he hpl
theorem pe_cal0 (C : Cal X.prog X.w X.K X.mg X.base CX k x ps sp) (hr : Room k X.A) (hg : Gl X x) (hx : Passes CX X E)
    (hdb : (x == ("__debug__" : Str)) = false := by decide) : PE X (.Call (.Name x p) [] [] pos) (tCall sp [] E tNil) := by
  obtain ⟨f, fd, F, m, kp, b⟩ := C.ex
  exact pe_call0 F hr hg m kp (.all b) .nil hx hdb
theorem Cal.mono {P : Program} {w : World} {K : PySem.W.Frag} {mg : Str → Option Value} {base : Heap} {j : Nat} (C : Cal P w K mg base CX j x ps sp) (h : j ≤ k) : Cal P w K mg base CX k x ps sp := by
  obtain ⟨f, fd, F, m⟩ := C.ex
  exact ⟨f, fd, F.mono h, m⟩
theorem Cal.imp {P : Program} {w : World} {K : PySem.W.Frag} {mg : Str → Option Value} {base : Heap} {sp' : Sp} (C : Cal P w K mg base CX k x ps sp) (h : ∀ vs H Q E, sp' vs H Q E → sp vs H Q E) : Cal P w K mg base CX k x ps sp' := by
  obtain ⟨f, fd, F, m⟩ := C.ex
  exact ⟨f, fd, F.imp h, m⟩
/-- a def as the top leaves it -/
def Def (K : PySem.W.Frag) (mg : Str → Option Value) (x : Str) (st : Stmt) (ps : List Str) : Prop :=
  ∃ f fd, Fun K x x st f fd ∧ mg x = some (.ref f) ∧ ∀ us : List Value, us.length = ps.length → bindArgs fd ⟨us, []⟩ = pure (ps.zip us)
theorem Def.cal {P : Program} {w : World} {K : PySem.W.Frag} {mg : Str → Option Value} {base : Heap} {st : Stmt} {N : List Str} (D : Def K mg x st ps) (S : FnScope N ps (defScope st)) (z : List (Option V)) (hz : List.replicate (N.length - ps.length) none = z) (len : ∀ vs H Q E, sp vs H Q E → vs.length = ps.length)
    (hbody : ∀ (f : Addr) (cdv : Value) (A : Around) (outer : List Env) (s : Shared) (H : Hp) (vs : List V) (Q : VK) (E : XK), Kk K → Room k (A.deeper (envOfC x (defScope st) s.heap.objs.size f cdv)) → sp vs H Q E →
      ∃ t, PSs (cxOf CX0 P w K mg base N x (defScope st) f cdv A outer s H E).nox (defBody st) t ∧ t ⟨fun _ H' => Q .non H', Q, fun _ _ => False, fun _ _ => False⟩ (vs.map some ++ z) H) : Cal P w K mg base CX0 (k + 1) x ps sp := by
  obtain ⟨f, fd, F, m, b⟩ := D
  refine ⟨f, fd, F.ok S len (fun cdv A outer s H vs Q E hr h => ?_), m, F.kp, b⟩
  obtain ⟨t, h1, h2⟩ := hbody f cdv A outer s H vs Q E ⟨trivial⟩ hr h
  refine ⟨t, h1, ?_⟩
  have e : L2.start N vs = vs.map some ++ z := by
    unfold L2.start
    rw [len _ _ _ _ h, hz]
  rw [e]
  exact h2
end

section
theorem fun_ok {P : Program} {w : World} {K : PySem.W.Frag} {mg : Str → Option Value} {base : Heap} {x : Str} {st : Stmt} {f : Addr} {fd : FuncData} {N ps : List Str} {k : Nat} {sp : Sp} (F : Fun K x x st f fd) (S : FnScope N ps (defScope st)) (z : List (Option V)) (hz : List.replicate (N.length - ps.length) none = z) (len : ∀ vs H Q E, sp vs H Q E → vs.length = ps.length)
    (hbody : ∀ (f : Addr) (cdv : Value) (A : Around) (outer : List Env) (s : Shared) (H : Hp) (vs : List V) (Q : VK) (E : XK), Kk K → Room k (A.deeper (envOfC x (defScope st) s.heap.objs.size f cdv)) → sp vs H Q E →
      ∃ t, PSs (cxOf CX0 P w K mg base N x (defScope st) f cdv A outer s H E).nox (defBody st) t ∧ t ⟨fun _ H' => Q .non H', Q, fun _ _ => False, fun _ _ => False⟩ (vs.map some ++ z) H) : FnOk P w K mg base CX0 (k + 1) f fd ps sp := by
  refine F.ok S len (fun cdv A outer s H vs Q E hr h => ?_)
  obtain ⟨t, h1, h2⟩ := hbody f cdv A outer s H vs Q E ⟨trivial⟩ hr h
  refine ⟨t, h1, ?_⟩
  have e : L2.start N vs = vs.map some ++ z := by
    unfold L2.start
    rw [len _ _ _ _ h, hz]
  rw [e]
  exact h2
end
/-! ### general rules -/
section
variable {X : Cx}
theorem PSet.or {r r' : TSet} (h : PSet X r) (h' : PSet X r') : PSet X (fun o i v H Q => r o i v H Q ∨ r' o i v H Q) := by
  intro pins s σ H o i v ov iv u Q I ro ri rv q
  rcases q with q | q
  · exact h pins s σ H o i v ov iv u Q I ro ri rv q
  · exact h' pins s σ H o i v ov iv u Q I ro ri rv q
theorem set_G (hu : X.A.units + 1 < cLine) : PSet X (fun o i v H Q => rSetL o i v H Q ∨ rSetD o i v H Q) := PSet.or set_list (set_dict hu)
theorem PI.or {tg e : Expr} {r r' : TI} (h : PI X tg e r) (h' : PI X tg e r') : PI X tg e (fun σ H R => r σ H R ∨ r' σ H R) := by
  refine ⟨fun pins s σ H R I q => ?_⟩
  rcases q with q | q
  · exact h.run pins s σ H R I q
  · exact h'.run pins s σ H R I q
theorem pi_seq {tg e : Expr} {te : TE} (h : PE X e te) : PI X tg e (fun σ H R => iList X.K te σ H R ∨ iTup X.K te σ H R) := PI.or (pi_list h) (pi_tup h)
/-- subscripts: a list, a tuple, a text, a dict -/
def rIxDict : R2 := fun x y H Q => ∃ a v, x = .ref a ∧ DGet H a y (some v) ∧ Q v H
theorem ix_dict (hu : X.A.units + 1 < cLine) : IxR X rIxDict := by
  intro value slice pins s σ H x y v u Q I rx ry h hs
  obtain ⟨a, z, rfl, g, q⟩ := h
  obtain rfl : v = Value.ref a := rx
  unfold subscriptTail
  refine wpAny_bind ?_
  have hT := dict_typeIs I g
  rw [getitemInPython_of_ne hT.not_modules]
  refine wpAny_bind (wpAny_specialOf hT PySem.F.slot_dict_getitem.lookup ?_)
  have h₂ : wpAny (model X.prog X.w) X.A (getItem (.ref a) u) (EP X pins σ Q) X.xe s := d_getItem hu I g ry fun w' s3 I3 rw' => ⟨z, H, I3, rw', q⟩
  have fin : wpAny (model X.prog X.w) X.A (subscripted slice false (.ref a) u) (fun r s₃ => wpAny (model X.prog X.w) X.A (letTemporaryGo value (.ref a) r >>= fun _ => pure r) (EP X pins σ Q) X.xe s₃) X.xe s := by
    rw [hs]
    exact wpAny_operating (wpAny_mono h₂ (fun r s₃ h₃ => wpAny_bind (wpAny_letTemporaryGo (wpAny_pure h₃))) fun _ _ x => x)
  first
    | exact wpAny_pure (wpAny_bind fin)
    | exact wpAny_bind (wpAny_pure (wpAny_bind fin))
    | exact wpAny_bind fin
def rIxG (K : PySem.W.Frag) : R2 := fun x y H Q => rIxT K x y H Q ∨ rIxL K x y H Q ∨ rIxDict x y H Q ∨ rIxS x y H Q
theorem ix_G (hu : X.A.units + 1 < cLine) : IxR X (rIxG X.K) := ix_tup.or (ix_list.or ((ix_dict hu).or ix_str))
/-- == and != -/
def sameOk (v : V) : Prop := flatB v = true ∨ ∃ a, v = .ref a
theorem hits_same {κ : Type} [DecidableEq κ] {A : Around} {s : Shared} {kvs : List (κ × V)} {vb : List (κ × Value)} (rb : KV kvs vb) {ks : List (κ × V)} {va : List (κ × Value)} (ra : KV ks va) :
    (∀ p ∈ ks, valV kvs p.1 = some p.2 ∧ sameOk p.2) → PySem.W.KeqHits A s vb va true := by
  unfold KV at ra
  induction ra with
  | nil => intro _; exact .nil
  | @cons p q ps qs h t k =>
    intro hp
    obtain ⟨h1, h2⟩ := h
    obtain ⟨e, f⟩ := hp p List.mem_cons_self
    have rr : RelO (some p.2) (valueAt vb p.1) := by rw [← e]; exact rb.val p.1
    obtain ⟨y, hy, ry⟩ := rr.some_of
    obtain ⟨key, v⟩ := q
    have h1' : p.1 = key := h1
    rw [h1'] at hy
    show PySem.W.KeqHits A s vb ((key, v) :: qs) (true && true)
    refine .hit hy ?_ (k fun p' hm => hp p' (List.mem_cons_of_mem _ hm))
    rcases f with f | ⟨a, f⟩
    · exact eqAt_same h2 ry f
    · rw [f] at h2 ry
      cases (show v = Value.ref a from h2)
      cases (show y = Value.ref a from ry)
      exact SeqAt.EqAt.same _
/-- two dicts of the very same pairs -/
def rSameD (k : Bool) : R2 := fun x y H Q => ∃ a b kvs, x = .ref a ∧ y = .ref b ∧ H a = some (.dK kvs) ∧ H b = some (.dK kvs) ∧ (∀ p ∈ kvs, valV kvs p.1 = some p.2 ∧ sameOk p.2) ∧ Q (.bl k) H
theorem op_eqSame (hu : X.A.units < cLine) : OpR X (compareOp .Eq) (rSameD true) := by
  intro pins s σ H x y v u Q I rx ry h
  obtain ⟨a, b, kvs, rfl, rfl, ea, eb, hp, q⟩ := h
  obtain rfl : v = Value.ref a := rx
  obtain rfl : u = Value.ref b := ry
  obtain ⟨_, ya, va, ra, da⟩ := (show ObjOk X.prog X.w H s.heap a (.dK kvs) from I.hok a _ ea)
  obtain ⟨_, yb, vb, rb, db⟩ := (show ObjOk X.prog X.w H s.heap b (.dK kvs) from I.hok b _ eb)
  have hl : va.length = vb.length := by rw [← ra.length, ← rb.length]
  exact PySem.W.keq_eq (knd := mixKind X.prog X.w) (r := true) ya yb da db hu (fun _ => hits_same rb ra hp) (fin_bl I q (by simp [hl]))
theorem op_neSame (hu : X.A.units < cLine) : OpR X (compareOp .NotEq) (rSameD false) := by
  intro pins s σ H x y v u Q I rx ry h
  obtain ⟨a, b, kvs, rfl, rfl, ea, eb, hp, q⟩ := h
  obtain rfl : v = Value.ref a := rx
  obtain rfl : u = Value.ref b := ry
  obtain ⟨_, ya, va, ra, da⟩ := (show ObjOk X.prog X.w H s.heap a (.dK kvs) from I.hok a _ ea)
  obtain ⟨_, yb, vb, rb, db⟩ := (show ObjOk X.prog X.w H s.heap b (.dK kvs) from I.hok b _ eb)
  have hl : va.length = vb.length := by rw [← ra.length, ← rb.length]
  exact PySem.W.keq_ne (knd := mixKind X.prog X.w) (r := true) ya yb da db hu (fun _ => hits_same rb ra hp) (fin_bl I q (by simp [hl]))
def rEqG (K : PySem.W.Frag) : R2 := fun x y H Q => rEq x y H Q ∨ rEqD K x y H Q ∨ rSameD true x y H Q
def rNeG (K : PySem.W.Frag) : R2 := fun x y H Q => rNe x y H Q ∨ rNeD K x y H Q ∨ rSameD false x y H Q
theorem op_eqG (hu : X.A.units + 64 < cLine) : OpR X (compareOp .Eq) (rEqG X.K) := op_eq.or ((op_eqD hu).or (op_eqSame (by omega)))
theorem op_neG (hu : X.A.units + 64 < cLine) : OpR X (compareOp .NotEq) (rNeG X.K) := op_ne.or ((op_neD hu).or (op_neSame (by omega)))
/-- in, not in: a dict, a list or tuple of flat things, a sign in a text -/
def rInDict : R2 := fun x y H Q => ∃ a o, y = .ref a ∧ DGet H a x o ∧ Q (.bl o.isSome) H
def rNotInDict : R2 := fun x y H Q => ∃ a o, y = .ref a ∧ DGet H a x o ∧ Q (.bl (!o.isSome)) H
theorem op_inDict (hu : X.A.units + 1 < cLine) : OpR X (compareOp .In) rInDict := by
  intro pins s σ H x y v u Q I rx ry h
  obtain ⟨a, o, rfl, g, q⟩ := h
  obtain rfl : u = Value.ref a := ry
  exact d_in hu I g rx fun s3 I3 => ⟨.bl o.isSome, H, I3, rfl, q⟩
theorem op_notInDict (hu : X.A.units + 1 < cLine) : OpR X (compareOp .NotIn) rNotInDict := by
  intro pins s σ H x y v u Q I rx ry h
  obtain ⟨a, o, rfl, g, q⟩ := h
  obtain rfl : u = Value.ref a := ry
  exact d_notIn hu I g rx fun s3 I3 => ⟨.bl (!o.isSome), H, I3, rfl, q⟩
def rInSign : R2 := fun x y H Q => ∃ (c : Nat) (z : Str), x = .str ⟨#[c]⟩ ∧ y = .str z ∧ Q (.bl (decide (c ∈ z.cps.toList))) H
def rNotInSign : R2 := fun x y H Q => ∃ (c : Nat) (z : Str), x = .str ⟨#[c]⟩ ∧ y = .str z ∧ Q (.bl (!decide (c ∈ z.cps.toList))) H
def rInG (K : PySem.W.Frag) : R2 := fun x y H Q => rIn K false x y H Q ∨ rInDict x y H Q ∨ rInSign x y H Q
def rNotInG (K : PySem.W.Frag) : R2 := fun x y H Q => rIn K true x y H Q ∨ rNotInDict x y H Q ∨ rNotInSign x y H Q
theorem op_inG (hu : X.A.units + 1 < cLine) : OpR X (compareOp .In) (rInG X.K) := op_in_seq.or ((op_inDict hu).or op_in_sign)
theorem op_notInG (hu : X.A.units + 1 < cLine) : OpR X (compareOp .NotIn) (rNotInG X.K) := op_notIn_seq.or ((op_notInDict hu).or op_notIn_sign)
/-- + -/
def rAddI : R2 := rI0 fun i j => .int (i + j)
def rAddS : R2 := fun x y H Q => ∃ i j, x = .str i ∧ y = .str j ∧ i.length + j.length ≤ sizeLine ∧ Q (.str (i ++ j)) H
def rAddG (K : PySem.W.Frag) : R2 := fun x y H Q => rAddI x y H Q ∨ rCatA K x y H Q ∨ rAddS x y H Q ∨ rCat x y H Q
theorem op_addG : OpR X (binaryOp .Add) (rAddG X.K) := op_add.or (op_catA.or (op_add_str.or op_cat))
/-- len -/
def rLenS : List V → Hp → VK → Prop := fun xs H Q => ∃ p ys, xs = [.ref p] ∧ H p = some (.dK ys) ∧ Q (.int ys.length) H
def rLenG (K : PySem.W.Frag) : List V → Hp → VK → Prop := fun xs H Q => (∃ x n, xs = [x] ∧ LenV K x H n ∧ Q (.int n) H) ∨ rLenS xs H Q
theorem call_lenG : CallR X (.builtin "len") (rLenG X.K) := call_len.or call_lenD
/-- list(..) -/
def rListG (K : PySem.W.Frag) : List V → Hp → VK → Prop := fun xs H Q =>
  (∃ p ys, xs = [.ref p] ∧ (SqL K H p ys ∨ SqT K H p ys) ∧ ∀ l, H l = none → Q (.ref l) (upd H l (.lst ys))) ∨
  (∃ (a : Addr) (kvs : List (Key × V)), xs = [.ref a] ∧ Rd H a (.dK kvs) ∧ ∀ p, H p = none → Q (.ref p) (upd H p (.lst (kvs.map fun kv => kV kv.1))))
theorem call_listG (hc : X.calm = true) : CallR X (.type "list") (rListG X.K) := call_list_of.or (call_listD hc)
/-- sorted(..) of texts: of a list, of a dict's keys -/
def rSortedG (K : PySem.W.Frag) : List V → Hp → VK → Prop := fun xs H Q => rSortedS K xs H Q ∨
  (∃ (a : Addr) (kvs : List (Key × V)) (ks : List Str), xs = [.ref a] ∧ Rd H a (.dK kvs) ∧ kvs.map (·.1) = ks.map Sum.inr ∧ ks.length < 64 ∧
    ∀ ys p, ys.Perm ks → sortedS ys = true → H p = none → Q (.ref p) (upd H p (.lst (ys.map V.str))))
theorem call_sortedG (hc : X.calm = true) : CallR X (.builtin "sorted") (rSortedG X.K) := cr_sortedS.or (call_sortedD hc)
/-- slices -/
def rSlG (K : PySem.W.Frag) : V → Option Int → Option Int → Hp → VK → Prop := fun x lo hi H Q => rSlA K x lo hi H Q ∨ rSlL K x lo hi H Q ∨ rSlS x lo hi H Q
theorem sl_G : SlR X (rSlG X.K) := sl_tupA.or (sl_list.or sl_str)
/-- xs[i], for xs[i] += e -/
def rGetL (K : PySem.W.Frag) : V → V → Hp → VK → Prop := fun o i H Q => ∃ p xs j v, o = .ref p ∧ i = .int (j : Nat) ∧ SqL K H p xs ∧ xs[j]? = some v ∧ Q v H
theorem get_list : PGet X (rGetL X.K) := by
  intro pins s σ H o i ov iv Q I ro ri h
  obtain ⟨p, xs, j, v, rfl, rfl, hq, he, q⟩ := h
  cases ro
  obtain ⟨t, rfl⟩ := ri
  obtain ⟨its, r, pl, hz⟩ := I.list hq
  obtain ⟨u, eu, ru⟩ := r.get he
  obtain ⟨hj, _⟩ := List.getElem?_eq_some_iff.mp he
  have hn := line63
  exact wpAny_getItem_list pl.isList (by omega) (by omega) (by simpa using eu) ⟨v, H, I, ru, q⟩
end

/-! ### data in tuples -/
mutual
def Rep (K : PySem.W.Frag) (H : Hp) : PyData → V → Prop
  | .none, v => v = .non
  | .bool b, v => v = .bl b
  | .int i, v => v = .int i
  | .str x, v => v = .str x
  | .tuple ds, v => ∃ a vs, v = .ref a ∧ H a = some (.tup vs) ∧ Reps K H ds vs
  | .list _, _ => False
  | .dict _, _ => False
def Reps (K : PySem.W.Frag) (H : Hp) : List PyData → List V → Prop
  | [], vs => vs = []
  | d :: ds, vs => ∃ v r, vs = v :: r ∧ Rep K H d v ∧ Reps K H ds r
end
/-- the heap has grown; what stands at l may be another; tuples stay -/
structure Fr (l : List Addr) (H H' : Hp) : Prop where
  keep : ∀ b o, H b = some o → b ∉ l → H' b = some o
  tups : ∀ a xs, H a = some (.tup xs) → H' a = some (.tup xs)
  rdt : ∀ a xs, Rd H a (.tup xs) → Rd H' a (.tup xs)
section
variable {K : PySem.W.Frag} {H H' H1 H2 : Hp} {l l' : List Addr} {a p : Addr} {o u : HO} {d : PyData} {ds : List PyData} {v : V} {vs xs : List V}
theorem Fr.refl (l : List Addr) (H : Hp) : Fr l H H := ⟨fun _ _ h _ => h, fun _ _ h => h, fun _ _ h => h⟩
theorem Fr.trans (f : Fr l H H1) (g : Fr l' H1 H2) (h : ∀ b ∈ l', b ∈ l ∨ H b = none) : Fr l H H2 := by
  refine ⟨fun b o e n => ?_, fun a xs q => g.tups _ _ (f.tups _ _ q), fun a xs q => g.rdt _ _ (f.rdt _ _ q)⟩
  refine g.keep b o (f.keep b o e n) fun m => ?_
  rcases h b m with z | z
  · exact n z
  · rw [e] at z; cases z
theorem Fr.step (f : Fr l H H1) (g : Fr l H1 H2) : Fr l H H2 := f.trans g fun _ m => .inl m
theorem Fr.step0 (f : Fr l H H1) (g : Fr [] H1 H2) : Fr l H H2 := f.trans g fun _ m => by cases m
theorem Fr.mono (f : Fr l H H1) (h : ∀ b ∈ l, b ∈ l') : Fr l' H H1 := ⟨fun b o e n => f.keep b o e fun m => n (h b m), f.tups, f.rdt⟩
theorem Fr.of0 (f : Fr [] H H1) : Fr l H H1 := f.mono fun _ m => by cases m
theorem Fr.new (h : H p = none) : Fr [] H (upd H p o) := by
  refine ⟨fun b u e _ => ?_, fun a xs q => (upd_ne (ne_of_none q h)).trans q, fun a xs q => ?_⟩
  · rw [upd_ne (ne_of_none e h)]; exact e
  · rcases q with q | ⟨z, q⟩
    · exact .inl (by rw [upd_ne (ne_of_none q h)]; exact q)
    · exact .inr ⟨z, by rw [upd_ne (ne_of_none q h)]; exact q⟩
theorem Fr.newL (h : H p = none) : Fr l H (upd H p o) := (Fr.new h).of0
theorem Fr.set (h : H p = some u) (hu : ∀ xs, u ≠ .tup xs) (hf : ∀ z xs, u ≠ .frz z (.tup xs)) : Fr [p] H (upd H p o) := by
  refine ⟨fun b u e n => ?_, fun a xs q => (upd_ne (ne_of q h (hu xs).symm)).trans q, fun a xs q => ?_⟩
  · rw [upd_ne (by simpa using n)]; exact e
  · rcases q with q | ⟨z, q⟩
    · exact .inl (by rw [upd_ne (ne_of q h (hu xs).symm)]; exact q)
    · exact .inr ⟨z, by rw [upd_ne (ne_of q h (hf z xs).symm)]; exact q⟩
theorem Fr.setL (h : H p = some (.lst xs)) : Fr [p] H (upd H p o) := Fr.set h (fun _ e => by cases e) (fun _ _ e => by cases e)
theorem Fr.setD {kvs : List (Key × V)} (h : H p = some (.dK kvs)) : Fr [p] H (upd H p o) := Fr.set h (fun _ e => by cases e) (fun _ _ e => by cases e)
theorem Fr.setI {C dx : Addr} {fs : List (Str × V)} (h : H p = some (.ins C dx fs)) : Fr [p] H (upd H p o) := Fr.set h (fun _ e => by cases e) (fun _ _ e => by cases e)
theorem Fr.drop (f : Fr [p] H H1) (n : H p = none) : Fr [] H H1 := (Fr.refl [] H).trans f fun b m => .inr (by rw [List.mem_singleton.mp m]; exact n)
theorem Fr.updN (f : Fr [] H H1) (n : H p = none) (e : H1 p = some (.lst xs)) : Fr [] H (upd H1 p o) := f.trans (Fr.setL e) fun b m => .inr (by rw [List.mem_singleton.mp m]; exact n)
theorem Fr.at (f : Fr [] H H1) (h : H a = some o) : H1 a = some o := f.keep a o h (by simp)
theorem Fr.at1 (f : Fr [p] H H1) (h : H a = some o) (n : a ≠ p) : H1 a = some o := f.keep a o h (by simpa using n)
theorem Fr.free (f : Fr l H H1) (h : H1 a = none) (n : a ∉ l) : H a = none := by
  cases q : H a with
  | none => rfl
  | some z => rw [f.keep a z q n] at h; cases h
theorem at_as (h : H a = some o) : H a = some o := h
theorem fr_as (h : Fr l H H1) : Fr l H H1 := h
theorem Fr.sqT (f : Fr l H H1) (h : SqT K H a xs) : SqT K H1 a xs := by
  rcases h with h | h
  · exact .inl (f.rdt _ _ h)
  · exact .inr h
theorem Fr.sqL (f : Fr l H H1) (h : SqL K H a xs) (n : a ∉ l) : SqL K H1 a xs := by
  rcases h with (h | ⟨z, h⟩) | h
  · exact .inl (.inl (f.keep _ _ h n))
  · exact .inl (.inr ⟨z, f.keep _ _ h n⟩)
  · exact .inr h
mutual
theorem Rep.fr (f : Fr l H H1) : ∀ (d : PyData) (v : V), Rep K H d v → Rep K H1 d v
  | .none, _, h => h
  | .bool _, _, h => h
  | .int _, _, h => h
  | .str _, _, h => h
  | .tuple ds, v, h => by
    unfold Rep at h ⊢
    obtain ⟨a, vs, e, q, r⟩ := h
    exact ⟨a, vs, e, f.tups _ _ q, Reps.fr f ds vs r⟩
  | .list _, _, h => by unfold Rep at h; exact h.elim
  | .dict _, _, h => by unfold Rep at h; exact h.elim
theorem Reps.fr (f : Fr l H H1) : ∀ (ds : List PyData) (vs : List V), Reps K H ds vs → Reps K H1 ds vs
  | [], _, h => by unfold Reps at h ⊢; exact h
  | d :: ds, vs, h => by
    unfold Reps at h ⊢
    obtain ⟨v, r, e, h1, h2⟩ := h
    exact ⟨v, r, e, Rep.fr f d v h1, Reps.fr f ds r h2⟩
end
theorem Rep.up (h : Rep K H d v) (f : Fr l H H1) : Rep K H1 d v := Rep.fr f d v h
theorem Reps.up (h : Reps K H ds vs) (f : Fr l H H1) : Reps K H1 ds vs := Reps.fr f ds vs h
mutual
theorem Rep.dp : ∀ (d : PyData) (v : V), Rep K H d v → Dp K H v d
  | .none, _, h => by unfold Rep at h; subst h; exact .non
  | .bool _, _, h => by unfold Rep at h; subst h; exact .bl _
  | .int _, _, h => by unfold Rep at h; subst h; exact .int _
  | .str _, _, h => by unfold Rep at h; subst h; exact .str _
  | .tuple ds, v, h => by
    unfold Rep at h
    obtain ⟨a, vs, e, q, r⟩ := h
    subst e
    exact .tup (.of q) (Reps.dp ds vs r)
  | .list _, _, h => by unfold Rep at h; exact h.elim
  | .dict _, _, h => by unfold Rep at h; exact h.elim
theorem Reps.dp : ∀ (ds : List PyData) (vs : List V), Reps K H ds vs → DpAll K H vs ds
  | [], _, h => by unfold Reps at h; subst h; exact .nil
  | d :: ds, vs, h => by
    unfold Reps at h
    obtain ⟨v, r, e, h1, h2⟩ := h
    subst e
    exact .cons (Rep.dp d v h1) (Reps.dp ds r h2)
end
theorem rep_as (h : Rep K H d v) : Rep K H d v := h
theorem reps_as (h : Reps K H ds vs) : Reps K H ds vs := h
theorem rep_int {i : Int} : Rep K H (.int i) (.int i) := by unfold Rep; rfl
theorem rep_str {x : Str} : Rep K H (.str x) (.str x) := by unfold Rep; rfl
theorem rep_bl {b : Bool} : Rep K H (.bool b) (.bl b) := by unfold Rep; rfl
theorem rep_non : Rep K H .none .non := by unfold Rep; rfl
theorem reps_nil : Reps K H [] [] := by unfold Reps; rfl
theorem reps_cons {vs : List V} (h : Rep K H d v) (r : Reps K H ds vs) : Reps K H (d :: ds) (v :: vs) := by unfold Reps; exact ⟨v, vs, rfl, h, r⟩
theorem rep_tup {a : Addr} (q : H a = some (.tup vs)) (r : Reps K H ds vs) : Rep K H (.tuple ds) (.ref a) := by unfold Rep; exact ⟨a, vs, rfl, q, r⟩
theorem Rep.tup_iff : Rep K H (.tuple ds) v ↔ ∃ a vs, v = .ref a ∧ H a = some (.tup vs) ∧ Reps K H ds vs := by unfold Rep; exact Iff.rfl
theorem Reps.cons_iff : Reps K H (d :: ds) vs ↔ ∃ v r, vs = v :: r ∧ Rep K H d v ∧ Reps K H ds r := by
  constructor
  · intro h; unfold Reps at h; exact h
  · intro h; unfold Reps; exact h
theorem Reps.length : ∀ {ds : List PyData} {vs : List V}, Reps K H ds vs → vs.length = ds.length
  | [], _, h => by unfold Reps at h; subst h; rfl
  | d :: ds, vs, h => by
    unfold Reps at h
    obtain ⟨v, r, e, _, h2⟩ := h
    subst e
    rw [List.length_cons, List.length_cons, Reps.length h2]
theorem Reps.get : ∀ {ds : List PyData} {vs : List V} {i : Nat} {d : PyData}, Reps K H ds vs → ds[i]? = some d → ∃ v, vs[i]? = some v ∧ Rep K H d v
  | [], _, _, _, _, e => by simp at e
  | d :: ds, vs, i, x, h, e => by
    unfold Reps at h
    obtain ⟨v, r, ev, h1, h2⟩ := h
    subst ev
    cases i with
    | zero => simp at e; subst e; exact ⟨v, rfl, h1⟩
    | succ i =>
      obtain ⟨y, e1, e2⟩ := Reps.get (i := i) h2 (by simpa using e)
      exact ⟨y, by simpa using e1, e2⟩
theorem Reps.get' : ∀ {ds : List PyData} {vs : List V} {i : Nat} {v : V}, Reps K H ds vs → vs[i]? = some v → ∃ d, ds[i]? = some d ∧ Rep K H d v
  | [], _, _, _, h, e => by unfold Reps at h; subst h; simp at e
  | d :: ds, vs, i, x, h, e => by
    unfold Reps at h
    obtain ⟨v, r, ev, h1, h2⟩ := h
    subst ev
    cases i with
    | zero => simp at e; subst e; exact ⟨d, rfl, h1⟩
    | succ i =>
      obtain ⟨y, e1, e2⟩ := Reps.get' (i := i) h2 (by simpa using e)
      exact ⟨y, by simpa using e1, e2⟩
theorem Reps.append : ∀ {ds es : List PyData} {vs us : List V}, Reps K H ds vs → Reps K H es us → Reps K H (ds ++ es) (vs ++ us)
  | [], _, _, _, h, g => by unfold Reps at h; subst h; exact g
  | d :: ds, es, vs, us, h, g => by
    unfold Reps at h
    obtain ⟨v, r, ev, h1, h2⟩ := h
    subst ev
    exact reps_cons h1 (Reps.append h2 g)
theorem Reps.take : ∀ {ds : List PyData} {vs : List V} (n : Nat), Reps K H ds vs → Reps K H (ds.take n) (vs.take n)
  | _, _, 0, _ => reps_nil
  | [], _, n + 1, h => by unfold Reps at h; subst h; exact reps_nil
  | d :: ds, vs, n + 1, h => by
    unfold Reps at h
    obtain ⟨v, r, ev, h1, h2⟩ := h
    subst ev
    exact reps_cons h1 (Reps.take n h2)
theorem Reps.drop : ∀ {ds : List PyData} {vs : List V} (n : Nat), Reps K H ds vs → Reps K H (ds.drop n) (vs.drop n)
  | _, _, 0, h => h
  | [], _, n + 1, h => by unfold Reps at h; subst h; exact reps_nil
  | d :: ds, vs, n + 1, h => by
    unfold Reps at h
    obtain ⟨v, r, ev, h1, h2⟩ := h
    subst ev
    exact Reps.drop n h2

/-! ### readings over data -/
variable {Q : VK} {i : Nat}
/-- t[i] -/
theorem ix_rep {x : V} (h : Rep K H (.tuple ds) x) (e : ds[i]? = some d) (q : ∀ v, Rep K H d v → Q v H) : rIxG K x (.int (i : Nat)) H Q := by
  obtain ⟨a, vs, rfl, hs, hr⟩ := Rep.tup_iff.mp h
  obtain ⟨v, ev, rv⟩ := hr.get e
  exact .inl ⟨a, vs, i, v, rfl, rfl, .of hs, atI_nat ev, q v rv⟩
theorem eqG_rep {x y : V} {e : PyData} (h1 : Rep K H d x) (h2 : Rep K H e y) (s1 : SeqAt.shaped d = true) (s2 : SeqAt.shaped e = true) (q : Q (.bl (PyData.eqv d e)) H) : rEqG K x y H Q :=
  .inr (.inl ⟨d, e, Rep.dp d x h1, Rep.dp e y h2, s1, s2, q⟩)
theorem eqv_same (s1 : SeqAt.shaped d = true) : PyData.eqv d d = true := SeqAt.eqv_refl d (SeqAt.canLay_of_shaped s1)
theorem eqG_same {x y : V} (h1 : Rep K H d x) (h2 : Rep K H d y) (s1 : SeqAt.shaped d = true) (q : Q (.bl true) H) : rEqG K x y H Q :=
  eqG_rep h1 h2 s1 s1 (by rw [eqv_same s1]; exact q)
theorem neG_same {x y : V} (h1 : Rep K H d x) (h2 : Rep K H d y) (s1 : SeqAt.shaped d = true) (q : Q (.bl false) H) : rNeG K x y H Q :=
  .inr (.inl ⟨d, d, Rep.dp d x h1, Rep.dp d y h2, s1, s1, by rw [eqv_same s1]; exact q⟩)
theorem neG_dp {x y : V} (h1 : Dp K H x d) (h2 : Dp K H y d) (s1 : SeqAt.shaped d = true) (q : Q (.bl false) H) : rNeG K x y H Q :=
  .inr (.inl ⟨d, d, h1, h2, s1, s1, by rw [eqv_same s1]; exact q⟩)
theorem eqG_str {x y : Str} (q : Q (.bl (decide (V.str x = V.str y))) H) : rEqG K (.str x) (.str y) H Q := .inl ⟨rfl, q⟩
theorem neG_str {x y : Str} (q : Q (.bl (!decide (V.str x = V.str y))) H) : rNeG K (.str x) (.str y) H Q := .inl ⟨rfl, q⟩
theorem eqG_int {x y : Int} (q : Q (.bl (decide (V.int x = V.int y))) H) : rEqG K (.int x) (.int y) H Q := .inl ⟨rfl, q⟩
theorem neG_int {x y : Int} (q : Q (.bl (!decide (V.int x = V.int y))) H) : rNeG K (.int x) (.int y) H Q := .inl ⟨rfl, q⟩
/-- x in (a, b, ..), flat things -/
theorem in_tup {x y : V} {vs : List V} (h : ∃ a, y = .ref a ∧ SqT K H a vs) (f1 : flatV x = true) (f2 : vs.all flatV = true) (q : Q (.bl (inV x vs)) H) : rInG K x y H Q := by
  obtain ⟨a, rfl, hs⟩ := h
  exact .inl ⟨a, vs, rfl, .inr hs, f1, f2, q⟩
theorem len_tup {x : V} (h : Rep K H (.tuple ds) x) (q : Q (.int ds.length) H) : rLenG K [x] H Q := by
  obtain ⟨a, vs, rfl, hs, hr⟩ := Rep.tup_iff.mp h
  rw [← hr.length] at q
  exact .inl ⟨.ref a, vs.length, rfl, .inr ⟨vs, .of hs, rfl⟩, q⟩
theorem len_lst {a : Addr} {xs : List V} (h : SqL K H a xs) (q : Q (.int xs.length) H) : rLenG K [.ref a] H Q :=
  .inl ⟨.ref a, xs.length, rfl, .inl ⟨xs, h, rfl⟩, q⟩
end

/-! ### steps of a reading, one a combinator -/
section
variable {K : PySem.W.Frag} {σ : L2.St} {H : Hp} {Q : VK} {QT : Bool → Hp → Prop} {QA : List V → Hp → Prop} {n b c : L2.St → Hp → Prop} {r : VK} {te ta tb : TE} {tt tu : TT} {t u : TS} {g : TG} {i : Nat} {v : V}
theorem g_seq (h : t ⟨u ⟨n, r, b, c⟩, r, b, c⟩ σ H) : tSeq t u ⟨n, r, b, c⟩ σ H := h
theorem g_next (h : n σ H) : tNext ⟨n, r, b, c⟩ σ H := h
theorem g_asg (h : te σ H fun x H1 => g x σ H1 n) : tAsg te g ⟨n, r, b, c⟩ σ H := h
theorem g_name {q : L2.St → Hp → Prop} (h : q (σ.set i (some v)) H) : gName i v σ H q := h
theorem g_var (e : σ[i]? = some (some v)) (h : Q v H) : tVar i σ H Q := ⟨v, e, h⟩
theorem g_c (h : Q v H) : tC v σ H Q := h
theorem g_op {R : R2} (h : ta σ H fun x H1 => tb σ H1 fun y H2 => R x y H2 Q) : tOp R ta tb σ H Q := h
/-- what is wanted of a new tuple, a new list -/
def NewT (xs : List V) (H : Hp) (Q : VK) : Prop := xs.length ≤ sizeLine ∧ ∀ p, H p = none → Q (.ref p) (upd H p (.tup xs))
def NewL (xs : List V) (H : Hp) (Q : VK) : Prop := xs.length ≤ sizeLine ∧ ∀ p, H p = none → Q (.ref p) (upd H p (.lst xs))
theorem g_tup {ts : TA} (h : ts σ H fun xs H1 => NewT xs H1 Q) : tTup ts σ H Q := h
theorem g_lst {ts : TA} (h : ts σ H fun xs H1 => NewL xs H1 Q) : tLst ts σ H Q := h
theorem g_nil (h : QA [] H) : tNil σ H QA := h
theorem g_cons {ts : TA} (h : te σ H fun x H1 => ts σ H1 fun xs H2 => QA (x :: xs) H2) : tCons te ts σ H QA := h
theorem g_ret (h : te σ H r) : tRet te ⟨n, r, b, c⟩ σ H := h
theorem g_retN (h : r .non H) : tRetN ⟨n, r, b, c⟩ σ H := h
theorem g_ifs (h : tt σ H fun k H1 => if k = true then t ⟨n, r, b, c⟩ σ H1 else u ⟨n, r, b, c⟩ σ H1) : tIfS tt t u ⟨n, r, b, c⟩ σ H := h
theorem g_test (h : te σ H fun x H' => ∃ k, x = .bl k ∧ QT k H') : tTest te σ H QT := h
theorem g_b (h : te σ H fun x H' => ∃ k, x = .bl k ∧ QT k H') : tB te σ H QT := h
theorem g_drop (h : te σ H fun _ H1 => n σ H1) : tDrop te ⟨n, r, b, c⟩ σ H := h
theorem g_bl {k : Bool} {q : Bool → Prop} (h : q k) : ∃ k', V.bl k = .bl k' ∧ q k' := ⟨k, rfl, h⟩
theorem g_and (h : tt σ H fun k H1 => if k = true then tu σ H1 QT else QT false H1) : tAnd tt tu σ H QT := h
theorem g_or (h : tt σ H fun k H1 => if k = true then QT true H1 else tu σ H1 QT) : tOr tt tu σ H QT := h
theorem g_not (h : tt σ H fun k H1 => QT (!k) H1) : tNot tt σ H QT := h
theorem g_andV (h : ta σ H fun x H1 => ∃ k, x = .bl k ∧ if k = true then tb σ H1 Q else Q (.bl false) H1) : tAndV ta tb σ H Q := h
theorem g_orV (h : ta σ H fun x H1 => ∃ k, x = .bl k ∧ if k = true then Q (.bl true) H1 else tb σ H1 Q) : tOrV ta tb σ H Q := h
theorem g_cb {R : List V → Hp → VK → Prop} {ts : TA} (h : ts σ H fun vs H1 => R vs H1 Q) : tCB R ts σ H Q := h
theorem g_call {sp : Sp} {E : XK} {ts : TA} (h : ts σ H fun vs H1 => sp (vs ++ []) H1 Q E) : tCall sp [] E ts σ H Q := h
theorem g_un {R : V → Hp → VK → Prop} (h : ta σ H fun x H1 => R x H1 Q) : tUn R ta σ H Q := h
theorem g_if (h : tt σ H fun k H1 => if k = true then ta σ H1 Q else tb σ H1 Q) : tIf tt ta tb σ H Q := h
theorem g_sub {q : L2.St → Hp → Prop} {ts : TSet} (h : ta σ H fun o H1 => tb σ H1 fun j H2 => ts o j v H2 fun H3 => q σ H3) : gSub ta tb ts v σ H q := h
theorem g_yes (h : QT true H) : tYes σ H QT := h
theorem g_tapp {T : String} {R : V → List V → Hp → VK → Prop} {ts : TA} (h : te σ H fun x H1 => tyV K T x H1 ∧ ts σ H1 fun xs H2 => R x xs H2 Q) : tBM K T R te ts σ H Q := h
theorem g_tapp0 {T : String} {R : V → List V → Hp → VK → Prop} (h : te σ H fun x H1 => tyV K T x H1 ∧ R x [] H1 Q) : tBM0 K T R te σ H Q := h
theorem g_sl {R : V → Option Int → Option Int → Hp → VK → Prop} {tl th : TO} (h : te σ H fun x H1 => tl σ H1 fun l H2 => th σ H2 fun z H3 => R x l z H3 Q) : tSl R te tl th σ H Q := h
theorem g_nopart {q : Option Int → Hp → Prop} (h : q none H) : tNoPart σ H q := h
theorem g_part {q : Option Int → Hp → Prop} (h : te σ H fun x H1 => ∃ j, x = .int j ∧ q (some j) H1) : tPart te σ H q := h
theorem g_int {j : Int} {q : Int → Prop} (h : q j) : ∃ k, V.int j = .int k ∧ q k := ⟨j, rfl, h⟩
/-! ### tests that are decided -/
theorem ifT {p : Prop} [Decidable p] {A B : Prop} (e : p) (h : A) : if decide p = true then A else B := by rw [if_pos (decide_eq_true e)]; exact h
theorem ifF {p : Prop} [Decidable p] {A B : Prop} (e : ¬ p) (h : B) : if decide p = true then A else B := by rw [if_neg (by simp [e])]; exact h
theorem ifD {p : Prop} [Decidable p] {A B : Prop} (h1 : p → A) (h2 : ¬ p → B) : if decide p = true then A else B := by
  by_cases e : p
  · exact ifT e (h1 e)
  · exact ifF e (h2 e)
theorem iteN1 {A B : Prop} (h : B) : if (!true) = true then A else B := by rw [if_neg (by decide)]; exact h
theorem iteN0 {A B : Prop} (h : A) : if (!false) = true then A else B := by rw [if_pos (by decide)]; exact h
theorem iteN2 {p : Prop} [Decidable p] {A B : Prop} (h1 : ¬ p → A) (h2 : p → B) : if (!decide p) = true then A else B := by
  by_cases e : p
  · rw [if_neg (by simp [e])]; exact h2 e
  · rw [if_pos (by simp [e])]; exact h1 e
theorem ifNT {p : Prop} [Decidable p] {A B : Prop} (e : ¬ p) (h : A) : if (!decide p) = true then A else B := by rw [if_pos (by simp [e])]; exact h
theorem ifNF {p : Prop} [Decidable p] {A B : Prop} (e : p) (h : B) : if (!decide p) = true then A else B := by rw [if_neg (by simp [e])]; exact h
/-! ### leaves -/
variable {ds : List PyData} {d : PyData} {x : V}
theorem ix_repS {s : Str} (h : Rep K H (.tuple ds) x) (e : ds[i]? = some (.str s)) (q : Q (.str s) H) : rIxG K x (.int (i : Nat)) H Q :=
  ix_rep h e fun v hv => by unfold Rep at hv; subst hv; exact q
theorem ix_repI {j : Int} (h : Rep K H (.tuple ds) x) (e : ds[i]? = some (.int j)) (q : Q (.int j) H) : rIxG K x (.int (i : Nat)) H Q :=
  ix_rep h e fun v hv => by unfold Rep at hv; subst hv; exact q
theorem ix_repB {j : Bool} (h : Rep K H (.tuple ds) x) (e : ds[i]? = some (.bool j)) (q : Q (.bl j) H) : rIxG K x (.int (i : Nat)) H Q :=
  ix_rep h e fun v hv => by unfold Rep at hv; subst hv; exact q
/-- what is wanted of an item that stands for d -/
def GetQ (K : PySem.W.Frag) (d : PyData) (H : Hp) (Q : VK) : Prop := ∀ v, Rep K H d v → Q v H
theorem ix_get {j : Int} (h : Rep K H (.tuple ds) x) (hj : j = ((i : Nat) : Int)) (e : ds[i]? = some d) (q : GetQ K d H Q) : rIxG K x (.int j) H Q := by
  subst hj
  exact ix_rep h e q
theorem get_str {s : Str} (q : Q (.str s) H) : GetQ K (.str s) H Q := fun v hv => by unfold Rep at hv; subst hv; exact q
theorem get_int {s : Int} (q : Q (.int s) H) : GetQ K (.int s) H Q := fun v hv => by unfold Rep at hv; subst hv; exact q
theorem get_bl {s : Bool} (q : Q (.bl s) H) : GetQ K (.bool s) H Q := fun v hv => by unfold Rep at hv; subst hv; exact q
theorem get_any (q : ∀ v, Rep K H d v → Q v H) : GetQ K d H Q := q
/-- a new tuple, by its values -/
theorem newT {vs : List V} (hl : vs.length ≤ 1000) (q : ∀ H' p, Fr [] H H' → H p = none → H' p = some (.tup vs) → Q (.ref p) H') : NewT vs H Q :=
  ⟨Nat.le_of_lt (small1000 hl), fun p hp => q _ _ (Fr.new hp) hp upd_same⟩
theorem newL {vs : List V} (hl : vs.length ≤ 1000) (q : ∀ H' p, Fr [] H H' → H p = none → H' p = some (.lst vs) → Q (.ref p) H') : NewL vs H Q :=
  ⟨Nat.le_of_lt (small1000 hl), fun p hp => q _ _ (Fr.new hp) hp upd_same⟩
theorem newR {vs : List V} (_ : Kk K) (r : Reps K H ds vs) (hl : vs.length ≤ 1000) (q : ∀ H' v, Fr [] H H' → Rep K H' (.tuple ds) v → Q v H') : NewT vs H Q :=
  newT hl fun H' p f _ e => q H' _ f (rep_tup e (r.up f))
def sv : PyData → V
  | .none => .non
  | .bool b => .bl b
  | .int i => .int i
  | .str x => .str x
  | _ => .ref 0
def isSv : PyData → Bool
  | .none => true
  | .bool _ => true
  | .int _ => true
  | .str _ => true
  | _ => false
theorem Rep.sv : ∀ {d : PyData} {v : V}, Rep K H d v → isSv d = true → v = sv d := by
  intro d v h e
  cases d <;> first | (unfold Rep at h; exact h) | cases e
theorem Reps.sv : ∀ {ds : List PyData} {vs : List V}, Reps K H ds vs → ds.all isSv = true → vs = ds.map sv
  | [], _, h, _ => by unfold Reps at h; exact h
  | d :: ds, vs, h, e => by
    unfold Reps at h
    obtain ⟨v, r, rfl, h1, h2⟩ := h
    rw [List.all_cons, Bool.and_eq_true] at e
    rw [List.map_cons, h1.sv e.1, Reps.sv h2 e.2]
theorem in_rep {y : V} {k : Bool} (h : Rep K H (.tuple ds) y) (e : ds.all isSv = true) (f1 : flatV x = true) (f2 : (ds.map sv).all flatV = true) (e2 : inV x (ds.map sv) = k) (q : Q (.bl k) H) : rInG K x y H Q := by
  obtain ⟨a, vs, rfl, hs, hr⟩ := Rep.tup_iff.mp h
  have := hr.sv e
  subst this
  subst e2
  exact .inl ⟨a, _, rfl, .inr (.of hs), f1, f2, q⟩
theorem in_at {a : Addr} {vs : List V} {k : Bool} (h : H a = some (.tup vs)) (f1 : flatV x = true) (f2 : vs.all flatV = true) (e : inV x vs = k) (q : Q (.bl k) H) : rInG K x (.ref a) H Q := by
  subst e
  exact .inl ⟨a, vs, rfl, .inr (.of h), f1, f2, q⟩
end

/-! ### built-ins under names -/
section
variable {X : Cx}
def rTupOf (K : PySem.W.Frag) : List V → Hp → VK → Prop := fun xs H Q => ∃ p ys, xs = [.ref p] ∧ ((SqL K H p ys ∧ ∀ l, H l = none → Q (.ref l) (upd H l (.tup ys))) ∨ (SqT K H p ys ∧ Q (.ref p) H))
theorem call_tupG : CallR X (.type "tuple") (rTupOf X.K) := call_tuple_of
def rIntOf : List V → Hp → VK → Prop := fun xs H Q => (∃ i, xs = [.int i] ∧ Q (.int i) H) ∨ ∃ k, xs = [.bl k] ∧ Q (.int (if k then 1 else 0)) H
theorem call_intG : CallR X (.type "int") rIntOf := call_int1
def rAbsOf : List V → Hp → VK → Prop := fun xs H Q => ∃ i, xs = [.int i] ∧ Q (.int (if i < 0 then -i else i)) H
theorem call_absG : CallR X (.builtin "abs") rAbsOf := call_abs
def rDictOf : List V → Hp → VK → Prop := fun xs H Q => ∃ (a : Addr) (kvs : List (Key × V)), xs = [.ref a] ∧ Rd H a (.dK kvs) ∧ ∀ p, H p = none → Q (.ref p) (upd H p (.dK kvs))
theorem call_dictG : CallR X (.type "dict") rDictOf := call_dictD
end
section
variable {K : PySem.W.Frag} {σ : L2.St} {H : Hp} {Q : VK} {QT : Bool → Hp → Prop} {QA : List V → Hp → Prop} {n b c : L2.St → Hp → Prop} {r : VK} {te ta tb : TE} {tt tu : TT} {t u : TS} {g : TG} {i : Nat} {v : V}
variable {ds : List PyData} {d : PyData} {x y : V}
theorem tupOf_rep (h : Rep K H (.tuple ds) x) (q : Q x H) : rTupOf K [x] H Q := by
  obtain ⟨a, vs, rfl, hs, _⟩ := Rep.tup_iff.mp h
  exact ⟨a, vs, rfl, .inr ⟨.of hs, q⟩⟩
theorem tupOf_lst {a : Addr} {vs : List V} (h : H a = some (.lst vs)) (q : ∀ H' p, Fr [] H H' → H p = none → H' p = some (.tup vs) → Q (.ref p) H') : rTupOf K [.ref a] H Q :=
  ⟨a, vs, rfl, .inl ⟨.of h, fun l hl => q _ l (Fr.new hl) hl upd_same⟩⟩
theorem intOf_int {j : Int} (q : Q (.int j) H) : rIntOf [.int j] H Q := .inl ⟨j, rfl, q⟩
theorem intOf_bl {k : Bool} (q : Q (.int (if k then 1 else 0)) H) : rIntOf [.bl k] H Q := .inr ⟨k, rfl, q⟩
theorem absOf_int {j : Int} (q : Q (.int (if j < 0 then -j else j)) H) : rAbsOf [.int j] H Q := ⟨j, rfl, q⟩
/-! ints -/
theorem rI0_int {j k : Int} {f : Int → Int → V} (q : Q (f j k) H) : rI0 f (.int j) (.int k) H Q := ⟨j, k, rfl, rfl, q⟩
theorem rI_int {j k : Int} {C : Int → Int → Prop} {f : Int → Int → V} (h : C j k) (q : Q (f j k) H) : rI C f (.int j) (.int k) H Q := ⟨j, k, rfl, rfl, h, q⟩
theorem addG_int {j k : Int} (q : Q (.int (j + k)) H) : rAddG K (.int j) (.int k) H Q := .inl ⟨j, k, rfl, rfl, q⟩
theorem addG_str {j k : Str} (h : j.length + k.length ≤ sizeLine) (q : Q (.str (j ++ k)) H) : rAddG K (.str j) (.str k) H Q := .inr (.inr (.inl ⟨j, k, rfl, rfl, h, q⟩))
theorem rU_int {j : Int} {f : Int → V} (q : Q (f j) H) : rU f (.int j) H Q := ⟨j, rfl, q⟩
/-- t + u, tuples -/
theorem addG_tup {es : List PyData} (h : Rep K H (.tuple ds) x) (h' : Rep K H (.tuple es) y) (hl : ds.length + es.length ≤ 1000) (q : ∀ H' z, Fr [] H H' → Rep K H' (.tuple (ds ++ es)) z → Q z H') : rAddG K x y H Q := by
  obtain ⟨a, vs, rfl, hs, hr⟩ := Rep.tup_iff.mp h
  obtain ⟨b, us, rfl, hs', hr'⟩ := Rep.tup_iff.mp h'
  refine .inr (.inl ⟨a, b, vs, us, rfl, rfl, .of hs, .of hs', ?_, fun e => ?_, fun _ e => ?_, fun _ _ p hp => ?_⟩)
  · rw [hr.length, hr'.length]; exact Nat.le_of_lt (small1000 hl)
  · subst e
    have e2 : ds = [] := List.length_eq_zero_iff.mp (by rw [← hr.length]; rfl)
    subst e2
    exact q _ _ (Fr.refl _ _) h'
  · subst e
    have e2 : es = [] := List.length_eq_zero_iff.mp (by rw [← hr'.length]; rfl)
    subst e2
    rw [List.append_nil] at q
    exact q _ _ (Fr.refl _ _) h
  · have f : Fr [] H (upd H p (.tup (vs ++ us))) := Fr.new hp
    exact q _ _ f (rep_tup upd_same ((hr.append hr').up f))
/-! lists -/
theorem lst_ty {a : Addr} {xs : List V} {q : Prop} (h : H a = some (.lst xs)) (w : q) : tyV K "list" (.ref a) H ∧ q := ⟨.inl ⟨rfl, xs, .inl (.inl h)⟩, w⟩
theorem append_q {a : Addr} {xs : List V} (h : H a = some (.lst xs)) (hl : xs.length < sizeLine) (q : ∀ H', Fr [a] H H' → H' a = some (.lst (xs ++ [y])) → Q .non H') : rAppend (.ref a) [y] H Q :=
  ⟨a, xs, y, rfl, rfl, h, hl, q _ (Fr.setL h) upd_same⟩
theorem pop_q {a : Addr} {xs : List V} (h : H a = some (.lst (xs ++ [y]))) (q : ∀ H', Fr [a] H H' → H' a = some (.lst xs) → Q y H') : rPop (.ref a) [] H Q := by
  refine ⟨a, xs ++ [y], y, rfl, rfl, h, by simp, ?_⟩
  have e : (xs ++ [y]).dropLast = xs := by simp
  exact q _ (Fr.setL h) (by rw [upd_same, e])
theorem ixL_q {a : Addr} {xs : List V} {j : Int} (h : SqL K H a xs) (e : xs[i]? = some v) (hj : j = ((i : Nat) : Int)) (q : Q v H) : rIxG K (.ref a) (.int j) H Q := by
  subst hj
  exact .inr (.inl ⟨a, xs, i, v, rfl, rfl, h, atI_nat e, q⟩)
theorem setL_q {a : Addr} {xs : List V} {j : Int} {k : Nat} {q : Hp → Prop} (h : H a = some (.lst xs)) (hj : j = ((k : Nat) : Int)) (hk : k < xs.length) (w : ∀ H', Fr [a] H H' → H' a = some (.lst (xs.set k v)) → q H') : rSetL (.ref a) (.int j) v H q ∨ rSetD (.ref a) (.int j) v H q := by
  subst hj
  refine .inl ⟨a, xs, _, k, rfl, rfl, h, ?_, w _ (Fr.setL h) upd_same⟩
  unfold ixN
  rw [if_pos (by omega), if_pos (by omega)]
  simp
theorem setL1_q {a : Addr} {xs : List V} {j : Int} {k : Nat} {q : Hp → Prop} (h : H a = some (.lst xs)) (hj : j = ((k : Nat) : Int)) (hk : k < xs.length) (w : ∀ H', Fr [a] H H' → H' a = some (.lst (xs.set k v)) → q H') : rSetL (.ref a) (.int j) v H q := by
  subst hj
  refine ⟨a, xs, _, k, rfl, rfl, h, ?_, w _ (Fr.setL h) upd_same⟩
  unfold ixN
  rw [if_pos (by omega), if_pos (by omega)]
  simp
theorem getL_q {a : Addr} {xs : List V} {j : Int} (h : SqL K H a xs) (e : xs[i]? = some v) (hj : j = ((i : Nat) : Int)) (q : Q v H) : rGetL K (.ref a) (.int j) H Q := by
  subst hj
  exact ⟨a, xs, i, v, rfl, rfl, h, e, q⟩
theorem ipI_int {j k : Int} {f : Int → Int → Int} (q : Q (.int (f j k)) H) : ipI f (.int j) (.int k) H Q := ⟨j, k, rfl, rfl, q⟩
theorem g_augs {to ti te : TE} {tget : V → V → Hp → VK → Prop} {tip : TIp} {tset : TSet} (h : to σ H fun o H1 => ti σ H1 fun j H2 => tget o j H2 fun x H3 => te σ H3 fun y H4 => tip x y H4 fun z H5 => tset o j z H5 fun H6 => n σ H6) : tAugS to ti te tget tip tset ⟨n, r, b, c⟩ σ H := h
theorem g_aug {te : TE} {ti : TIp} (e : σ[i]? = some (some x)) (h : te σ H fun y H1 => ti x y H1 fun z H2 => n (σ.set i (some z)) H2) : tAug i te ti ⟨n, r, b, c⟩ σ H := ⟨x, e, h⟩
/-! dicts -/
theorem g_dnew (q : ∀ H' p, Fr [] H H' → H p = none → H' p = some (.dK []) → Q (.ref p) H') : tDNewK σ H Q := fun p hp => q _ p (Fr.new hp) hp upd_same
theorem setD_q {a : Addr} {kvs : List (Key × V)} {k : Key} {q : Hp → Prop} (h : H a = some (.dK kvs)) (hx : x = kV k) (hl : kvs.length < 1000) (w : ∀ H', Fr [a] H H' → H' a = some (.dK (putK kvs k v)) → q H') : rSetL (.ref a) x v H q ∨ rSetD (.ref a) x v H q := by
  subst hx
  exact .inr ⟨a, _, rfl, DPut.k h (small1000 (Nat.le_of_lt hl)), w _ (Fr.setD h) upd_same⟩
theorem inD_q {a : Addr} {kvs : List (Key × V)} {k : Key} (h : H a = some (.dK kvs)) (hx : x = kV k) (q : Q (.bl (valV kvs k).isSome) H) : rInG K x (.ref a) H Q := by
  subst hx
  exact .inr (.inl ⟨a, _, rfl, DGet.k h, q⟩)
theorem notInD_q {a : Addr} {kvs : List (Key × V)} {k : Key} (h : H a = some (.dK kvs)) (hx : x = kV k) (q : Q (.bl (!(valV kvs k).isSome)) H) : rNotInG K x (.ref a) H Q := by
  subst hx
  exact .inr (.inl ⟨a, _, rfl, DGet.k h, q⟩)
theorem ixD_q {a : Addr} {kvs : List (Key × V)} {k : Key} (h : H a = some (.dK kvs)) (hx : x = kV k) (e : valV kvs k = some v) (q : Q v H) : rIxG K (.ref a) x H Q := by
  subst hx
  exact .inr (.inr (.inl ⟨a, v, rfl, by rw [← e]; exact DGet.k h, q⟩))
theorem dictOf_q {a : Addr} {kvs : List (Key × V)} (h : H a = some (.dK kvs)) (q : ∀ H' p, Fr [] H H' → H p = none → H' p = some (.dK kvs) → Q (.ref p) H') : rDictOf [.ref a] H Q :=
  ⟨a, kvs, rfl, .inl h, fun p hp => q _ p (Fr.new hp) hp upd_same⟩
theorem listD_q {a : Addr} {kvs : List (Key × V)} (h : H a = some (.dK kvs)) (q : ∀ H' p, Fr [] H H' → H p = none → H' p = some (.lst (kvs.map fun kv => kV kv.1)) → Q (.ref p) H') : rListG K [.ref a] H Q :=
  .inr ⟨a, kvs, rfl, .inl h, fun p hp => q _ p (Fr.new hp) hp upd_same⟩
theorem listT_q (h : Rep K H (.tuple ds) x) (q : ∀ H' p vs, Fr [] H H' → H p = none → H' p = some (.lst vs) → Reps K H' ds vs → Q (.ref p) H') : rListG K [x] H Q := by
  obtain ⟨a, vs, rfl, hs, hr⟩ := Rep.tup_iff.mp h
  exact .inl ⟨a, vs, rfl, .inr (.of hs), fun p hp => q _ p vs (Fr.new hp) hp upd_same (hr.up (Fr.new (o := .lst vs) hp))⟩
theorem listL_q {a : Addr} {xs : List V} (h : SqL K H a xs) (q : ∀ H' p, Fr [] H H' → H p = none → H' p = some (.lst xs) → Q (.ref p) H') : rListG K [.ref a] H Q :=
  .inl ⟨a, xs, rfl, .inl h, fun p hp => q _ p (Fr.new hp) hp upd_same⟩
theorem sortedD_q {a : Addr} {kvs : List (Key × V)} {ks : List Str} (h : H a = some (.dK kvs)) (e : kvs.map (·.1) = ks.map Sum.inr) (hl : ks.length < 64)
    (q : ∀ H' p ys, ys.Perm ks → sortedS ys = true → Fr [] H H' → H p = none → H' p = some (.lst (ys.map V.str)) → Q (.ref p) H') : rSortedG K [.ref a] H Q :=
  .inr ⟨a, kvs, ks, rfl, .inl h, e, hl, fun ys p h1 h2 hp => q _ p ys h1 h2 (Fr.new hp) hp upd_same⟩
theorem sortedL_q {a : Addr} {ks : List Str} (h : SqL K H a (ks.map V.str)) (hl : ks.length < 64)
    (q : ∀ H' p ys, ys.Perm ks → sortedS ys = true → Fr [] H H' → H p = none → H' p = some (.lst (ys.map V.str)) → Q (.ref p) H') : rSortedG K [.ref a] H Q :=
  .inl ⟨a, ks, rfl, h, hl, fun ys p h1 h2 hp => q _ p ys h1 h2 (Fr.new hp) hp upd_same⟩
theorem get2_q {td ty tx : TE} (h : td σ H fun x H1 => ∃ a, x = .ref a ∧ IsD H1 a ∧ ty σ H1 fun y H2 => tx σ H2 fun z H3 => ∃ o, DGet H3 a y o ∧ Q (o.getD z) H3) : tDGet2 td ty tx σ H Q := h
theorem clear_q {a : Addr} {kvs : List (Key × V)} (h : H a = some (.dK kvs)) (q : ∀ H', Fr [a] H H' → H' a = some (.dK []) → Q .non H') : rDClear (.ref a) [] H Q :=
  ⟨a, kvs, rfl, rfl, h, q _ (Fr.setD h) upd_same⟩
theorem neSame_q {a e : Addr} {kvs : List (Key × V)} (h : H a = some (.dK kvs)) (h' : H e = some (.dK kvs)) (hp : ∀ p ∈ kvs, valV kvs p.1 = some p.2 ∧ sameOk p.2) (q : Q (.bl false) H) : rNeG K (.ref a) (.ref e) H Q :=
  .inr (.inr ⟨a, e, kvs, rfl, rfl, h, h', hp, q⟩)
/-! isinstance of data -/
def tyD : PyData → String
  | .none => "NoneType" | .bool _ => "bool" | .int _ => "int" | .str _ => "str" | .tuple _ => "tuple" | .list _ => "list" | .dict _ => "dict"
theorem Rep.tyx {d : PyData} {x : V} (h : Rep K H d x) : TyX K H x (.type (tyD d)) := by
  cases d with
  | none => unfold Rep at h; subst h; exact .base .non
  | bool b => unfold Rep at h; subst h; exact .base (.bl b)
  | int b => unfold Rep at h; subst h; exact .base (.int b)
  | str b => unfold Rep at h; subst h; exact .base (.str b)
  | tuple ds =>
    obtain ⟨a, vs, rfl, hs, _⟩ := Rep.tup_iff.mp h
    exact .base (.tup hs)



  | list _ => unfold Rep at h; exact h.elim
  | dict _ => unfold Rep at h; exact h.elim
theorem isi_rep {T : String} {k : Bool} (h : Rep K H d x) (e : kitB (tyD d) T = some k) (q : Q (.bl k) H) : rIsi K [x, .ty T] H Q :=
  ⟨x, .ty T, .type (tyD d), .type T, k, rfl, .ty T, h.tyx, kit_ty e, q⟩
theorem reps_strs : ∀ (ys : List Str), Reps K H (ys.map .str) (ys.map V.str)
  | [] => reps_nil
  | y :: ys => reps_cons rep_str (reps_strs ys)
theorem reps_ints : ∀ (ys : List Int), Reps K H (ys.map .int) (ys.map V.int)
  | [] => reps_nil
  | y :: ys => reps_cons rep_int (reps_ints ys)
/-! unpacking -/
theorem gTup2_rep {d1 d2 : PyData} {j : Nat} {q : L2.St → Hp → Prop} (h : Rep K H (.tuple [d1, d2]) x) (w : ∀ v1 v2, Rep K H d1 v1 → Rep K H d2 v2 → q ((σ.set i (some v1)).set j (some v2)) H) : gTup K 2 (gCons (gName i) (gCons (gName j) gNil)) x σ H q := by
  obtain ⟨a, vs, rfl, hs, hr⟩ := Rep.tup_iff.mp h
  obtain ⟨v1, r1, rfl, h1, hr⟩ := Reps.cons_iff.mp hr
  obtain ⟨v2, r2, rfl, h2, hr⟩ := Reps.cons_iff.mp hr
  have : r2 = [] := by unfold Reps at hr; exact hr
  subst this
  exact ⟨a, _, rfl, .of hs, rfl, v1, _, rfl, v2, _, rfl, rfl, w v1 v2 h1 h2⟩
theorem gTup3_rep {d1 d2 d3 : PyData} {j k : Nat} {q : L2.St → Hp → Prop} (h : Rep K H (.tuple [d1, d2, d3]) x) (w : ∀ v1 v2 v3, Rep K H d1 v1 → Rep K H d2 v2 → Rep K H d3 v3 → q (((σ.set i (some v1)).set j (some v2)).set k (some v3)) H) : gTup K 3 (gCons (gName i) (gCons (gName j) (gCons (gName k) gNil))) x σ H q := by
  obtain ⟨a, vs, rfl, hs, hr⟩ := Rep.tup_iff.mp h
  obtain ⟨v1, r1, rfl, h1, hr⟩ := Reps.cons_iff.mp hr
  obtain ⟨v2, r2, rfl, h2, hr⟩ := Reps.cons_iff.mp hr
  obtain ⟨v3, r3, rfl, h3, hr⟩ := Reps.cons_iff.mp hr
  have : r3 = [] := by unfold Reps at hr; exact hr
  subst this
  exact ⟨a, _, rfl, .of hs, rfl, v1, _, rfl, v2, _, rfl, v3, _, rfl, rfl, w v1 v2 v3 h1 h2 h3⟩
theorem Reps.snoc (h : Reps K H (ds ++ [d]) vs) : ∃ us u, vs = us ++ [u] ∧ Reps K H ds us ∧ Rep K H d u := by
  induction ds generalizing vs with
  | nil =>
    obtain ⟨u, r, rfl, h1, h2⟩ := Reps.cons_iff.mp h
    have : r = [] := by unfold Reps at h2; exact h2
    subst this
    exact ⟨[], u, rfl, reps_nil, h1⟩
  | cons e es ih =>
    obtain ⟨u, r, rfl, h1, h2⟩ := Reps.cons_iff.mp h
    obtain ⟨us, z, rfl, h3, h4⟩ := ih h2
    exact ⟨u :: us, z, rfl, reps_cons h1 h3, h4⟩
theorem reps_one (h : Rep K H d x) : Reps K H [d] [x] := reps_cons h reps_nil
/-! slices of tuples -/
theorem cutV_from (xs : List V) (k : Nat) : cutV xs (some (k : Int)) none = xs.drop k := by
  unfold cutV
  rw [HT.sIx_nat, HT.sIx_none]
  by_cases h : k ≤ xs.length
  · rw [Nat.min_eq_left h]
    exact List.take_of_length_le (by rw [List.length_drop]; exact Nat.le_refl _)
  · rw [Nat.min_eq_right (by omega), List.drop_of_length_le (by omega), List.drop_of_length_le (by omega), List.take_nil]
theorem cutV_to (xs : List V) (k : Nat) : cutV xs none (some (k : Int)) = xs.take k := by
  unfold cutV
  rw [HT.sIx_nat, HT.sIx_none, List.drop_zero, Nat.sub_zero]
  by_cases h : k ≤ xs.length
  · rw [Nat.min_eq_left h]
  · rw [Nat.min_eq_right (by omega), List.take_of_length_le (by omega), List.take_of_length_le (by omega)]
theorem cutV_at (xs : List V) (j k : Nat) (h : j ≤ k) : cutV xs (some (j : Int)) (some (k : Int)) = (xs.take k).drop j := by
  unfold cutV
  rw [HT.sIx_nat, HT.sIx_nat, List.drop_take]
  by_cases h1 : j ≤ xs.length
  · rw [Nat.min_eq_left h1]
    by_cases h2 : k ≤ xs.length
    · rw [Nat.min_eq_left h2]
    · rw [Nat.min_eq_right (by omega), List.take_of_length_le (by rw [List.length_drop]; omega), List.take_of_length_le (by rw [List.length_drop]; omega)]
  · rw [Nat.min_eq_right (by omega), List.drop_of_length_le (by omega), List.drop_of_length_le (by omega), List.take_nil, List.take_nil]
theorem slT_gen {lo hi : Option Int} (h : Rep K H (.tuple ds) x) (es : List PyData) (he : ∀ {vs : List V} {H'}, Reps K H' ds vs → Reps K H' es (cutV vs lo hi)) (q : ∀ H' v, Fr [] H H' → Rep K H' (.tuple es) v → Q v H') : rSlG K x lo hi H Q := by
  obtain ⟨a, vs, rfl, hs, hr⟩ := Rep.tup_iff.mp h
  refine .inl ⟨a, vs, rfl, .of hs, fun z => q _ _ (Fr.refl _ _) (rep_tup hs ?_), fun _ p hp => ?_⟩
  · have e : cutV vs lo hi = vs := by
      unfold cutV
      rw [z.1, z.2, List.drop_zero, Nat.sub_zero, List.take_length]
    have := he hr
    rw [e] at this
    exact this
  · have f : Fr [] H (upd H p (.tup (cutV vs lo hi))) := Fr.new hp
    exact q _ _ f (rep_tup upd_same ((he hr).up f))
theorem slT_from {j : Int} {k : Nat} (h : Rep K H (.tuple ds) x) (hj : j = ((k : Nat) : Int)) (q : ∀ H' v, Fr [] H H' → Rep K H' (.tuple (ds.drop k)) v → Q v H') : rSlG K x (some j) none H Q := by
  subst hj
  exact slT_gen h (ds.drop k) (fun hr => by rw [cutV_from]; exact hr.drop k) q
theorem slT_to {j : Int} {k : Nat} (h : Rep K H (.tuple ds) x) (hj : j = ((k : Nat) : Int)) (q : ∀ H' v, Fr [] H H' → Rep K H' (.tuple (ds.take k)) v → Q v H') : rSlG K x none (some j) H Q := by
  subst hj
  exact slT_gen h (ds.take k) (fun hr => by rw [cutV_to]; exact hr.take k) q
theorem kitB_tuple : ∀ d : PyData, kitB (tyD d) "tuple" = some (tyD d == "tuple") := by
  intro d
  cases d <;> (simp only [tyD]; decide +kernel)
theorem get2D_q {a : Addr} {kvs : List (Key × V)} {k : Key} {y z : V} (h : H a = some (.dK kvs)) (hx : y = kV k) (q : Q ((valV kvs k).getD z) H) : ∃ o, DGet H a y o ∧ Q (o.getD z) H := by
  subst hx
  exact ⟨_, DGet.k h, q⟩
theorem isD_of {a : Addr} {kvs : List (Key × V)} (h : H a = some (.dK kvs)) : IsD H a := .inl ⟨kvs, .inl h⟩
/-! loops -/
/-- what is wanted of a while's body -/
def WB (W : Nat → L2.St → Hp → Prop) (m : Nat) (t : TS) (n : L2.St → Hp → Prop) (r : VK) (σ : L2.St) (H : Hp) : Prop :=
  ∃ N : L2.St → Hp → Prop, (∀ σ' H', N σ' H' → ∃ m', m' < m ∧ W m' σ' H') ∧ t ⟨N, r, n, N⟩ σ H
theorem wb_mk {W : Nat → L2.St → Hp → Prop} {m : Nat} (h : t ⟨fun σ' H' => ∃ m', m' < m ∧ W m' σ' H', r, n, fun σ' H' => ∃ m', m' < m ∧ W m' σ' H'⟩ σ H) : WB W m t n r σ H := ⟨_, fun _ _ z => z, h⟩
theorem g_while (W : Nat → L2.St → Hp → Prop) (m0 : Nat) (h0 : W m0 σ H)
    (step : ∀ m σ H, W m σ H → tt σ H fun k H1 => if k = true then WB W m t n r σ H1 else n σ H1) : tWhile tt t ⟨n, r, b, c⟩ σ H := ⟨W, ⟨m0, h0⟩, step⟩
/-- what is wanted of a for's turns -/
def ForQ (J : It) (g : TG) (t : TS) (n : L2.St → Hp → Prop) (r : VK) (σ : L2.St) (H1 : Hp) : Prop :=
  ∃ W : Nat → Nat → L2.St → Hp → Prop, (∃ m, W 0 m σ H1) ∧ ∀ i m σ H, W i m σ H →
    (J.stop i H ∧ n σ H) ∨ (J.go i H ∧ ∃ N : L2.St → Hp → Prop, (∀ σ' H', N σ' H' → ∃ m', m' < m ∧ W (i + 1) m' σ' H') ∧ ∀ x H', J.yld i H x H' → g x σ H' fun σ2 H2 => t ⟨N, r, n, N⟩ σ2 H2)
/-- one turn -/
abbrev Turn1 (g : TG) (t : TS) (n : L2.St → Hp → Prop) (r : VK) (N : L2.St → Hp → Prop) (x : V) (σ : L2.St) (H : Hp) : Prop := g x σ H fun σ2 H2 => t ⟨N, r, n, N⟩ σ2 H2
def ForT (K : PySem.W.Frag) (g : TG) (t : TS) (n : L2.St → Hp → Prop) (r : VK) (σ : L2.St) : VK := fun x H1 => ∃ a, x = .ref a ∧ (∃ xs, SqT K H1 a xs) ∧ ForQ (Itt K a) g t n r σ H1
def ForL (K : PySem.W.Frag) (g : TG) (t : TS) (n : L2.St → Hp → Prop) (r : VK) (σ : L2.St) : VK := fun x H1 => ∃ a, x = .ref a ∧ (∃ xs, SqL K H1 a xs) ∧ ForQ (Itl K a) g t n r σ H1
def ForR1 (g : TG) (t : TS) (n : L2.St → Hp → Prop) (r : VK) (σ : L2.St) : List V → Hp → Prop := fun vs H1 => ∃ j : Int, vs = [.int j] ∧ -(2 ^ 62) ≤ j ∧ j < 2 ^ 62 ∧ ForQ (Itr 0 j.toNat) g t n r σ H1
theorem g_forT (h : te σ H (ForT K g t n r σ)) : tFor (fun σ H R => iList K te σ H R ∨ iTup K te σ H R) g t ⟨n, r, b, c⟩ σ H := .inr h
theorem g_forL (h : te σ H (ForL K g t n r σ)) : tFor (fun σ H R => iList K te σ H R ∨ iTup K te σ H R) g t ⟨n, r, b, c⟩ σ H := .inl h
theorem g_forR1 {ta : TA} (h : ta σ H (ForR1 g t n r σ)) : tFor (iRng1 ta) g t ⟨n, r, b, c⟩ σ H := h
theorem forT_rep (h : Rep K H (.tuple ds) x) (Pv : Nat → L2.St → Hp → Prop) (h0 : Pv 0 σ H) (hl : ∀ i σ H', Pv i σ H' → ∃ l, Fr l H H')
    (step : ∀ i d x σ H, ds[i]? = some d → Rep K H d x → Pv i σ H → Turn1 g t n r (Pv (i + 1)) x σ H) (hd : ∀ σ H, Pv ds.length σ H → n σ H) : ForT K g t n r σ x H := by
  obtain ⟨a, vs, rfl, hs, hr⟩ := Rep.tup_iff.mp h
  refine ⟨a, rfl, ⟨vs, .of hs⟩, for_tup (D := ⟨n, r, fun _ _ => False, fun _ _ => False⟩) Pv h0 (fun i σ H' _ p => ?_) (fun i x σ H' e p => ?_) (fun σ H' p => hd σ H' (by rw [← hr.length]; exact p))⟩
  · obtain ⟨l, f⟩ := hl i σ H' p
    exact f.sqT (.of hs)
  · obtain ⟨l, f⟩ := hl i σ H' p
    obtain ⟨d, ed, rd⟩ := hr.get' e
    exact step i d x σ H' ed (rd.up f) p
theorem forL_q {a : Addr} {xs : List V} (hs : SqL K H a xs) (Pv : Nat → L2.St → Hp → Prop) (h0 : Pv 0 σ H) (hl : ∀ i σ H, Pv i σ H → SqL K H a xs)
    (step : ∀ i x σ H, xs[i]? = some x → Pv i σ H → Turn1 g t n r (Pv (i + 1)) x σ H) (hd : ∀ σ H, Pv xs.length σ H → n σ H) : ForL K g t n r σ (.ref a) H :=
  ⟨a, rfl, ⟨xs, hs⟩, for_list (D := ⟨n, r, fun _ _ => False, fun _ _ => False⟩) Pv h0 (fun i σ H' _ p => hl i σ H' p) (fun i x σ H' e p => step i x σ H' e p) hd⟩
theorem forR1_q {k : Nat} {j : Int} (hj : j = ((k : Nat) : Int)) (hk : k < 1000000000) (Pv : Nat → L2.St → Hp → Prop) (h0 : Pv 0 σ H)
    (step : ∀ (i : Nat) σ H, i < k → Pv i σ H → Turn1 g t n r (Pv (i + 1)) (.int i) σ H) (hd : ∀ σ H, Pv k σ H → n σ H) : ForR1 g t n r σ [.int j] H := by
  subst hj
  refine ⟨_, rfl, by omega, by omega, for_range (D := ⟨n, r, fun _ _ => False, fun _ _ => False⟩) Pv h0 (fun i σ H' e p => ?_) (fun σ H' p => hd σ H' (by simpa using p))⟩
  rw [Int.zero_add]
  exact step i σ H' (by simpa using e) p
/-! comprehensions -/
def LcQ (J : It) (g : TG) (tt : TT) (te : TE) (vs : List Nat) (σ : L2.St) (Q : VK) (H1 : Hp) : Prop :=
  ∀ D, H1 D = none → ∃ W : Nat → Nat → Hp → Prop, (∃ m, W 0 m (upd H1 D (.lst []))) ∧ ∀ i m H, W i m H →
  (J.stop i H ∧ Q (.ref D) H) ∨ (J.go i H ∧ ∃ Nx : Hp → Prop, (∀ H', Nx H' → ∃ m', m' < m ∧ W (i + 1) m' H') ∧ ∀ x H', J.yld i H x H' → g x (wipe σ vs) H' fun σ2 H2 => wipe σ2 vs = wipe σ vs ∧ tt σ2 H2 fun b H3 =>
    if b = true then te σ2 H3 fun y H4 => ∃ acc, H4 D = some (.lst acc) ∧ acc.length < sizeLine ∧ Nx (upd H4 D (.lst (acc ++ [y]))) else Nx H3)
def LcT (K : PySem.W.Frag) (g : TG) (tt : TT) (te : TE) (vs : List Nat) (σ : L2.St) (Q : VK) : VK := fun x H1 => ∃ a, x = .ref a ∧ (∃ xs, SqT K H1 a xs) ∧ LcQ (Itt K a) g tt te vs σ Q H1
def LcL (K : PySem.W.Frag) (g : TG) (tt : TT) (te : TE) (vs : List Nat) (σ : L2.St) (Q : VK) : VK := fun x H1 => ∃ a, x = .ref a ∧ (∃ xs, SqL K H1 a xs) ∧ LcQ (Itl K a) g tt te vs σ Q H1
def LcR1 (g : TG) (tt : TT) (te : TE) (vs : List Nat) (σ : L2.St) (Q : VK) : List V → Hp → Prop := fun ws H1 => ∃ j : Int, ws = [.int j] ∧ -(2 ^ 62) ≤ j ∧ j < 2 ^ 62 ∧ LcQ (Itr 0 j.toNat) g tt te vs σ Q H1
theorem g_lcT {vs : List Nat} (h : ta σ H (LcT K g tt te vs σ Q)) : tLc (fun σ H R => iList K ta σ H R ∨ iTup K ta σ H R) g tt te vs σ H Q := .inr h
theorem g_lcL {vs : List Nat} (h : ta σ H (LcL K g tt te vs σ Q)) : tLc (fun σ H R => iList K ta σ H R ∨ iTup K ta σ H R) g tt te vs σ H Q := .inl h
theorem g_lcR1 {ts : TA} {vs : List Nat} (h : ts σ H (LcR1 g tt te vs σ Q)) : tLc (iRng1 ts) g tt te vs σ H Q := h
/-- a turn of a comprehension: the item's place, the test, the new element y, the list at D -/
abbrev Elt1 (g : TG) (tt : TT) (te : TE) (vs : List Nat) (σ : L2.St) (D : Addr) (P1 : Hp → Prop) (x : V) (H : Hp) : Prop :=
  g x (wipe σ vs) H fun σ2 H2 => wipe σ2 vs = wipe σ vs ∧ tt σ2 H2 fun b H3 => if b = true then te σ2 H3 fun y H4 => ∃ acc, H4 D = some (.lst acc) ∧ acc.length < sizeLine ∧ P1 (upd H4 D (.lst (acc ++ [y]))) else P1 H3
theorem lcT_rep {vs : List Nat} (h : Rep K H (.tuple ds) x) (Pv : Addr → Nat → Hp → Prop) (h0 : ∀ D, H D = none → Pv D 0 (upd H D (.lst []))) (hl : ∀ D i H', H D = none → Pv D i H' → ∃ l, Fr l H H')
    (step : ∀ D i d x H', H D = none → ds[i]? = some d → Rep K H' d x → Pv D i H' → Elt1 g tt te vs σ D (Pv D (i + 1)) x H') (hd : ∀ D H', H D = none → Pv D ds.length H' → Q (.ref D) H') : LcT K g tt te vs σ Q x H := by
  obtain ⟨a, us, rfl, hs, hr⟩ := Rep.tup_iff.mp h
  refine ⟨a, rfl, ⟨us, .of hs⟩, fun D nD => lc_tup (Pv D) (h0 D nD) (fun i H' _ p => ?_) (fun i x H' e p => ?_) (fun H' p => hd D H' nD (by rw [← hr.length]; exact p))⟩
  · obtain ⟨l, f⟩ := hl D i H' nD p
    exact f.sqT (.of hs)
  · obtain ⟨l, f⟩ := hl D i H' nD p
    obtain ⟨d, ed, rd⟩ := hr.get' e
    exact step D i d x H' nD ed (rd.up f) p
theorem lcL_q {vs : List Nat} {a : Addr} {xs : List V} (hs : SqL K H a xs) (Pv : Addr → Nat → Hp → Prop) (h0 : ∀ D, H D = none → Pv D 0 (upd H D (.lst []))) (hl : ∀ D i H', H D = none → Pv D i H' → SqL K H' a xs)
    (step : ∀ D i x H', H D = none → xs[i]? = some x → Pv D i H' → Elt1 g tt te vs σ D (Pv D (i + 1)) x H') (hd : ∀ D H', H D = none → Pv D xs.length H' → Q (.ref D) H') : LcL K g tt te vs σ Q (.ref a) H :=
  ⟨a, rfl, ⟨xs, hs⟩, fun D nD => lc_list (Pv D) (h0 D nD) (fun i H' _ p => hl D i H' nD p) (fun i x H' e p => step D i x H' nD e p) (fun H' p => hd D H' nD p)⟩
theorem lcR1_q {vs : List Nat} {k : Nat} {j : Int} (hj : j = ((k : Nat) : Int)) (hk : k < 1000000000) (Pv : Addr → Nat → Hp → Prop) (h0 : ∀ D, H D = none → Pv D 0 (upd H D (.lst [])))
    (step : ∀ D (i : Nat) H', H D = none → i < k → Pv D i H' → Elt1 g tt te vs σ D (Pv D (i + 1)) (.int i) H') (hd : ∀ D H', H D = none → Pv D k H' → Q (.ref D) H') : LcR1 g tt te vs σ Q [.int j] H := by
  subst hj
  refine ⟨_, rfl, by omega, by omega, fun D nD => lc_range (lo := 0) (n := ((k : Nat) : Int).toNat) (Pv D) (h0 D nD) (fun i H' e p => ?_) (fun H' p => hd D H' nD (by simpa using p))⟩
  rw [Int.zero_add]
  exact step D i H' nD (by simpa using e) p
end

/-! ### the law's draws -/
/-- the state of the draws at a: its numbers at c -/
def DrawOk (H : Hp) (a c : Addr) : Prop := ∃ (ns : List Int) (p : Nat) (f s : Int), H a = some (.lst [.ref c, .int p, .int f, .int s, .int 3]) ∧ H c = some (.lst (ns.map V.int)) ∧ c ≠ a
def spDraw : Sp := fun vs H Q _ => ∃ (a c : Addr) (m : Nat), vs = [.ref a, .int m] ∧ DrawOk H a c ∧ 0 < m ∧ m < 1000000000 ∧ ∀ H' (k : Nat), Fr [a] H H' → DrawOk H' a c → k < m → Q (.int k) H'
def spBegin (K : PySem.W.Frag) : Sp := fun vs H Q _ => ∃ (s : Addr) (ns : List Int), vs = [.ref s] ∧ SqL K H s (ns.map V.int) ∧ ns.length ≤ 63 ∧ ∀ H' a c, Fr [] H H' → H a = none → H c = none → DrawOk H' a c → Q (.ref a) H'
def spPick (K : PySem.W.Frag) : Sp := fun vs H Q _ => ∃ (a c l : Addr) (xs : List V), vs = [.ref a, .ref l] ∧ DrawOk H a c ∧ SqL K H l xs ∧ l ≠ a ∧ 0 < xs.length ∧ xs.length < 1000000 ∧ ∀ H' (i : Nat) (v : V), Fr [a] H H' → DrawOk H' a c → xs[i]? = some v → Q v H'
theorem dok_as {H : Hp} {a c : Addr} (h : DrawOk H a c) : DrawOk H a c := h
theorem DrawOk.fr {H H' : Hp} {a c : Addr} {l : List Addr} (h : DrawOk H a c) (f : Fr l H H') (ha : a ∉ l) (hc : c ∉ l) : DrawOk H' a c := by
  obtain ⟨ns, p, f1, s, h1, h2, h3⟩ := h
  exact ⟨ns, p, f1, s, f.keep _ _ h1 ha, f.keep _ _ h2 hc, h3⟩
theorem DrawOk.fr0 {H H' : Hp} {a c : Addr} (h : DrawOk H a c) (f : Fr [] H H') : DrawOk H' a c := h.fr f (by simp) (by simp)
theorem DrawOk.fr1 {H H' : Hp} {a c d : Addr} (h : DrawOk H a c) (f : Fr [d] H H') (ha : d ≠ a) (hc : d ≠ c) : DrawOk H' a c := h.fr f (by simp [Ne.symm ha]) (by simp [Ne.symm hc])
theorem DrawOk.neL {H : Hp} {a c b : Addr} (h : DrawOk H a c) (e : H b = none) : b ≠ a := by
  obtain ⟨ns, p, f1, s, h1, _⟩ := h
  exact (ne_of_none h1 e).symm
theorem DrawOk.neC {H : Hp} {a c b : Addr} (h : DrawOk H a c) (e : H b = none) : b ≠ c := by
  obtain ⟨ns, p, f1, s, _, h1, _⟩ := h
  exact (ne_of_none h1 e).symm
theorem draw_q {H : Hp} {Q : VK} {E : XK} {a c : Addr} {j : Int} (h : DrawOk H a c) (m0 : 0 < j) (m1 : j < 1000000000) (q : ∀ H' (k : Nat), Fr [a] H H' → DrawOk H' a c → (k : Int) < j → Q (.int k) H') : spDraw [.ref a, .int j] H Q E :=
  ⟨a, c, j.toNat, by rw [Int.toNat_of_nonneg (by omega)], h, by omega, by omega, fun H' k f d e => q H' k f d (by omega)⟩
theorem pick_q {K : PySem.W.Frag} {H : Hp} {Q : VK} {E : XK} {a c l : Addr} {xs : List V} (h : DrawOk H a c) (hl : SqL K H l xs) (hne : l ≠ a) (h0 : 0 < xs.length) (h1 : xs.length < 1000000) (q : ∀ H' (i : Nat) (v : V), Fr [a] H H' → DrawOk H' a c → xs[i]? = some v → Q v H') : spPick K [.ref a, .ref l] H Q E :=
  ⟨a, c, l, xs, rfl, h, hl, hne, h0, h1, q⟩
theorem draw_mod (i : Int) (m : Nat) (h : 0 < m) : ∃ k : Nat, i % (m : Int) = (k : Int) ∧ k < m := by
  have h1 : (0 : Int) < (m : Int) := by omega
  have h2 := Int.emod_nonneg i (Int.ne_of_gt h1)
  have h3 := Int.emod_lt_of_pos i h1
  exact ⟨(i % (m : Int)).toNat, by omega, by omega⟩

/-! ### the rules with the written part named -/
section
variable {X : Cx} {K : PySem.W.Frag}
theorem ix_GK (hK : X.K = K) (hu : X.A.units + 1 < cLine) : IxR X (rIxG K) := by subst hK; exact ix_G hu
theorem op_eqGK (hK : X.K = K) (hu : X.A.units + 64 < cLine) : OpR X (compareOp .Eq) (rEqG K) := by subst hK; exact op_eqG hu
theorem op_neGK (hK : X.K = K) (hu : X.A.units + 64 < cLine) : OpR X (compareOp .NotEq) (rNeG K) := by subst hK; exact op_neG hu
theorem op_inGK (hK : X.K = K) (hu : X.A.units + 1 < cLine) : OpR X (compareOp .In) (rInG K) := by subst hK; exact op_inG hu
theorem op_notInGK (hK : X.K = K) (hu : X.A.units + 1 < cLine) : OpR X (compareOp .NotIn) (rNotInG K) := by subst hK; exact op_notInG hu
theorem op_addGK (hK : X.K = K) : OpR X (binaryOp .Add) (rAddG K) := by subst hK; exact op_addG
theorem call_lenGK (hK : X.K = K) : CallR X (.builtin "len") (rLenG K) := by subst hK; exact call_lenG
theorem call_listGK (hK : X.K = K) (hc : X.calm = true) : CallR X (.type "list") (rListG K) := by subst hK; exact call_listG hc
theorem call_sortedGK (hK : X.K = K) (hc : X.calm = true) : CallR X (.builtin "sorted") (rSortedG K) := by subst hK; exact call_sortedG hc
theorem call_tupGK (hK : X.K = K) : CallR X (.type "tuple") (rTupOf K) := by subst hK; exact call_tupG
theorem call_isiGK (hK : X.K = K) : CallR X (.builtin "isinstance") (rIsi K) := by subst hK; exact call_isi
theorem sl_GK (hK : X.K = K) : SlR X (rSlG K) := by subst hK; exact sl_G
theorem pi_seqK {tg e : Expr} {te : TE} (hK : X.K = K) (h : PE X e te) : PI X tg e (fun σ H R => iList K te σ H R ∨ iTup K te σ H R) := by subst hK; exact pi_seq h
theorem pg_tupK {es : List Expr} {k : Nat} {t : TGs} {n : Nat} {pos : Pos} (hK : X.K = K) (hc : X.calm = true) (h : PGs X es t)
    (hn : (assignEach es X.env).length = n := by rfl) (hst : (assignEach es X.env).findIdx? (·.1) = none := by rfl) : PG X (.Tuple es k pos) (gTup K n t) := by subst hK; exact pg_tup hc h hn hst
end
end AN

/-! AN: sorting and ordering of tuple data; dicts keyed by tuples. -/
namespace AN
open PySem PySem.Spec PyProof.Rows L2
open PySem.W (dataLt dataLe alike alikeAll keyToks keyToksAll AllAlike Sortable EachIs)
section
variable {X : Cx} {pins : List (Addr × Obj)} {σ : L2.St} {H : Hp} {s : Shared}
mutual
theorem Rep.reads (I : Inv X pins σ H s) : ∀ (d : PyData) (x : V) (v : Value), Rep X.K H d x → RelV x v → Reads s.heap v d []
  | .none, x, v, h, r => by unfold Rep at h; subst h; cases (show v = Value.none from r); exact .none
  | .bool b, x, v, h, r => by unfold Rep at h; subst h; cases (show v = Value.bool b from r); exact .bool _
  | .int i, x, v, h, r => by unfold Rep at h; subst h; obtain ⟨t, rfl⟩ := r; exact .int _ _
  | .str i, x, v, h, r => by unfold Rep at h; subst h; obtain ⟨t, rfl⟩ := r; exact .str _ _
  | .tuple ds, x, v, h, r => by
    unfold Rep at h
    obtain ⟨a, vs, e, q, rs⟩ := h
    subst e
    cases (show v = Value.ref a from r)
    obtain ⟨its, rv, ⟨o, ho, hc, n, hd⟩, _⟩ := I.tuple (.of q)
    exact .tuple ho hc hd (by simpa using Reps.reads I ds vs its rs rv)
  | .list _, x, v, h, r => by unfold Rep at h; exact h.elim
  | .dict _, x, v, h, r => by unfold Rep at h; exact h.elim
theorem Reps.reads (I : Inv X pins σ H s) : ∀ (ds : List PyData) (xs : List V) (vs : List Value), Reps X.K H ds xs → Vals xs vs → ReadsAll s.heap vs ds []
  | [], xs, vs, h, r => by unfold Reps at h; subst h; cases r; exact .nil
  | d :: ds, xs, vs, h, r => by
    unfold Reps at h
    obtain ⟨x, ys, e, h1, h2⟩ := h
    subst e
    cases r with
    | cons r1 r2 => exact .cons (as := []) (bs := []) (Rep.reads I d x _ h1 r1) (Reps.reads I ds ys _ h2 r2)
end
theorem each_of_reps {K : PySem.W.Frag} : ∀ {ds : List PyData} {xs : List V} {vs : List Value}, Reps K H ds xs → Vals xs vs → EachIs (fun v d => ∃ x, RelV x v ∧ Rep K H d x) vs ds
  | [], xs, vs, h, r => by unfold Reps at h; subst h; cases r; exact .nil
  | d :: ds, xs, vs, h, r => by
    unfold Reps at h
    obtain ⟨x, ys, e, h1, h2⟩ := h
    subst e
    cases r with
    | cons r1 r2 => exact .cons ⟨x, r1, h1⟩ (each_of_reps h2 r2)
theorem reps_of_each {K : PySem.W.Frag} : ∀ {ds : List PyData} {vs : List Value}, EachIs (fun v d => ∃ x, RelV x v ∧ Rep K H d x) vs ds → ∃ xs, Vals xs vs ∧ Reps K H ds xs
  | _, _, .nil => ⟨[], .nil, reps_nil⟩
  | _, _, .cons ⟨x, r, h⟩ t => by
    obtain ⟨xs, r2, h2⟩ := reps_of_each t
    exact ⟨x :: xs, .cons r r2, reps_cons h h2⟩

/-! ### the order of data -/
/-- in order, by their places -/
def Asc (ds : List PyData) : Prop := ds.Pairwise fun a b => dataLt b a = false
theorem asc_merge (ds : List PyData) : Asc (ds.mergeSort (dataLe false id)) := by
  have T := PySem.W.sortLe_total (listOrd itemOrd) false fun b : PyData => keyToks b
  have h := List.pairwise_mergeSort (le := dataLe false (id : PyData → PyData)) (fun a b c h1 h2 => T.trans a b c h1 h2) (fun a b => (Bool.or_eq_true _ _).mpr (T.total a b)) ds
  exact h.imp fun {a b} hab => by
    have q : (!dataLt b a) = true := hab
    simpa using q
def deep : Nat := 40
/-- sorted(xs) of a list of tuple data -/
def rSortedRep (K : PySem.W.Frag) : List V → Hp → VK → Prop := fun vs H Q => ∃ (a : Addr) (xs : List V) (ds : List PyData), vs = [.ref a] ∧ SqL K H a xs ∧ Reps K H ds xs ∧ AllAlike ds ∧ Sortable ds ∧ (∀ d ∈ ds, d.depth ≤ 40) ∧
  ∀ H' p ys es, es.Perm ds → Asc es → AN.Fr [] H H' → H p = none → H' p = some (.lst ys) → Reps K H' es ys → Q (.ref p) H'
theorem cr_sortedRep (hu : X.A.units + 64 < cLine) : CallR X (.builtin "sorted") (rSortedRep X.K) := by
  intro pins s σ H vs us Q I r h
  obtain ⟨a, xs, ds, rfl, hs, hr, h1, h2, h3, q⟩ := h
  obtain ⟨its, rv, hl, hz⟩ := I.list hs
  obtain ⟨u, rfl, ru⟩ := vals1 r
  obtain rfl : u = Value.ref a := ru
  have hlen : ds.length = its.length := by rw [← hr.length, rv.length]
  refine PySem.W.sorted_data (enc := id) (bs := ds) (vs := its) (R := fun v d => ∃ x, RelV x v ∧ Rep X.K H d x) hl.isList (each_of_reps hr rv) ?_ (by simpa using h1) (by simpa using h2) (by rw [hlen, ← rv.length]; exact hz) (fun b hb => by have := h3 b hb; simp only [id]; omega) fun out ho he => ?_
  · have e := each_of_reps hr rv
    exact e.mono fun v d ⟨x, r, hx⟩ => ⟨[], Rep.reads I d x v hx r⟩
  · obtain ⟨ys, ry, hy⟩ := reps_of_each he
    obtain ⟨c, hc⟩ := sortedAll_at s.heap its out.toArray
    have hyl : ys.length ≤ sizeLine := by rw [ry.length, ho, hlen, ← rv.length]; exact hz
    have hn : H (s.heap.objs.size + 1) = none := I.hok.fresh (Nat.le_succ _)
    refine ⟨.ref (s.heap.objs.size + 1), upd H (s.heap.objs.size + 1) (.lst ys), I.laid (t' := s.toks) (fun b o e => sortedAll_old e) (Nat.le_succ _) ⟨hyl, out, c, ry, hc⟩, rfl, ?_⟩
    exact q _ _ ys _ (List.mergeSort_perm ds _) (asc_merge ds) (AN.Fr.new hn) hn upd_same (hy.up (AN.Fr.new hn))
/-- d < e -/
def rLtRep (K : PySem.W.Frag) : R2 := fun x y H Q => ∃ d e, Rep K H d x ∧ Rep K H e y ∧ alike d e = true ∧ d ≠ .none ∧ d.depth ≤ 40 ∧ Q (.bl (dataLt d e)) H
theorem op_ltRep (hu : X.A.units + 64 < cLine) : OpR X (compareOp .Lt) (rLtRep X.K) := by
  intro pins s σ H x y u v Q I rx ry h
  obtain ⟨d, e, h1, h2, h3, h4, h5, q⟩ := h
  exact PySem.W.lt_data (Rep.reads I d x u h1 rx) (Rep.reads I e y v h2 ry) h3 h4 (by omega) ⟨.bl (dataLt d e), H, I, rfl, q⟩

/-! ### sorted of whatever can be collected -/
theorem collect_tup {prog : Program} {w : World} {A : Around} {E : Value → Shared → Prop} {s : Shared} {l : Addr} {vs : List Value} {Q : List Value → Shared → Prop} (hl : IsTup s.heap l vs.toArray)
    (h : ∀ h', (∀ b o, s.heap.get? b = some o → h'.get? b = some o) → Q vs { s with heap := h' }) (hsz : vs.length ≤ sizeLine) :
    wpAny (model prog w) A (collect (.ref l)) Q E s := by
  obtain ⟨o, ho, hc, n, hd⟩ := id hl
  unfold collect
  refine wpAny_bind (wpAny_runValue (codeAny_builtin entry_proto_collect' ?_))
  show wpAny _ _ (do again (.builtin "list.__iadd__" ⟨[← newList [], .ref l], []⟩)) _ _ s
  refine wpAny_bind (wpAny_newList (wpAny_pure ⟨Code.quiet_builtin _ (by decide +kernel), codeAny_builtin entry_list_iadd' ?_⟩))
  show wpAny _ _ (Builtin.List.listExtendWith (.ref s.heap.objs.size) (.ref l) (.ref s.heap.objs.size)) _ _ { s with heap := s.heap.push (seqObj "list" #[] 0) }
  unfold Builtin.List.listExtendWith
  have ho' : (s.heap.push (seqObj "list" #[] 0)).get? l = some o := Heap.get?_push_of_some _ ho
  refine wpAny_bind (wpAny_typeOf (T := "tuple") ⟨o, ho', hc⟩ ?_)
  have ht : (Value.type "tuple" == Value.type "tuple") = true := by rfl
  rw [if_pos (by rw [ht]; simp)]
  refine wpAny_bind (listItems_at ho' hd ?_)
  refine wpAny_bind (listItems_at (xs := #[]) (n := 0) (Heap.get?_push_size _ rfl) rfl ?_)
  rw [if_neg (by simp)]
  refine wpAny_bind (listUpdate_at (xs := #[]) (n := 0) (Heap.get?_push_size _ rfl) rfl ?_ (Nat.zero_le _) (by show (#[] ++ vs.toArray).size ≤ sizeLine + 1; simp only [Array.size_append, List.size_toArray, List.length_nil]; omega))
  refine wpAny_pure ?_
  show wpAny (model prog w) A (do
      let o ← load s.heap.objs.size
      match o.data with
      | .seq xs _ => pure xs.toList
      | _ => unsupported "internal:collect") Q E { s with heap := (s.heap.push (seqObj "list" #[] 0)).update s.heap.objs.size (Obj.mapSeq (· ++ vs.toArray)) }
  refine wpAny_bind (wpAny_load (get?_update_seq (Heap.get?_push_size _ rfl) _) ?_)
  show wpAny _ _ (pure ((#[] : Array Value) ++ vs.toArray).toList) Q E _
  rw [show ((#[] : Array Value) ++ vs.toArray).toList = vs by simp]
  refine wpAny_pure (h _ fun b o' e => ?_)
  rw [Heap.get?_update_ne _ _ _ _ (Nat.ne_of_lt (Heap.lt_size e))]
  exact Heap.get?_push_of_some _ e
/-- what sorted promises of data -/
def SortP (K : PySem.W.Frag) (ds : List PyData) (H : Hp) (Q : VK) : Prop := AllAlike ds ∧ Sortable ds ∧ (∀ d ∈ ds, d.depth ≤ 40) ∧ ds.length ≤ sizeLine ∧
  ∀ H' p ys es, es.Perm ds → Asc es → AN.Fr [] H H' → H p = none → H' p = some (.lst ys) → Reps K H' es ys → Q (.ref p) H'
theorem sorted_from (I : Inv X pins σ H s) (hu : X.A.units + 64 < cLine) (u : Value) {ds : List PyData} {Q : VK} (hp : SortP X.K ds H Q)
    (hcol : ∀ R : List Value → Shared → Prop, (∀ h' tk vs, (∀ b o, s.heap.get? b = some o → h'.get? b = some o) → EachIs (fun v d => ∃ x, RelV x v ∧ Rep X.K H d x) vs ds → R vs { s with heap := h', toks := tk }) → wpAny (model X.prog X.w) X.A.in1 (collect u) R X.xe s) :
    wpAny (model X.prog X.w) X.A (call (.builtin "sorted") [u]) (EP X pins σ Q) X.xe s := by
  obtain ⟨h1, h2, h3, hz, q⟩ := hp
  refine Calls.call_function_entry PyProof.Rows.kind_sorted PyProof.Rows.plain_sorted PyProof.Rows.entry_sorted (PyProof.Rows.args_sorted1 _) ?_
  unfold Builtin.«sorted»
  refine wpAny_bind (m := checkCount "sorted" 1 1 _) (wpAny_pure ?_)
  refine wpAny_bind (hcol _ fun h' tk vs hk he => ?_)
  have hl : vs.length = ds.length := he.length
  have I1 : Inv X pins σ H { s with heap := h', toks := tk } := I.kept hk
  refine wpAny_bind (wpAny_newList ?_ (by rw [hl]; exact hz))
  have hoL : (h'.push (seqObj "list" vs.toArray 0)).get? h'.objs.size = some (seqObj "list" vs.toArray 0) := Heap.get?_push_size _ rfl
  show wpAny _ _ _ _ _ { s with heap := h'.push (seqObj "list" vs.toArray 0), toks := tk }
  have I2 : Inv X pins σ H { s with heap := h'.push (seqObj "list" vs.toArray 0), toks := tk } := I1.kept (t' := tk) fun b o e => Heap.get?_push_of_some _ e
  refine wpAny_bind (wpAny_holding (PySem.W.list_sort_data (s := { s with heap := h'.push (seqObj "list" vs.toArray 0), toks := tk }) (enc := id) (bs := ds) (R := fun v d => ∃ x, RelV x v ∧ Rep X.K H d x) hoL he ?_ (by simpa using h1) (by simpa using h2) (by rw [← hl]; omega) (fun b hb => ?_) fun out ho hs => ?_))
  · exact he.mono fun v d ⟨x, r, hx⟩ => ⟨[], Rep.reads I2 d x v hx r, by simp⟩
  · have := h3 b hb
    show X.A.in1.units + 1 + b.depth < cLine
    have e : X.A.in1.units = X.A.units + 1 := rfl
    omega
  · obtain ⟨ys, ry, hy⟩ := reps_of_each hs
    obtain ⟨c, hc⟩ := PyProof.Rows.sortedHeap_at (vs := vs) (out := out.toArray) hoL
    have hyl : ys.length ≤ sizeLine := by rw [ry.length, ho]; omega
    have hn : H h'.objs.size = none := I1.hok.fresh (Nat.le_refl _)
    refine wpAny_pure ⟨_, rfl, .ref h'.objs.size, upd H h'.objs.size (.lst ys), I1.laid (t' := tk) (fun b o e => ?_) (Nat.le_refl _) ⟨hyl, out, c, ry, hc⟩, rfl, ?_⟩
    · have hb : b < h'.objs.size := Heap.lt_size e
      rw [PyProof.Rows.sortedHeap_old (Nat.ne_of_lt hb) (by rw [size_push']; exact Nat.lt_succ_of_lt hb)]
      exact Heap.get?_push_of_some _ e
    · exact q _ _ ys _ (List.mergeSort_perm ds _) (asc_merge ds) (AN.Fr.new hn) hn upd_same (hy.up (AN.Fr.new hn))
/-- a key's part -/
def kD : L2.Key → PyData
  | .inl i => .int i
  | .inr x => .str x
theorem reps_keys {K : PySem.W.Frag} {H : Hp} : ∀ ks : List L2.Key, Reps K H (ks.map kD) (ks.map kV)
  | [] => reps_nil
  | .inl i :: ks => reps_cons rep_int (reps_keys ks)
  | .inr x :: ks => reps_cons rep_str (reps_keys ks)
def rSortTup (K : PySem.W.Frag) : List V → Hp → VK → Prop := fun vs H Q => ∃ x ds, vs = [x] ∧ Rep K H (.tuple ds) x ∧ SortP K ds H Q
theorem cr_sortTup (hu : X.A.units + 64 < cLine) : CallR X (.builtin "sorted") (rSortTup X.K) := by
  intro pins s σ H vs us Q I r h
  obtain ⟨x, ds, rfl, hx, hp⟩ := h
  obtain ⟨a, xs, rfl, hs, hr⟩ := Rep.tup_iff.mp hx
  obtain ⟨u, rfl, ru⟩ := vals1 r
  obtain rfl : u = Value.ref a := ru
  obtain ⟨its, rv, hl, hz⟩ := I.tuple (.of hs)
  exact sorted_from I hu _ hp fun R hR => collect_tup hl (fun h' k => hR h' s.toks its k (each_of_reps hr rv)) (by rw [← rv.length]; exact hz)
def rSortDT (K : PySem.W.Frag) : List V → Hp → VK → Prop := fun vs H Q => ∃ (a : Addr) (kvs : List (List L2.Key × V)), vs = [.ref a] ∧ Rd H a (.dT kvs) ∧ SortP K (kvs.map fun p => .tuple (p.1.map kD)) H Q
theorem each_acc {H : Hp} {K : PySem.W.Frag} : ∀ {kvs : List (List L2.Key × V)} {xs : List (List L2.Key × Addr × Value)}, KT H kvs xs → EachIs (fun v d => ∃ x, RelV x v ∧ Rep K H d x) (xs.map fun x => Value.ref x.2.1) (kvs.map fun p => PyData.tuple (p.1.map kD))
  | _, _, .nil => .nil
  | _, _, .cons h t => .cons ⟨.ref _, rfl, rep_tup h.2.1 (reps_keys _)⟩ (each_acc t)
theorem cr_sortDT (hc : X.calm = true) (hu : X.A.units + 64 < cLine) : CallR X (.builtin "sorted") (rSortDT X.K) := by
  intro pins s σ H vs us Q I r h
  obtain ⟨a, kvs, rfl, hx, hp⟩ := h
  obtain ⟨u, rfl, ru⟩ := vals1 r
  obtain rfl : u = Value.ref a := ru
  obtain ⟨z, lo, xs, rel, dd⟩ := dt_rd I.hok hx
  obtain ⟨o, es, ep, ho, hex, hdat, hes, _, _⟩ := id dd
  have raw : s.heap.DictRaw a es ep := ⟨o, ho, hex, hdat⟩
  have hsz : es.size = xs.length := by rw [← Array.length_toList, hes, List.length_map]
  have hkl : kvs.length = xs.length := rel.length
  refine sorted_from I hu _ hp fun R hR => PySem.W.kdu_collect (PySem.KdlSrc.rawDict (es := es) (ep := ep) lo) (I.ok.hd hc) raw (by rw [hsz, ← hkl]; exact z) fun h' tk acc hk hacc => ?_
  have e : acc.toList = xs.map fun x => Value.ref x.2.1 := by
    apply List.ext_getElem?
    intro i
    rw [List.getElem?_map, Array.getElem?_toList]
    by_cases hi : i < es.size
    · have h1 : i < acc.size := by rw [hacc.1]; exact hi
      rw [Array.getElem?_eq_getElem h1]
      obtain ⟨hi', ev⟩ := hacc.2 i acc[i] (Array.getElem?_eq_getElem h1)
      have h3 : es.toList[i]? = some es[i] := by rw [Array.getElem?_toList]; exact Array.getElem?_eq_getElem hi
      rw [hes, List.getElem?_map] at h3
      obtain ⟨y, hy, ey⟩ := Option.map_eq_some_iff.mp h3
      rw [hy, ev, ← ey]
      rfl
    · rw [Array.getElem?_eq_none (by rw [hacc.1]; omega), List.getElem?_eq_none (by rw [← hsz]; omega)]
      rfl
  rw [e]
  exact hR h' tk _ hk (each_acc rel)
end

/-! ### plain data: whole numbers, texts, None, tuples -/
mutual
def pl : PyData → Bool
  | .none => true
  | .int _ => true
  | .str x => PyData.strOk x
  | .tuple ds => pls ds
  | _ => false
def pls : List PyData → Bool
  | [] => true
  | d :: ds => pl d && pls ds
end
theorem pls_all : ∀ {ds : List PyData}, pls ds = true ↔ ∀ d ∈ ds, pl d = true
  | [] => by simp [pls]
  | d :: ds => by simp [pls, pls_all (ds := ds)]
mutual
theorem eqv_pl : ∀ d e : PyData, pl d = true → pl e = true → (PyData.eqv d e = true ↔ d = e)
  | .none, e, _, h => by cases e <;> simp_all [PyData.eqv, pl]
  | .int i, e, _, h => by cases e <;> simp_all [PyData.eqv, pl]
  | .str i, e, _, h => by cases e <;> simp_all [PyData.eqv, pl]
  | .tuple ds, e, h0, h => by
    cases e with
    | tuple es =>
      simp only [pl] at h0 h
      simp only [PyData.eqv, PyData.tuple.injEq]
      exact eqvAll_pl ds es h0 h
    | _ => simp_all [PyData.eqv, pl]
  | .bool _, _, h, _ => by simp [pl] at h
  | .list _, _, h, _ => by simp [pl] at h
  | .dict _, _, h, _ => by simp [pl] at h
theorem eqvAll_pl : ∀ ds es : List PyData, pls ds = true → pls es = true → (PyData.eqvAll ds es = true ↔ ds = es)
  | [], [], _, _ => by simp [PyData.eqvAll]
  | [], _ :: _, _, _ => by simp [PyData.eqvAll]
  | _ :: _, [], _, _ => by simp [PyData.eqvAll]
  | d :: ds, e :: es, h1, h2 => by
    simp only [pls, Bool.and_eq_true] at h1 h2
    simp only [PyData.eqvAll, Bool.and_eq_true, eqv_pl d e h1.1 h2.1, eqvAll_pl ds es h1.2 h2.2, List.cons.injEq]
end
theorem any_pl {ds : List PyData} {d : PyData} (h : pls ds = true) (h' : pl d = true) : (ds.any fun z => PyData.eqv z d) = true ↔ d ∈ ds := by
  rw [List.any_eq_true]
  constructor
  · rintro ⟨z, hz, e⟩
    rw [eqv_pl z d (pls_all.mp h z hz) h'] at e
    rw [← e]; exact hz
  · exact fun hd => ⟨d, hd, (eqv_pl d d h' h').mpr rfl⟩
mutual
theorem lay_pl : ∀ d : PyData, pl d = true → d.canLay0 = true
  | .none, _ => by simp [PyData.canLay0]
  | .int i, _ => by simp [PyData.canLay0]
  | .str i, h => by simpa [PyData.canLay0, pl] using h
  | .tuple ds, h => by
    simp only [pl] at h
    simp only [PyData.canLay0]
    exact layAll_pl ds h
  | .bool _, h => by simp [pl] at h
  | .list _, h => by simp [pl] at h
  | .dict _, h => by simp [pl] at h
theorem layAll_pl : ∀ ds : List PyData, pls ds = true → PyData.canLayAll0 ds = true
  | [], _ => by simp [PyData.canLayAll0]
  | d :: ds, h => by
    simp only [pls, Bool.and_eq_true] at h
    simp only [PyData.canLayAll0, lay_pl d h.1, layAll_pl ds h.2, Bool.and_self]
end
/-- plain, and not too deep -/
def Okd (d : PyData) : Prop := pl d = true ∧ d.depth ≤ 40
def Okds (ds : List PyData) : Prop := pls ds = true ∧ PyData.depthAll ds ≤ 39
theorem depthAll_le {n : Nat} : ∀ {ds : List PyData}, PyData.depthAll ds ≤ n ↔ ∀ d ∈ ds, d.depth ≤ n
  | [] => by simp [PyData.depthAll]
  | d :: ds => by
    have := depthAll_le (n := n) (ds := ds)
    simp only [PyData.depthAll, List.mem_cons, forall_eq_or_imp, Nat.max_le, this]
theorem Okds.tup {ds : List PyData} (h : Okds ds) : Okd (.tuple ds) := ⟨by simpa [pl] using h.1, by have := h.2; simp only [PyData.depth]; omega⟩
theorem Okd.all {ds : List PyData} (h : Okd (.tuple ds)) : Okds ds := ⟨by simpa [pl] using h.1, by have := h.2; simp only [PyData.depth] at this; omega⟩
theorem Okds.mem {ds : List PyData} {d : PyData} (h : Okds ds) (hd : d ∈ ds) : Okd d := ⟨pls_all.mp h.1 d hd, Nat.le_trans (depthAll_le.mp h.2 d hd) (by omega)⟩
theorem Okd.shaped {d : PyData} (h : Okd d) : SeqAt.shaped d = true := by
  unfold SeqAt.shaped
  rw [lay_pl d h.1, decide_eq_true (Nat.le_trans h.2 (by omega))]
  rfl
theorem Okds.shapedL {ds : List PyData} (h : Okds ds) : SeqAt.shaped (.list ds) = true := by
  unfold SeqAt.shaped
  have h2 := h.2
  rw [show PyData.canLay0 (.list ds) = true from by simp only [PyData.canLay0]; exact layAll_pl ds h.1, decide_eq_true (show PyData.depth (.list ds) ≤ 64 by simp only [PyData.depth]; omega)]
  rfl
/-- a row of data: a list or a tuple -/
def RowOf (K : PySem.W.Frag) (H : Hp) (y : V) (ds : List PyData) : Prop := Rep K H (.tuple ds) y ∨ ∃ a xs, y = .ref a ∧ SqL K H a xs ∧ Reps K H ds xs
def rInX (K : PySem.W.Frag) : R2 := fun x y H Q => ∃ d ds, Rep K H d x ∧ RowOf K H y ds ∧ Okd d ∧ Okds ds ∧ Q (.bl (ds.any fun z => PyData.eqv z d)) H
def rNotInX (K : PySem.W.Frag) : R2 := fun x y H Q => ∃ d ds, Rep K H d x ∧ RowOf K H y ds ∧ Okd d ∧ Okds ds ∧ Q (.bl (!ds.any fun z => PyData.eqv z d)) H
def rEqX (K : PySem.W.Frag) : R2 := fun x y H Q => ∃ d e, Rep K H d x ∧ Rep K H e y ∧ Okd d ∧ Okd e ∧ Q (.bl (PyData.eqv d e)) H
section
variable {X : Cx}
theorem op_inX (hu : X.A.units + 65 < cLine) : OpR X (compareOp .In) (rInX X.K) := by
  intro pins s σ H x y v u Q I rx ry h
  obtain ⟨d, ds, hd, he, sd, se, q⟩ := h
  have r1 := Rep.reads I d x v hd rx
  have room : X.A.units + 1 + min (PyData.depthAll ds) d.depth < cLine := by have := sd.2; omega
  rcases he with he | ⟨a, xs, rfl, hs, hr⟩
  · exact SeqAt.in_tuple_reads (Rep.reads I (.tuple ds) y u he ry) r1 (layAll_pl ds se.1) (lay_pl d sd.1) room ⟨.bl _, H, I, rfl, q⟩
  · obtain ⟨bs, r2⟩ := Dp.reads I (.list ds) _ u (.lst hs (Reps.dp ds xs hr)) ry
    exact SeqAt.in_list_reads r2 r1 (layAll_pl ds se.1) (lay_pl d sd.1) room ⟨.bl _, H, I, rfl, q⟩
theorem op_notInX (hu : X.A.units + 65 < cLine) : OpR X (compareOp .NotIn) (rNotInX X.K) := by
  intro pins s σ H x y v u Q I rx ry h
  obtain ⟨d, ds, hd, he, sd, se, q⟩ := h
  have r1 := Rep.reads I d x v hd rx
  have room : X.A.units + 1 + min (PyData.depthAll ds) d.depth < cLine := by have := sd.2; omega
  rcases he with he | ⟨a, xs, rfl, hs, hr⟩
  · exact SeqAt.notIn_tuple_reads (Rep.reads I (.tuple ds) y u he ry) r1 (layAll_pl ds se.1) (lay_pl d sd.1) room ⟨.bl _, H, I, rfl, q⟩
  · obtain ⟨bs, r2⟩ := Dp.reads I (.list ds) _ u (.lst hs (Reps.dp ds xs hr)) ry
    exact SeqAt.notIn_list_reads r2 r1 (layAll_pl ds se.1) (lay_pl d sd.1) room ⟨.bl _, H, I, rfl, q⟩
/-- l.index(d), d there -/
def rIndexX (K : PySem.W.Frag) : V → List V → Hp → VK → Prop := fun x vs H Q => ∃ (a : Addr) (xs : List V) (ds : List PyData) (y : V) (d : PyData) (j : Nat), x = .ref a ∧ vs = [y] ∧ SqL K H a xs ∧ Reps K H ds xs ∧ Rep K H d y ∧ Okd d ∧ Okds ds ∧
  ds[j]? = some d ∧ (∀ m, m < j → ds[m]? ≠ some d) ∧ Q (.int (j : Nat)) H
theorem mt_indexX (hu : X.A.units + 65 < cLine) : MtR X "list.index" (rIndexX X.K) := by
  intro pins s σ H x vs v us Q I rx rxs h
  obtain ⟨a, xs, ds, y, d, j, rfl, rfl, hs, hr, hd, sd, se, hj, hn, q⟩ := h
  refine mt_indexD hu pins s σ H _ _ v us Q I rx rxs ⟨a, y, d, ds, j, d, rfl, rfl, .lst hs (Reps.dp ds xs hr), Rep.dp d y hd, se.shapedL, sd.shaped, hj, (eqv_pl d d sd.1 sd.1).mpr rfl, fun m z hm hz => ?_, q⟩
  have hz1 := pls_all.mp se.1 z (List.mem_of_getElem? hz)
  cases e : PyData.eqv z d with
  | false => rfl
  | true => rw [eqv_pl z d hz1 sd.1] at e; exact absurd (by rw [hz, e]) (hn m hm)
end

/-! ### the rules by "or", second row -/
theorem _root_.L2.Room.u65 {k : Nat} {A : Around} (r : Room k A) : A.units + 65 < cLine := by have := r.un; omega
def rIn2 (K : PySem.W.Frag) : R2 := fun x y H Q => rInG K x y H Q ∨ rInX K x y H Q
def rNotIn2 (K : PySem.W.Frag) : R2 := fun x y H Q => rNotInG K x y H Q ∨ rNotInX K x y H Q
def rLt2 (K : PySem.W.Frag) : R2 := fun x y H Q => rI0 (fun i j => .bl (decide (i < j))) x y H Q ∨ rLtRep K x y H Q
def rSorted2 (K : PySem.W.Frag) : List V → Hp → VK → Prop := fun vs H Q => rSortedG K vs H Q ∨ rSortedRep K vs H Q ∨ rSortTup K vs H Q ∨ rSortDT K vs H Q
section
variable {X : Cx} {K : PySem.W.Frag}
theorem op_in2K (hK : X.K = K) (hu : X.A.units + 65 < cLine) : OpR X (compareOp .In) (rIn2 K) := by subst hK; exact (op_inG (by omega)).or (op_inX hu)
theorem op_notIn2K (hK : X.K = K) (hu : X.A.units + 65 < cLine) : OpR X (compareOp .NotIn) (rNotIn2 K) := by subst hK; exact (op_notInG (by omega)).or (op_notInX hu)
theorem op_lt2K (hK : X.K = K) (hu : X.A.units + 65 < cLine) : OpR X (compareOp .Lt) (rLt2 K) := by subst hK; exact op_lt.or (op_ltRep (by omega))
theorem call_sorted2K (hK : X.K = K) (hc : X.calm = true) (hu : X.A.units + 65 < cLine) : CallR X (.builtin "sorted") (rSorted2 K) := by
  subst hK; exact (call_sortedG hc).or ((cr_sortedRep (by omega)).or ((cr_sortTup (by omega)).or (cr_sortDT hc (by omega))))
theorem mt_indexK (hK : X.K = K) (hu : X.A.units + 65 < cLine) : MtR X "list.index" (rIndexX K) := by subst hK; exact mt_indexX hu
end
section
variable {K : PySem.W.Frag} {H : Hp} {Q : VK} {x y : V} {d e : PyData} {ds : List PyData}
theorem inX_q (h : Rep K H d x) (r : RowOf K H y ds) (o : Okd d) (os : Okds ds) (q : Q (.bl (ds.any fun z => PyData.eqv z d)) H) : rIn2 K x y H Q := .inr ⟨d, ds, h, r, o, os, q⟩
theorem notInX_q (h : Rep K H d x) (r : RowOf K H y ds) (o : Okd d) (os : Okds ds) (q : Q (.bl (!ds.any fun z => PyData.eqv z d)) H) : rNotIn2 K x y H Q := .inr ⟨d, ds, h, r, o, os, q⟩
theorem eqX_q (h : Rep K H d x) (r : Rep K H e y) (o : Okd d) (os : Okd e) (q : Q (.bl (PyData.eqv d e)) H) : rEqG K x y H Q := eqG_rep h r o.shaped os.shaped q
theorem ltX_q (h : Rep K H d x) (r : Rep K H e y) (a : alike d e = true) (n : d ≠ .none) (o : Okd d) (q : Q (.bl (dataLt d e)) H) : rLt2 K x y H Q := .inr ⟨d, e, h, r, a, n, o.2, q⟩
end

/-! ### dicts told by what their values stand for -/
section
variable {κ κ' α : Type} [DecidableEq κ] [DecidableEq κ']
def aget (r : List (κ × α)) (k : κ) : Option α := (r.find? fun e => decide (e.1 = k)).map (·.2)
def aput (r : List (κ × α)) (k : κ) (y : α) : List (κ × α) := if (r.any fun e => decide (e.1 = k)) = true then r.map (fun e => if e.1 = k then (e.1, y) else e) else r ++ [(k, y)]
def adrop (r : List (κ × α)) (k : κ) : List (κ × α) := r.filter fun e => decide (e.1 ≠ k)
theorem aget_cons (p : κ × α) (r : List (κ × α)) (k : κ) : aget (p :: r) k = if p.1 = k then some p.2 else aget r k := by
  by_cases h : p.1 = k <;> simp [aget, List.find?_cons, h]
theorem aget_nil (k : κ) : aget ([] : List (κ × α)) k = none := rfl
theorem any_aget (k : κ) : ∀ r : List (κ × α), (r.any fun e => decide (e.1 = k)) = (aget r k).isSome
  | [] => rfl
  | p :: r => by
    rw [List.any_cons, aget_cons, any_aget k r]
    by_cases h : p.1 = k <;> simp [h]
theorem aget_some {r : List (κ × α)} {k : κ} {c : α} (h : aget r k = some c) : (k, c) ∈ r := by
  obtain ⟨p, hp, rfl⟩ := Option.map_eq_some_iff.mp h
  have e := List.find?_some hp
  have m := List.mem_of_find?_eq_some hp
  simp only [decide_eq_true_eq] at e
  rw [← e]; exact m
theorem aget_isSome {r : List (κ × α)} {k : κ} : (aget r k).isSome = true ↔ k ∈ r.map (·.1) := by
  rw [← any_aget]
  simp [List.any_eq_true]
theorem aget_of_mem : ∀ {r : List (κ × α)} {k : κ} {c : α}, (r.map (·.1)).Nodup → (k, c) ∈ r → aget r k = some c
  | [], _, _, _, h => by cases h
  | p :: r, k, c, n, h => by
    rw [List.map_cons, List.nodup_cons] at n
    rw [aget_cons]
    rcases List.mem_cons.mp h with e | h
    · rw [← e]; simp
    · have : p.1 ≠ k := fun e => n.1 (by rw [e]; exact List.mem_map.mpr ⟨_, h, rfl⟩)
      rw [if_neg this]; exact aget_of_mem n.2 h
theorem aget_map (k j : κ) (y : α) : ∀ r : List (κ × α), aget (r.map fun e => if e.1 = k then (e.1, y) else e) j = (aget r j).map fun x => if j = k then y else x
  | [] => rfl
  | p :: r => by
    rw [List.map_cons, aget_cons, aget_cons, aget_map k j y r]
    by_cases h1 : p.1 = k <;> by_cases h2 : p.1 = j
    · have : j = k := by rw [← h1, ← h2]
      simp [h1, h2, this]
    · have : ¬ k = j := fun e => h2 (by rw [h1, e])
      simp [h1, this]
    · have : ¬ j = k := fun e => h1 (by rw [h2, e])
      simp [h1, h2, this]
    · simp [h1, h2]
theorem aget_app (j : κ) : ∀ (r s : List (κ × α)), aget (r ++ s) j = (aget r j).or (aget s j)
  | [], s => by simp [aget_nil]
  | p :: r, s => by
    rw [List.cons_append, aget_cons, aget_cons, aget_app j r s]
    by_cases h : p.1 = j <;> simp [h]
theorem aget_put (r : List (κ × α)) (k j : κ) (y : α) : aget (aput r k y) j = if j = k then some y else aget r j := by
  unfold aput
  rw [any_aget]
  by_cases h : (aget r k).isSome = true
  · rw [if_pos h, aget_map]
    by_cases e : j = k
    · subst e
      obtain ⟨c, hc⟩ := Option.isSome_iff_exists.mp h
      simp [hc]
    · simp [e]
  · rw [if_neg h, aget_app, aget_cons, aget_nil]
    by_cases e : j = k
    · subst e
      have : aget r j = none := by simpa using h
      simp [this]
    · have : ¬ k = j := fun z => e z.symm
      simp [e, this]
theorem aget_drop (r : List (κ × α)) (k j : κ) : aget (adrop r k) j = if j = k then none else aget r j := by
  unfold adrop
  induction r with
  | nil => simp [aget_nil]
  | cons p r ih =>
    rw [List.filter_cons, aget_cons]
    by_cases h1 : p.1 = k
    · by_cases h2 : j = k
      · simp_all
      · have : ¬ p.1 = j := fun e => h2 (by rw [← e, h1])
        simp_all
    · by_cases h2 : p.1 = j
      · have : ¬ j = k := fun e => h1 (by rw [h2, e])
        simp_all [aget_cons]
      · simp_all [aget_cons]
theorem aput_keys (r : List (κ × α)) (k : κ) (y : α) : (aput r k y).map (·.1) = if k ∈ r.map (·.1) then r.map (·.1) else r.map (·.1) ++ [k] := by
  unfold aput
  rw [any_aget]
  by_cases h : (aget r k).isSome = true
  · rw [if_pos h, if_pos (aget_isSome.mp h), List.map_map]
    refine List.map_congr_left fun e _ => ?_
    simp only [Function.comp]
    split <;> rfl
  · rw [if_neg h, if_neg fun z => h (aget_isSome.mpr z)]
    simp
theorem aput_nodup {r : List (κ × α)} (h : (r.map (·.1)).Nodup) (k : κ) (y : α) : ((aput r k y).map (·.1)).Nodup := by
  rw [aput_keys]
  split
  · exact h
  · rename_i hn
    exact List.nodup_append.mpr ⟨h, by simp, fun a ha b hb e => by
      rw [List.mem_singleton] at hb
      subst hb e
      exact hn ha⟩
theorem adrop_nodup {r : List (κ × α)} (h : (r.map (·.1)).Nodup) (k : κ) : ((adrop r k).map (·.1)).Nodup := h.sublist (List.filter_sublist.map _)
theorem aput_len (r : List (κ × α)) (k : κ) (y : α) : (aput r k y).length ≤ r.length + 1 := by
  unfold aput
  split <;> simp
theorem aput_mem {r : List (κ × α)} {k : κ} {y : α} {p : κ × α} (h : p ∈ aput r k y) : p = (k, y) ∨ p ∈ r := by
  unfold aput at h
  split at h
  · obtain ⟨e, he, rfl⟩ := List.mem_map.mp h
    split
    · rename_i q; left; rw [q]
    · exact .inr he
  · rcases List.mem_append.mp h with h | h
    · exact .inr h
    · left; simpa using h
/-- the dict's entries kvs stand for r -/
def DR (f : κ' → κ) (R : α → V → Prop) (r : List (κ' × α)) (kvs : List (κ × V)) : Prop := Paired (fun (p : κ' × α) (q : κ × V) => q.1 = f p.1 ∧ R p.2 q.2) r kvs
variable {f : κ' → κ} {R R' : α → V → Prop} {r : List (κ' × α)} {kvs : List (κ × V)}
theorem DR.nil : DR f R ([] : List (κ' × α)) [] := Paired.nil
theorem DR.length (h : DR f R r kvs) : r.length = kvs.length := Paired.length h
theorem DR.imp (h : DR f R r kvs) (i : ∀ a v, R a v → R' a v) : DR f R' r kvs := Paired.mapP h fun _ _ z => ⟨z.1, i _ _ z.2⟩
theorem DR.keys (h : DR f R r kvs) : kvs.map (·.1) = r.map fun p => f p.1 := by
  induction h with
  | nil => rfl
  | cons p t ih => rw [List.map_cons, List.map_cons, ih, p.1]
theorem DR.get (inj : ∀ a b, f a = f b → a = b) (h : DR f R r kvs) (k : κ') : (aget r k = none ∧ valV kvs (f k) = none) ∨ ∃ c v, aget r k = some c ∧ valV kvs (f k) = some v ∧ R c v := by
  induction h with
  | nil => exact .inl ⟨rfl, rfl⟩
  | @cons p q ps qs hq t ih =>
    rw [aget_cons]
    by_cases e : p.1 = k
    · exact .inr ⟨p.2, q.2, if_pos e, valV_pos (by rw [hq.1, e]), hq.2⟩
    · rw [if_neg e, valV_neg (fun z => e (inj _ _ (by rw [← hq.1, z])))]
      exact ih
theorem DR.isSome (inj : ∀ a b, f a = f b → a = b) (h : DR f R r kvs) (k : κ') : (valV kvs (f k)).isSome = (aget r k).isSome := by
  rcases h.get inj k with ⟨e1, e2⟩ | ⟨c, v, e1, e2, _⟩ <;> rw [e1, e2] <;> rfl
theorem paired_app {β γ : Type} {F : β → γ → Prop} : ∀ {l : List β} {m : List γ} {l' : List β} {m' : List γ}, Paired F l m → Paired F l' m' → Paired F (l ++ l') (m ++ m')
  | _, _, _, _, .nil, h => h
  | _, _, _, _, .cons p t, h => .cons p (paired_app t h)
theorem DR.put (inj : ∀ a b, f a = f b → a = b) (h : DR f R r kvs) (k : κ') {c : α} {v : V} (hv : R c v) : DR f R (aput r k c) (putK kvs (f k) v) := by
  have e : (kvs.any fun kv => decide (kv.1 = f k)) = (r.any fun e => decide (e.1 = k)) := by rw [valV_any, any_aget, h.isSome inj]
  unfold aput putK
  rw [e]
  split
  · have go : ∀ {r : List (κ' × α)} {kvs : List (κ × V)}, DR f R r kvs → DR f R (r.map fun e => if e.1 = k then (e.1, c) else e) (kvs.map fun kv => if kv.1 = f k then (kv.1, v) else kv) := by
      intro r kvs h
      induction h with
      | nil => exact .nil
      | @cons p q ps qs hq t ih =>
        rw [List.map_cons, List.map_cons]
        refine .cons ?_ ih
        by_cases z : p.1 = k
        · rw [if_pos z, if_pos (by rw [hq.1, z])]
          exact ⟨hq.1, hv⟩
        · rw [if_neg z, if_neg fun y => z (inj _ _ (by rw [← hq.1, y]))]
          exact hq
    exact go h
  · exact paired_app h (.cons ⟨rfl, hv⟩ .nil)
theorem DR.drop (inj : ∀ a b, f a = f b → a = b) (h : DR f R r kvs) (k : κ') : DR f R (adrop r k) (dropK kvs (f k)) := by
  unfold adrop dropK
  induction h with
  | nil => exact .nil
  | @cons p q ps qs hq t ih =>
    rw [List.filter_cons, List.filter_cons]
    by_cases z : p.1 = k
    · rw [if_neg (by simpa using z), if_neg (by simp only [ne_eq, decide_not, Bool.not_eq_true', decide_eq_false_iff_not, Classical.not_not]; rw [hq.1, z])]
      exact ih
    · rw [if_pos (by simpa using z), if_pos (by simp only [ne_eq, decide_not, Bool.not_eq_true', decide_eq_false_iff_not]; exact fun y => z (inj _ _ (by rw [← hq.1, y])))]
      exact .cons hq ih
theorem DR.at {i : Nat} {k : κ'} {c : α} (h : DR f R r kvs) (e : r[i]? = some (k, c)) : ∃ v, kvs[i]? = some (f k, v) ∧ R c v := by
  induction h generalizing i with
  | nil => simp at e
  | @cons p q ps qs hq t ih =>
    cases i with
    | zero =>
      simp only [List.getElem?_cons_zero, Option.some.injEq] at e
      subst e
      exact ⟨q.2, by simp only [List.getElem?_cons_zero]; rw [← hq.1], hq.2⟩
    | succ i => simpa using ih (by simpa using e)
end

/-! ### a walk of a dict's keys; the dict is locked while it lasts -/
section
variable {K : PySem.W.Frag} {H H' : Hp} {σ : L2.St} {d a : Addr} {n b c : L2.St → Hp → Prop} {r : VK} {g : TG} {t : TS} {l : List Addr}
theorem _root_.AN.Fr.lock {kvs : List (L2.Key × V)} {o : Obj} (h : H d = some (.dK kvs)) : AN.Fr [d] H (upd H d (.frz o (.dK kvs))) := AN.Fr.setD h
theorem _root_.AN.Fr.unlock {kvs : List (L2.Key × V)} {o : Obj} (h : H d = some (.dK kvs)) (f : AN.Fr l (upd H d (.frz o (.dK kvs))) H') : AN.Fr l H (upd H' d (.dK kvs)) := by
  refine ⟨fun b u e nb => ?_, fun a xs e => ?_, fun a xs e => ?_⟩
  · by_cases z : b = d
    · subst z
      rw [h] at e
      cases e
      exact upd_same
    · rw [upd_ne z]
      exact f.keep b u (by rw [upd_ne z]; exact e) nb
  · have z : a ≠ d := fun z => by
      subst z
      rw [h] at e
      cases e
    rw [upd_ne z]
    exact f.tups a xs (by rw [upd_ne z]; exact e)
  · have z : a ≠ d := fun z => by
      subst z
      rcases e with e | ⟨o', e⟩ <;> rw [h] at e <;> cases e
    have e1 : Rd (upd H d (.frz o (.dK kvs))) a (.tup xs) := by
      rcases e with e | ⟨o', e⟩
      · exact .inl (by rw [upd_ne z]; exact e)
      · exact .inr ⟨o', by rw [upd_ne z]; exact e⟩
    rcases f.rdt a xs e1 with e | ⟨o', e⟩
    · exact .inl (by rw [upd_ne z]; exact e)
    · exact .inr ⟨o', by rw [upd_ne z]; exact e⟩
theorem forK_q {i : Nat} {kvs : List (L2.Key × V)} (e : σ[i]? = some (some (.ref d))) (h : H d = some (.dK kvs)) (Pv : Obj → Nat → L2.St → Hp → Prop) (h0 : ∀ o, Pv o 0 σ (upd H d (.frz o (.dK kvs))))
    (hl : ∀ o j σ' H', Pv o j σ' H' → H' d = some (.frz o (.dK kvs)))
    (step : ∀ o j k v σ' H', kvs[j]? = some (k, v) → Pv o j σ' H' → g (kV k) σ' H' fun σ2 H2 => t ⟨Pv o (j + 1), fun v H3 => H3 d = some (.frz o (.dK kvs)) ∧ r v (upd H3 d (.dK kvs)), fun σ3 H3 => H3 d = some (.frz o (.dK kvs)) ∧ n σ3 (upd H3 d (.dK kvs)), Pv o (j + 1)⟩ σ2 H2)
    (fin : ∀ o σ' H', Pv o kvs.length σ' H' → n σ' (upd H' d (.dK kvs))) : tLock (tFor (iKeys (tVar i)) g t) ⟨n, r, b, c⟩ σ H := by
  refine ⟨d, .dK kvs, h, trivial, fun od => ?_⟩
  refine ⟨.ref d, e, d, od, rfl, .inl ⟨kvs, upd_same, ?_⟩⟩
  refine ⟨fun j m σ' H' => Pv od j σ' H' ∧ j + m = kvs.length, ⟨kvs.length, h0 od, by omega⟩, fun j m σ' H' ⟨p, em⟩ => ?_⟩
  have hf := hl od j σ' H' p
  by_cases hj : j < kvs.length
  · refine .inr ⟨⟨hf, hj⟩, Pv od (j + 1), fun σ2 H2 p2 => ⟨m - 1, by omega, p2, by omega⟩, fun x H2 y => ?_⟩
    obtain ⟨rfl, k, v, ek, rfl⟩ := y
    exact step od j k v σ' _ ek p
  · have ej : j = kvs.length := by omega
    subst ej
    exact .inl ⟨⟨hf, Nat.le_refl _⟩, hf, fin od σ' H' p⟩
/-! ### dicts with texts as keys, and data -/
variable {α : Type} {toD : α → PyData} {rr : List (Str × α)}
theorem inr_inj : ∀ a b : Str, (Sum.inr a : L2.Key) = Sum.inr b → a = b := fun _ _ h => Sum.inr.inj h
/-- to be read -/
def DIs (K : PySem.W.Frag) (H : Hp) (toD : α → PyData) (a : Addr) (rr : List (Str × α)) : Prop := ∃ kvs, Rd H a (.dK kvs) ∧ DR (Sum.inr : Str → L2.Key) (fun c v => Rep K H (toD c) v) rr kvs
/-- to be written, too -/
def DW (K : PySem.W.Frag) (H : Hp) (toD : α → PyData) (a : Addr) (rr : List (Str × α)) : Prop := ∃ kvs, H a = some (.dK kvs) ∧ DR (Sum.inr : Str → L2.Key) (fun c v => Rep K H (toD c) v) rr kvs
theorem DW.is (h : DW K H toD a rr) : DIs K H toD a rr := let ⟨kvs, e, r⟩ := h; ⟨kvs, .inl e, r⟩
theorem Rd.frD {kvs : List (L2.Key × V)} (h : Rd H a (.dK kvs)) (f : AN.Fr l H H') (na : a ∉ l) : Rd H' a (.dK kvs) := by
  rcases h with e | ⟨o, e⟩
  · exact .inl (f.keep _ _ e na)
  · exact .inr ⟨o, f.keep _ _ e na⟩
theorem DIs.fr (h : DIs K H toD a rr) (f : AN.Fr l H H') (na : a ∉ l) : DIs K H' toD a rr := let ⟨kvs, e, r⟩ := h; ⟨kvs, Rd.frD e f na, r.imp fun _ _ q => q.up f⟩
theorem DW.fr (h : DW K H toD a rr) (f : AN.Fr l H H') (na : a ∉ l) : DW K H' toD a rr := let ⟨kvs, e, r⟩ := h; ⟨kvs, f.keep _ _ e na, r.imp fun _ _ q => q.up f⟩
theorem DIs.lock {kvs : List (L2.Key × V)} {o : Obj} (h : H d = some (.dK kvs)) (x : DIs K H toD a rr) : DIs K (upd H d (.frz o (.dK kvs))) toD a rr := by
  obtain ⟨ks, e, r⟩ := x
  refine ⟨ks, ?_, r.imp fun _ _ q => q.up (AN.Fr.lock h)⟩
  by_cases z : a = d
  · subst z
    rcases e with e | ⟨o', e⟩
    · rw [h] at e; cases e; exact .inr ⟨o, upd_same⟩
    · rw [h] at e; cases e
  · rcases e with e | ⟨o', e⟩
    · exact .inl (by rw [upd_ne z]; exact e)
    · exact .inr ⟨o', by rw [upd_ne z]; exact e⟩
variable {Q : VK} {k : Str} {x : V}
theorem dis_in (h : DIs K H toD a rr) (q : Q (.bl (aget rr k).isSome) H) : rIn2 K (.str k) (.ref a) H Q := by
  obtain ⟨kvs, e, r⟩ := h
  refine .inl (.inr (.inl ⟨a, _, rfl, .inl ⟨kvs, .inr k, e, rfl, rfl⟩, ?_⟩))
  rw [r.isSome inr_inj k]
  exact q
theorem dis_notIn (h : DIs K H toD a rr) (q : Q (.bl (!(aget rr k).isSome)) H) : rNotIn2 K (.str k) (.ref a) H Q := by
  obtain ⟨kvs, e, r⟩ := h
  refine .inl (.inr (.inl ⟨a, _, rfl, .inl ⟨kvs, .inr k, e, rfl, rfl⟩, ?_⟩))
  rw [r.isSome inr_inj k]
  exact q
theorem dis_ix {y : α} (h : DIs K H toD a rr) (e : aget rr k = some y) (q : ∀ v, Rep K H (toD y) v → Q v H) : rIxG K (.ref a) (.str k) H Q := by
  obtain ⟨kvs, ed, r⟩ := h
  rcases r.get inr_inj k with ⟨e1, _⟩ | ⟨c, v, e1, e2, hv⟩
  · rw [e] at e1; cases e1
  · rw [e] at e1
    cases e1
    exact .inr (.inr (.inl ⟨a, v, rfl, .inl ⟨kvs, .inr k, ed, rfl, e2.symm⟩, q v hv⟩))
theorem dis_get2 {z : V} (h : DIs K H toD a rr) (q1 : aget rr k = none → Q z H) (q2 : ∀ y v, aget rr k = some y → Rep K H (toD y) v → Q v H) : ∃ o, DGet H a (.str k) o ∧ Q (o.getD z) H := by
  obtain ⟨kvs, ed, r⟩ := h
  refine ⟨_, .inl ⟨kvs, .inr k, ed, rfl, rfl⟩, ?_⟩
  rcases r.get inr_inj k with ⟨e1, e2⟩ | ⟨c, v, e1, e2, hv⟩
  · rw [e2]; exact q1 e1
  · rw [e2]; exact q2 c v e1 hv
theorem DIs.isD (h : DIs K H toD a rr) : IsD H a := let ⟨kvs, e, _⟩ := h; .inl ⟨kvs, e⟩
theorem dw_set {y : α} {v : V} {q : Hp → Prop} (h : DW K H toD a rr) (hv : Rep K H (toD y) v) (hl : rr.length < 1000) (w : ∀ H', AN.Fr [a] H H' → DW K H' toD a (aput rr k y) → q H') : rSetL (.ref a) (.str k) v H q ∨ rSetD (.ref a) (.str k) v H q := by
  obtain ⟨kvs, e, r⟩ := h
  refine setD_q (k := .inr k) e rfl (by rw [← r.length]; exact hl) fun H' f e' => w H' f ⟨_, e', ?_⟩
  exact (r.imp fun _ _ z => z.up f).put inr_inj k (hv.up f)
theorem dw_new (q : ∀ H' p, AN.Fr [] H H' → H p = none → DW K H' toD p [] → Q (.ref p) H') : tDNewK σ H Q := g_dnew fun H' p f np e => q H' p f np ⟨[], e, DR.nil⟩
theorem dw_dict (h : DIs K H toD a rr) (q : ∀ H' p, AN.Fr [] H H' → H p = none → DW K H' toD p rr → Q (.ref p) H') : rDictOf [.ref a] H Q := by
  obtain ⟨kvs, e, r⟩ := h
  exact ⟨a, kvs, rfl, e, fun p np => q _ p (AN.Fr.new np) np ⟨kvs, upd_same, r.imp fun _ _ z => z.up (AN.Fr.new np)⟩⟩
theorem dw_pop_q {y : α} (h : DW K H toD a rr) (e : aget rr k = some y) (q : ∀ H' v, AN.Fr [a] H H' → Rep K H' (toD y) v → DW K H' toD a (adrop rr k) → Q v H') : ∃ kvs k' v, H a = some (.dK kvs) ∧ V.str k = kV k' ∧ valV kvs k' = some v ∧ Q v (upd H a (.dK (dropK kvs k'))) := by
  obtain ⟨kvs, ed, r⟩ := h
  rcases r.get inr_inj k with ⟨e1, _⟩ | ⟨c, v, e1, e2, hv⟩
  · rw [e] at e1; cases e1
  · rw [e] at e1
    cases e1
    have f : AN.Fr [a] H (upd H a (.dK (dropK kvs (.inr k)))) := AN.Fr.setD ed
    exact ⟨kvs, .inr k, v, ed, rfl, e2, q _ v f (hv.up f) ⟨_, upd_same, (r.imp fun _ _ z => z.up f).drop inr_inj k⟩⟩
theorem dw_len (h : DW K H toD a rr) (q : Q (.int (rr.length : Nat)) H) : rLenG K [.ref a] H Q := by
  obtain ⟨kvs, e, r⟩ := h
  exact .inr ⟨a, kvs, rfl, e, by rw [← r.length]; exact q⟩
theorem dis_sorted (h : DIs K H toD a rr) (hl : rr.length < 64) (q : ∀ H' p (ys : List Str), ys.Perm (rr.map (·.1)) → sortedS ys = true → AN.Fr [] H H' → H p = none → H' p = some (.lst (ys.map V.str)) → Q (.ref p) H') : rSorted2 K [.ref a] H Q := by
  obtain ⟨kvs, e, r⟩ := h
  refine .inl (.inr ⟨a, kvs, rr.map (·.1), rfl, e, by rw [r.keys, List.map_map]; rfl, by simpa using hl, fun ys p hp hs np => q _ p ys hp hs (AN.Fr.new np) np upd_same⟩)
end

/-! ### dicts with tuples of texts and ints as keys -/
section
variable {K : PySem.W.Frag} {H H' : Hp} {σ : L2.St} {a : Addr} {l : List Addr} {α : Type} {toD : α → PyData} {rr : List (List L2.Key × α)} {Q : VK} {k : List L2.Key} {x y : V}
theorem keys_back : ∀ {ks : List L2.Key} {vs : List V}, Reps K H (ks.map kD) vs → vs = ks.map kV
  | [], vs, h => by rw [List.map_nil] at h; unfold Reps at h; exact h
  | k :: ks, vs, h => by
    rw [List.map_cons] at h
    obtain ⟨v, r, rfl, h1, h2⟩ := Reps.cons_iff.mp h
    rw [List.map_cons, keys_back h2]
    cases k with
    | inl i => unfold kD Rep at h1; rw [h1]; rfl
    | inr i => unfold kD Rep at h1; rw [h1]; rfl
theorem key_ref (h : Rep K H (.tuple (k.map kD)) x) : ∃ b, x = .ref b ∧ H b = some (.tup (k.map kV)) := by
  obtain ⟨b, vs, rfl, hs, hr⟩ := Rep.tup_iff.mp h
  exact ⟨b, rfl, by rw [← keys_back hr]; exact hs⟩
def TW (K : PySem.W.Frag) (H : Hp) (toD : α → PyData) (a : Addr) (rr : List (List L2.Key × α)) : Prop := ∃ kvs, H a = some (.dT kvs) ∧ DR (id : List L2.Key → List L2.Key) (fun c v => Rep K H (toD c) v) rr kvs
theorem TW.fr (h : TW K H toD a rr) (f : AN.Fr l H H') (na : a ∉ l) : TW K H' toD a rr := let ⟨kvs, e, r⟩ := h; ⟨kvs, f.keep _ _ e na, r.imp fun _ _ q => q.up f⟩
theorem _root_.AN.Fr.setT {kvs : List (List L2.Key × V)} {o : HO} (h : H a = some (.dT kvs)) : AN.Fr [a] H (upd H a o) := AN.Fr.set h (fun _ e => by cases e) (fun _ _ e => by cases e)
theorem id_inj : ∀ a b : List L2.Key, id a = id b → a = b := fun _ _ h => h
theorem tw_new (q : ∀ H' p, AN.Fr [] H H' → H p = none → TW K H' toD p [] → Q (.ref p) H') : tDNewT σ H Q := fun p hp => q _ p (AN.Fr.new hp) hp ⟨[], upd_same, DR.nil⟩
theorem tw_set {c : α} {v : V} {q : Hp → Prop} (h : TW K H toD a rr) (hk : Rep K H (.tuple (k.map kD)) x) (hv : Rep K H (toD c) v) (hl : rr.length < 1000) (w : ∀ H', AN.Fr [a] H H' → TW K H' toD a (aput rr k c) → q H') : rSetL (.ref a) x v H q ∨ rSetD (.ref a) x v H q := by
  obtain ⟨kvs, e, r⟩ := h
  obtain ⟨b, rfl, hb⟩ := key_ref hk
  have f : AN.Fr [a] H (upd H a (.dT (putK kvs k v))) := AN.Fr.setT e
  refine .inr ⟨a, upd H a (.dT (putK kvs k v)), rfl, DPut.t e hb (small1000 (by rw [← r.length]; exact Nat.le_of_lt hl)), ?_⟩
  exact w _ f ⟨_, upd_same, (r.imp fun _ _ z => z.up f).put id_inj k (hv.up f)⟩
theorem tw_in (h : TW K H toD a rr) (hk : Rep K H (.tuple (k.map kD)) x) (q : Q (.bl (aget rr k).isSome) H) : rIn2 K x (.ref a) H Q := by
  obtain ⟨kvs, e, r⟩ := h
  obtain ⟨b, rfl, hb⟩ := key_ref hk
  refine .inl (.inr (.inl ⟨a, _, rfl, DGet.t e hb, ?_⟩))
  have := r.isSome id_inj k
  simp only [id] at this
  rw [this]; exact q
theorem tw_sorted (h : TW K H toD a rr) (hal : AllAlike (rr.map fun p => PyData.tuple (p.1.map kD))) (hs : Sortable (rr.map fun p => PyData.tuple (p.1.map kD))) (hl : rr.length < 1000)
    (q : ∀ H' p ys es, es.Perm (rr.map fun p => PyData.tuple (p.1.map kD)) → Asc es → AN.Fr [] H H' → H p = none → H' p = some (.lst ys) → Reps K H' es ys → Q (.ref p) H') : rSorted2 K [.ref a] H Q := by
  obtain ⟨kvs, e, r⟩ := h
  have e1 : (kvs.map fun p => PyData.tuple (p.1.map kD)) = rr.map fun p => PyData.tuple (p.1.map kD) := by
    have := congrArg (List.map fun k : List L2.Key => PyData.tuple (k.map kD)) r.keys
    rw [List.map_map, List.map_map] at this
    exact this
  refine .inr (.inr (.inr ⟨a, kvs, rfl, .inl e, ?_⟩))
  rw [e1]
  refine ⟨hal, hs, fun d hd => ?_, by rw [List.length_map]; exact Nat.le_of_lt (small1000 (Nat.le_of_lt hl)), q⟩
  obtain ⟨p, _, rfl⟩ := List.mem_map.mp hd
  have : ∀ ks : List L2.Key, PyData.depthAll (ks.map kD) = 0 := fun ks => by
    induction ks with
    | nil => rfl
    | cons k ks ih => cases k <;> simp [kD, PyData.depthAll, PyData.depth, ih]
  simp [PyData.depth, this]
end
theorem Fr.over {H H1 H2 : Hp} {p : Addr} (f : AN.Fr [] H H1) (n : H p = none) (g : AN.Fr [p] H1 H2) : AN.Fr [] H H2 := f.trans g fun b m => .inr (by rw [List.mem_singleton.mp m]; exact n)
theorem Fr.over1 {H H1 H2 : Hp} {p a : Addr} (f : AN.Fr [a] H H1) (n : H p = none) (g : AN.Fr [p] H1 H2) : AN.Fr [a] H H2 := f.trans g fun b m => .inr (by rw [List.mem_singleton.mp m]; exact n)
theorem eqXT {K : PySem.W.Frag} {H : Hp} {Q : VK} {x y : V} {d e : PyData} (h : Rep K H d x) (r : Rep K H e y) (o : Okd d) (os : Okd e) (z : PyData.eqv d e = true) (q : Q (.bl true) H) : rEqG K x y H Q := eqX_q h r o os (by rw [z]; exact q)
theorem eqXF {K : PySem.W.Frag} {H : Hp} {Q : VK} {x y : V} {d e : PyData} (h : Rep K H d x) (r : Rep K H e y) (o : Okd d) (os : Okd e) (z : PyData.eqv d e = false) (q : Q (.bl false) H) : rEqG K x y H Q := eqX_q h r o os (by rw [z]; exact q)
theorem neXT {K : PySem.W.Frag} {H : Hp} {Q : VK} {x y : V} {d e : PyData} (h : Rep K H d x) (r : Rep K H e y) (o : Okd d) (os : Okd e) (z : PyData.eqv d e = false) (q : Q (.bl true) H) : rNeG K x y H Q :=
  .inr (.inl ⟨d, e, h.dp, r.dp, o.shaped, os.shaped, by rw [z]; exact q⟩)
theorem neXF {K : PySem.W.Frag} {H : Hp} {Q : VK} {x y : V} {d e : PyData} (h : Rep K H d x) (r : Rep K H e y) (o : Okd d) (os : Okd e) (z : PyData.eqv d e = true) (q : Q (.bl false) H) : rNeG K x y H Q :=
  .inr (.inl ⟨d, e, h.dp, r.dp, o.shaped, os.shaped, by rw [z]; exact q⟩)
theorem nd_len {β : Type} [DecidableEq β] : ∀ {l m : List β}, l.Nodup → (∀ x ∈ l, x ∈ m) → l.length ≤ m.length
  | [], _, _, _ => Nat.zero_le _
  | x :: l, m, h, s => by
    have hx := s x (List.mem_cons_self ..)
    have h1 := nd_len (l := l) (m := m.erase x) (List.nodup_cons.mp h).2 fun y hy => (List.mem_erase_of_ne (show y ≠ x from fun e => (List.nodup_cons.mp h).1 (by rw [← e]; exact hy))).mpr (s y (List.mem_cons_of_mem _ hy))
    rw [List.length_erase_of_mem hx] at h1
    have : 0 < m.length := List.length_pos_of_mem hx
    simp only [List.length_cons]
    omega
/-- a.get(y, z) -/
def Get2 (a : Addr) (y z : V) (Q : VK) (H : Hp) : Prop := ∃ o, DGet H a y o ∧ Q (o.getD z) H
theorem get2_g {σ : L2.St} {H : Hp} {Q : VK} {td ty tx : TE} (h : td σ H fun x H1 => ∃ a, x = .ref a ∧ IsD H1 a ∧ ty σ H1 fun y H2 => tx σ H2 fun z H3 => Get2 a y z Q H3) : tDGet2 td ty tx σ H Q := h
theorem dis_getD {K : PySem.W.Frag} {α : Type} {toD : α → PyData} {H : Hp} {a : Addr} {rr : List (Str × α)} {k : Str} {z : V} {d0 : α} {Q : VK} (h : DIs K H toD a rr) (hz : Rep K H (toD d0) z) (q : ∀ v, Rep K H (toD ((aget rr k).getD d0)) v → Q v H) : Get2 a (.str k) z Q H :=
  dis_get2 h (fun e => q z (by rw [e]; exact hz)) fun y v e hv => q v (by rw [e]; exact hv)
theorem RowOf.fr0 {K : PySem.W.Frag} {H H' : Hp} {x : V} {ds : List PyData} (h : RowOf K H x ds) (f : AN.Fr [] H H') : RowOf K H' x ds := by
  rcases h with h | ⟨a, xs, rfl, hs, hr⟩
  · exact .inl (h.up f)
  · exact .inr ⟨a, xs, rfl, f.sqL hs (by simp), hr.up f⟩
theorem ltI_q {K : PySem.W.Frag} {H : Hp} {Q : VK} {i j : Int} (q : Q (.bl (decide (i < j))) H) : rLt2 K (.int i) (.int j) H Q := .inl ⟨i, j, rfl, rfl, q⟩
theorem lenS_q {K : PySem.W.Frag} {H : Hp} {x : Str} {Q : VK} (h : x.length ≤ sizeLine) (q : Q (.int x.length) H) : rLenG K [.str x] H Q := .inl ⟨.str x, x.length, rfl, ⟨h, rfl⟩, q⟩
theorem cut_next {t : TS} {n b c : L2.St → Hp → Prop} {r : VK} {σ : L2.St} {H : Hp} (N : L2.St → Hp → Prop) (hN : ∀ σ' H', N σ' H' → n σ' H') (h : ∀ n' : L2.St → Hp → Prop, (∀ σ' H', N σ' H' → n' σ' H') → t ⟨n', r, b, c⟩ σ H) : t ⟨n, r, b, c⟩ σ H := h n hN
theorem cut_ite {k : Bool} {t u : TS} {n b c : L2.St → Hp → Prop} {r : VK} {σ : L2.St} {H : Hp} (N : L2.St → Hp → Prop) (hN : ∀ σ' H', N σ' H' → n σ' H') (h : ∀ n' : L2.St → Hp → Prop, (∀ σ' H', N σ' H' → n' σ' H') → if k = true then t ⟨n', r, b, c⟩ σ H else u ⟨n', r, b, c⟩ σ H) : if k = true then t ⟨n, r, b, c⟩ σ H else u ⟨n, r, b, c⟩ σ H := h n hN
theorem eqG_bl {K : PySem.W.Frag} {H : Hp} {Q : VK} {x y : Bool} (q : Q (.bl (decide (V.bl x = V.bl y))) H) : rEqG K (.bl x) (.bl y) H Q := .inl ⟨rfl, q⟩
theorem upd_back {H : Hp} {a : Addr} {o u : HO} (h : H a = some u) : upd (upd H a o) a u = H := by
  funext b
  unfold upd
  by_cases e : b = a
  · rw [if_pos e, e, h]
  · rw [if_neg e, if_neg e]
theorem Fr.more {H H1 H2 : Hp} {l l' : List Addr} (f : AN.Fr l H H1) (g : AN.Fr l' H1 H2) (h : ∀ b ∈ l', b ∈ l) : AN.Fr l H H2 := f.trans g fun b m => .inl (h b m)
theorem Fr.over2 {H H1 H2 : Hp} {p a : Addr} (f : AN.Fr [] H H1) (n : H p = none) (g : AN.Fr [p, a] H1 H2) : AN.Fr [a] H H2 := f.of0.trans g fun b m => by
  rcases List.mem_cons.mp m with rfl | m
  · exact .inr n
  · exact .inl m
theorem addG_lst {K : PySem.W.Frag} {H : Hp} {a b : Addr} {xs zs : List V} {Q : VK} (h : H a = some (.lst xs)) (h' : H b = some (.lst zs)) (hl : xs.length + zs.length ≤ sizeLine) (q : ∀ H' p, AN.Fr [] H H' → H p = none → H' p = some (.lst (xs ++ zs)) → Q (.ref p) H') : rAddG K (.ref a) (.ref b) H Q :=
  .inr (.inr (.inr ⟨a, b, xs, zs, rfl, rfl, h, h', hl, fun p hp => q _ p (AN.Fr.new hp) hp upd_same⟩))
theorem sortedR_q {K : PySem.W.Frag} {H : Hp} {a : Addr} {xs : List V} {ds : List PyData} {Q : VK} (h : H a = some (.lst xs)) (r : Reps K H ds xs) (al : PySem.W.AllAlike ds) (so : PySem.W.Sortable ds) (dp : ∀ d ∈ ds, d.depth ≤ 40)
    (q : ∀ H' p ys es, es.Perm ds → Asc es → AN.Fr [] H H' → H p = none → H' p = some (.lst ys) → Reps K H' es ys → Q (.ref p) H') : rSorted2 K [.ref a] H Q := .inr (.inl ⟨a, xs, ds, rfl, .of h, r, al, so, dp, q⟩)
theorem dpop_g {σ : L2.St} {H : Hp} {Q : VK} {td ty : TE} (h : td σ H fun x H1 => ∃ a, x = .ref a ∧ IsD H1 a ∧ ty σ H1 fun y H2 => ∃ kvs k v, H2 a = some (.dK kvs) ∧ y = kV k ∧ valV kvs k = some v ∧ Q v (upd H2 a (.dK (dropK kvs k)))) : tDPop1 td ty σ H Q := h
theorem seqI {k n : Nat} (h : k < n) : seqIndex? (k : Int) n = some k := by
  unfold seqIndex?
  simp
  omega
theorem popAt_q {H : Hp} {a : Addr} {xs : List V} {y : V} {j : Int} {k : Nat} {Q : VK} (h : H a = some (.lst xs)) (hj : j = ((k : Nat) : Int)) (e : xs[k]? = some y) (hl : xs.length < 1000000) (q : ∀ H', AN.Fr [a] H H' → H' a = some (.lst (xs.eraseIdx k)) → Q y H') : rPopAt (.ref a) [.int j] H Q := by
  subst hj
  have hk := (List.getElem?_eq_some_iff.mp e).1
  exact ⟨a, xs, k, k, y, rfl, rfl, h, by omega, by omega, seqI hk, e, q _ (AN.Fr.setL h) upd_same⟩
theorem srep {K : PySem.W.Frag} {H : Hp} {x : Str} {v : V} (h : Rep K H (.str x) v) : v = .str x := by unfold Rep at h; exact h
theorem rows_at {β : Type} {f : β → PyData} {l : List β} {i : Nat} {d : PyData} (h : (l.map f)[i]? = some d) : ∃ e, l[i]? = some e ∧ d = f e := by
  rw [List.getElem?_map] at h
  obtain ⟨e, h1, h2⟩ := Option.map_eq_some_iff.mp h
  exact ⟨e, h1, h2.symm⟩
theorem Reps.erase {K : PySem.W.Frag} {H : Hp} {ds : List PyData} {vs : List V} (h : Reps K H ds vs) (k : Nat) : Reps K H (ds.eraseIdx k) (vs.eraseIdx k) := by
  rw [List.eraseIdx_eq_take_drop_succ, List.eraseIdx_eq_take_drop_succ]
  exact (h.take k).append (h.drop (k + 1))
theorem g_m1 {σ : L2.St} {H : Hp} {Q : VK} {to te : TE} {r : V → List V → Hp → VK → Prop} (h : to σ H fun x H1 => (∃ a, x = .str a) ∧ te σ H1 fun y H2 => r x [y] H2 Q) : tM1 r to te σ H Q := h
/-- the law's names -/
def poolL : List Str := (["a", "b2", "sum", "left", "r", "k0", "carry", "z9z", "full", "tail", "n", "q8", "aa", "busy", "cnt", "p", "t4", "even2", "ab1", "head", "u", "v", "w", "lowest", "high", "mid", "s", "t", "e", "f", "g", "h", "i", "j", "k", "x", "y", "q7", "deep", "turn", "gate", "l5", "hold", "next1", "o", "c0", "d", "two", "zz1", "near", "far9", "last", "ring2", "aaaaaaaaaaa8", "b", "c1", "top2", "net3", "row", "col7", "zz_a", "one_two", "r0", "r1", "x1", "y2", "w3", "b7", "k_k", "cup", "pen", "lamp", "desk"] : List String).map Str.ofString
theorem pool_nd : poolL.Nodup := by decide +kernel
theorem pool_ok : ∀ n ∈ poolL, PyData.strOk n = true := by decide +kernel
theorem pool_len : poolL.length = 73 := rfl
end AN

/-! AN: dicts whose keys are nested tuples. -/
namespace AN
open PySem PySem.Spec PyProof.Rows L2
mutual
def nkD : NestedKey → PyData
  | .none => .none
  | .num i => .int i
  | .text x => .str x
  | .tup ks => .tuple (nkDs ks)
def nkDs : List NestedKey → List PyData
  | [] => []
  | k :: ks => nkD k :: nkDs ks
end
section
variable {X : Cx} {pins : List (Addr × Obj)} {σ : L2.St} {H : Hp} {s : Shared}
mutual
theorem nested_is (I : Inv X pins σ H s) : ∀ (k : NestedKey) (x : V) (v : Value), Rep X.K H (nkD k) x → RelV x v → NestedIs s.heap k v
  | .none, x, v, h, r => by unfold nkD Rep at h; subst h; cases (show v = Value.none from r); exact .none
  | .num i, x, v, h, r => by unfold nkD Rep at h; subst h; obtain ⟨t, rfl⟩ := r; exact .int _ _
  | .text i, x, v, h, r => by unfold nkD Rep at h; subst h; obtain ⟨t, rfl⟩ := r; exact .text _ _
  | .tup ks, x, v, h, r => by
    unfold nkD at h
    obtain ⟨a, vs, e, q, rs⟩ := Rep.tup_iff.mp h
    subst e
    cases (show v = Value.ref a from r)
    obtain ⟨its, rv, ⟨o, ho, hc, n, hd⟩, _⟩ := I.tuple (.of q)
    exact .tup ho hc hd (by simpa using nested_all I ks vs its rs rv)
theorem nested_all (I : Inv X pins σ H s) : ∀ (ks : List NestedKey) (xs : List V) (vs : List Value), Reps X.K H (nkDs ks) xs → Vals xs vs → NestedAll s.heap ks vs
  | [], xs, vs, h, r => by unfold nkDs Reps at h; subst h; cases r; exact .nil
  | k :: ks, xs, vs, h, r => by
    unfold nkDs at h
    obtain ⟨x, ys, e, h1, h2⟩ := Reps.cons_iff.mp h
    subst e
    cases r with
    | cons r1 r2 => exact .cons (nested_is I k x _ h1 r1) (nested_all I ks ys _ h2 r2)
end
end
/-- at a: a dict; its entries: a key, the key's place, a value -/
def nO (P : Program) (w : World) (a : Addr) (xs : List (NestedKey × Addr × Value)) : HO :=
  .ext fun h => ∃ o es ep, h.get? a = some o ∧ o.ExactDict ∧ o.data = .dict es ep ∧ es.toList = xs.map (entryOfKey (nestedKind P w)) ∧ (xs.map (·.1)).Nodup
theorem nO_tup {P : Program} {w : World} {a : Addr} {xs : List (NestedKey × Addr × Value)} {ys : List V} : nO P w a xs ≠ .tup ys := fun z => by
  have z' : HO.ext _ = HO.tup ys := z
  cases z'
theorem nO_frz {P : Program} {w : World} {a : Addr} {xs : List (NestedKey × Addr × Value)} {o : Obj} {u : HO} : nO P w a xs ≠ .frz o u := fun z => by
  have z' : HO.ext _ = HO.frz o u := z
  cases z'
theorem nO_ok {P : Program} {w : World} {H : Hp} {h : Heap} {a : Addr} {xs : List (NestedKey × Addr × Value)} (d : h.DictOfH (nestedKind P w) a xs) : ObjOk P w H h a (nO P w a xs) := by
  obtain ⟨o, es, ep, h1, h2, h3, h4, _, h5⟩ := d
  exact ⟨⟨o, es, ep, h1, h2, h3, h4, h5⟩, ⟨o, h1⟩, fun h1 h2 z k => by
    obtain ⟨o, es, ep, e1, e2⟩ := z
    exact ⟨o, es, ep, k _ e1, e2⟩⟩
structure NRaw (P : Program) (w : World) (K : PySem.W.Frag) (H : Hp) (a : Addr) (xs : List (NestedKey × Addr × Value)) : Prop where
  ob : H a = some (nO P w a xs)
  sys : (a == sysModules) = false
  keys : ∀ x ∈ xs, Rep K H (nkD x.1) (.ref x.2.1) ∧ x.1.depth ≤ 8
theorem NRaw.dict {X : Cx} {pins : List (Addr × Obj)} {σ : L2.St} {H : Hp} {s : Shared} {a : Addr} {xs : List (NestedKey × Addr × Value)} (N : NRaw X.prog X.w X.K H a xs) (I : Inv X pins σ H s) : s.heap.DictOfH (nestedKind X.prog X.w) a xs := by
  obtain ⟨⟨o, es, ep, h1, h2, h3, h4, h5⟩, _⟩ := (show ObjOk X.prog X.w H s.heap a (.ext _) from I.hok a _ N.ob)
  exact ⟨o, es, ep, h1, h2, h3, h4, fun x hx => ⟨nested_is I _ _ _ (N.keys x hx).1 rfl, (N.keys x hx).2⟩, h5⟩
def rInN (P : Program) (w : World) (K : PySem.W.Frag) : R2 := fun x y H Q => ∃ (a : Addr) (xs : List (NestedKey × Addr × Value)) (ks : List NestedKey), y = .ref a ∧ NRaw P w K H a xs ∧ Rep K H (nkD (.tup ks)) x ∧ (NestedKey.tup ks).depth ≤ 8 ∧ Q (.bl (atKey xs (.tup ks)).isSome) H
def rIxN (P : Program) (w : World) (K : PySem.W.Frag) : R2 := fun x y H Q => ∃ (a : Addr) (xs : List (NestedKey × Addr × Value)) (ks : List NestedKey) (p : Addr × Value) (v : V), x = .ref a ∧ NRaw P w K H a xs ∧ Rep K H (nkD (.tup ks)) y ∧ (NestedKey.tup ks).depth ≤ 8 ∧ atKey xs (.tup ks) = some p ∧ RelV v p.2 ∧ Q v H
def rSetN (P : Program) (w : World) (K : PySem.W.Frag) : TSet := fun x y v H q => ∃ (a b : Addr) (xs : List (NestedKey × Addr × Value)) (ks : List NestedKey), x = .ref a ∧ y = .ref b ∧ NRaw P w K H a xs ∧ Rep K H (nkD (.tup ks)) y ∧ (NestedKey.tup ks).depth ≤ 8 ∧ xs.length ≤ sizeLine ∧
  ∀ u, RelV v u → q (upd H a (nO P w a (storedH xs (.tup ks) b u)))
def tDNewN (P : Program) (w : World) : TE := fun _ H Q => ∀ p, H p = none → (p == sysModules) = false → Q (.ref p) (upd H p (nO P w p []))
section
variable {X : Cx} {P : Program} {w : World} {K : PySem.W.Frag} {pos : Pos}
theorem pe_dnewN (hP : X.prog = P) (hw : X.w = w) : PE X (.Dict [] [] pos) (tDNewN P w) := by
  subst hP hw
  exact ⟨fun pins s σ H Q I h => wpAny_Dict_empty ⟨.ref s.heap.objs.size, _, I.laid (a := s.heap.objs.size) (o := nO X.prog X.w s.heap.objs.size []) (t' := s.toks) (fun _ _ q => Heap.get?_push_of_some _ q) (Nat.le_refl _) (nO_ok (Heap.DictOfH.new s.heap)), rfl,
    h _ (I.hok.fresh (Nat.le_refl _)) (beq_eq_false_iff_ne.mpr (Ne.symm (Nat.ne_of_lt I.big)))⟩⟩
theorem ref_key {H : Hp} {ks : List NestedKey} {x : V} (h : Rep K H (nkD (.tup ks)) x) : ∃ b, x = .ref b := by
  unfold nkD at h
  obtain ⟨b, _, e, _⟩ := Rep.tup_iff.mp h
  exact ⟨b, e⟩
theorem op_inN (hP : X.prog = P) (hw : X.w = w) (hK : X.K = K) (hu : X.A.units + 64 < cLine) : OpR X (compareOp .In) (rInN P w K) := by
  subst hP hw hK
  intro pins s σ H x y v u Q I rx ry h
  obtain ⟨a, xs, ks, rfl, N, hk, hd, q⟩ := h
  obtain rfl : u = Value.ref a := ry
  obtain ⟨b, rfl⟩ := ref_key hk
  obtain rfl : v = Value.ref b := rx
  exact wpAny_in_heap (knd := nestedKind X.prog X.w) (show X.A.in1.units + 8 < cLine by have e : X.A.in1.units = X.A.units + 1 := rfl; omega) ⟨nested_is I _ _ _ hk rfl, hd⟩ N.sys (N.dict I) ⟨.bl _, H, I.tok _, rfl, q⟩
theorem ix_N (hP : X.prog = P) (hw : X.w = w) (hK : X.K = K) (hu : X.A.units + 64 < cLine) : IxR X (rIxN P w K) := by
  subst hP hw hK
  intro value slice pins s σ H x y v u Q I rx ry h hs
  obtain ⟨a, xs, ks, p, z, rfl, N, hk, hd, hp, rz, q⟩ := h
  obtain rfl : v = Value.ref a := rx
  obtain ⟨b, rfl⟩ := ref_key hk
  obtain rfl : u = Value.ref b := ry
  have dd := N.dict I
  unfold subscriptTail
  refine wpAny_bind ?_
  have hT := dd.typeIs
  rw [getitemInPython_of_ne hT.not_modules]
  refine wpAny_bind (wpAny_specialOf hT PySem.F.slot_dict_getitem.lookup ?_)
  have h₂ : wpAny (model X.prog X.w) X.A (getItem (.ref a) (.ref b)) (EP X pins σ Q) X.xe s :=
    wpAny_getItem_heap (knd := nestedKind X.prog X.w) (show X.A.in1.units + 8 < cLine by have e : X.A.in1.units = X.A.units + 1 := rfl; omega) ⟨nested_is I _ _ _ hk rfl, hd⟩ dd hp ⟨z, H, I.tok _, rz, q⟩
  have fin : wpAny (model X.prog X.w) X.A (subscripted slice false (.ref a) (.ref b)) (fun r s₃ => wpAny (model X.prog X.w) X.A (letTemporaryGo value (.ref a) r >>= fun _ => pure r) (EP X pins σ Q) X.xe s₃) X.xe s := by
    rw [hs]
    exact wpAny_operating (wpAny_mono h₂ (fun r s₃ h₃ => wpAny_bind (wpAny_letTemporaryGo (wpAny_pure h₃))) fun _ _ x => x)
  first
    | exact wpAny_pure (wpAny_bind fin)
    | exact wpAny_bind (wpAny_pure (wpAny_bind fin))
    | exact wpAny_bind fin
theorem set_N (hP : X.prog = P) (hw : X.w = w) (hK : X.K = K) (hu : X.A.units + 64 < cLine) : PSet X (rSetN P w K) := by
  subst hP hw hK
  intro pins s σ H o i v ov iv u Q I ro ri rv h
  obtain ⟨a, b, xs, ks, rfl, rfl, N, hk, hd, hl, q⟩ := h
  obtain rfl : ov = Value.ref a := ro
  obtain rfl : iv = Value.ref b := ri
  refine wpAny_setItem_heap (knd := nestedKind X.prog X.w) (show X.A.in1.units + 8 < cLine by have e : X.A.in1.units = X.A.units + 1 := rfl; omega) ⟨nested_is I _ _ _ hk rfl, hd⟩ (N.dict I) (fun h' dd hs => ?_) hl
  obtain ⟨o', es, ep, e1, e2⟩ := id dd
  exact ⟨_, d_write I (by rw [N.ob]; exact True.intro) hs ⟨o', e1⟩ (nO_ok dd), q u rv⟩
end
/-! what such a dict stands for -/
section
variable {P : Program} {w : World} {K : PySem.W.Frag} {H H' : Hp} {a : Addr} {l : List Addr} {α : Type} {toD : α → PyData} {rr : List (NestedKey × α)} {Q : VK} {x : V} {ks : List NestedKey} {σ : L2.St}
def NW (P : Program) (w : World) (K : PySem.W.Frag) (H : Hp) (toD : α → PyData) (a : Addr) (rr : List (NestedKey × α)) : Prop :=
  ∃ xs, NRaw P w K H a xs ∧ Paired (fun (p : NestedKey × α) (x : NestedKey × Addr × Value) => x.1 = p.1 ∧ ∃ v, RelV v x.2.2 ∧ Rep K H (toD p.2) v) rr xs
theorem NW.fr (h : NW P w K H toD a rr) (f : AN.Fr l H H') (n : a ∉ l) : NW P w K H' toD a rr := by
  obtain ⟨xs, N, r⟩ := h
  exact ⟨xs, ⟨f.keep _ _ N.ob n, N.sys, fun x hx => ⟨(N.keys x hx).1.up f, (N.keys x hx).2⟩⟩, Paired.mapP r fun _ _ z => ⟨z.1, let ⟨v, e, q⟩ := z.2; ⟨v, e, q.up f⟩⟩⟩
theorem nw_get {xs : List (NestedKey × Addr × Value)} (r : Paired (fun (p : NestedKey × α) (x : NestedKey × Addr × Value) => x.1 = p.1 ∧ ∃ v, RelV v x.2.2 ∧ Rep K H (toD p.2) v) rr xs) (k : NestedKey) :
    (aget rr k = none ∧ atKey xs k = none) ∨ ∃ c p v, aget rr k = some c ∧ atKey xs k = some p ∧ RelV v p.2 ∧ Rep K H (toD c) v := by
  induction r with
  | nil => exact .inl ⟨rfl, rfl⟩
  | @cons p q ps qs hq t ih =>
    rw [aget_cons]
    by_cases e : p.1 = k
    · obtain ⟨v, h1, h2⟩ := hq.2
      exact .inr ⟨p.2, q.2, v, if_pos e, by unfold atKey; rw [List.find?_cons_of_pos (by simp [hq.1, e])]; rfl, h1, h2⟩
    · rw [if_neg e]
      have : atKey (q :: qs) k = atKey qs k := by unfold atKey; rw [List.find?_cons_of_neg (by simp [hq.1, e])]
      rw [this]
      exact ih
theorem nw_new (q : ∀ H' p, AN.Fr [] H H' → H p = none → NW P w K H' toD p [] → Q (.ref p) H') : tDNewN P w σ H Q := fun p hp hs => q _ p (AN.Fr.new hp) hp ⟨[], ⟨upd_same, hs, fun x hx => by cases hx⟩, .nil⟩
theorem nw_in (h : NW P w K H toD a rr) (hk : Rep K H (nkD (.tup ks)) x) (hd : (NestedKey.tup ks).depth ≤ 8) (q : Q (.bl (aget rr (.tup ks)).isSome) H) : rInN P w K x (.ref a) H Q := by
  obtain ⟨xs, N, r⟩ := h
  refine ⟨a, xs, ks, rfl, N, hk, hd, ?_⟩
  rcases nw_get r (.tup ks) with ⟨e1, e2⟩ | ⟨c, p, v, e1, e2, _⟩ <;> rw [e2] <;> rw [e1] at q <;> exact q
theorem nw_ix {c : α} (h : NW P w K H toD a rr) (hk : Rep K H (nkD (.tup ks)) x) (hd : (NestedKey.tup ks).depth ≤ 8) (e : aget rr (.tup ks) = some c) (q : ∀ v, Rep K H (toD c) v → Q v H) : rIxN P w K (.ref a) x H Q := by
  obtain ⟨xs, N, r⟩ := h
  rcases nw_get r (.tup ks) with ⟨e1, e2⟩ | ⟨c', p, v, e1, e2, h1, h2⟩
  · rw [e] at e1; cases e1
  · rw [e] at e1
    cases e1
    exact ⟨a, xs, ks, p, v, rfl, N, hk, hd, e2, h1, q v h2⟩
theorem _root_.AN.Fr.setN {xs : List (NestedKey × Addr × Value)} {o : HO} (h : H a = some (nO P w a xs)) : AN.Fr [a] H (upd H a o) := AN.Fr.set h (fun _ => nO_tup) (fun _ _ => nO_frz)
theorem nw_set {c : α} {v : V} {q : Hp → Prop} (h : NW P w K H toD a rr) (hk : Rep K H (nkD (.tup ks)) x) (hd : (NestedKey.tup ks).depth ≤ 8) (hv : Rep K H (toD c) v) (e : aget rr (.tup ks) = none) (hl : rr.length ≤ 100000)
    (w' : ∀ H', AN.Fr [a] H H' → NW P w K H' toD a (rr ++ [(.tup ks, c)]) → q H') : rSetN P w K (.ref a) x v H q := by
  obtain ⟨xs, N, r⟩ := h
  obtain ⟨b, rfl⟩ := ref_key hk
  refine ⟨a, b, xs, ks, rfl, rfl, N, hk, hd, by rw [← r.length, sizeLine_eq]; omega, fun u ru => ?_⟩
  have f : AN.Fr [a] H (upd H a (nO P w a (storedH xs (.tup ks) b u))) := AN.Fr.setN N.ob
  rcases nw_get r (.tup ks) with ⟨e1, e2⟩ | ⟨c', p, v', e1, _⟩
  · have es : storedH xs (.tup ks) b u = xs ++ [(.tup ks, b, u)] := by
      unfold storedH
      rw [e2]
      rfl
    rw [es] at f ⊢
    refine w' _ f ⟨_, ⟨upd_same, N.sys, fun y hy => ?_⟩, paired_app (Paired.mapP r fun _ _ z => ⟨z.1, let ⟨v, e, q⟩ := z.2; ⟨v, e, q.up f⟩⟩) (.cons ⟨rfl, v, ru, hv.up f⟩ .nil)⟩
    rcases List.mem_append.mp hy with hy | hy
    · exact ⟨(N.keys y hy).1.up f, (N.keys y hy).2⟩
    · rw [List.mem_singleton.mp hy]
      exact ⟨hk.up f, hd⟩
  · rw [e] at e1; cases e1
end
/-! ### objects -/
structure MCal (P : Program) (w : World) (K : PySem.W.Frag) (mg : Str → Option Value) (base : Heap) (CX : CXT) (k : Nat) (C : Addr) (m : Str) (ps : List Str) (sp : Sp) : Prop where
  ex : ∃ f fd, FnOk P w K mg base CX k f fd ps sp ∧ Meth K C m f ∧ Cls K C ∧ ∀ us : List Value, us.length = ps.length → bindArgs fd ⟨us, []⟩ = pure (ps.zip us)
structure KCal (P : Program) (w : World) (K : PySem.W.Frag) (mg : Str → Option Value) (base : Heap) (CX : CXT) (k : Nat) (x : Str) (C : Addr) (ps : List Str) (sp : Sp) : Prop where
  ex : ∃ f fd, FnOk P w K mg base CX k f fd ps sp ∧ Mk K C f ∧ mg x = some (.ref C) ∧ ∀ us : List Value, us.length = ps.length → bindArgs fd ⟨us, []⟩ = pure (ps.zip us)
/-- a method as the top leaves it; the __init__ -/
def MDef (K : PySem.W.Frag) (C : Addr) (m qual : Str) (st : Stmt) (ps : List Str) : Prop := ∃ f fd, Fun K m qual st f fd ∧ Meth K C m f ∧ ∀ us : List Value, us.length = ps.length → bindArgs fd ⟨us, []⟩ = pure (ps.zip us)
def IDef (K : PySem.W.Frag) (C : Addr) (qual : Str) (st : Stmt) (ps : List Str) : Prop := ∃ f fd, Fun K "__init__" qual st f fd ∧ Mk K C f ∧ ∀ us : List Value, us.length = ps.length → bindArgs fd ⟨us, []⟩ = pure (ps.zip us)
structure CDef (K : PySem.W.Frag) (mg : Str → Option Value) (x : Str) (C : Addr) (fl : List Str) : Prop where
  cl : Cls K C
  no : ∀ f ∈ fl, NoAttr K C f
  m : mg x = some (.ref C)
section
variable {X : Cx} {CX : CXT} {k : Nat} {C : Addr} {x m : Str} {ps : List Str} {sp : Sp} {E : XK} {p pos apos : Pos} {e o : Expr} {es : List Expr} {ta : TE} {t : TA}
theorem pe_met {pl : Sem Bool} (M : MCal X.prog X.w X.K X.mg X.base CX k C m ps sp) (hr : Room k X.A) (hx : Passes CX X E) (he : PE X o ta) (ha : PA X (e :: es) t)
    (hst : starEach (e :: es) X.env = (false, eval e X.env) :: starEach es X.env := by rfl) (hpl : (backTo pos (starEach es X.env)).any (·.1) = false := by rfl)
    (ht : eval (.Call (.Attribute o m apos) (e :: es) [] pos) X.env = (do
      let ov ← eval o X.env
      standAt apos.atName
      let (f, first) ← holding [ov] (getMethod ov m pl)
      callWith pos f first (backTo pos (starEach (e :: es) X.env)) (backToKw pos (keywordEach [] X.env))) := by rfl) :
    PE X (.Call (.Attribute o m apos) (e :: es) [] pos) (tMeth C m sp [] E ta t) := by
  obtain ⟨f, fd, F, mt, cl, b⟩ := M.ex
  exact pe_meth he cl mt F hr (.all b) .nil hx ha hst hpl ht
theorem pe_met0 {pl : Sem Bool} (M : MCal X.prog X.w X.K X.mg X.base CX k C m ps sp) (hr : Room k X.A) (hx : Passes CX X E) (he : PE X o ta)
    (ht : eval (.Call (.Attribute o m apos) [] [] pos) X.env = (do
      let ov ← eval o X.env
      standAt apos.atName
      let (f, first) ← holding [ov] (getMethod ov m pl)
      callWith pos f first (backTo pos (starEach [] X.env)) (backToKw pos (keywordEach [] X.env))) := by rfl) :
    PE X (.Call (.Attribute o m apos) [] [] pos) (tMeth C m sp [] E ta tNil) := by
  obtain ⟨f, fd, F, mt, cl, b⟩ := M.ex
  exact pe_meth0 he cl mt F hr (.all b) .nil hx ht
theorem pe_mkc (M : KCal X.prog X.w X.K X.mg X.base CX k x C ps sp) (hr : Room (k + 1) X.A) (hg : Gl X x) (hx : Passes CX X E)
    (ha : PA X (e :: es) t) (hdb : (x == ("__debug__" : Str)) = false := by decide) (he : starEach (e :: es) X.env = (false, eval e X.env) :: starEach es X.env := by rfl) (hpl : (backTo pos (starEach es X.env)).any (·.1) = false := by rfl) :
    PE X (.Call (.Name x p) (e :: es) [] pos) (tMake C sp [] E t) := by
  obtain ⟨f, fd, F, mk, mm, b⟩ := M.ex
  exact pe_make mk F hr hg mm (.all b) .nil hx ha hdb he hpl
theorem MDef.cal {P : Program} {w : World} {K : PySem.W.Frag} {mg : Str → Option Value} {base : Heap} {qual : Str} {st : Stmt} {N : List Str} (D : MDef K C m qual st ps) (cl : Cls K C) (S : FnScope N ps (defScope st)) (z : List (Option V)) (hz : List.replicate (N.length - ps.length) none = z) (len : ∀ vs H Q E, sp vs H Q E → vs.length = ps.length)
    (hbody : ∀ (f : Addr) (cdv : Value) (A : Around) (outer : List Env) (s : Shared) (H : Hp) (vs : List V) (Q : VK) (E : XK), Kk K → Room k (A.deeper (envOfC qual (defScope st) s.heap.objs.size f cdv)) → sp vs H Q E →
      ∃ t, PSs (cxOf CX0 P w K mg base N qual (defScope st) f cdv A outer s H E).nox (defBody st) t ∧ t ⟨fun _ H' => Q .non H', Q, fun _ _ => False, fun _ _ => False⟩ (vs.map some ++ z) H) : MCal P w K mg base CX0 (k + 1) C m ps sp := by
  obtain ⟨f, fd, F, mt, b⟩ := D
  refine ⟨f, fd, F.ok S len (fun cdv A outer s H vs Q E hr h => ?_), mt, cl, b⟩
  obtain ⟨t, h1, h2⟩ := hbody f cdv A outer s H vs Q E ⟨trivial⟩ hr h
  refine ⟨t, h1, ?_⟩
  have e : L2.start N vs = vs.map some ++ z := by
    unfold L2.start
    rw [len _ _ _ _ h, hz]
  rw [e]
  exact h2
theorem IDef.cal {P : Program} {w : World} {K : PySem.W.Frag} {mg : Str → Option Value} {base : Heap} {qual : Str} {st : Stmt} {N : List Str} (D : IDef K C qual st ps) (hm : mg x = some (.ref C)) (S : FnScope N ps (defScope st)) (z : List (Option V)) (hz : List.replicate (N.length - ps.length) none = z) (len : ∀ vs H Q E, sp vs H Q E → vs.length = ps.length)
    (hbody : ∀ (f : Addr) (cdv : Value) (A : Around) (outer : List Env) (s : Shared) (H : Hp) (vs : List V) (Q : VK) (E : XK), Kk K → Room k (A.deeper (envOfC qual (defScope st) s.heap.objs.size f cdv)) → sp vs H Q E →
      ∃ t, PSs (cxOf CX0 P w K mg base N qual (defScope st) f cdv A outer s H E).nox (defBody st) t ∧ t ⟨fun _ H' => Q .non H', Q, fun _ _ => False, fun _ _ => False⟩ (vs.map some ++ z) H) : KCal P w K mg base CX0 (k + 1) x C ps sp := by
  obtain ⟨f, fd, F, mk, b⟩ := D
  refine ⟨f, fd, F.ok S len (fun cdv A outer s H vs Q E hr h => ?_), mk, hm, b⟩
  obtain ⟨t, h1, h2⟩ := hbody f cdv A outer s H vs Q E ⟨trivial⟩ hr h
  refine ⟨t, h1, ?_⟩
  have e : L2.start N vs = vs.map some ++ z := by
    unfold L2.start
    rw [len _ _ _ _ h, hz]
  rw [e]
  exact h2
end
section
variable {K : PySem.W.Frag} {σ : L2.St} {H : Hp} {Q : VK} {n b c : L2.St → Hp → Prop} {r : VK} {ta tv : TE} {t : TA} {C a dx : Addr} {fs : List (Str × V)} {f m : Str} {v y : V} {sp : Sp} {E : XK}
theorem g_notV (h : ta σ H fun x H1 => ∃ c, x = .bl c ∧ Q (.bl (!c)) H1) : tNotV ta σ H Q := h
/-- x.f -/
def FldQ (K : PySem.W.Frag) (f : Str) (x : V) (H : Hp) (Q : VK) : Prop := ∃ a C dx fs v, x = .ref a ∧ H a = some (.ins C dx fs) ∧ Cls K C ∧ NoAttr K C f ∧ fs.lookup f = some v ∧ Q v H
theorem g_fld (h : ta σ H fun x H1 => FldQ K f x H1 Q) : tFld K ta f σ H Q := h
theorem fld_q (h : H a = some (.ins C dx fs)) (cl : Cls K C) (no : NoAttr K C f) (e : fs.lookup f = some v) (q : Q v H) : FldQ K f (.ref a) H Q := ⟨a, C, dx, fs, v, rfl, h, cl, no, e, q⟩
/-- x.f = y -/
def FldS (K : PySem.W.Frag) (f : Str) (x y : V) (H : Hp) (q : Hp → Prop) : Prop := ∃ a C dx fs, x = .ref a ∧ H a = some (.ins C dx fs) ∧ Cls K C ∧ NoAttr K C f ∧ fs.length < 1000 ∧ q (upd H a (.ins C dx (putF f y fs)))
theorem g_fldS (h : tv σ H fun y H1 => ta σ H1 fun x H2 => FldS K f x y H2 fun H3 => n σ H3) : sFld K ta tv f ⟨n, r, b, c⟩ σ H := h
theorem fldS_q {q : Hp → Prop} (h : H a = some (.ins C dx fs)) (cl : Cls K C) (no : NoAttr K C f) (hl : fs.length < 1000) (w : ∀ H', AN.Fr [a] H H' → H' a = some (.ins C dx (putF f y fs)) → q H') : FldS K f (.ref a) y H q :=
  ⟨a, C, dx, fs, rfl, h, cl, no, hl, w _ (AN.Fr.setI h) upd_same⟩
/-- x.m(..) -/
def MethQ (C : Addr) (m : Str) (sp : Sp) (E : XK) (t : TA) (σ : L2.St) (x : V) (H : Hp) (Q : VK) : Prop := ∃ a dx fs, x = .ref a ∧ H a = some (.ins C dx fs) ∧ fs.lookup m = none ∧ t σ H fun vs H2 => sp (x :: (vs ++ [])) H2 Q E
theorem g_meth (h : ta σ H fun x H1 => MethQ C m sp E t σ x H1 Q) : tMeth C m sp [] E ta t σ H Q := h
theorem meth_q (h : H a = some (.ins C dx fs)) (e : fs.lookup m = none) (q : t σ H fun vs H2 => sp (.ref a :: (vs ++ [])) H2 Q E) : MethQ C m sp E t σ (.ref a) H Q := ⟨a, dx, fs, rfl, h, e, q⟩
/-- what a new object of C is for -/
def MakeQ (C : Addr) (sp : Sp) (E : XK) (vs : List V) (H1 : Hp) (Q : VK) : Prop := ∀ x dx, H1 x = none → H1 dx = none → dx ≠ x → sp (.ref x :: (vs ++ [])) (upd (upd H1 dx (.own x)) x (.ins C dx [])) (fun v H2 => v = .non ∧ Q (.ref x) H2) E
theorem g_mk (h : t σ H fun vs H1 => MakeQ C sp E vs H1 Q) : tMake C sp [] E t σ H Q := h
theorem make_q {vs : List V} (q : ∀ x dx H2, H x = none → H dx = none → dx ≠ x → AN.Fr [] H H2 → H2 x = some (.ins C dx []) → sp (.ref x :: (vs ++ [])) H2 (fun v H2 => v = .non ∧ Q (.ref x) H2) E) : MakeQ C sp E vs H Q := fun x dx nx nd ne =>
  q x dx _ nx nd ne ((AN.Fr.new (p := dx) (o := .own x) nd).trans (AN.Fr.new (p := x) (o := .ins C dx []) (by rw [upd_ne ne.symm]; exact nx)) (fun _ m => by cases m)) upd_same
end
/-! ### good data -/
mutual
def szb : PyData → Bool
  | .tuple ds => decide (ds.length ≤ 900) && szbs ds
  | _ => true
def szbs : List PyData → Bool
  | [] => true
  | d :: ds => szb d && szbs ds
end
theorem szbs_all : ∀ {ds : List PyData}, szbs ds = true ↔ ∀ d ∈ ds, szb d = true
  | [] => by simp [szbs]
  | d :: ds => by simp [szbs, szbs_all (ds := ds)]
/-- good data: plain, not deep, not long -/
structure G (n : Nat) (d : PyData) : Prop where
  pl : pl d = true
  dp : d.depth ≤ n
  sz : szb d = true
def GL (n : Nat) (ds : List PyData) : Prop := ∀ d ∈ ds, G n d
theorem GL.nil {n : Nat} : GL n [] := fun d h => by cases h
theorem GL.cons {n : Nat} {d : PyData} {ds : List PyData} (h : G n d) (t : GL n ds) : GL n (d :: ds) := fun e he => by
  rcases List.mem_cons.mp he with rfl | he
  · exact h
  · exact t e he
theorem GL.app {n : Nat} {ds es : List PyData} (h : GL n ds) (t : GL n es) : GL n (ds ++ es) := fun e he => (List.mem_append.mp he).elim (h e) (t e)
theorem GL.take {n k : Nat} {ds : List PyData} (h : GL n ds) : GL n (ds.take k) := fun e he => h e (List.take_subset k ds he)
theorem GL.drop {n k : Nat} {ds : List PyData} (h : GL n ds) : GL n (ds.drop k) := fun e he => h e (List.drop_subset k ds he)
theorem G.mono {n m : Nat} {d : PyData} (h : G n d) (e : n ≤ m) : G m d := ⟨h.pl, Nat.le_trans h.dp e, h.sz⟩
theorem GL.mono {n m : Nat} {ds : List PyData} (h : GL n ds) (e : n ≤ m) : GL m ds := fun d hd => (h d hd).mono e
theorem G.tup {n : Nat} {ds : List PyData} (h : GL n ds) (hl : ds.length ≤ 900) : G (n + 1) (.tuple ds) := by
  refine ⟨?_, ?_, ?_⟩
  · simpa [AN.pl] using pls_all.mpr fun d hd => (h d hd).pl
  · have : PyData.depthAll ds ≤ n := depthAll_le.mpr fun d hd => (h d hd).dp
    simp only [PyData.depth]
    omega
  · simp only [szb, Bool.and_eq_true, decide_eq_true_eq]
    exact ⟨hl, szbs_all.mpr fun d hd => (h d hd).sz⟩
theorem G.all {n : Nat} {ds : List PyData} (h : G (n + 1) (.tuple ds)) : GL n ds ∧ ds.length ≤ 900 := by
  have h3 := h.sz
  simp only [szb, Bool.and_eq_true, decide_eq_true_eq] at h3
  have h2 := h.dp
  simp only [PyData.depth] at h2
  exact ⟨fun d hd => ⟨pls_all.mp (by simpa [AN.pl] using h.pl) d hd, depthAll_le.mp (show PyData.depthAll ds ≤ n by omega) d hd, szbs_all.mp h3.2 d hd⟩, h3.1⟩
theorem G.str {n : Nat} {x : Str} (h : PyData.strOk x = true) : G n (.str x) := ⟨by simpa [AN.pl] using h, by simp [PyData.depth], rfl⟩
theorem G.int {n : Nat} {x : Int} : G n (.int x) := ⟨rfl, by simp [PyData.depth], rfl⟩
theorem G.okd {n : Nat} {d : PyData} (h : G n d) (hn : n ≤ 40) : Okd d := ⟨h.pl, Nat.le_trans h.dp hn⟩
theorem G.bl {n : Nat} {x : List PyData} (h : GL n x) (hl : x.length ≤ 900) : G (n + 1) (.tuple x) := G.tup h hl
theorem GL.map {β : Type} {n : Nat} {f : β → PyData} {l : List β} (h : ∀ x ∈ l, G n (f x)) : GL n (l.map f) := fun d hd => by
  obtain ⟨x, hx, rfl⟩ := List.mem_map.mp hd
  exact h x hx
theorem extend_q {H : Hp} {a b : Addr} {xs zs : List V} {Q : VK} (h : H a = some (.lst xs)) (h' : H b = some (.lst zs)) (hl : xs.length + zs.length ≤ 10000) (q : ∀ H', AN.Fr [a] H H' → H' a = some (.lst (xs ++ zs)) → Q .non H') : rExtend (.ref a) [.ref b] H Q :=
  ⟨a, b, xs, zs, rfl, rfl, h, h', by rw [sizeLine_eq]; omega, q _ (AN.Fr.setL h) upd_same⟩
theorem atI_last {α : Type} (ys : List α) (v : α) : atI (ys ++ [v]) (-1) = some v := by
  unfold atI ixN
  rw [if_neg (by decide), List.length_append]
  simp only [List.length_cons, List.length_nil]
  rw [if_pos (by omega)]
  have e : ∀ z : Int, z = (ys.length : Int) → (ys ++ [v])[z.toNat]? = some v := fun z hz => by rw [hz, Int.toNat_natCast]; simp
  simp only [Option.bind_some]
  exact e _ (by omega)
theorem ixL_last {K : PySem.W.Frag} {H : Hp} {a : Addr} {ys : List V} {v : V} {j : Int} {Q : VK} (h : SqL K H a (ys ++ [v])) (hj : j = -1) (q : Q v H) : rIxG K (.ref a) (.int j) H Q := by
  subst hj
  exact .inr (.inl ⟨a, ys ++ [v], -1, v, rfl, rfl, h, atI_last ys v, q⟩)
theorem ixT_last {K : PySem.W.Frag} {H : Hp} {x : V} {ds : List PyData} {d : PyData} {j : Int} {Q : VK} (h : Rep K H (.tuple (ds ++ [d])) x) (hj : j = -1) (q : ∀ v, Rep K H d v → Q v H) : rIxG K x (.int j) H Q := by
  subst hj
  obtain ⟨a, vs, rfl, hs, hr⟩ := Rep.tup_iff.mp h
  obtain ⟨us, u, rfl, h1, h2⟩ := hr.snoc
  exact .inl ⟨a, us ++ [u], -1, u, rfl, rfl, .of hs, atI_last us u, q u h2⟩
end AN

/-! AN: list(reversed(a list)). -/
namespace AN
open PySem PySem.Spec PyProof.Rows L2 RT
section
variable {prog : Program} {w : World} {A : Around} {E : Value → Shared → Prop} {R : Result → Shared → Prop} {s : Shared}
theorem init_rev {it l S : Addr} {items : Array Value} (hh : A.handled = none) (hit : s.heap.IsRevIter it l ((items.size : Int) - 1)) (hl : s.heap.IsList l items) (hne : l ≠ it) (hn : items.size ≤ sizeLine) (hSi : S ≠ it) (hSl : S ≠ l)
    (hS : s.heap.get? S = some { cls := .type "list", data := .seq #[] })
    (hR : ∀ (h' : Heap) (tk : Nat) (acc : Array Value) (c' : Nat), (∀ b o, b ≠ S → b ≠ it → s.heap.get? b = some o → h'.get? b = some o) → h'.get? S = some { cls := .type "list", dict := none, data := .seq acc c', slots := #[] } → ItemsOf (fun i v => items[items.size - 1 - i]? = some v) acc items.size → R (.ok (.ret .none)) { s with heap := h', toks := tk }) :
    wpAny (model prog w) A.in1 (Builtin.«list.__init__» ⟨[.ref S, .ref it], []⟩)
      (fun fin s' => match fin with | .done f => R (.ok f) s' | .again c' => c'.quiet = true ∧ codeAny (model prog w) A c' R s') (fun e s' => R (.error e) s') s := by
  have W := (Walks.listRev (prog := prog) (w := w) (A := A.in1) hh it l hne items).toS
  have hSf : S ∉ [it, l] := by simp only [List.mem_cons, List.not_mem_nil, or_false, not_or]; exact ⟨hSi, hSl⟩
  show wpAny _ A.in1 (do let old ← Builtin.List.listItems (.ref S); Builtin.List.listUpdate (.ref S) (fun _ => #[]); letGo old.toList.reverse; Builtin.List.listExtendWith (.ref S) (.ref it) .none) _ _ s
  refine wpAny_bind ?_
  unfold Builtin.List.listItems
  refine wpAny_bind (wpAny_seqItems hS rfl (wpAny_pure ?_))
  show wpAny _ A.in1 (updateSeq S (fun _ => #[]) >>= fun _ => letGo (#[] : Array Value).toList.reverse >>= fun _ => Builtin.List.listExtendWith (.ref S) (.ref it) .none) _ _ s
  refine wpAny_bind (wpAny_updateSeq hS rfl ?_)
  have hS₂ := Heap.get?_update_self (Obj.mapSeq (fun _ => (#[] : Array Value))) hS rfl
  have oth : ∀ b o, b ≠ S → s.heap.get? b = some o → (s.heap.update S (Obj.mapSeq (fun _ => (#[] : Array Value)))).get? b = some o :=
    fun b o hb e => (Heap.get?_update_other _ _ (Ne.symm hb)).trans e
  refine wpAny_bind (wpAny_letGo ?_)
  generalize hh2 : s.heap.update S (Obj.mapSeq (fun _ => (#[] : Array Value))) = h2 at hS₂ oth
  have hit1 : h2.IsRevIter it l ((items.size : Int) - 1) := hit.at fun o e => oth it o (Ne.symm hSi) e
  have hl1 : h2.IsList l items := by
    obtain ⟨o, ho, r⟩ := hl
    exact ⟨o, oth l o (Ne.symm hSl) ho, r⟩
  have hT : ({ s with heap := h2 } : Shared).TypeIs (.ref it) "list_reverseiterator" := Heap.IsRevIter.typeIs (s := { s with heap := h2 }) hit1
  have h1 : Builtin.List.listSameRef (.ref S) (.ref it) = false := by simp [Builtin.List.listSameRef, hSi]
  unfold Builtin.List.listExtendWith
  refine wpAny_bind (wpAny_typeOf hT ?_)
  rw [if_neg (by rw [h1]; decide)]
  refine wpAny_bind (wpAny_pyIter_revIter (s := { s with heap := h2 }) hit1 ?_)
  refine wpAny_bind (wpAny_holding ?_)
  unfold Builtin.List.listLengthHint
  refine wpAny_bind (wpAny_specialOf hT nolen_lri ?_)
  show wpAny _ A.in1 (specialOf (Value.ref it) (Str.ofString "__length_hint__") >>= _) _ _ _
  refine wpAny_bind (wpAny_specialOf hT hint_lri ?_)
  generalize hid : ("list_reverseiterator.__length_hint__" : String) = id0
  wp_delta
  rw [show splitId id0 = some ("list_reverseiterator", "__length_hint__") from by subst hid; decide +kernel]
  subst hid
  refine wpAny_bind (wpAny_isInstance (b := true) hT (by rw [isSubtype_type]; kernel_rfl) ?_)
  refine wpAny_pure ?_
  rw [if_neg (by decide)]
  have e0 : ((items.size : Nat) : Int) - 1 - ((0 : Nat) : Int) = (items.size : Int) - 1 := by omega
  refine wpAny_pure ⟨plainId_quiet F.plain_extend_loop _, codeAny_extend_loopS W hn _ hSf _ items.size 0 _ _ _ rfl (Nat.zero_le _) ⟨Nat.zero_le _, by rw [e0]; exact hit1, hl1⟩ hS₂ (ItemsOf.nil _) fun s' acc' c' hm hS' hacc => ?_⟩
  rw [Moved.eq_with hm]
  refine hR s'.heap s'.toks acc' c' (fun b o hb hb2 e => hm.heap b o (fun hmem => ?_) (oth b o hb e)) hS' hacc
  rcases List.mem_cons.mp hmem with e' | hmem
  · exact hb e'
  · exact hb2 (List.mem_singleton.mp hmem)
theorem call_list_rev {it l : Addr} {items : Array Value} {Q : Value → Shared → Prop} (hh : A.handled = none) (hit : s.heap.IsRevIter it l ((items.size : Int) - 1)) (hl : s.heap.IsList l items) (hne : l ≠ it) (hn : items.size ≤ sizeLine)
    (hQ : ∀ (h' : Heap) (tk : Nat) (acc : Array Value) (c' : Nat), (∀ b o, b ≠ it → s.heap.get? b = some o → h'.get? b = some o) → h'.get? s.heap.objs.size = some { cls := .type "list", dict := none, data := .seq acc c', slots := #[] } → ItemsOf (fun i v => items[items.size - 1 - i]? = some v) acc items.size →
      Q (.ref s.heap.objs.size) { s with heap := h', toks := tk }) :
    wpAny (model prog w) A (call (.type "list") [.ref it]) Q E s := by
  obtain ⟨oi, hoi, _⟩ := id hit
  obtain ⟨ol, hol, _⟩ := id hl
  have hSi : s.heap.objs.size ≠ it := Nat.ne_of_gt (Heap.lt_size hoi)
  have hSl : s.heap.objs.size ≠ l := Nat.ne_of_gt (Heap.lt_size hol)
  refine callType_codes (Q₁ := fun obj s₁ => obj = .ref s.heap.objs.size ∧ s₁ = { s with heap := s.heap.push { cls := .type "list", data := .seq #[] } }) F.called_list (F.typeCall_list_1 _) F.entry_list_init
    (code_list_new _ ⟨rfl, rfl⟩) fun obj s₁ h₁ => ?_
  obtain ⟨rfl, rfl⟩ := h₁
  have hS : (s.heap.push { cls := .type "list", data := .seq #[] }).get? s.heap.objs.size = some { cls := .type "list", data := .seq #[] } := Heap.get?_push_size _ rfl
  refine ⟨⟨_, hS, rfl⟩, F.args_list_init_2 _ _, init_rev (A := A.in1) (s := { s with heap := s.heap.push { cls := .type "list", data := .seq #[] } }) hh (hit.at fun o e => Heap.get?_push_of_some _ e) (hl.push _) hne hn hSi hSl hS fun h' tk acc c' hk hS' hacc => ?_⟩
  exact ⟨rfl, hQ h' tk acc c' (fun b o hb e => hk b o (Nat.ne_of_lt (Heap.lt_size e)) hb (Heap.get?_push_of_some _ e)) hS' hacc⟩
end
def tLstRev (K : PySem.W.Frag) (te : TE) : TE := fun σ H Q => te σ H fun v H1 => ∃ (a : Addr) (xs : List V), v = .ref a ∧ SqL K H1 a xs ∧ ∀ q, H1 q = none → Q (.ref q) (upd H1 q (.lst xs.reverse))
section
variable {X : Cx}
theorem pe_listRev {e : Expr} {te : TE} {p p2 pos pos2 : Pos} (hc : X.calm = true) (hg : Gl X "list") (hm : X.mg "list" = none) (hg2 : Gl X "reversed") (hm2 : X.mg "reversed" = none) (he : PE X e te)
    (hs : starEach [e] X.env = (false, eval e X.env) :: starEach [] X.env := by rfl)
    (hs2 : starEach [.Call (.Name "reversed" p2) [e] [] pos2] X.env = (false, eval (.Call (.Name "reversed" p2) [e] [] pos2) X.env) :: starEach [] X.env := by rfl) :
    PE X (.Call (.Name "list" p) [.Call (.Name "reversed" p2) [e] [] pos2] [] pos) (tLstRev X.K te) := by
  refine ⟨fun pins s σ H Q I h => ?_⟩
  refine Call_ (ld_blt I hg hm boot_list (PyProof.Rows.callWith_type1 (args_cons (Call_ (ld_blt I hg2 hm2 PyProof.Rows.boot_reversed (PyProof.Rows.callWith_type1 (args_cons (thn (he.run pins s σ H _ I h) fun u s1 ⟨v, H1, I1, r1, q1⟩ => args_nil ?_) hs) hs) (by decide) (by decide))) hs2) hs2) (by decide) (by decide))
  obtain ⟨a, xs, ev, hq, q⟩ := q1
  subst ev
  obtain rfl : u = Value.ref a := r1
  obtain ⟨its, rv, p', hz⟩ := I1.list hq
  refine call_reversed_list p'.isList (args_nil ?_)
  have k0 : ∀ b o, s1.heap.get? b = some o → (s1.heap.push (revObj a ((its.toArray.size : Int) - 1))).get? b = some o := fun b o e => Heap.get?_push_of_some _ e
  have I2 : Inv X pins σ H1 { s1 with heap := s1.heap.push (revObj a ((its.toArray.size : Int) - 1)) } := I1.kept (t' := s1.toks) k0
  obtain ⟨f0, f1, f2, f3, f4, f5⟩ := I1.fpOk (H' := H1) (b := s1.heap.objs.size) (Nat.le_refl _) (I1.hok.fresh (Nat.le_refl _))
  have hl := p'.isList
  obtain ⟨ol, hol, _⟩ := id hl
  have hne : a ≠ s1.heap.objs.size := Nat.ne_of_lt (Heap.lt_size hol)
  have hn : its.toArray.size ≤ sizeLine := by rw [List.size_toArray, ← rv.length]; exact hz
  refine call_list_rev (s := { s1 with heap := s1.heap.push (revObj a ((its.toArray.size : Int) - 1)) }) (I1.ok.hd hc) ⟨_, Heap.get?_push_size _ rfl, rfl, rfl⟩ (hl.push _) hne hn fun h' tk acc c' hk hS hi => ?_
  have hsz : s1.heap.objs.size ≤ (s1.heap.push (revObj a ((its.toArray.size : Int) - 1))).objs.size := by rw [size_push']; exact Nat.le_succ _
  refine ⟨.ref (s1.heap.push (revObj a ((its.toArray.size : Int) - 1))).objs.size, upd H1 (s1.heap.push (revObj a ((its.toArray.size : Int) - 1))).objs.size (.lst xs.reverse), I1.laid (t' := tk) (fun b o e => hk b o (Nat.ne_of_lt (Heap.lt_size e)) (k0 b o e)) hsz
    (show ObjOk X.prog X.w _ _ _ (.lst xs.reverse) from ⟨by rw [List.length_reverse]; exact hz, acc.toList, c', vals_rev rv hi, by rw [Array.toArray_toList]; exact hS⟩), rfl, q _ (I1.hok.fresh hsz)⟩
end
section
variable {K : PySem.W.Frag} {σ : L2.St} {H : Hp} {Q : VK} {te : TE}
def LRevQ (K : PySem.W.Frag) (v : V) (H1 : Hp) (Q : VK) : Prop := ∃ (a : Addr) (xs : List V), v = .ref a ∧ SqL K H1 a xs ∧ ∀ q, H1 q = none → Q (.ref q) (upd H1 q (.lst xs.reverse))
theorem g_lrev (h : te σ H fun v H1 => LRevQ K v H1 Q) : tLstRev K te σ H Q := h
theorem lrev_q {a : Addr} {xs : List V} (h : H a = some (.lst xs)) (q : ∀ H' p, AN.Fr [] H H' → H p = none → H' p = some (.lst xs.reverse) → Q (.ref p) H') : LRevQ K (.ref a) H Q :=
  ⟨a, xs, rfl, .of h, fun p np => q _ p (AN.Fr.new np) np upd_same⟩
end
end AN

/-! AN: the value layer. Values without addresses (tuples are trees), mutable things as rows of a memory; a reading carries both. -/
namespace AN
open PySem PySem.Spec PyProof.Rows L2
/-! ### values -/
/-- a mutable thing's name; a type's name -/
def rf (a : Addr) : PyData := .list [.int (a : Nat)]
def tyw (T : String) : PyData := .list [.str (T : Str), .none]
mutual
def WR (H : Hp) : PyData → V → Prop
  | .none, v => v = .non
  | .bool b, v => v = .bl b
  | .int i, v => v = .int i
  | .str x, v => v = .str x
  | .tuple ds, v => ∃ a vs, v = .ref a ∧ H a = some (.tup vs) ∧ WRs H ds vs
  | .list ds, v => (∃ a : Addr, ds = [.int (a : Nat)] ∧ v = .ref a) ∨ ∃ T : String, ds = [.str (T : Str), .none] ∧ v = .ty T
  | .dict _, _ => False
def WRs (H : Hp) : List PyData → List V → Prop
  | [], vs => vs = []
  | d :: ds, vs => ∃ v r, vs = v :: r ∧ WR H d v ∧ WRs H ds r
end
/-- tuples stay -/
def Up (H H' : Hp) : Prop := ∀ a xs, H a = some (.tup xs) → H' a = some (.tup xs)
section
variable {K : PySem.W.Frag} {H H' H1 H2 : Hp} {l l' : List Addr} {a p : Addr} {o u : HO} {d e : PyData} {ds es : List PyData} {v : V} {vs us : List V} {i : Nat}
theorem Up.refl (H : Hp) : Up H H := fun _ _ h => h
theorem Up.trans (h : Up H H1) (g : Up H1 H2) : Up H H2 := fun a xs e => g a xs (h a xs e)
theorem Fr.toUp (f : AN.Fr l H H') : Up H H' := f.tups
theorem wr_rf : WR H (rf a) (.ref a) := by unfold rf WR; exact .inl ⟨a, rfl, rfl⟩
theorem wr_rf_iff : WR H (rf a) v ↔ v = .ref a := by
  constructor
  · intro h
    unfold rf WR at h
    rcases h with ⟨b, e, rfl⟩ | ⟨T, e, _⟩
    · simp only [List.cons.injEq, PyData.int.injEq, and_true] at e
      have : a = b := by exact Int.ofNat.inj e
      rw [this]
    · simp at e
  · rintro rfl; exact wr_rf
theorem wr_tyw {T : String} : WR H (tyw T) (.ty T) := by unfold tyw WR; exact .inr ⟨T, rfl, rfl⟩
theorem wr_int {j : Int} : WR H (.int j) (.int j) := by unfold WR; rfl
theorem wr_str {x : Str} : WR H (.str x) (.str x) := by unfold WR; rfl
theorem wr_bl {b : Bool} : WR H (.bool b) (.bl b) := by unfold WR; rfl
theorem wr_non : WR H .none .non := by unfold WR; rfl
theorem wr_int_iff {j : Int} : WR H (.int j) v ↔ v = .int j := by unfold WR; exact Iff.rfl
theorem wr_str_iff {x : Str} : WR H (.str x) v ↔ v = .str x := by unfold WR; exact Iff.rfl
theorem wr_bl_iff {x : Bool} : WR H (.bool x) v ↔ v = .bl x := by unfold WR; exact Iff.rfl
theorem wr_non_iff : WR H .none v ↔ v = .non := by unfold WR; exact Iff.rfl
theorem wr_tup_iff : WR H (.tuple ds) v ↔ ∃ a vs, v = .ref a ∧ H a = some (.tup vs) ∧ WRs H ds vs := by unfold WR; exact Iff.rfl
theorem wrs_nil : WRs H [] [] := by unfold WRs; rfl
theorem wrs_nil_iff : WRs H [] vs ↔ vs = [] := by unfold WRs; exact Iff.rfl
theorem wrs_cons (h : WR H d v) (r : WRs H ds vs) : WRs H (d :: ds) (v :: vs) := by unfold WRs; exact ⟨v, vs, rfl, h, r⟩
theorem wrs_cons_iff : WRs H (d :: ds) vs ↔ ∃ v r, vs = v :: r ∧ WR H d v ∧ WRs H ds r := by
  constructor
  · intro h; unfold WRs at h; exact h
  · intro h; unfold WRs; exact h
mutual
theorem WR.up (f : Up H H1) : ∀ {d : PyData} {v : V}, WR H d v → WR H1 d v
  | .none, _, h => by unfold WR at h ⊢; exact h
  | .bool _, _, h => by unfold WR at h ⊢; exact h
  | .int _, _, h => by unfold WR at h ⊢; exact h
  | .str _, _, h => by unfold WR at h ⊢; exact h
  | .tuple ds, v, h => by
    unfold WR at h ⊢
    obtain ⟨a, vs, e, q, r⟩ := h
    exact ⟨a, vs, e, f _ _ q, WRs.up f r⟩
  | .list _, _, h => by unfold WR at h ⊢; exact h
  | .dict _, _, h => by unfold WR at h; exact h.elim
theorem WRs.up (f : Up H H1) : ∀ {ds : List PyData} {vs : List V}, WRs H ds vs → WRs H1 ds vs
  | [], _, h => by unfold WRs at h ⊢; exact h
  | d :: ds, vs, h => by
    unfold WRs at h ⊢
    obtain ⟨v, r, e, h1, h2⟩ := h
    exact ⟨v, r, e, WR.up f h1, WRs.up f h2⟩
end
theorem WRs.length : ∀ {ds : List PyData} {vs : List V}, WRs H ds vs → vs.length = ds.length
  | [], _, h => by unfold WRs at h; subst h; rfl
  | d :: ds, vs, h => by
    unfold WRs at h
    obtain ⟨v, r, e, _, h2⟩ := h
    subst e
    rw [List.length_cons, List.length_cons, WRs.length h2]
theorem WRs.get : ∀ {ds : List PyData} {vs : List V} {i : Nat} {d : PyData}, WRs H ds vs → ds[i]? = some d → ∃ v, vs[i]? = some v ∧ WR H d v
  | [], _, _, _, _, e => by simp at e
  | d :: ds, vs, i, x, h, e => by
    obtain ⟨v, r, ev, h1, h2⟩ := wrs_cons_iff.mp h
    subst ev
    cases i with
    | zero => simp at e; subst e; exact ⟨v, rfl, h1⟩
    | succ i =>
      obtain ⟨y, e1, e2⟩ := WRs.get (i := i) h2 (by simpa using e)
      exact ⟨y, by simpa using e1, e2⟩
theorem WRs.get' : ∀ {ds : List PyData} {vs : List V} {i : Nat} {v : V}, WRs H ds vs → vs[i]? = some v → ∃ d, ds[i]? = some d ∧ WR H d v
  | [], _, _, _, h, e => by rw [wrs_nil_iff] at h; subst h; simp at e
  | d :: ds, vs, i, x, h, e => by
    obtain ⟨v, r, ev, h1, h2⟩ := wrs_cons_iff.mp h
    subst ev
    cases i with
    | zero => simp at e; subst e; exact ⟨d, rfl, h1⟩
    | succ i =>
      obtain ⟨y, e1, e2⟩ := WRs.get' (i := i) h2 (by simpa using e)
      exact ⟨y, by simpa using e1, e2⟩
theorem WRs.append : ∀ {ds es : List PyData} {vs us : List V}, WRs H ds vs → WRs H es us → WRs H (ds ++ es) (vs ++ us)
  | [], _, _, _, h, g => by rw [wrs_nil_iff] at h; subst h; exact g
  | d :: ds, es, vs, us, h, g => by
    obtain ⟨v, r, ev, h1, h2⟩ := wrs_cons_iff.mp h
    subst ev
    exact wrs_cons h1 (WRs.append h2 g)
theorem WRs.take : ∀ {ds : List PyData} {vs : List V} (n : Nat), WRs H ds vs → WRs H (ds.take n) (vs.take n)
  | _, _, 0, _ => wrs_nil
  | [], _, n + 1, h => by rw [wrs_nil_iff] at h; subst h; exact wrs_nil
  | d :: ds, vs, n + 1, h => by
    obtain ⟨v, r, ev, h1, h2⟩ := wrs_cons_iff.mp h
    subst ev
    exact wrs_cons h1 (WRs.take n h2)
theorem WRs.drop : ∀ {ds : List PyData} {vs : List V} (n : Nat), WRs H ds vs → WRs H (ds.drop n) (vs.drop n)
  | _, _, 0, h => h
  | [], _, n + 1, h => by rw [wrs_nil_iff] at h; subst h; exact wrs_nil
  | d :: ds, vs, n + 1, h => by
    obtain ⟨v, r, ev, h1, h2⟩ := wrs_cons_iff.mp h
    subst ev
    exact WRs.drop n h2
theorem WRs.set : ∀ {ds : List PyData} {vs : List V} (n : Nat), WRs H ds vs → WR H d v → WRs H (ds.set n d) (vs.set n v)
  | [], _, n, h, _ => by rw [wrs_nil_iff] at h; subst h; cases n <;> exact wrs_nil
  | d' :: ds, vs, 0, h, g => by
    obtain ⟨v, r, ev, h1, h2⟩ := wrs_cons_iff.mp h
    subst ev
    exact wrs_cons g h2
  | d' :: ds, vs, n + 1, h, g => by
    obtain ⟨v, r, ev, h1, h2⟩ := wrs_cons_iff.mp h
    subst ev
    exact wrs_cons h1 (WRs.set n h2 g)
theorem WRs.erase : ∀ {ds : List PyData} {vs : List V} (n : Nat), WRs H ds vs → WRs H (ds.eraseIdx n) (vs.eraseIdx n)
  | [], _, n, h => by rw [wrs_nil_iff] at h; subst h; exact wrs_nil
  | d' :: ds, vs, 0, h => by
    obtain ⟨v, r, ev, h1, h2⟩ := wrs_cons_iff.mp h
    subst ev
    exact h2
  | d' :: ds, vs, n + 1, h => by
    obtain ⟨v, r, ev, h1, h2⟩ := wrs_cons_iff.mp h
    subst ev
    exact wrs_cons h1 (WRs.erase n h2)
theorem WRs.insertIdx : ∀ {ds : List PyData} {vs : List V} (n : Nat), WRs H ds vs → WR H d v → WRs H (ds.insertIdx n d) (vs.insertIdx n v)
  | _, _, 0, h, g => by simpa using wrs_cons g h
  | [], _, n + 1, h, g => by rw [wrs_nil_iff] at h; subst h; simpa using wrs_nil
  | d' :: ds, vs, n + 1, h, g => by
    obtain ⟨v', r, ev, h1, h2⟩ := wrs_cons_iff.mp h
    subst ev
    simpa using wrs_cons h1 (WRs.insertIdx n h2 g)
theorem wrs_ints : ∀ (ys : List Int), WRs H (ys.map .int) (ys.map V.int)
  | [] => wrs_nil
  | y :: ys => wrs_cons wr_int (wrs_ints ys)
theorem wrs_strs : ∀ (ys : List Str), WRs H (ys.map .str) (ys.map V.str)
  | [] => wrs_nil
  | y :: ys => wrs_cons wr_str (wrs_strs ys)
theorem wrs_ints_iff : ∀ {ys : List Int} {vs : List V}, WRs H (ys.map .int) vs → vs = ys.map V.int
  | [], _, h => wrs_nil_iff.mp h
  | y :: ys, _, h => by
    obtain ⟨v, r, rfl, h1, h2⟩ := wrs_cons_iff.mp h
    rw [wr_int_iff.mp h1, wrs_ints_iff h2]; rfl
theorem wrs_strs_iff : ∀ {ys : List Str} {vs : List V}, WRs H (ys.map .str) vs → vs = ys.map V.str
  | [], _, h => wrs_nil_iff.mp h
  | y :: ys, _, h => by
    obtain ⟨v, r, rfl, h1, h2⟩ := wrs_cons_iff.mp h
    rw [wr_str_iff.mp h1, wrs_strs_iff h2]; rfl
/-! data without names -/
mutual
def nn : PyData → Bool
  | .tuple ds => nns ds
  | .list _ => false
  | .dict _ => false
  | _ => true
def nns : List PyData → Bool
  | [] => true
  | d :: ds => nn d && nns ds
end
mutual
theorem WR.rep : ∀ {d : PyData} {v : V}, WR H d v → nn d = true → Rep K H d v
  | .none, _, h, _ => by unfold WR at h; unfold Rep; exact h
  | .bool _, _, h, _ => by unfold WR at h; unfold Rep; exact h
  | .int _, _, h, _ => by unfold WR at h; unfold Rep; exact h
  | .str _, _, h, _ => by unfold WR at h; unfold Rep; exact h
  | .tuple ds, v, h, n => by
    obtain ⟨a, vs, e, q, r⟩ := wr_tup_iff.mp h
    subst e
    exact rep_tup q (WRs.reps r (by simpa [nn] using n))
  | .list _, _, _, n => by simp [nn] at n
  | .dict _, _, _, n => by simp [nn] at n
theorem WRs.reps : ∀ {ds : List PyData} {vs : List V}, WRs H ds vs → nns ds = true → Reps K H ds vs
  | [], _, h, _ => by rw [wrs_nil_iff] at h; subst h; exact reps_nil
  | d :: ds, vs, h, n => by
    obtain ⟨v, r, e, h1, h2⟩ := wrs_cons_iff.mp h
    subst e
    simp only [nns, Bool.and_eq_true] at n
    exact reps_cons (WR.rep h1 n.1) (WRs.reps h2 n.2)
end
mutual
theorem Rep.wr : ∀ {d : PyData} {v : V}, Rep K H d v → WR H d v
  | .none, _, h => by unfold Rep at h; unfold WR; exact h
  | .bool _, _, h => by unfold Rep at h; unfold WR; exact h
  | .int _, _, h => by unfold Rep at h; unfold WR; exact h
  | .str _, _, h => by unfold Rep at h; unfold WR; exact h
  | .tuple ds, v, h => by
    obtain ⟨a, vs, e, q, r⟩ := Rep.tup_iff.mp h
    exact wr_tup_iff.mpr ⟨a, vs, e, q, Reps.wrs r⟩
  | .list _, _, h => by unfold Rep at h; exact h.elim
  | .dict _, _, h => by unfold Rep at h; exact h.elim
theorem Reps.wrs : ∀ {ds : List PyData} {vs : List V}, Reps K H ds vs → WRs H ds vs
  | [], _, h => by unfold Reps at h; subst h; exact wrs_nil
  | d :: ds, vs, h => by
    obtain ⟨v, r, e, h1, h2⟩ := Reps.cons_iff.mp h
    subst e
    exact wrs_cons (Rep.wr h1) (Reps.wrs h2)
end
mutual
theorem nn_pl : ∀ {d : PyData}, pl d = true → nn d = true
  | .none, _ => rfl
  | .int _, _ => rfl
  | .str _, _ => rfl
  | .tuple ds, h => by
    simp only [pl] at h
    simp only [nn]
    exact nns_pls h
  | .bool _, h => by simp [pl] at h
  | .list _, h => by simp [pl] at h
  | .dict _, h => by simp [pl] at h
theorem nns_pls : ∀ {ds : List PyData}, pls ds = true → nns ds = true
  | [], _ => rfl
  | d :: ds, h => by
    simp only [pls, Bool.and_eq_true] at h
    simp only [nns, nn_pl h.1, nns_pls h.2, Bool.and_self]
end
theorem nns_all : ∀ {ds : List PyData}, nns ds = true ↔ ∀ d ∈ ds, nn d = true
  | [] => by simp [nns]
  | d :: ds => by simp [nns, nns_all (ds := ds)]
end
/-! ### memory -/
/-- a mutable thing: where it stands, what is true of it -/
structure Res where
  ft : List Addr
  ok : Hp → Prop
  loc : ∀ H H' l, AN.Fr l H H' → (∀ x ∈ ft, x ∉ l) → ok H → ok H'
  at' : ∀ H, ok H → ∀ x ∈ ft, H x ≠ none
def emp : Res := ⟨[], fun _ => True, fun _ _ _ _ _ _ => trivial, fun _ _ _ h => by cases h⟩
abbrev Mem := List Res
structure MemOk (H : Hp) (M : Mem) : Prop where
  ok : ∀ r ∈ M, r.ok H
  dj : M.Pairwise fun r q => ∀ x ∈ r.ft, x ∉ q.ft
/-- what a def found: its heap, the places of what it was given -/
structure Bs where
  K : PySem.W.Frag
  H0 : Hp
  l0 : List Addr
structure Sm (B : Bs) (M : Mem) (H : Hp) : Prop where
  ok : MemOk H M
  fr : AN.Fr B.l0 B.H0 H
  own : ∀ r ∈ M, ∀ x ∈ r.ft, x ∈ B.l0 ∨ B.H0 x = none
section
variable {B : Bs} {M N R : Mem} {H H' H1 : Hp} {r q r' : Res} {a p : Addr} {o : HO} {l : List Addr}
theorem MemOk.perm (h : MemOk H M) (e : M.Perm N) : MemOk H N := ⟨fun r m => h.ok r (e.symm.subset m), (e.pairwise_iff (fun {x y} h z hz hx => h z hx hz)).mp h.dj⟩
theorem Sm.perm (h : Sm B M H) (e : M.Perm N) : Sm B N H := ⟨h.ok.perm e, h.fr, fun r m => h.own r (e.symm.subset m)⟩
theorem Sm.tail (h : Sm B (r :: M) H) : Sm B M H := ⟨⟨fun q m => h.ok.ok q (List.mem_cons_of_mem _ m), (List.pairwise_cons.mp h.ok.dj).2⟩, h.fr, fun q m => h.own q (List.mem_cons_of_mem _ m)⟩
theorem Sm.sub (h : Sm B M H) (e : N.Sublist M) : Sm B N H := ⟨⟨fun q m => h.ok.ok q (e.subset m), h.ok.dj.sublist e⟩, h.fr, fun q m => h.own q (e.subset m)⟩
theorem Sm.emp (h : Sm B M H) : Sm B (AN.emp :: M) H := by
  refine ⟨⟨fun q m => ?_, List.pairwise_cons.mpr ⟨fun _ _ _ z => (by cases z), h.ok.dj⟩⟩, h.fr, fun q m => ?_⟩
  · rcases List.mem_cons.mp m with rfl | m
    · exact trivial
    · exact h.ok.ok q m
  · rcases List.mem_cons.mp m with rfl | m
    · intro x hx; cases hx
    · exact h.own q m
theorem Sm.out (h : Sm B M H) (m : r ∈ M) (hx : a ∈ r.ft) : H a ≠ none := r.at' H (h.ok.ok r m) a hx
/-- what stands at the head is changed -/
theorem Sm.head (h : Sm B (r :: M) H) (f : AN.Fr r.ft H H') (k : r'.ok H') (hf : ∀ x ∈ r'.ft, x ∈ r.ft ∨ H x = none) : Sm B (r' :: M) H' := by
  have hp := List.pairwise_cons.mp h.ok.dj
  have hdis : ∀ q ∈ M, ∀ x ∈ q.ft, x ∉ r.ft := fun q m x hx hr => hp.1 q m x hr hx
  refine ⟨⟨fun q m => ?_, List.pairwise_cons.mpr ⟨fun q m x hx hq => ?_, hp.2⟩⟩, ?_, fun q m x hx => ?_⟩
  · rcases List.mem_cons.mp m with rfl | m
    · exact k
    · exact q.loc H H' _ f (hdis q m) (h.ok.ok q (List.mem_cons_of_mem _ m))
  · rcases hf x hx with e | e
    · exact hp.1 q m x e hq
    · exact q.at' H (h.ok.ok q (List.mem_cons_of_mem _ m)) x hq e
  · exact h.fr.trans f fun b hb => by
      rcases h.own r (List.mem_cons_self ..) b hb with e | e
      · exact .inl e
      · exact .inr e
  · have old : ∀ y, H y = none → y ∈ B.l0 ∨ B.H0 y = none := fun y e => by
      by_cases z : y ∈ B.l0
      · exact .inl z
      · exact .inr (h.fr.free e z)
    rcases List.mem_cons.mp m with rfl | m
    · rcases hf x hx with e | e
      · exact h.own r (List.mem_cons_self ..) x e
      · exact old x e
    · exact h.own q (List.mem_cons_of_mem _ m) x hx
/-- a new one -/
theorem Sm.new (h : Sm B M H) (f : AN.Fr [] H H') (k : r'.ok H') (hf : ∀ x ∈ r'.ft, H x = none) : Sm B (r' :: M) H' :=
  (h.emp).head (r := AN.emp) f k fun x hx => .inr (hf x hx)
theorem Sm.keep (h : Sm B M H) (f : AN.Fr [] H H') : Sm B M H' := ((h.emp).head (r := AN.emp) (r' := AN.emp) f trivial fun x hx => by cases hx).tail
theorem perm_take {α : Type _} : ∀ {M : List α} {i : Nat} {r : α}, M[i]? = some r → M.Perm (r :: M.eraseIdx i)
  | [], i, r, e => by simp at e
  | x :: M, 0, r, e => by simp at e; subst e; exact .refl _
  | x :: M, i + 1, r, e => by
    rw [List.eraseIdx_cons_succ]
    exact ((perm_take (M := M) (i := i) (by simpa using e)).cons x).trans (.swap _ _ _)
theorem perm_set {α : Type _} : ∀ {M : List α} {i : Nat} {r q : α}, M[i]? = some r → (M.set i q).Perm (q :: M.eraseIdx i)
  | [], i, r, q, e => by simp at e
  | x :: M, 0, r, q, e => by exact .refl _
  | x :: M, i + 1, r, q, e => by
    rw [List.eraseIdx_cons_succ, List.set_cons_succ]
    exact ((perm_set (M := M) (i := i) (q := q) (by simpa using e)).cons x).trans (.swap _ _ _)
/-- what stands at i is changed -/
theorem Sm.set {i : Nat} (h : Sm B M H) (e : M[i]? = some r) (f : AN.Fr r.ft H H') (k : r'.ok H') (hf : ∀ x ∈ r'.ft, x ∈ r.ft ∨ H x = none) : Sm B (M.set i r') H' :=
  ((h.perm (perm_take e)).head f k hf).perm (perm_set e).symm
theorem Sm.at (h : Sm B M H) {i : Nat} (e : M[i]? = some r) : r.ok H := h.ok.ok r (List.mem_of_getElem? e)
/-- some taken out -/
def Pks : Mem → List Nat → Mem → Prop
  | _, [], rs => rs = []
  | M, i :: is, rs => ∃ r q, rs = r :: q ∧ M[i]? = some r ∧ Pks (M.set i emp) is q
def pks : Mem → List Nat → Mem
  | M, [] => M
  | M, i :: is => pks (M.set i emp) is
def puts : Mem → List Nat → Mem → Mem
  | N, [], new => new ++ N
  | N, i :: is, r :: rs => puts (N.set i r) is rs
  | N, _ :: _, [] => N
theorem Sm.pks : ∀ {is : List Nat} {M rs pre : Mem}, Sm B (pre ++ M) H → Pks M is rs → Sm B (pre ++ rs ++ AN.pks M is) H
  | [], M, rs, pre, h, e => by
    unfold Pks at e
    subst e
    simpa [AN.pks] using h
  | i :: is, M, rs, pre, h, e => by
    unfold Pks at e
    obtain ⟨r, q, rfl, e1, e2⟩ := e
    have p1 : (pre ++ M).Perm (pre ++ (r :: M.eraseIdx i)) := (perm_take e1).append_left pre
    have p2 : (AN.emp :: (pre ++ (r :: M.eraseIdx i))).Perm ((pre ++ [r]) ++ (AN.emp :: M.eraseIdx i)) := by
      have : (pre ++ (r :: M.eraseIdx i)) = (pre ++ [r]) ++ M.eraseIdx i := by simp
      rw [this]
      exact List.perm_middle.symm
    have p3 : ((pre ++ [r]) ++ (AN.emp :: M.eraseIdx i)).Perm ((pre ++ [r]) ++ M.set i AN.emp) := (perm_set e1).symm.append_left _
    have h1 : Sm B ((pre ++ [r]) ++ M.set i AN.emp) H := (((h.perm p1).emp).perm p2).perm p3
    have := Sm.pks h1 e2
    simpa [AN.pks] using this
theorem perm_put : ∀ {N : Mem} {i : Nat} (r : Res), N[i]? = some AN.emp → (AN.emp :: N.set i r).Perm (r :: N) := fun {N i} r e =>
  ((perm_set e).cons AN.emp).trans ((List.Perm.swap _ _ _).trans (((perm_take e).symm).cons r))
theorem Pks.emp : ∀ {is : List Nat} {M rs : Mem} {j : Nat}, Pks M is rs → M[j]? = some AN.emp → (AN.pks M is)[j]? = some AN.emp
  | [], _, _, _, _, e => e
  | i :: is, M, rs, j, h, e => by
    unfold Pks at h
    obtain ⟨r, q, rfl, e1, e2⟩ := h
    unfold AN.pks
    refine Pks.emp e2 ?_
    rw [List.getElem?_set]
    by_cases z : i = j
    · subst z
      simp [(List.getElem?_eq_some_iff.mp e).1]
    · rw [if_neg z]; exact e
theorem Sm.puts : ∀ {is : List Nat} {N rs : Mem}, Sm B (rs ++ N) H → (∀ i ∈ is, N[i]? = some AN.emp) → is.Nodup → Sm B (AN.puts N is rs) H
  | [], N, rs, h, _, _ => by simpa [AN.puts] using h
  | i :: is, N, [], h, _, _ => by simpa [AN.puts] using h
  | i :: is, N, r :: rs, h, e, nd => by
    rw [List.nodup_cons] at nd
    have e1 := e i (List.mem_cons_self ..)
    unfold AN.puts
    refine Sm.puts (is := is) ?_ (fun j hj => ?_) nd.2
    · have p1 : (r :: rs ++ N).Perm (rs ++ (r :: N)) := List.perm_middle.symm
      have p2 : (rs ++ (r :: N)).Perm (rs ++ (AN.emp :: N.set i r)) := (perm_put r e1).symm.append_left rs
      have p3 : (rs ++ (AN.emp :: N.set i r)).Perm (AN.emp :: (rs ++ N.set i r)) := List.perm_middle
      exact ((((h.perm p1).perm p2).perm p3)).tail
    · rw [List.getElem?_set, if_neg (fun z => nd.1 (by rw [z]; exact hj))]
      exact e j (List.mem_cons_of_mem _ hj)
theorem Pks.emps : ∀ {is : List Nat} {M rs : Mem}, Pks M is rs → ∀ i ∈ is, (AN.pks M is)[i]? = some AN.emp
  | [], _, _, _, i, h => by cases h
  | i :: is, M, rs, h, j, hj => by
    unfold Pks at h
    obtain ⟨r, q, rfl, e1, e2⟩ := h
    unfold AN.pks
    rcases List.mem_cons.mp hj with rfl | hj
    · exact Pks.emp e2 (by rw [List.getElem?_set]; simp [(List.getElem?_eq_some_iff.mp e1).1])
    · exact Pks.emps e2 j hj
end
end AN

/-! AN: readings over values and memory. -/
namespace AN
open PySem PySem.Spec PyProof.Rows L2
abbrev W := PyData
abbrev Ev := List (Option PyData)
structure EnvR (H : Hp) (env : Ev) (σ : L2.St) : Prop where
  len : env.length = σ.length
  get : ∀ (i : Nat) (w : W), env[i]? = some (some w) → ∃ v, σ[i]? = some (some v) ∧ WR H w v
/-- fewer names known -/
structure EvLe (env pat : Ev) : Prop where
  len : pat.length = env.length
  get : ∀ (i : Nat) (w : W), pat[i]? = some (some w) → env[i]? = some (some w)
def wipeE (env : Ev) : List Nat → Ev
  | [] => env
  | v :: vs => (wipeE env vs).set v none
section
variable {B : Bs} {M : Mem} {H H' H1 : Hp} {env pat env' : Ev} {σ : L2.St} {w x y : W} {v : V}
theorem EnvR.up (e : EnvR H env σ) (u : Up H H') : EnvR H' env σ := ⟨e.len, fun i w h => let ⟨v, e1, e2⟩ := e.get i w h; ⟨v, e1, e2.up u⟩⟩
theorem EnvR.le (e : EnvR H env σ) (h : EvLe env pat) : EnvR H pat σ := ⟨h.len.trans e.len, fun i w q => e.get i w (h.get i w q)⟩
theorem EnvR.set (e : EnvR H env σ) (i : Nat) (r : WR H w v) : EnvR H (env.set i (some w)) (σ.set i (some v)) := by
  refine ⟨by rw [List.length_set, List.length_set, e.len], fun j u h => ?_⟩
  rw [List.getElem?_set] at h ⊢
  by_cases z : i = j
  · subst z
    rw [if_pos rfl] at h ⊢
    split at h
    · rename_i hl
      rw [if_pos (by rw [← e.len]; exact hl)]
      simp only [Option.some.injEq] at h
      subst h
      exact ⟨v, rfl, r⟩
    · cases h
  · rw [if_neg z] at h ⊢
    exact e.get j u h
theorem EnvR.unset (e : EnvR H env σ) (i : Nat) (o : Option V) : EnvR H (env.set i none) (σ.set i o) := by
  refine ⟨by rw [List.length_set, List.length_set, e.len], fun j u h => ?_⟩
  rw [List.getElem?_set] at h ⊢
  by_cases z : i = j
  · subst z
    rw [if_pos rfl] at h
    split at h <;> cases h
  · rw [if_neg z] at h ⊢
    exact e.get j u h
theorem EnvR.wipe (e : EnvR H env σ) : ∀ vs : List Nat, EnvR H (wipeE env vs) (L2.wipe σ vs)
  | [] => e
  | v :: vs => (EnvR.wipe e vs).unset v none
theorem EvLe.refl (env : Ev) : EvLe env env := ⟨rfl, fun _ _ h => h⟩
theorem ev_nil : EvLe [] [] := .refl _
theorem ev_cons (x : Option W) (h : EvLe env pat) : EvLe (x :: env) (x :: pat) := ⟨by simp [h.len], fun i w q => by
  cases i with
  | zero => exact q
  | succ i => simpa using h.get i w (by simpa using q)⟩
theorem ev_none (x : Option W) (h : EvLe env pat) : EvLe (x :: env) (none :: pat) := ⟨by simp [h.len], fun i w q => by
  cases i with
  | zero => simp at q
  | succ i => simpa using h.get i w (by simpa using q)⟩
end
/-! ### what is wanted -/
def Kx (B : Bs) (Q : VK) (P : W → Mem → Prop) (H : Hp) : Prop := ∀ v H' w M', Sm B M' H' → Up H H' → WR H' w v → P w M' → Q v H'
def Kb (B : Bs) (Q : Bool → Hp → Prop) (P : Bool → Mem → Prop) (H : Hp) : Prop := ∀ b H' M', Sm B M' H' → Up H H' → P b M' → Q b H'
def Ka (B : Bs) (Q : List V → Hp → Prop) (P : List W → Mem → Prop) (H : Hp) : Prop := ∀ vs H' ws M', Sm B M' H' → Up H H' → WRs H' ws vs → P ws M' → Q vs H'
def Kn (B : Bs) (q : Hp → Prop) (P : Mem → Prop) (H : Hp) : Prop := ∀ H' M', Sm B M' H' → Up H H' → P M' → q H'
def Ks (B : Bs) (q : L2.St → Hp → Prop) (P : Ev → Mem → Prop) (H : Hp) : Prop := ∀ σ' H' env' M', EnvR H' env' σ' → Sm B M' H' → Up H H' → P env' M' → q σ' H'
section
variable {B : Bs} {H H' : Hp}
theorem Kx.up {Q : VK} {P : W → Mem → Prop} (k : Kx B Q P H) (u : Up H H') : Kx B Q P H' := fun v H2 w M' s u' r p => k v H2 w M' s (u.trans u') r p
theorem Kb.up {Q : Bool → Hp → Prop} {P : Bool → Mem → Prop} (k : Kb B Q P H) (u : Up H H') : Kb B Q P H' := fun v H2 M' s u' p => k v H2 M' s (u.trans u') p
theorem Ka.up {Q : List V → Hp → Prop} {P : List W → Mem → Prop} (k : Ka B Q P H) (u : Up H H') : Ka B Q P H' := fun v H2 w M' s u' r p => k v H2 w M' s (u.trans u') r p
theorem Kn.up {q : Hp → Prop} {P : Mem → Prop} (k : Kn B q P H) (u : Up H H') : Kn B q P H' := fun H2 M' s u' p => k H2 M' s (u.trans u') p
theorem Ks.up {q : L2.St → Hp → Prop} {P : Ev → Mem → Prop} (k : Ks B q P H) (u : Up H H') : Ks B q P H' := fun σ' H2 e' M' e s u' p => k σ' H2 e' M' e s (u.trans u') p
end
def LE (B : Bs) (te : TE) (env : Ev) (M : Mem) (P : W → Mem → Prop) : Prop := ∀ σ H Q, EnvR H env σ → Sm B M H → Kx B Q P H → te σ H Q
def LT (B : Bs) (tt : TT) (env : Ev) (M : Mem) (P : Bool → Mem → Prop) : Prop := ∀ σ H Q, EnvR H env σ → Sm B M H → Kb B Q P H → tt σ H Q
def LA (B : Bs) (ta : TA) (env : Ev) (M : Mem) (P : List W → Mem → Prop) : Prop := ∀ σ H Q, EnvR H env σ → Sm B M H → Ka B Q P H → ta σ H Q
def LR2 (B : Bs) (R : R2) (x y : W) (M : Mem) (P : W → Mem → Prop) : Prop := ∀ vx vy H Q, Sm B M H → WR H x vx → WR H y vy → Kx B Q P H → R vx vy H Q
def LR1 (B : Bs) (R : V → Hp → VK → Prop) (x : W) (M : Mem) (P : W → Mem → Prop) : Prop := ∀ vx H Q, Sm B M H → WR H x vx → Kx B Q P H → R vx H Q
def LCB (B : Bs) (R : List V → Hp → VK → Prop) (ws : List W) (M : Mem) (P : W → Mem → Prop) : Prop := ∀ vs H Q, Sm B M H → WRs H ws vs → Kx B Q P H → R vs H Q
def LMt (B : Bs) (K : PySem.W.Frag) (T : String) (R : V → List V → Hp → VK → Prop) (x : W) (ws : List W) (M : Mem) (P : W → Mem → Prop) : Prop := ∀ vx vs H Q, Sm B M H → WR H x vx → WRs H ws vs → Kx B Q P H → R vx vs H Q
/-- the thing's type -/
def LTy (B : Bs) (K : PySem.W.Frag) (T : String) (x : W) (M : Mem) : Prop := ∀ vx H, Sm B M H → WR H x vx → tyV K T vx H
def LSl (B : Bs) (R : V → Option Int → Option Int → Hp → VK → Prop) (x : W) (lo hi : Option Int) (M : Mem) (P : W → Mem → Prop) : Prop := ∀ vx H Q, Sm B M H → WR H x vx → Kx B Q P H → R vx lo hi H Q
def LSet (B : Bs) (R : TSet) (o i x : W) (M : Mem) (P : Mem → Prop) : Prop := ∀ vo vi vx H q, Sm B M H → WR H o vo → WR H i vi → WR H x vx → Kn B q P H → R vo vi vx H q
def LG (B : Bs) (g : TG) (x : W) (env : Ev) (M : Mem) (P : Ev → Mem → Prop) : Prop := ∀ v σ H q, EnvR H env σ → Sm B M H → WR H x v → Ks B q P H → g v σ H q
def LGs (B : Bs) (g : TGs) (xs : List W) (env : Ev) (M : Mem) (P : Ev → Mem → Prop) : Prop := ∀ vs σ H q, EnvR H env σ → Sm B M H → WRs H xs vs → Ks B q P H → g vs σ H q
def LO (B : Bs) (t : TO) (env : Ev) (M : Mem) (P : Option Int → Mem → Prop) : Prop := ∀ σ H (Q : Option Int → Hp → Prop), EnvR H env σ → Sm B M H → (∀ j H' M', Sm B M' H' → Up H H' → P j M' → Q j H') → t σ H Q
structure LD where
  nx : Ev → Mem → Prop
  rt : W → Mem → Prop
  bk : Ev → Mem → Prop
  ct : Ev → Mem → Prop
structure Kd (B : Bs) (D : Ends) (L : LD) (H : Hp) : Prop where
  nx : Ks B D.nx L.nx H
  rt : Kx B D.rt L.rt H
  bk : Ks B D.bk L.bk H
  ct : Ks B D.ct L.ct H
theorem Kd.up {B : Bs} {D : Ends} {L : LD} {H H' : Hp} (k : Kd B D L H) (u : Up H H') : Kd B D L H' := ⟨k.nx.up u, k.rt.up u, k.bk.up u, k.ct.up u⟩
def LS (B : Bs) (t : TS) (L : LD) (env : Ev) (M : Mem) : Prop := ∀ σ H D, EnvR H env σ → Sm B M H → Kd B D L H → t D σ H
/-! ### combinators -/
section
variable {B : Bs} {K : PySem.W.Frag} {env pat : Ev} {M N : Mem} {P : W → Mem → Prop} {PB : Bool → Mem → Prop} {PA : List W → Mem → Prop} {te ta tb tc : TE} {tt tu : TT} {t u : TS} {g : TG} {i : Nat} {w x y z : W} {n b c : Ev → Mem → Prop} {r : W → Mem → Prop} {L : LD}
theorem l_var (e : env[i]? = some (some w)) (h : P w M) : LE B (tVar i) env M P := fun σ H Q ev s k => let ⟨v, e1, e2⟩ := ev.get i w e; ⟨v, e1, k v H w M s (Up.refl _) e2 h⟩
theorem l_cI {j : Int} (h : P (.int j) M) : LE B (tC (.int j)) env M P := fun σ H Q ev s k => k _ H _ M s (Up.refl _) wr_int h
theorem l_cS {j : Str} (h : P (.str j) M) : LE B (tC (.str j)) env M P := fun σ H Q ev s k => k _ H _ M s (Up.refl _) wr_str h
theorem l_cB {j : Bool} (h : P (.bool j) M) : LE B (tC (.bl j)) env M P := fun σ H Q ev s k => k _ H _ M s (Up.refl _) wr_bl h
theorem l_cN (h : P .none M) : LE B (tC .non) env M P := fun σ H Q ev s k => k _ H _ M s (Up.refl _) wr_non h
theorem l_cT {T : String} (h : P (tyw T) M) : LE B (tC (.ty T)) env M P := fun σ H Q ev s k => k _ H _ M s (Up.refl _) wr_tyw h
theorem l_cR {a : Addr} (h : P (rf a) M) : LE B (tC (.ref a)) env M P := fun σ H Q ev s k => k _ H _ M s (Up.refl _) wr_rf h
theorem l_seq (h : LS B t ⟨LS B u ⟨n, r, b, c⟩, r, b, c⟩ env M) : LS B (tSeq t u) ⟨n, r, b, c⟩ env M := fun σ H D e s k =>
  h σ H _ e s ⟨fun σ' H' env' M' e' s' u' p => p σ' H' D e' s' (k.up u'), k.rt, k.bk, k.ct⟩
theorem l_next (h : n env M) : LS B tNext ⟨n, r, b, c⟩ env M := fun σ H D e s k => k.nx σ H env M e s (Up.refl _) h
theorem l_break (h : b env M) : LS B tBreak ⟨n, r, b, c⟩ env M := fun σ H D e s k => k.bk σ H env M e s (Up.refl _) h
theorem l_cont (h : c env M) : LS B tCont ⟨n, r, b, c⟩ env M := fun σ H D e s k => k.ct σ H env M e s (Up.refl _) h
theorem l_asg (h : LE B te env M fun x M1 => LG B g x env M1 n) : LS B (tAsg te g) ⟨n, r, b, c⟩ env M := fun σ H D e s k =>
  h σ H _ e s fun v H1 w M1 s1 u1 r1 p1 => p1 v σ H1 _ (e.up u1) s1 r1 (k.nx.up u1)
theorem l_name {q : Ev → Mem → Prop} (h : q (env.set i (some x)) M) : LG B (gName i) x env M q := fun v σ H Q e s rv k => k _ H _ M (e.set i rv) s (Up.refl _) h
theorem l_op {R : R2} (h : LE B ta env M fun x M1 => LE B tb env M1 fun y M2 => LR2 B R x y M2 P) : LE B (tOp R ta tb) env M P := fun σ H Q e s k =>
  h σ H _ e s fun v H1 x M1 s1 u1 r1 p1 => p1 σ H1 _ (e.up u1) s1 fun v2 H2 y M2 s2 u2 r2 p2 => p2 _ _ H2 Q s2 (r1.up u2) r2 (k.up (u1.trans u2))
theorem l_un {R : V → Hp → VK → Prop} (h : LE B ta env M fun x M1 => LR1 B R x M1 P) : LE B (tUn R ta) env M P := fun σ H Q e s k =>
  h σ H _ e s fun v H1 x M1 s1 u1 r1 p1 => p1 _ H1 Q s1 r1 (k.up u1)
theorem l_nil (h : PA [] M) : LA B tNil env M PA := fun σ H Q e s k => k [] H [] M s (Up.refl _) wrs_nil h
theorem l_cons {ts : TA} (h : LE B te env M fun x M1 => LA B ts env M1 fun xs M2 => PA (x :: xs) M2) : LA B (tCons te ts) env M PA := fun σ H Q e s k =>
  h σ H _ e s fun v H1 x M1 s1 u1 r1 p1 => p1 σ H1 _ (e.up u1) s1 fun vs H2 xs M2 s2 u2 r2 p2 => k _ H2 _ M2 s2 (u1.trans u2) (wrs_cons (r1.up u2) r2) p2
theorem l_ret (h : LE B te env M r) : LS B (tRet te) ⟨n, r, b, c⟩ env M := fun σ H D e s k => h σ H _ e s k.rt
theorem l_retN (h : r .none M) : LS B tRetN ⟨n, r, b, c⟩ env M := fun σ H D e s k => k.rt .non H .none M s (Up.refl _) wr_non h
theorem l_ifs (h : LT B tt env M fun k M1 => if k = true then LS B t ⟨n, r, b, c⟩ env M1 else LS B u ⟨n, r, b, c⟩ env M1) : LS B (tIfS tt t u) ⟨n, r, b, c⟩ env M := fun σ H D e s k =>
  h σ H _ e s fun q H1 M1 s1 u1 p1 => by
    cases q with
    | true => exact p1 σ H1 D (e.up u1) s1 (k.up u1)
    | false => exact p1 σ H1 D (e.up u1) s1 (k.up u1)
theorem l_test (h : LE B te env M fun x M' => ∃ k, x = .bool k ∧ PB k M') : LT B (tTest te) env M PB := fun σ H Q e s k =>
  h σ H _ e s fun v H1 x M1 s1 u1 r1 p1 => by
    obtain ⟨q, rfl, p⟩ := p1
    exact ⟨q, wr_bl_iff.mp r1, k q H1 M1 s1 u1 p⟩
theorem l_b (h : LE B te env M fun x M' => ∃ k, x = .bool k ∧ PB k M') : LT B (tB te) env M PB := fun σ H Q e s k => l_test h σ H Q e s k
theorem l_drop (h : LE B te env M fun _ M1 => n env M1) : LS B (tDrop te) ⟨n, r, b, c⟩ env M := fun σ H D e s k =>
  h σ H _ e s fun v H1 x M1 s1 u1 r1 p1 => k.nx σ H1 env M1 (e.up u1) s1 u1 p1
theorem l_bl {k : Bool} {q : Bool → Prop} (h : q k) : ∃ k', PyData.bool k = .bool k' ∧ q k' := ⟨k, rfl, h⟩
theorem l_and (h : LT B tt env M fun k M1 => if k = true then LT B tu env M1 PB else PB false M1) : LT B (tAnd tt tu) env M PB := fun σ H Q e s k =>
  h σ H _ e s fun q H1 M1 s1 u1 p1 => by
    cases q with
    | true => exact p1 σ H1 Q (e.up u1) s1 (k.up u1)
    | false => exact k false H1 M1 s1 u1 p1
theorem l_or (h : LT B tt env M fun k M1 => if k = true then PB true M1 else LT B tu env M1 PB) : LT B (tOr tt tu) env M PB := fun σ H Q e s k =>
  h σ H _ e s fun q H1 M1 s1 u1 p1 => by
    cases q with
    | true => exact k true H1 M1 s1 u1 p1
    | false => exact p1 σ H1 Q (e.up u1) s1 (k.up u1)
theorem l_not (h : LT B tt env M fun k M1 => PB (!k) M1) : LT B (tNot tt) env M PB := fun σ H Q e s k => h σ H _ e s fun q H1 M1 s1 u1 p1 => k _ H1 M1 s1 u1 p1
theorem l_andV (h : LE B ta env M fun x M1 => ∃ k, x = .bool k ∧ if k = true then LE B tb env M1 P else P (.bool false) M1) : LE B (tAndV ta tb) env M P := fun σ H Q e s k =>
  h σ H _ e s fun v H1 x M1 s1 u1 r1 p1 => by
    obtain ⟨q, rfl, p⟩ := p1
    refine ⟨q, wr_bl_iff.mp r1, ?_⟩
    cases q with
    | true => exact p σ H1 Q (e.up u1) s1 (k.up u1)
    | false => exact k _ H1 _ M1 s1 u1 wr_bl p
theorem l_orV (h : LE B ta env M fun x M1 => ∃ k, x = .bool k ∧ if k = true then P (.bool true) M1 else LE B tb env M1 P) : LE B (tOrV ta tb) env M P := fun σ H Q e s k =>
  h σ H _ e s fun v H1 x M1 s1 u1 r1 p1 => by
    obtain ⟨q, rfl, p⟩ := p1
    refine ⟨q, wr_bl_iff.mp r1, ?_⟩
    cases q with
    | true => exact k _ H1 _ M1 s1 u1 wr_bl p
    | false => exact p σ H1 Q (e.up u1) s1 (k.up u1)
theorem l_if (h : LT B tt env M fun k M1 => if k = true then LE B ta env M1 P else LE B tb env M1 P) : LE B (tIf tt ta tb) env M P := fun σ H Q e s k =>
  h σ H _ e s fun q H1 M1 s1 u1 p1 => by
    cases q with
    | true => exact p1 σ H1 Q (e.up u1) s1 (k.up u1)
    | false => exact p1 σ H1 Q (e.up u1) s1 (k.up u1)
theorem l_chain {R R' : R2} (h : LE B ta env M fun x M1 => LE B tb env M1 fun y M2 => LR2 B R x y M2 fun z M3 => ∃ k, z = .bool k ∧ if k = true then LE B tc env M3 fun w M4 => LR2 B R' y w M4 P else P (.bool false) M3) : LE B (tChain R R' ta tb tc) env M P := fun σ H Q e s k =>
  h σ H _ e s fun v H1 x M1 s1 u1 r1 p1 => p1 σ H1 _ (e.up u1) s1 fun v2 H2 y M2 s2 u2 r2 p2 => p2 _ _ H2 _ s2 (r1.up u2) r2 fun v3 H3 z M3 s3 u3 r3 p3 => by
    obtain ⟨q, rfl, p⟩ := p3
    refine ⟨q, wr_bl_iff.mp r3, ?_⟩
    cases q with
    | true =>
      rw [if_pos rfl] at p
      rw [if_pos rfl]
      exact p σ H3 _ (e.up ((u1.trans u2).trans u3)) s3 fun v4 H4 w M4 s4 u4 r4 p4 => p4 _ _ H4 Q s4 (r2.up (u3.trans u4)) r4 (k.up (((u1.trans u2).trans u3).trans u4))
    | false => exact k _ H3 _ M3 s3 ((u1.trans u2).trans u3) wr_bl (by simpa using p)
theorem l_cb {R : List V → Hp → VK → Prop} {ts : TA} (h : LA B ts env M fun ws M1 => LCB B R ws M1 P) : LE B (tCB R ts) env M P := fun σ H Q e s k =>
  h σ H _ e s fun vs H1 ws M1 s1 u1 r1 p1 => p1 vs H1 Q s1 r1 (k.up u1)
theorem l_yes (h : PB true M) : LT B tYes env M PB := fun σ H Q e s k => k true H M s (Up.refl _) h
theorem l_bm {T : String} {R : V → List V → Hp → VK → Prop} {ts : TA} (h : LE B te env M fun x M1 => LTy B K T x M1 ∧ LA B ts env M1 fun xs M2 => LMt B K T R x xs M2 P) : LE B (tBM K T R te ts) env M P := fun σ H Q e s k =>
  h σ H _ e s fun v H1 x M1 s1 u1 r1 p1 => ⟨p1.1 v H1 s1 r1, p1.2 σ H1 _ (e.up u1) s1 fun vs H2 xs M2 s2 u2 r2 p2 => p2 v vs H2 Q s2 (r1.up u2) r2 (k.up (u1.trans u2))⟩
theorem l_bm0 {T : String} {R : V → List V → Hp → VK → Prop} (h : LE B te env M fun x M1 => LTy B K T x M1 ∧ LMt B K T R x [] M1 P) : LE B (tBM0 K T R te) env M P := fun σ H Q e s k =>
  h σ H _ e s fun v H1 x M1 s1 u1 r1 p1 => ⟨p1.1 v H1 s1 r1, p1.2 v [] H1 Q s1 r1 wrs_nil (k.up u1)⟩
theorem l_sl {R : V → Option Int → Option Int → Hp → VK → Prop} {tl th : TO} (h : LE B te env M fun x M1 => LO B tl env M1 fun l M2 => LO B th env M2 fun u M3 => LSl B R x l u M3 P) : LE B (tSl R te tl th) env M P := fun σ H Q e s k =>
  h σ H _ e s fun v H1 x M1 s1 u1 r1 p1 => p1 σ H1 _ (e.up u1) s1 fun l H2 M2 s2 u2 p2 => p2 σ H2 _ (e.up (u1.trans u2)) s2 fun j H3 M3 s3 u3 p3 => p3 v H3 Q s3 (r1.up (u2.trans u3)) (k.up ((u1.trans u2).trans u3))
theorem l_nopart {q : Option Int → Mem → Prop} (h : q none M) : LO B tNoPart env M q := fun σ H Q e s k => k none H M s (Up.refl _) h
theorem l_part {q : Option Int → Mem → Prop} (h : LE B te env M fun x M1 => ∃ j, x = .int j ∧ q (some j) M1) : LO B (tPart te) env M q := fun σ H Q e s k =>
  h σ H _ e s fun v H1 x M1 s1 u1 r1 p1 => by
    obtain ⟨j, rfl, p⟩ := p1
    exact ⟨j, wr_int_iff.mp r1, k _ H1 M1 s1 u1 p⟩
theorem l_intx {j : Int} {q : Int → Prop} (h : q j) : ∃ k, PyData.int j = .int k ∧ q k := ⟨j, rfl, h⟩
end
end AN

/-! AN: the mutable things, the leaves, the loops. -/
namespace AN
open PySem PySem.Spec PyProof.Rows L2
/-! ### things -/
theorem ne_none_of {H : Hp} {a : Addr} {o : HO} (e : H a = some o) : ∀ x ∈ [a], H x ≠ none := fun x hx => by rw [List.mem_singleton.mp hx, e]; exact fun z => by cases z
/-- a list -/
def lstR (a : Addr) (ws : List W) : Res := ⟨[a], fun H => ∃ vs, H a = some (.lst vs) ∧ WRs H ws vs, fun H H' l f n ⟨vs, e, r⟩ => ⟨vs, f.keep _ _ e (n a (by simp)), r.up f.toUp⟩, fun H ⟨vs, e, r⟩ => ne_none_of e⟩
/-- a dict keyed by whole numbers and texts; the same while it is walked -/
def dkR (a : Addr) (rr : List (L2.Key × W)) : Res := ⟨[a], fun H => ∃ kvs, H a = some (.dK kvs) ∧ DR (id : L2.Key → L2.Key) (WR H) rr kvs, fun H H' l f n ⟨vs, e, r⟩ => ⟨vs, f.keep _ _ e (n a (by simp)), r.imp fun _ _ z => z.up f.toUp⟩, fun H ⟨vs, e, r⟩ => ne_none_of e⟩
def dkF (o : Obj) (a : Addr) (rr : List (L2.Key × W)) : Res := ⟨[a], fun H => ∃ kvs, H a = some (.frz o (.dK kvs)) ∧ DR (id : L2.Key → L2.Key) (WR H) rr kvs, fun H H' l f n ⟨vs, e, r⟩ => ⟨vs, f.keep _ _ e (n a (by simp)), r.imp fun _ _ z => z.up f.toUp⟩, fun H ⟨vs, e, r⟩ => ne_none_of e⟩
/-- a dict keyed by tuples of whole numbers and texts -/
def dtR (a : Addr) (rr : List (List L2.Key × W)) : Res := ⟨[a], fun H => ∃ kvs, H a = some (.dT kvs) ∧ DR (id : List L2.Key → List L2.Key) (WR H) rr kvs, fun H H' l f n ⟨vs, e, r⟩ => ⟨vs, f.keep _ _ e (n a (by simp)), r.imp fun _ _ z => z.up f.toUp⟩, fun H ⟨vs, e, r⟩ => ne_none_of e⟩
/-- the state of the draws -/
def drawR (a c : Addr) : Res := ⟨[a, c], fun H => DrawOk H a c, fun H H' l f n h => h.fr f (n a (by simp)) (n c (by simp)), fun H ⟨ns, p, f, s, e1, e2, _⟩ x hx => by
  rcases List.mem_cons.mp hx with rfl | hx
  · rw [e1]; exact fun z => by cases z
  · rw [List.mem_singleton.mp hx, e2]; exact fun z => by cases z⟩
/-- an instance of the class at C -/
def insR (C : Addr) (a : Addr) (fs : List (Str × W)) : Res := ⟨[a], fun H => ∃ dx gs, H a = some (.ins C dx gs) ∧ Paired (fun (p : Str × W) (q : Str × V) => q.1 = p.1 ∧ WR H p.2 q.2) fs gs, fun H H' l f n ⟨dx, gs, e, r⟩ => ⟨dx, gs, f.keep _ _ e (n a (by simp)), Paired.mapP r fun _ _ z => ⟨z.1, z.2.up f.toUp⟩⟩, fun H ⟨dx, gs, e, r⟩ => ne_none_of e⟩
/-- a dict keyed by nested tuples -/
def dnR (P : Program) (w : World) (K : PySem.W.Frag) {α : Type} (toD : α → PyData) (a : Addr) (rr : List (NestedKey × α)) : Res := ⟨[a], fun H => NW P w K H toD a rr, fun H H' l f n h => h.fr f (n a (by simp)), fun H ⟨xs, N, _⟩ => ne_none_of N.ob⟩
def isN : W → Bool
  | .none => true
  | _ => false
section
variable {B : Bs} {K : PySem.W.Frag} {env pat : Ev} {M N : Mem} {P : W → Mem → Prop} {PB : Bool → Mem → Prop} {PA : List W → Mem → Prop} {PM : Mem → Prop} {te ta tb tc : TE} {tt tu : TT} {t u : TS} {ts : TA} {g : TG} {i j m : Nat} {w x y z : W} {n b c : Ev → Mem → Prop} {r : W → Mem → Prop} {L : LD} {ws us ds es : List W} {a p l : Addr}
/-! ### making -/
def NewTW (ws : List W) (M : Mem) (P : W → Mem → Prop) : Prop := ws.length ≤ 1000 ∧ P (.tuple ws) M
def NewLW (ws : List W) (M : Mem) (P : W → Mem → Prop) : Prop := ws.length ≤ 1000 ∧ ∀ p, P (rf p) (lstR p ws :: M)
theorem newtw (h : ws.length ≤ 1000) (q : P (.tuple ws) M) : NewTW ws M P := ⟨h, q⟩
theorem newlw (h : ws.length ≤ 1000) (q : ∀ p, P (rf p) (lstR p ws :: M)) : NewLW ws M P := ⟨h, q⟩
theorem mem0 {r : Res} : (r :: M)[0]? = some r := rfl
theorem mem1 {r q0 : Res} : (q0 :: r :: M)[1]? = some r := rfl
theorem mem2 {r q0 q1 : Res} : (q0 :: q1 :: r :: M)[2]? = some r := rfl
theorem mem3 {r q0 q1 q2 : Res} : (q0 :: q1 :: q2 :: r :: M)[3]? = some r := rfl
theorem mem4 {r q0 q1 q2 q3 : Res} : (q0 :: q1 :: q2 :: q3 :: r :: M)[4]? = some r := rfl
theorem mem5 {r q0 q1 q2 q3 q4 : Res} : (q0 :: q1 :: q2 :: q3 :: q4 :: r :: M)[5]? = some r := rfl
theorem mem6 {r q0 q1 q2 q3 q4 q5 : Res} : (q0 :: q1 :: q2 :: q3 :: q4 :: q5 :: r :: M)[6]? = some r := rfl
theorem mem7 {r q0 q1 q2 q3 q4 q5 q6 : Res} : (q0 :: q1 :: q2 :: q3 :: q4 :: q5 :: q6 :: r :: M)[7]? = some r := rfl
theorem mem8 {r q0 q1 q2 q3 q4 q5 q6 q7 : Res} : (q0 :: q1 :: q2 :: q3 :: q4 :: q5 :: q6 :: q7 :: r :: M)[8]? = some r := rfl
theorem mem9 {r q0 q1 q2 q3 q4 q5 q6 q7 q8 : Res} : (q0 :: q1 :: q2 :: q3 :: q4 :: q5 :: q6 :: q7 :: q8 :: r :: M)[9]? = some r := rfl
theorem mem10 {r q0 q1 q2 q3 q4 q5 q6 q7 q8 q9 : Res} : (q0 :: q1 :: q2 :: q3 :: q4 :: q5 :: q6 :: q7 :: q8 :: q9 :: r :: M)[10]? = some r := rfl
theorem mem11 {r q0 q1 q2 q3 q4 q5 q6 q7 q8 q9 q10 : Res} : (q0 :: q1 :: q2 :: q3 :: q4 :: q5 :: q6 :: q7 :: q8 :: q9 :: q10 :: r :: M)[11]? = some r := rfl
theorem mem12 {r q0 q1 q2 q3 q4 q5 q6 q7 q8 q9 q10 q11 : Res} : (q0 :: q1 :: q2 :: q3 :: q4 :: q5 :: q6 :: q7 :: q8 :: q9 :: q10 :: q11 :: r :: M)[12]? = some r := rfl
theorem l_tup (h : LA B ts env M fun ws M1 => NewTW ws M1 P) : LE B (tTup ts) env M P := fun σ H Q e s k =>
  h σ H _ e s fun vs H1 ws M1 s1 u1 r1 p1 => ⟨by rw [r1.length]; exact Nat.le_of_lt (small1000 p1.1), fun q hq => k _ _ _ M1 (s1.keep (Fr.new hq)) (u1.trans (Fr.new hq : AN.Fr [] _ _).toUp) (wr_tup_iff.mpr ⟨q, vs, rfl, upd_same, r1.up (Fr.new hq : AN.Fr [] _ _).toUp⟩) p1.2⟩
theorem sm_lst {H : Hp} {vs : List V} (s : Sm B M H) (r : WRs H ws vs) {p : Addr} (hp : H p = none) : Sm B (lstR p ws :: M) (upd H p (.lst vs)) :=
  s.new (Fr.new hp) ⟨vs, upd_same, r.up (Fr.new hp : AN.Fr [] _ _).toUp⟩ fun x hx => by rw [List.mem_singleton.mp hx]; exact hp
theorem l_lst (h : LA B ts env M fun ws M1 => NewLW ws M1 P) : LE B (tLst ts) env M P := fun σ H Q e s k =>
  h σ H _ e s fun vs H1 ws M1 s1 u1 r1 p1 => ⟨by rw [r1.length]; exact Nat.le_of_lt (small1000 p1.1), fun q hq => k _ _ _ _ (sm_lst s1 r1 hq) (u1.trans (Fr.new hq : AN.Fr [] _ _).toUp) wr_rf (p1.2 q)⟩
theorem l_dnewK (h : ∀ p, P (rf p) (dkR p [] :: M)) : LE B tDNewK env M P := fun σ H Q e s k q hq =>
  k _ _ _ _ (s.new (r' := dkR q []) (Fr.new hq) ⟨[], upd_same, DR.nil⟩ fun x hx => by rw [List.mem_singleton.mp hx]; exact hq) (Fr.new hq : AN.Fr [] _ _).toUp wr_rf (h q)
theorem l_dnewT (h : ∀ p, P (rf p) (dtR p [] :: M)) : LE B tDNewT env M P := fun σ H Q e s k q hq =>
  k _ _ _ _ (s.new (r' := dtR q []) (Fr.new hq) ⟨[], upd_same, DR.nil⟩ fun x hx => by rw [List.mem_singleton.mp hx]; exact hq) (Fr.new hq : AN.Fr [] _ _).toUp wr_rf (h q)
theorem l_dnewN {P' : Program} {w' : World} {α : Type} (toD : α → PyData) (h : ∀ p, P (rf p) (dnR P' w' K toD p [] :: M)) : LE B (tDNewN P' w') env M P := fun σ H Q e s k q hq hs =>
  k _ _ _ _ (s.new (r' := dnR P' w' K toD q []) (Fr.new hq) ⟨[], ⟨upd_same, hs, fun x hx => by cases hx⟩, .nil⟩ fun x hx => by rw [List.mem_singleton.mp hx]; exact hq) (Fr.new hq : AN.Fr [] _ _).toUp wr_rf (h q)
/-! ### indices -/
theorem ixw_tup {j : Int} (hj : atI ds j = some w) (q : P w M) : LR2 B (rIxG K) (.tuple ds) (.int j) M P := fun vx vy H Q s r1 r2 k => by
  obtain ⟨a, vs, rfl, ha, rs⟩ := wr_tup_iff.mp r1
  rw [wr_int_iff.mp r2]
  unfold atI at hj
  obtain ⟨q', e1, e2⟩ := Option.bind_eq_some_iff.mp hj
  obtain ⟨v, ev, rv⟩ := rs.get e2
  refine .inl ⟨a, vs, j, v, rfl, rfl, .inl (.inl ha), ?_, k _ _ _ M s (Up.refl _) rv q⟩
  unfold atI
  rw [rs.length, e1]; exact ev
theorem ixw_lst {j : Int} (hm : M[m]? = some (lstR a ds)) (hj : atI ds j = some w) (q : P w M) : LR2 B (rIxG K) (rf a) (.int j) M P := fun vx vy H Q s r1 r2 k => by
  rw [wr_rf_iff.mp r1, wr_int_iff.mp r2]
  obtain ⟨vs, ha, rs⟩ := s.at hm
  unfold atI at hj
  obtain ⟨q', e1, e2⟩ := Option.bind_eq_some_iff.mp hj
  obtain ⟨v, ev, rv⟩ := rs.get e2
  refine .inr (.inl ⟨a, vs, j, v, rfl, rfl, .inl (.inl ha), ?_, k _ _ _ M s (Up.refl _) rv q⟩)
  unfold atI
  rw [rs.length, e1]; exact ev
theorem at_nat {α : Type} {xs : List α} {k : Nat} {y : α} {j : Int} (hj : j = (k : Nat)) (e : xs[k]? = some y) : atI xs j = some y := by rw [hj]; exact atI_nat e
theorem at_last {α : Type} {xs : List α} {y : α} : atI (xs ++ [y]) (-1) = some y := by
  unfold atI ixN
  rw [if_neg (by decide), List.length_append, if_pos (by simp; omega)]
  simp only [List.length_cons, List.length_nil, Nat.zero_add, Option.bind_some]
  rw [show ((-1 : Int) + ((xs.length + 1 : Nat) : Int)).toNat = xs.length by omega]
  simp
def kw : L2.Key → W := kD
theorem kw_kV {H : Hp} : ∀ {k : L2.Key} {v : V}, WR H (kw k) v → v = kV k
  | .inl i, v, h => by unfold kw kD at h; exact wr_int_iff.mp h
  | .inr i, v, h => by unfold kw kD at h; exact wr_str_iff.mp h
theorem kws_kV {H : Hp} : ∀ {k : List L2.Key} {vs : List V}, WRs H (k.map kw) vs → vs = k.map kV
  | [], vs, h => wrs_nil_iff.mp h
  | k :: ks, vs, h => by
    obtain ⟨v, r, rfl, h1, h2⟩ := wrs_cons_iff.mp h
    rw [kw_kV h1, kws_kV h2]; rfl
/-- to be read: a dict at m -/
def IsDk (M : Mem) (m : Nat) (a : Addr) (rr : List (L2.Key × W)) : Prop := M[m]? = some (dkR a rr) ∨ ∃ o, M[m]? = some (dkF o a rr)
theorem IsDk.rd {rr : List (L2.Key × W)} {H : Hp} (h : IsDk M m a rr) (s : Sm B M H) : ∃ kvs, Rd H a (.dK kvs) ∧ DR (id : L2.Key → L2.Key) (WR H) rr kvs := by
  rcases h with h | ⟨o, h⟩
  · obtain ⟨kvs, e, r⟩ := s.at h; exact ⟨kvs, .inl e, r⟩
  · obtain ⟨kvs, e, r⟩ := s.at h; exact ⟨kvs, .inr ⟨o, e⟩, r⟩
theorem kid : ∀ a b : L2.Key, id a = id b → a = b := fun _ _ h => h
theorem ixw_dk {rr : List (L2.Key × W)} {k : L2.Key} (hm : IsDk M m a rr) (hk : y = kw k) (e : aget rr k = some w) (q : P w M) : LR2 B (rIxG K) (rf a) y M P := fun vx vy H Q s r1 r2 ko => by
  subst hk
  rw [wr_rf_iff.mp r1, kw_kV r2]
  obtain ⟨kvs, ed, r⟩ := hm.rd s
  rcases r.get kid k with ⟨e1, _⟩ | ⟨c, v, e1, e2, hv⟩
  · rw [e] at e1; cases e1
  · rw [e] at e1
    cases e1
    exact .inr (.inr (.inl ⟨a, v, rfl, .inl ⟨kvs, k, ed, rfl, e2.symm⟩, ko _ _ _ M s (Up.refl _) hv q⟩))
theorem ixw_dt {rr : List (List L2.Key × W)} {k : List L2.Key} (hm : M[m]? = some (dtR a rr)) (hk : y = .tuple (k.map kw)) (e : aget rr k = some w) (q : P w M) : LR2 B (rIxG K) (rf a) y M P := fun vx vy H Q s r1 r2 ko => by
  subst hk
  rw [wr_rf_iff.mp r1]
  obtain ⟨b, vs, rfl, hb, rs⟩ := wr_tup_iff.mp r2
  rw [kws_kV rs] at hb
  obtain ⟨kvs, ed, r⟩ := s.at hm
  rcases r.get id_inj k with ⟨e1, _⟩ | ⟨c, v, e1, e2, hv⟩
  · rw [e] at e1; cases e1
  · rw [e] at e1
    cases e1
    exact .inr (.inr (.inl ⟨a, v, rfl, .inr ⟨kvs, k, b, .inl ed, rfl, hb, e2.symm⟩, ko _ _ _ M s (Up.refl _) hv q⟩))
/-! ### in -/
theorem inw_dk {rr : List (L2.Key × W)} {k : L2.Key} (hm : IsDk M m a rr) (hk : x = kw k) (q : P (.bool (aget rr k).isSome) M) : LR2 B (rIn2 K) x (rf a) M P := fun vx vy H Q s r1 r2 ko => by
  subst hk
  rw [wr_rf_iff.mp r2, kw_kV r1]
  obtain ⟨kvs, ed, r⟩ := hm.rd s
  refine .inl (.inr (.inl ⟨a, _, rfl, .inl ⟨kvs, k, ed, rfl, rfl⟩, ?_⟩))
  have := r.isSome kid k
  simp only [id] at this
  rw [this]
  exact ko _ _ _ M s (Up.refl _) wr_bl q
theorem notInw_dk {rr : List (L2.Key × W)} {k : L2.Key} (hm : IsDk M m a rr) (hk : x = kw k) (q : P (.bool (!(aget rr k).isSome)) M) : LR2 B (rNotIn2 K) x (rf a) M P := fun vx vy H Q s r1 r2 ko => by
  subst hk
  rw [wr_rf_iff.mp r2, kw_kV r1]
  obtain ⟨kvs, ed, r⟩ := hm.rd s
  refine .inl (.inr (.inl ⟨a, _, rfl, .inl ⟨kvs, k, ed, rfl, rfl⟩, ?_⟩))
  have := r.isSome kid k
  simp only [id] at this
  rw [this]
  exact ko _ _ _ M s (Up.refl _) wr_bl q
theorem inw_dt {rr : List (List L2.Key × W)} {k : List L2.Key} (hm : M[m]? = some (dtR a rr)) (hk : x = .tuple (k.map kw)) (q : P (.bool (aget rr k).isSome) M) : LR2 B (rIn2 K) x (rf a) M P := fun vx vy H Q s r1 r2 ko => by
  subst hk
  rw [wr_rf_iff.mp r2]
  obtain ⟨b, vs, rfl, hb, rs⟩ := wr_tup_iff.mp r1
  rw [kws_kV rs] at hb
  obtain ⟨kvs, ed, r⟩ := s.at hm
  refine .inl (.inr (.inl ⟨a, _, rfl, .inr ⟨kvs, k, b, .inl ed, rfl, hb, rfl⟩, ?_⟩))
  have := r.isSome id_inj k
  simp only [id] at this
  rw [this]
  exact ko _ _ _ M s (Up.refl _) wr_bl q
/-- d in (e, ..), d in [e, ..], plain data -/
theorem inw_tup (o : Okd x) (os : Okds ds) (q : P (.bool (ds.any fun z => PyData.eqv z x)) M) : LR2 B (rIn2 K) x (.tuple ds) M P := fun vx vy H Q s r1 r2 ko =>
  inX_q (WR.rep r1 (nn_pl o.1)) (.inl (WR.rep r2 (by simp only [nn]; exact nns_pls os.1))) o os (ko _ _ _ M s (Up.refl _) wr_bl q)
theorem notInw_tup (o : Okd x) (os : Okds ds) (q : P (.bool (!ds.any fun z => PyData.eqv z x)) M) : LR2 B (rNotIn2 K) x (.tuple ds) M P := fun vx vy H Q s r1 r2 ko =>
  notInX_q (WR.rep r1 (nn_pl o.1)) (.inl (WR.rep r2 (by simp only [nn]; exact nns_pls os.1))) o os (ko _ _ _ M s (Up.refl _) wr_bl q)
theorem row_lst {H : Hp} (s : Sm B M H) (hm : M[m]? = some (lstR a ds)) (os : Okds ds) : RowOf K H (.ref a) ds := by
  obtain ⟨vs, e, r⟩ := s.at hm
  exact .inr ⟨a, vs, rfl, .inl (.inl e), WRs.reps r (nns_pls os.1)⟩
theorem inw_lst (hm : M[m]? = some (lstR a ds)) (o : Okd x) (os : Okds ds) (q : P (.bool (ds.any fun z => PyData.eqv z x)) M) : LR2 B (rIn2 K) x (rf a) M P := fun vx vy H Q s r1 r2 ko => by
  rw [wr_rf_iff.mp r2]
  exact inX_q (WR.rep r1 (nn_pl o.1)) (row_lst s hm os) o os (ko _ _ _ M s (Up.refl _) wr_bl q)
theorem notInw_lst (hm : M[m]? = some (lstR a ds)) (o : Okd x) (os : Okds ds) (q : P (.bool (!ds.any fun z => PyData.eqv z x)) M) : LR2 B (rNotIn2 K) x (rf a) M P := fun vx vy H Q s r1 r2 ko => by
  rw [wr_rf_iff.mp r2]
  exact notInX_q (WR.rep r1 (nn_pl o.1)) (row_lst s hm os) o os (ko _ _ _ M s (Up.refl _) wr_bl q)
/-! ### arithmetic, comparison -/
theorem rI0w {i j : Int} {f : Int → Int → V} {w : W} (hw : ∀ H, WR H w (f i j)) (q : P w M) : LR2 B (rI0 f) (.int i) (.int j) M P := fun vx vy H Q s r1 r2 ko => by
  rw [wr_int_iff.mp r1, wr_int_iff.mp r2]; exact ⟨i, j, rfl, rfl, ko _ _ _ M s (Up.refl _) (hw H) q⟩
theorem rIw {i j : Int} {C : Int → Int → Prop} {f : Int → Int → V} {w : W} (hw : ∀ H, WR H w (f i j)) (hc : C i j) (q : P w M) : LR2 B (rI C f) (.int i) (.int j) M P := fun vx vy H Q s r1 r2 ko => by
  rw [wr_int_iff.mp r1, wr_int_iff.mp r2]; exact ⟨i, j, rfl, rfl, hc, ko _ _ _ M s (Up.refl _) (hw H) q⟩
theorem rI0w_int {i j : Int} {f : Int → Int → Int} (q : P (.int (f i j)) M) : LR2 B (rI0 fun i j => .int (f i j)) (.int i) (.int j) M P := rI0w (fun _ => wr_int) q
theorem rI0w_bl {i j : Int} {f : Int → Int → Bool} (q : P (.bool (f i j)) M) : LR2 B (rI0 fun i j => .bl (f i j)) (.int i) (.int j) M P := rI0w (fun _ => wr_bl) q
theorem rIw_int {i j : Int} {C : Int → Int → Prop} {f : Int → Int → Int} (hc : C i j) (q : P (.int (f i j)) M) : LR2 B (rI C fun i j => .int (f i j)) (.int i) (.int j) M P := rIw (fun _ => wr_int) hc q
theorem addw_int {i j : Int} (q : P (.int (i + j)) M) : LR2 B (rAddG K) (.int i) (.int j) M P := fun vx vy H Q s r1 r2 ko => by
  rw [wr_int_iff.mp r1, wr_int_iff.mp r2]; exact addG_int (ko _ _ _ M s (Up.refl _) wr_int q)
theorem addw_str {i j : Str} (hl : i.length + j.length ≤ sizeLine) (q : P (.str (i ++ j)) M) : LR2 B (rAddG K) (.str i) (.str j) M P := fun vx vy H Q s r1 r2 ko => by
  rw [wr_str_iff.mp r1, wr_str_iff.mp r2]; exact addG_str hl (ko _ _ _ M s (Up.refl _) wr_str q)
theorem addw_tup (hl : ds.length + es.length ≤ 1000) (q : P (.tuple (ds ++ es)) M) : LR2 B (rAddG K) (.tuple ds) (.tuple es) M P := fun vx vy H Q s r1 r2 ko => by
  obtain ⟨a, vs, rfl, hs, hr⟩ := wr_tup_iff.mp r1
  obtain ⟨b, us, rfl, hs', hr'⟩ := wr_tup_iff.mp r2
  refine .inr (.inl ⟨a, b, vs, us, rfl, rfl, .of hs, .of hs', ?_, fun e => ?_, fun _ e => ?_, fun _ _ p hp => ?_⟩)
  · rw [hr.length, hr'.length]; exact Nat.le_of_lt (small1000 hl)
  · subst e
    have e2 : ds = [] := List.length_eq_zero_iff.mp (by rw [← hr.length]; rfl)
    subst e2
    exact ko _ _ _ M s (Up.refl _) r2 q
  · subst e
    have e2 : es = [] := List.length_eq_zero_iff.mp (by rw [← hr'.length]; rfl)
    subst e2
    rw [List.append_nil] at q
    exact ko _ _ _ M s (Up.refl _) r1 q
  · have f : AN.Fr [] H (upd H p (.tup (vs ++ us))) := Fr.new hp
    exact ko _ _ _ M (s.keep f) f.toUp (wr_tup_iff.mpr ⟨p, _, rfl, upd_same, (hr.append hr').up f.toUp⟩) q
theorem addw_lst (h1 : M[i]? = some (lstR a ds)) (h2 : M[j]? = some (lstR p es)) (hl : ds.length + es.length ≤ 1000) (q : ∀ p, P (rf p) (lstR p (ds ++ es) :: M)) : LR2 B (rAddG K) (rf a) (rf p) M P := fun vx vy H Q s r1 r2 ko => by
  rw [wr_rf_iff.mp r1, wr_rf_iff.mp r2]
  obtain ⟨vs, e1, rs1⟩ := s.at h1
  obtain ⟨us, e2, rs2⟩ := s.at h2
  refine .inr (.inr (.inr ⟨a, p, vs, us, rfl, rfl, e1, e2, by rw [rs1.length, rs2.length]; exact Nat.le_of_lt (small1000 hl), fun l hl => ?_⟩))
  exact ko _ _ _ _ (sm_lst s (rs1.append rs2) hl) (Fr.new hl : AN.Fr [] _ _).toUp wr_rf (q l)
theorem rUw {i : Int} {f : Int → V} {w : W} (hw : ∀ H, WR H w (f i)) (q : P w M) : LR1 B (rU f) (.int i) M P := fun vx H Q s r1 ko => by
  rw [wr_int_iff.mp r1]; exact ⟨i, rfl, ko _ _ _ M s (Up.refl _) (hw H) q⟩
theorem rUw_int {i : Int} {f : Int → Int} (q : P (.int (f i)) M) : LR1 B (rU fun i => .int (f i)) (.int i) M P := rUw (fun _ => wr_int) q
theorem eqw_int {i j : Int} (q : P (.bool (decide (i = j))) M) : LR2 B (rEqG K) (.int i) (.int j) M P := fun vx vy H Q s r1 r2 ko => by
  rw [wr_int_iff.mp r1, wr_int_iff.mp r2]
  exact eqG_int (by rw [show decide (V.int i = V.int j) = decide (i = j) by simp]; exact ko _ _ _ M s (Up.refl _) wr_bl q)
theorem new_int {i j : Int} (q : P (.bool (!decide (i = j))) M) : LR2 B (rNeG K) (.int i) (.int j) M P := fun vx vy H Q s r1 r2 ko => by
  rw [wr_int_iff.mp r1, wr_int_iff.mp r2]
  exact neG_int (by rw [show decide (V.int i = V.int j) = decide (i = j) by simp]; exact ko _ _ _ M s (Up.refl _) wr_bl q)
theorem eqw_str {i j : Str} (q : P (.bool (decide (i = j))) M) : LR2 B (rEqG K) (.str i) (.str j) M P := fun vx vy H Q s r1 r2 ko => by
  rw [wr_str_iff.mp r1, wr_str_iff.mp r2]
  exact eqG_str (by rw [show decide (V.str i = V.str j) = decide (i = j) by simp]; exact ko _ _ _ M s (Up.refl _) wr_bl q)
theorem new_str {i j : Str} (q : P (.bool (!decide (i = j))) M) : LR2 B (rNeG K) (.str i) (.str j) M P := fun vx vy H Q s r1 r2 ko => by
  rw [wr_str_iff.mp r1, wr_str_iff.mp r2]
  exact neG_str (by rw [show decide (V.str i = V.str j) = decide (i = j) by simp]; exact ko _ _ _ M s (Up.refl _) wr_bl q)
theorem eqw_bl {i j : Bool} (q : P (.bool (decide (i = j))) M) : LR2 B (rEqG K) (.bool i) (.bool j) M P := fun vx vy H Q s r1 r2 ko => by
  rw [wr_bl_iff.mp r1, wr_bl_iff.mp r2]
  exact eqG_bl (by rw [show decide (V.bl i = V.bl j) = decide (i = j) by simp]; exact ko _ _ _ M s (Up.refl _) wr_bl q)
/-- plain data -/
theorem eqw_dat {d e : W} (o : Okd d) (o' : Okd e) (q : P (.bool (PyData.eqv d e)) M) : LR2 B (rEqG K) d e M P := fun vx vy H Q s r1 r2 ko =>
  eqX_q (WR.rep r1 (nn_pl o.1)) (WR.rep r2 (nn_pl o'.1)) o o' (ko _ _ _ M s (Up.refl _) wr_bl q)
theorem new_dat {d e : W} (o : Okd d) (o' : Okd e) (q : P (.bool (!PyData.eqv d e)) M) : LR2 B (rNeG K) d e M P := fun vx vy H Q s r1 r2 ko =>
  .inr (.inl ⟨d, e, (WR.rep r1 (nn_pl o.1)).dp (K := K), (WR.rep r2 (nn_pl o'.1)).dp, o.shaped, o'.shaped, ko _ _ _ M s (Up.refl _) wr_bl q⟩)
theorem eqv_dec {d e : W} (h : pl d = true) (h' : pl e = true) [Decidable (d = e)] : PyData.eqv d e = decide (d = e) := by
  rw [Bool.eq_iff_iff, eqv_pl d e h h', decide_eq_true_eq]
theorem wr_isN {H : Hp} {v : V} (r1 : WR H w v) : decide (v = V.non) = isN w := by
  cases w with
  | none => rw [wr_non_iff.mp r1]; rfl
  | bool b => rw [wr_bl_iff.mp r1]; rfl
  | int b => rw [wr_int_iff.mp r1]; rfl
  | str b => rw [wr_str_iff.mp r1]; rfl
  | tuple ds => obtain ⟨a, vs, rfl, _⟩ := wr_tup_iff.mp r1; rfl
  | list ds => unfold WR at r1; rcases r1 with ⟨a, _, rfl⟩ | ⟨a, _, rfl⟩ <;> rfl
  | dict ds => unfold WR at r1; exact r1.elim
theorem isNw (q : P (.bool (isN w)) M) : LR2 B (fun x y H Q => y = V.non ∧ Q (.bl (decide (x = V.non))) H) w .none M P := fun vx vy H Q s r1 r2 ko =>
  ⟨wr_non_iff.mp r2, by rw [wr_isN r1]; exact ko _ _ _ M s (Up.refl _) wr_bl q⟩
theorem notNw (q : P (.bool (!isN w)) M) : LR2 B (fun x y H Q => y = V.non ∧ Q (.bl (!decide (x = V.non))) H) w .none M P := fun vx vy H Q s r1 r2 ko =>
  ⟨wr_non_iff.mp r2, by rw [wr_isN r1]; exact ko _ _ _ M s (Up.refl _) wr_bl q⟩
end
end AN

/-! AN: built-ins, methods, calls, loops. -/
namespace AN
open PySem PySem.Spec PyProof.Rows L2
section
variable {B : Bs} {K : PySem.W.Frag} {env pat : Ev} {M N : Mem} {P : W → Mem → Prop} {PB : Bool → Mem → Prop} {PA : List W → Mem → Prop} {PM : Mem → Prop} {te ta tb tc : TE} {tt tu : TT} {t u : TS} {ts : TA} {g : TG} {i j m : Nat} {w x y z : W} {n b c : Ev → Mem → Prop} {r : W → Mem → Prop} {L : LD} {ws us ds es : List W} {a p l : Addr}
theorem wrs1 {H : Hp} {vs : List V} (h : WRs H [x] vs) : ∃ v, vs = [v] ∧ WR H x v := by
  obtain ⟨v, r, rfl, h1, h2⟩ := wrs_cons_iff.mp h
  rw [wrs_nil_iff] at h2
  subst h2
  exact ⟨v, rfl, h1⟩
theorem wrs2 {H : Hp} {vs : List V} (h : WRs H [x, y] vs) : ∃ v v', vs = [v, v'] ∧ WR H x v ∧ WR H y v' := by
  obtain ⟨v, r, rfl, h1, h2⟩ := wrs_cons_iff.mp h
  obtain ⟨v', rfl, h3⟩ := wrs1 h2
  exact ⟨v, v', rfl, h1, h3⟩
/-! ### len -/
theorem lenw_tup (q : P (.int (ds.length : Nat)) M) : LCB B (rLenG K) [.tuple ds] M P := fun vs H Q s r k => by
  obtain ⟨v, rfl, r1⟩ := wrs1 r
  obtain ⟨a, us, rfl, ha, rs⟩ := wr_tup_iff.mp r1
  exact .inl ⟨.ref a, us.length, rfl, .inr ⟨us, .of ha, rfl⟩, by rw [rs.length]; exact k _ _ _ M s (Up.refl _) wr_int q⟩
theorem lenw_lst (hm : M[m]? = some (lstR a ds)) (q : P (.int (ds.length : Nat)) M) : LCB B (rLenG K) [rf a] M P := fun vs H Q s r k => by
  obtain ⟨v, rfl, r1⟩ := wrs1 r
  rw [wr_rf_iff.mp r1]
  obtain ⟨us, e, rs⟩ := s.at hm
  exact .inl ⟨.ref a, us.length, rfl, .inl ⟨us, .inl (.inl e), rfl⟩, by rw [rs.length]; exact k _ _ _ M s (Up.refl _) wr_int q⟩
theorem lenw_dk {rr : List (L2.Key × W)} (hm : M[m]? = some (dkR a rr)) (q : P (.int (rr.length : Nat)) M) : LCB B (rLenG K) [rf a] M P := fun vs H Q s r k => by
  obtain ⟨v, rfl, r1⟩ := wrs1 r
  rw [wr_rf_iff.mp r1]
  obtain ⟨us, e, rs⟩ := s.at hm
  exact .inr ⟨a, us, rfl, e, by rw [← rs.length]; exact k _ _ _ M s (Up.refl _) wr_int q⟩
theorem lenw_str {x : Str} (hl : x.length ≤ sizeLine) (q : P (.int x.length) M) : LCB B (rLenG K) [.str x] M P := fun vs H Q s r k => by
  obtain ⟨v, rfl, r1⟩ := wrs1 r
  rw [wr_str_iff.mp r1]
  exact .inl ⟨.str x, x.length, rfl, ⟨hl, rfl⟩, k _ _ _ M s (Up.refl _) wr_int q⟩
/-! ### int, abs, tuple, list, dict -/
theorem intw_int {i : Int} (q : P (.int i) M) : LCB B rIntOf [.int i] M P := fun vs H Q s r k => by
  obtain ⟨v, rfl, r1⟩ := wrs1 r
  rw [wr_int_iff.mp r1]
  exact intOf_int (k _ _ _ M s (Up.refl _) wr_int q)
theorem intw_bl {i : Bool} (q : P (.int (if i then 1 else 0)) M) : LCB B rIntOf [.bool i] M P := fun vs H Q s r k => by
  obtain ⟨v, rfl, r1⟩ := wrs1 r
  rw [wr_bl_iff.mp r1]
  exact intOf_bl (k _ _ _ M s (Up.refl _) wr_int q)
theorem absw_int {i : Int} (q : P (.int (if i < 0 then -i else i)) M) : LCB B rAbsOf [.int i] M P := fun vs H Q s r k => by
  obtain ⟨v, rfl, r1⟩ := wrs1 r
  rw [wr_int_iff.mp r1]
  exact absOf_int (k _ _ _ M s (Up.refl _) wr_int q)
theorem tupw_tup (q : P (.tuple ds) M) : LCB B (rTupOf K) [.tuple ds] M P := fun vs H Q s r k => by
  obtain ⟨v, rfl, r1⟩ := wrs1 r
  obtain ⟨a, us, e, ha, rs⟩ := wr_tup_iff.mp r1
  subst e
  exact ⟨a, us, rfl, .inr ⟨.of ha, k _ _ _ M s (Up.refl _) r1 q⟩⟩
theorem tupw_lst (hm : M[m]? = some (lstR a ds)) (q : P (.tuple ds) M) : LCB B (rTupOf K) [rf a] M P := fun vs H Q s r k => by
  obtain ⟨v, rfl, r1⟩ := wrs1 r
  rw [wr_rf_iff.mp r1]
  obtain ⟨us, e, rs⟩ := s.at hm
  exact ⟨a, us, rfl, .inl ⟨.of e, fun l hl => k _ _ _ M (s.keep (Fr.new hl)) (Fr.new hl : AN.Fr [] _ _).toUp (wr_tup_iff.mpr ⟨l, us, rfl, upd_same, rs.up (Fr.new hl : AN.Fr [] _ _).toUp⟩) q⟩⟩
theorem listw_tup (q : ∀ p, P (rf p) (lstR p ds :: M)) : LCB B (rListG K) [.tuple ds] M P := fun vs H Q s r k => by
  obtain ⟨v, rfl, r1⟩ := wrs1 r
  obtain ⟨a, us, e, ha, rs⟩ := wr_tup_iff.mp r1
  subst e
  exact .inl ⟨a, us, rfl, .inr (.of ha), fun l hl => k _ _ _ _ (sm_lst s rs hl) (Fr.new hl : AN.Fr [] _ _).toUp wr_rf (q l)⟩
theorem listw_lst (hm : M[m]? = some (lstR a ds)) (q : ∀ p, P (rf p) (lstR p ds :: M)) : LCB B (rListG K) [rf a] M P := fun vs H Q s r k => by
  obtain ⟨v, rfl, r1⟩ := wrs1 r
  rw [wr_rf_iff.mp r1]
  obtain ⟨us, e, rs⟩ := s.at hm
  exact .inl ⟨a, us, rfl, .inl (.inl (.inl e)), fun l hl => k _ _ _ _ (sm_lst s rs hl) (Fr.new hl : AN.Fr [] _ _).toUp wr_rf (q l)⟩
theorem wrs_kw {H : Hp} : ∀ ks : List L2.Key, WRs H (ks.map kw) (ks.map kV)
  | [] => wrs_nil
  | .inl i :: ks => wrs_cons wr_int (wrs_kw ks)
  | .inr i :: ks => wrs_cons wr_str (wrs_kw ks)
theorem listw_dk {rr : List (L2.Key × W)} (hm : IsDk M m a rr) (q : ∀ p, P (rf p) (lstR p (rr.map fun e => kw e.1) :: M)) : LCB B (rListG K) [rf a] M P := fun vs H Q s r k => by
  obtain ⟨v, rfl, r1⟩ := wrs1 r
  rw [wr_rf_iff.mp r1]
  obtain ⟨kvs, e, rs⟩ := hm.rd s
  refine .inr ⟨a, kvs, rfl, e, fun l hl => k _ _ _ _ (sm_lst s ?_ hl) (Fr.new hl : AN.Fr [] _ _).toUp wr_rf (q l)⟩
  have e2 := rs.keys
  simp only [id] at e2
  rw [show kvs.map (fun kv => kV kv.1) = (rr.map (·.1)).map kV by rw [← e2, List.map_map]; rfl, show rr.map (fun e => kw e.1) = (rr.map (·.1)).map kw by rw [List.map_map]; rfl]
  exact wrs_kw _
theorem dictw_dk {rr : List (L2.Key × W)} (hm : IsDk M m a rr) (q : ∀ p, P (rf p) (dkR p rr :: M)) : LCB B rDictOf [rf a] M P := fun vs H Q s r k => by
  obtain ⟨v, rfl, r1⟩ := wrs1 r
  rw [wr_rf_iff.mp r1]
  obtain ⟨kvs, e, rs⟩ := hm.rd s
  exact ⟨a, kvs, rfl, e, fun l hl => k _ _ _ _ (s.new (r' := dkR l rr) (Fr.new hl) ⟨kvs, upd_same, rs.imp fun _ _ z => z.up (Fr.new hl : AN.Fr [] _ _).toUp⟩ fun x hx => by rw [List.mem_singleton.mp hx]; exact hl) (Fr.new hl : AN.Fr [] _ _).toUp wr_rf (q l)⟩
/-! ### isinstance -/
def tyW : W → String
  | .none => "NoneType" | .bool _ => "bool" | .int _ => "int" | .str _ => "str" | .tuple _ => "tuple" | _ => ""
theorem map_inj_nat : ∀ {l k : List Char}, l.map Char.toNat = k.map Char.toNat → l = k
  | [], [], _ => rfl
  | [], _ :: _, h => by simp at h
  | _ :: _, [], h => by simp at h
  | a :: l, b :: k, h => by
    simp only [List.map_cons, List.cons.injEq] at h
    rw [show a = b from Char.ext (UInt32.toNat_inj.mp h.1), map_inj_nat h.2]
theorem ofString_inj {s t : String} (h : Str.ofString s = Str.ofString t) : s = t := by
  rw [Str.ofString_eq_toList, Str.ofString_eq_toList] at h
  have h1 := congrArg (fun z : Str => z.cps.toList) h
  simp only at h1
  exact String.toList_inj.mp (map_inj_nat h1)
theorem isiw {T : String} {k : Bool} (e : kitB (tyW x) T = some k) (n : ∀ ds, x ≠ .list ds) (q : P (.bool k) M) : LCB B (rIsi K) [x, tyw T] M P := fun vs H Q s r ko => by
  obtain ⟨v, v', rfl, r1, r2⟩ := wrs2 r
  have e2 : v' = .ty T := by
    unfold tyw WR at r2
    rcases r2 with ⟨a, e, _⟩ | ⟨T', e, rfl⟩
    · simp at e
    · simp only [List.cons.injEq, PyData.str.injEq, and_true] at e
      rw [show T = T' from ofString_inj e]
  subst e2
  have tx : TyX K H v (.type (tyW x)) := by
    cases x with
    | none => rw [wr_non_iff.mp r1]; exact .base .non
    | bool b => rw [wr_bl_iff.mp r1]; exact .base (.bl b)
    | int b => rw [wr_int_iff.mp r1]; exact .base (.int b)
    | str b => rw [wr_str_iff.mp r1]; exact .base (.str b)
    | tuple ds => obtain ⟨a, vs, rfl, ha, _⟩ := wr_tup_iff.mp r1; exact .base (.tup ha)
    | list ds => exact absurd rfl (n ds)
    | dict ds => unfold WR at r1; exact r1.elim
  exact ⟨v, .ty T, .type (tyW x), .type T, k, rfl, .ty T, tx, kit_ty e, ko _ _ _ M s (Up.refl _) wr_bl q⟩
/-! ### all, any, sum, min, max -/
theorem wrs_bls {H : Hp} : ∀ {bs : List Bool} {vs : List V}, WRs H (bs.map .bool) vs → vs = bs.map V.bl
  | [], _, h => wrs_nil_iff.mp h
  | y :: ys, _, h => by
    obtain ⟨v, r, rfl, h1, h2⟩ := wrs_cons_iff.mp h
    rw [wr_bl_iff.mp h1, wrs_bls h2]; rfl
theorem allw {bs : List Bool} (hm : M[m]? = some (lstR a (bs.map .bool))) (q : P (.bool (bs.all id)) M) : LCB B (rAll K) [rf a] M P := fun vs H Q s r k => by
  obtain ⟨v, rfl, r1⟩ := wrs1 r
  rw [wr_rf_iff.mp r1]
  obtain ⟨us, e, rs⟩ := s.at hm
  rw [wrs_bls rs] at e
  exact ⟨a, bs, rfl, .inl (.inl e), k _ _ _ M s (Up.refl _) wr_bl q⟩
theorem anyw {bs : List Bool} (hm : M[m]? = some (lstR a (bs.map .bool))) (q : P (.bool (bs.any id)) M) : LCB B (rAny K) [rf a] M P := fun vs H Q s r k => by
  obtain ⟨v, rfl, r1⟩ := wrs1 r
  rw [wr_rf_iff.mp r1]
  obtain ⟨us, e, rs⟩ := s.at hm
  rw [wrs_bls rs] at e
  exact ⟨a, bs, rfl, .inl (.inl e), k _ _ _ M s (Up.refl _) wr_bl q⟩
theorem sumw {is : List Int} (hm : M[m]? = some (lstR a (is.map .int))) (q : P (.int is.sum) M) : LCB B (rSum K) [rf a] M P := fun vs H Q s r k => by
  obtain ⟨v, rfl, r1⟩ := wrs1 r
  rw [wr_rf_iff.mp r1]
  obtain ⟨us, e, rs⟩ := s.at hm
  rw [wrs_ints_iff rs] at e
  exact ⟨a, is, rfl, .inl (.inl e), k _ _ _ M s (Up.refl _) wr_int q⟩
theorem minw {i j : Int} (q : P (.int (if j < i then j else i)) M) : LCB B (fun xs H Q => ∃ i j, xs = [.int i, .int j] ∧ Q (.int (if j < i then j else i)) H) [.int i, .int j] M P := fun vs H Q s r k => by
  obtain ⟨v, v', rfl, r1, r2⟩ := wrs2 r
  rw [wr_int_iff.mp r1, wr_int_iff.mp r2]
  exact ⟨i, j, rfl, k _ _ _ M s (Up.refl _) wr_int q⟩
theorem maxw {i j : Int} (q : P (.int (if j > i then j else i)) M) : LCB B (fun xs H Q => ∃ i j, xs = [.int i, .int j] ∧ Q (.int (if j > i then j else i)) H) [.int i, .int j] M P := fun vs H Q s r k => by
  obtain ⟨v, v', rfl, r1, r2⟩ := wrs2 r
  rw [wr_int_iff.mp r1, wr_int_iff.mp r2]
  exact ⟨i, j, rfl, k _ _ _ M s (Up.refl _) wr_int q⟩
/-! ### sorted -/
/-- what sorted promises -/
theorem sortw_core {xs : List V} {H : Hp} {Q : VK} (s : Sm B M H) (r : WRs H ds xs) (hn : nns ds = true) (q : ∀ es, es.Perm ds → Asc es → ∀ p, P (rf p) (lstR p es :: M)) (k : Kx B Q P H) :
    ∀ H' p ys es, es.Perm ds → Asc es → AN.Fr [] H H' → H p = none → H' p = some (.lst ys) → Reps K H' es ys → Q (.ref p) H' := fun H' p ys es hp ha f np e rs =>
  k _ _ _ _ (s.new (r' := lstR p es) f ⟨ys, e, rs.wrs⟩ fun x hx => by rw [List.mem_singleton.mp hx]; exact np) f.toUp wr_rf (q es hp ha p)
theorem sortw_lst (hm : M[m]? = some (lstR a ds)) (h1 : PySem.W.AllAlike ds) (h2 : PySem.W.Sortable ds) (h3 : ∀ d ∈ ds, d.depth ≤ 40) (hn : nns ds = true) (q : ∀ es, es.Perm ds → Asc es → ∀ p, P (rf p) (lstR p es :: M)) : LCB B (rSorted2 K) [rf a] M P := fun vs H Q s r k => by
  obtain ⟨v, rfl, r1⟩ := wrs1 r
  rw [wr_rf_iff.mp r1]
  obtain ⟨us, e, rs⟩ := s.at hm
  exact .inr (.inl ⟨a, us, ds, rfl, .inl (.inl e), WRs.reps rs hn, h1, h2, h3, sortw_core s rs hn q k⟩)
theorem sortw_tup (hl : ds.length ≤ 1000) (h1 : PySem.W.AllAlike ds) (h2 : PySem.W.Sortable ds) (h3 : ∀ d ∈ ds, d.depth ≤ 40) (hn : nns ds = true) (q : ∀ es, es.Perm ds → Asc es → ∀ p, P (rf p) (lstR p es :: M)) : LCB B (rSorted2 K) [.tuple ds] M P := fun vs H Q s r k => by
  obtain ⟨v, rfl, r1⟩ := wrs1 r
  obtain ⟨a, us, e, ha, rs⟩ := wr_tup_iff.mp r1
  exact .inr (.inr (.inl ⟨v, ds, rfl, WR.rep r1 (by simpa [nn] using hn), h1, h2, h3, Nat.le_of_lt (small1000 hl), sortw_core s rs hn q k⟩))
theorem sortw_dt {rr : List (List L2.Key × W)} (hm : M[m]? = some (dtR a rr)) (hal : PySem.W.AllAlike (rr.map fun p => PyData.tuple (p.1.map kD))) (hs : PySem.W.Sortable (rr.map fun p => PyData.tuple (p.1.map kD))) (hl : rr.length ≤ 1000)
    (q : ∀ es, es.Perm (rr.map fun p => PyData.tuple (p.1.map kD)) → Asc es → ∀ p, P (rf p) (lstR p es :: M)) : LCB B (rSorted2 K) [rf a] M P := fun vs H Q s r k => by
  obtain ⟨v, rfl, r1⟩ := wrs1 r
  rw [wr_rf_iff.mp r1]
  obtain ⟨kvs, e, rs⟩ := s.at hm
  have e1 : (kvs.map fun p => PyData.tuple (p.1.map kD)) = rr.map fun p => PyData.tuple (p.1.map kD) := by
    have := congrArg (List.map fun k : List L2.Key => PyData.tuple (k.map kD)) rs.keys
    rw [List.map_map, List.map_map] at this
    exact this
  refine .inr (.inr (.inr ⟨a, kvs, rfl, .inl e, ?_⟩))
  rw [e1]
  refine ⟨hal, hs, fun d hd => ?_, by rw [List.length_map]; exact Nat.le_of_lt (small1000 hl), fun H' p ys es hp ha f np e rs => k _ _ _ _ (s.new (r' := lstR p es) f ⟨ys, e, rs.wrs⟩ fun x hx => by rw [List.mem_singleton.mp hx]; exact np) f.toUp wr_rf (q es hp ha p)⟩
  obtain ⟨p, _, rfl⟩ := List.mem_map.mp hd
  have : ∀ ks : List L2.Key, PyData.depthAll (ks.map kD) = 0 := fun ks => by
    induction ks with
    | nil => rfl
    | cons k ks ih => cases k <;> simp [kD, PyData.depthAll, PyData.depth, ih]
  simp [PyData.depth, this]
/-- sorted(d) of a dict keyed by texts -/
theorem sortw_dk {rr : List (L2.Key × W)} {ks : List Str} (hm : IsDk M m a rr) (e : rr.map (·.1) = ks.map Sum.inr) (hl : ks.length < 64) (q : ∀ ys : List Str, ys.Perm ks → sortedS ys = true → ∀ p, P (rf p) (lstR p (ys.map .str) :: M)) : LCB B (rSorted2 K) [rf a] M P := fun vs H Q s r k => by
  obtain ⟨v, rfl, r1⟩ := wrs1 r
  rw [wr_rf_iff.mp r1]
  obtain ⟨kvs, ed, rs⟩ := hm.rd s
  refine .inl (.inr ⟨a, kvs, ks, rfl, ed, ?_, hl, fun ys p hp hs np => k _ _ _ _ (sm_lst s (wrs_strs ys) np) (Fr.new np : AN.Fr [] _ _).toUp wr_rf (q ys hp hs p)⟩)
  have := rs.keys
  simp only [id] at this
  rw [this]; exact e
/-! ### methods of lists -/
theorem tyw_lst (hm : M[m]? = some (lstR a ds)) : LTy B K "list" (rf a) M := fun vx H s r => by
  rw [wr_rf_iff.mp r]
  obtain ⟨us, e, rs⟩ := s.at hm
  exact .inl ⟨rfl, us, .inl (.inl e)⟩
theorem tyw_dk {rr : List (L2.Key × W)} (hm : M[m]? = some (dkR a rr)) : LTy B K "dict" (rf a) M := fun vx H s r => by
  rw [wr_rf_iff.mp r]
  obtain ⟨us, e, rs⟩ := s.at hm
  exact .inr (.inr (.inl ⟨rfl, .inl ⟨us, e⟩⟩))
theorem sm_set {H : Hp} {vs : List V} (s : Sm B M H) {xs : List V} (hm : M[m]? = some (lstR a ds)) (e : H a = some (.lst xs)) (r : WRs H es vs) : Sm B (M.set m (lstR a es)) (upd H a (.lst vs)) ∧ Up H (upd H a (.lst vs)) :=
  have f : AN.Fr [a] H (upd H a (.lst vs)) := Fr.setL e
  ⟨s.set hm f ⟨vs, upd_same, r.up f.toUp⟩ fun x hx => .inl hx, f.toUp⟩
theorem appendw (hm : M[m]? = some (lstR a ds)) (hl : ds.length < sizeLine) (q : P .none (M.set m (lstR a (ds ++ [x])))) : LMt B K "list" rAppend (rf a) [x] M P := fun vx vs H Q s r1 r2 k => by
  obtain ⟨v, rfl, rv⟩ := wrs1 r2
  rw [wr_rf_iff.mp r1]
  obtain ⟨us, e, rs⟩ := s.at hm
  have z := sm_set s hm e (rs.append (wrs_cons rv wrs_nil))
  exact ⟨a, us, v, rfl, rfl, e, by rw [rs.length]; exact hl, k _ _ _ _ z.1 z.2 wr_non q⟩
theorem extendw (hm : M[m]? = some (lstR a ds)) (hm' : M[i]? = some (lstR p es)) (hl : ds.length + es.length ≤ sizeLine) (q : P .none (M.set m (lstR a (ds ++ es)))) : LMt B K "list" rExtend (rf a) [rf p] M P := fun vx vs H Q s r1 r2 k => by
  obtain ⟨v, rfl, rv⟩ := wrs1 r2
  rw [wr_rf_iff.mp r1, wr_rf_iff.mp rv]
  obtain ⟨us, e, rs⟩ := s.at hm
  obtain ⟨us', e', rs'⟩ := s.at hm'
  have z := sm_set s hm e (rs.append rs')
  exact ⟨a, p, us, us', rfl, rfl, e, e', by rw [rs.length, rs'.length]; exact hl, k _ _ _ _ z.1 z.2 wr_non q⟩
theorem popw (hm : M[m]? = some (lstR a (ds ++ [x]))) (q : P x (M.set m (lstR a ds))) : LMt B K "list" rPop (rf a) [] M P := fun vx vs H Q s r1 r2 k => by
  rw [wr_rf_iff.mp r1, wrs_nil_iff.mp r2]
  obtain ⟨us, e, rs⟩ := s.at hm
  obtain ⟨v, ev, rv⟩ := rs.get (i := ds.length) (d := x) (by simp)
  have hl : us.length = ds.length + 1 := by rw [rs.length]; simp
  have e2 : WRs H ds us.dropLast := by
    have := rs.take ds.length
    rw [List.take_left] at this
    rw [List.dropLast_eq_take, hl]
    exact this
  have z := sm_set s hm e e2
  exact ⟨a, us, v, rfl, rfl, e, by rw [hl]; exact ev, k _ _ _ _ z.1 z.2 (rv.up z.2) q⟩
theorem popAtw {k : Nat} (hm : M[m]? = some (lstR a ds)) (hk : ds[k]? = some x) (h62 : k < 1000000000) (q : P x (M.set m (lstR a (ds.eraseIdx k)))) : LMt B K "list" rPopAt (rf a) [.int (k : Nat)] M P := fun vx vs H Q s r1 r2 ko => by
  obtain ⟨v, rfl, rv⟩ := wrs1 r2
  rw [wr_rf_iff.mp r1, wr_int_iff.mp rv]
  obtain ⟨us, e, rs⟩ := s.at hm
  obtain ⟨v, ev, rv⟩ := rs.get hk
  have z := sm_set s hm e (rs.erase k)
  have hlt := (List.getElem?_eq_some_iff.mp ev).1
  refine ⟨a, us, (k : Nat), k, v, rfl, rfl, e, by omega, by omega, ?_, ev, ko _ _ _ _ z.1 z.2 (rv.up z.2) q⟩
  rw [seqIndex_of (by omega) (by omega)]; rfl
end
end AN

/-! AN: setting, calls, loops, comprehensions. -/
namespace AN
open PySem PySem.Spec PyProof.Rows L2
def putW (f : Str) (v : W) : List (Str × W) → List (Str × W)
  | [] => [(f, v)]
  | (g, x) :: r => if g = f then (g, v) :: r else (g, x) :: putW f v r
section
variable {B : Bs} {K : PySem.W.Frag} {env pat : Ev} {M N : Mem} {P : W → Mem → Prop} {PB : Bool → Mem → Prop} {PA : List W → Mem → Prop} {PM : Mem → Prop} {te ta tb tc ti to tv : TE} {tt tu : TT} {t u : TS} {ts : TA} {g : TG} {i j m : Nat} {w x y z o : W} {n b c : Ev → Mem → Prop} {r : W → Mem → Prop} {L : LD} {ws us ds es : List W} {a p l C : Addr}
/-! ### setting -/
theorem l_sub {ts : TSet} {q : Ev → Mem → Prop} (h : LE B to env M fun o M1 => LE B ti env M1 fun i M2 => LSet B ts o i x M2 fun M3 => q env M3) : LG B (gSub to ti ts) x env M q := fun v σ H Q e s rv k =>
  h σ H _ e s fun vo H1 o M1 s1 u1 r1 p1 => p1 σ H1 _ (e.up u1) s1 fun vi H2 i M2 s2 u2 r2 p2 => p2 vo vi v H2 _ s2 (r1.up u2) r2 (rv.up (u1.trans u2)) fun H3 M3 s3 u3 p3 => k σ H3 env M3 (e.up ((u1.trans u2).trans u3)) s3 ((u1.trans u2).trans u3) p3
theorem setw_lst1 {k : Nat} (hm : M[m]? = some (lstR a ds)) (hk : k < ds.length) (q : PM (M.set m (lstR a (ds.set k x)))) : LSet B rSetL (rf a) (.int (k : Nat)) x M PM := fun vo vi vx H q0 s ro ri rx ko => by
  rw [wr_rf_iff.mp ro, wr_int_iff.mp ri]
  obtain ⟨us, e, rs⟩ := s.at hm
  have z := sm_set s hm e (rs.set k rx)
  refine ⟨a, us, _, k, rfl, rfl, e, ?_, ko _ _ z.1 z.2 q⟩
  unfold ixN
  rw [if_pos (by omega), if_pos (by rw [rs.length]; omega)]
  simp
theorem setw_lst {k : Nat} (hm : M[m]? = some (lstR a ds)) (hk : k < ds.length) (q : PM (M.set m (lstR a (ds.set k x)))) : LSet B (fun o i v H Q => rSetL o i v H Q ∨ rSetD o i v H Q) (rf a) (.int (k : Nat)) x M PM := fun vo vi vx H q0 s ro ri rx ko => .inl (setw_lst1 hm hk q vo vi vx H q0 s ro ri rx ko)
theorem setw_dk {rr : List (L2.Key × W)} {k : L2.Key} (hm : M[m]? = some (dkR a rr)) (hk : y = kw k) (hl : rr.length < 1000000) (q : PM (M.set m (dkR a (aput rr k x)))) : LSet B (fun o i v H Q => rSetL o i v H Q ∨ rSetD o i v H Q) (rf a) y x M PM := fun vo vi vx H q0 s ro ri rx ko => by
  subst hk
  rw [wr_rf_iff.mp ro, kw_kV ri]
  obtain ⟨kvs, e, rs⟩ := s.at hm
  have f : AN.Fr [a] H (upd H a (.dK (putK kvs k vx))) := Fr.setD e
  refine .inr ⟨a, _, rfl, DPut.k e (Nat.lt_of_lt_of_le (by rw [← rs.length]; exact hl) (by decide)), ko _ _ (s.set (r' := dkR a (aput rr k x)) hm f ⟨_, upd_same, ?_⟩ fun x hx => .inl hx) f.toUp q⟩
  exact (rs.imp fun _ _ z => z.up f.toUp).put kid k (rx.up f.toUp)
theorem setw_dt {rr : List (List L2.Key × W)} {k : List L2.Key} (hm : M[m]? = some (dtR a rr)) (hk : y = .tuple (k.map kw)) (hl : rr.length < 1000000) (q : PM (M.set m (dtR a (aput rr k x)))) : LSet B (fun o i v H Q => rSetL o i v H Q ∨ rSetD o i v H Q) (rf a) y x M PM := fun vo vi vx H q0 s ro ri rx ko => by
  subst hk
  rw [wr_rf_iff.mp ro]
  obtain ⟨b, vs, rfl, hb, rs'⟩ := wr_tup_iff.mp ri
  rw [kws_kV rs'] at hb
  obtain ⟨kvs, e, rs⟩ := s.at hm
  have f : AN.Fr [a] H (upd H a (.dT (putK kvs k vx))) := Fr.setT e
  refine .inr ⟨a, _, rfl, DPut.t e hb (Nat.lt_of_lt_of_le (by rw [← rs.length]; exact hl) (by decide)), ko _ _ (s.set (r' := dtR a (aput rr k x)) hm f ⟨_, upd_same, ?_⟩ fun x hx => .inl hx) f.toUp q⟩
  exact (rs.imp fun _ _ z => z.up f.toUp).put id_inj k (rx.up f.toUp)
theorem l_aug {ti : TIp} (e : env[i]? = some (some x)) (h : LE B te env M fun y M1 => LR2 B ti x y M1 fun z M2 => n (env.set i (some z)) M2) : LS B (tAug i te ti) ⟨n, r, b, c⟩ env M := fun σ H D ev s k => by
  obtain ⟨vx, e1, rx⟩ := ev.get i x e
  exact ⟨vx, e1, h σ H _ ev s fun v H1 y M1 s1 u1 r1 p1 => p1 vx v H1 _ s1 (rx.up u1) r1 fun v2 H2 z M2 s2 u2 r2 p2 => k.nx _ H2 _ M2 ((ev.up (u1.trans u2)).set i r2) s2 (u1.trans u2) p2⟩
theorem l_augS {tget : V → V → Hp → VK → Prop} {tip : TIp} {tset : TSet} (h : LE B to env M fun o M1 => LE B ti env M1 fun j M2 => LR2 B tget o j M2 fun x M3 => LE B te env M3 fun y M4 => LR2 B tip x y M4 fun z M5 => LSet B tset o j z M5 fun M6 => n env M6) : LS B (tAugS to ti te tget tip tset) ⟨n, r, b, c⟩ env M := fun σ H D e s k =>
  h σ H _ e s fun vo H1 o M1 s1 u1 r1 p1 => p1 σ H1 _ (e.up u1) s1 fun vi H2 j M2 s2 u2 r2 p2 => p2 vo vi H2 _ s2 (r1.up u2) r2 fun vx H3 x M3 s3 u3 r3 p3 =>
    p3 σ H3 _ (e.up ((u1.trans u2).trans u3)) s3 fun vy H4 y M4 s4 u4 r4 p4 => p4 vx vy H4 _ s4 (r3.up u4) r4 fun vz H5 z M5 s5 u5 r5 p5 =>
      p5 vo vi vz H5 _ s5 (r1.up (((u2.trans u3).trans u4).trans u5)) (r2.up ((u3.trans u4).trans u5)) r5 fun H6 M6 s6 u6 p6 =>
        k.nx σ H6 env M6 (e.up (((((u1.trans u2).trans u3).trans u4).trans u5).trans u6)) s6 (((((u1.trans u2).trans u3).trans u4).trans u5).trans u6) p6
theorem getw_lst {k : Nat} (hm : M[m]? = some (lstR a ds)) (hk : ds[k]? = some w) (q : P w M) : LR2 B (rGetL K) (rf a) (.int (k : Nat)) M P := fun vx vy H Q s r1 r2 ko => by
  rw [wr_rf_iff.mp r1, wr_int_iff.mp r2]
  obtain ⟨us, e, rs⟩ := s.at hm
  obtain ⟨v, ev, rv⟩ := rs.get hk
  exact ⟨a, us, k, v, rfl, rfl, .inl (.inl e), ev, ko _ _ _ M s (Up.refl _) rv q⟩
theorem ipw_int {i j : Int} {f : Int → Int → Int} (q : P (.int (f i j)) M) : LR2 B (ipI f) (.int i) (.int j) M P := fun vx vy H Q s r1 r2 ko => by
  rw [wr_int_iff.mp r1, wr_int_iff.mp r2]; exact ⟨i, j, rfl, rfl, ko _ _ _ M s (Up.refl _) wr_int q⟩
theorem l_gtup {k : Nat} {tg : TGs} {q : Ev → Mem → Prop} (hl : ds.length = k) (h : LGs B tg ds env M q) : LG B (gTup K k tg) (.tuple ds) env M q := fun v σ H Q e s rv ko => by
  obtain ⟨a, vs, rfl, ha, rs⟩ := wr_tup_iff.mp rv
  exact ⟨a, vs, rfl, .inl (.inl ha), by rw [rs.length]; exact hl, h vs σ H Q e s rs ko⟩
theorem l_gcons {tg : TGs} {xs : List W} {q : Ev → Mem → Prop} (h : LG B g x env M fun e1 M1 => LGs B tg xs e1 M1 q) : LGs B (gCons g tg) (x :: xs) env M q := fun vs σ H Q e s rv ko => by
  obtain ⟨v, r, rfl, h1, h2⟩ := wrs_cons_iff.mp rv
  exact ⟨v, r, rfl, h v σ H _ e s h1 fun σ' H' env' M' e' s' u' p' => p' r σ' H' Q e' s' (h2.up u') (ko.up u')⟩
theorem l_gnil {q : Ev → Mem → Prop} (h : q env M) : LGs B gNil [] env M q := fun vs σ H Q e s rv ko => ⟨wrs_nil_iff.mp rv, ko σ H env M e s (Up.refl _) h⟩
theorem l_par {xs : List W} {ts : TA} (h : LA B ts env M fun ws M1 => ∃ x y, ws = [x, y] ∧ n ((env.set i (some x)).set j (some y)) M1) : LS B (tPar i j ts) ⟨n, r, b, c⟩ env M := fun σ H D e s k =>
  h σ H _ e s fun vs H1 ws M1 s1 u1 r1 p1 => by
    obtain ⟨x, y, rfl, p⟩ := p1
    obtain ⟨v, v', rfl, h1, h2⟩ := wrs2 r1
    exact ⟨v, v', rfl, k.nx _ H1 _ M1 (((e.up u1).set i h1).set j h2) s1 u1 p⟩
/-! ### fields -/
theorem pl_get {H : Hp} {fs : List (Str × W)} {gs : List (Str × V)} (r : Paired (fun (p : Str × W) (q : Str × V) => q.1 = p.1 ∧ WR H p.2 q.2) fs gs) {f : Str} : (fs.lookup f = none ∧ gs.lookup f = none) ∨ ∃ w v, fs.lookup f = some w ∧ gs.lookup f = some v ∧ WR H w v := by
  induction r with
  | nil => exact .inl ⟨rfl, rfl⟩
  | @cons p q ps qs hq t ih =>
    obtain ⟨p1, p2⟩ := p
    obtain ⟨q1, q2⟩ := q
    obtain ⟨h1, h2⟩ := hq
    simp only at h1 h2
    subst h1
    by_cases e : f = q1
    · subst e
      exact .inr ⟨p2, q2, by simp [List.lookup], by simp [List.lookup], h2⟩
    · have hb : (f == q1) = false := by simpa using e
      simp only [List.lookup, hb]
      exact ih
theorem pl_put {H : Hp} {fs : List (Str × W)} {gs : List (Str × V)} (r : Paired (fun (p : Str × W) (q : Str × V) => q.1 = p.1 ∧ WR H p.2 q.2) fs gs) {f : Str} {w : W} {v : V} (h : WR H w v) : Paired (fun (p : Str × W) (q : Str × V) => q.1 = p.1 ∧ WR H p.2 q.2) (putW f w fs) (putF f v gs) := by
  induction r with
  | nil => exact .cons ⟨rfl, h⟩ .nil
  | @cons p q ps qs hq t ih =>
    obtain ⟨p1, p2⟩ := p
    obtain ⟨q1, q2⟩ := q
    obtain ⟨h1, h2⟩ := hq
    simp only at h1 h2
    subst h1
    unfold putW putF
    by_cases e : q1 = f
    · rw [if_pos e, if_pos e]; exact .cons ⟨rfl, h⟩ t
    · rw [if_neg e, if_neg e]; exact .cons ⟨rfl, h2⟩ ih
def LFld (B : Bs) (K : PySem.W.Frag) (f : Str) (x : W) (M : Mem) (P : W → Mem → Prop) : Prop := ∀ vx H Q, Sm B M H → WR H x vx → Kx B Q P H → FldQ K f vx H Q
theorem l_fld {f : Str} (h : LE B ta env M fun x M1 => LFld B K f x M1 P) : LE B (tFld K ta f) env M P := fun σ H Q e s k =>
  h σ H _ e s fun v H1 x M1 s1 u1 r1 p1 => p1 v H1 Q s1 r1 (k.up u1)
theorem fldw {f : Str} {fs : List (Str × W)} (hm : M[m]? = some (insR C a fs)) (cl : Cls K C) (no : NoAttr K C f) (e : fs.lookup f = some w) (q : P w M) : LFld B K f (rf a) M P := fun vx H Q s r1 ko => by
  rw [wr_rf_iff.mp r1]
  obtain ⟨dx, gs, ea, rs⟩ := s.at hm
  rcases pl_get rs (f := f) with ⟨e1, _⟩ | ⟨w', v, e1, e2, hv⟩
  · rw [e] at e1; cases e1
  · rw [e] at e1
    cases e1
    exact ⟨a, C, dx, gs, v, rfl, ea, cl, no, e2, ko _ _ _ M s (Up.refl _) hv q⟩
theorem pl_len {H : Hp} {fs : List (Str × W)} {gs : List (Str × V)} (r : Paired (fun (p : Str × W) (q : Str × V) => q.1 = p.1 ∧ WR H p.2 q.2) fs gs) : fs.length = gs.length := Paired.length r
/-- x.f = y -/
def LFldS (B : Bs) (K : PySem.W.Frag) (f : Str) (x y : W) (M : Mem) (PM : Mem → Prop) : Prop := ∀ vx vy H q, Sm B M H → WR H x vx → WR H y vy → Kn B q PM H → FldS K f vx vy H q
theorem l_fldS {f : Str} (h : LE B tv env M fun y M1 => LE B ta env M1 fun x M2 => LFldS B K f x y M2 fun M3 => n env M3) : LS B (sFld K ta tv f) ⟨n, r, b, c⟩ env M := fun σ H D e s k =>
  h σ H _ e s fun vy H1 y M1 s1 u1 r1 p1 => p1 σ H1 _ (e.up u1) s1 fun vx H2 x M2 s2 u2 r2 p2 => p2 vx vy H2 _ s2 r2 (r1.up u2) fun H3 M3 s3 u3 p3 => k.nx σ H3 env M3 (e.up ((u1.trans u2).trans u3)) s3 ((u1.trans u2).trans u3) p3
theorem fldSw {f : Str} {fs : List (Str × W)} (hm : M[m]? = some (insR C a fs)) (cl : Cls K C) (no : NoAttr K C f) (hl : fs.length < 1000) (q : PM (M.set m (insR C a (putW f y fs)))) : LFldS B K f (rf a) y M PM := fun vx vy H q0 s r1 r2 ko => by
  rw [wr_rf_iff.mp r1]
  obtain ⟨dx, gs, ea, rs⟩ := s.at hm
  have fr : AN.Fr [a] H (upd H a (.ins C dx (putF f vy gs))) := Fr.setI ea
  refine ⟨a, C, dx, gs, rfl, ea, cl, no, by rw [← pl_len rs]; exact hl, ko _ _ (s.set (r' := insR C a (putW f y fs)) hm fr ⟨dx, _, upd_same, ?_⟩ fun x hx => .inl hx) fr.toUp q⟩
  exact pl_put (Paired.mapP rs fun _ _ z => ⟨z.1, z.2.up fr.toUp⟩) (r2.up fr.toUp)
end
/-! ### calls -/
abbrev Con' := List W → Mem → (W → Mem → Prop) → Prop
def feet (M : Mem) : List Addr := M.flatMap (·.ft)
def spM (C : Con') : Sp := fun vs H Q _ => ∃ ws M P, WRs H ws vs ∧ MemOk H M ∧ C ws M P ∧ ∀ H' v w M', AN.Fr (feet M) H H' → MemOk H' M' → (∀ r ∈ M', ∀ x ∈ r.ft, x ∈ feet M ∨ H x = none) → WR H' w v → P w M' → Q v H'
/-- what is so in every heap in which M stands -/
def Ent (M N : Mem) : Prop := ∀ B H, Sm B M H → Sm B N H
def LCall (C : Con') (ws : List W) (M : Mem) (P : W → Mem → Prop) : Prop := ∃ N, Ent M N ∧ ∃ is rs, is.Nodup ∧ Pks N is rs ∧ C ws rs fun w M1 => P w (puts (pks N is) is M1)
theorem lcall_ent {C : Con'} {ws : List W} {M N : Mem} {P : W → Mem → Prop} (e : Ent M N) (h : LCall C ws N P) : LCall C ws M P := let ⟨N', e', r⟩ := h; ⟨N', fun B H s => e' B H (e B H s), r⟩
theorem mem_feet {M : Mem} {x : Addr} : x ∈ feet M ↔ ∃ r ∈ M, x ∈ r.ft := by simp [feet, List.mem_flatMap]
section
variable {B : Bs} {K : PySem.W.Frag} {env pat : Ev} {M N R rs rs' : Mem} {P : W → Mem → Prop} {H H' : Hp} {te ta : TE} {ts : TA} {C : Con'} {E : XK} {ws : List W}
theorem Sm.swap (h : Sm B (rs ++ R) H) (f : AN.Fr (feet rs) H H') (k : MemOk H' rs') (hf : ∀ r ∈ rs', ∀ x ∈ r.ft, x ∈ feet rs ∨ H x = none) : Sm B (rs' ++ R) H' := by
  have hp := List.pairwise_append.mp h.ok.dj
  have hdis : ∀ q ∈ R, ∀ x ∈ q.ft, x ∉ feet rs := fun q m x hx hr => by
    obtain ⟨r, hr1, hr2⟩ := mem_feet.mp hr
    exact hp.2.2 r hr1 q m x hr2 hx
  have old : ∀ y, H y = none → y ∈ B.l0 ∨ B.H0 y = none := fun y e => by
    by_cases z : y ∈ B.l0
    · exact .inl z
    · exact .inr (h.fr.free e z)
  have ownf : ∀ y ∈ feet rs, y ∈ B.l0 ∨ B.H0 y = none := fun y hy => by
    obtain ⟨r, hr1, hr2⟩ := mem_feet.mp hy
    exact h.own r (List.mem_append.mpr (.inl hr1)) y hr2
  refine ⟨⟨fun q m => ?_, List.pairwise_append.mpr ⟨k.dj, hp.2.1, fun r m q m' x hx hq => ?_⟩⟩, ?_, fun q m x hx => ?_⟩
  · rcases List.mem_append.mp m with m | m
    · exact k.ok q m
    · exact q.loc H H' _ f (hdis q m) (h.ok.ok q (List.mem_append.mpr (.inr m)))
  · rcases hf r m x hx with e | e
    · exact hdis q m' x hq e
    · exact q.at' H (h.ok.ok q (List.mem_append.mpr (.inr m'))) x hq e
  · exact h.fr.trans f fun b hb => ownf b hb
  · rcases List.mem_append.mp m with m | m
    · rcases hf q m x hx with e | e
      · exact ownf x e
      · exact old x e
    · exact h.own q (List.mem_append.mpr (.inr m)) x hx
theorem l_call (h : LA B ts env M fun ws M1 => LCall C ws M1 P) : LE B (tCall (spM C) [] E ts) env M P := fun σ H Q e s k =>
  h σ H _ e s fun vs H1 ws M1 s1 u1 r1 p1 => by
    obtain ⟨M1, en, is, rs, nd, hp, hc⟩ := p1
    have s1 := en _ _ s1
    have s2 : Sm B (rs ++ pks M1 is) H1 := by simpa using Sm.pks (pre := []) (by simpa using s1) hp
    have s3 : Sm B rs H1 := s2.sub (List.sublist_append_left _ _)
    refine ⟨ws, rs, _, by simpa using r1, s3.ok, hc, fun H' v w M' f mo hf rv pw => ?_⟩
    exact k v H' w _ ((s2.swap f mo hf).puts (hp.emps) nd) (u1.trans f.toUp) rv pw
/-- nothing handed on but values -/
theorem call0 (h : C ws [] fun w M1 => P w (M1 ++ M)) : LCall C ws M P := ⟨M, fun _ _ s => s, [], [], List.nodup_nil, rfl, by simpa [puts, pks] using h⟩
theorem set_set_back {M : Mem} {i : Nat} {r : Res} (e : M[i]? = some r) : (M.set i emp).set i r = M := by
  rw [List.set_set]
  apply List.ext_getElem?
  intro j
  rw [List.getElem?_set]
  by_cases z : i = j
  · subst z
    rw [if_pos rfl, if_pos (List.getElem?_eq_some_iff.mp e).1, e]
  · rw [if_neg z]
/-- one thing handed on, at i -/
theorem call1 (i : Nat) {r : Res} (e : M[i]? = some r) (h : C ws [r] fun w M1 => P w (puts (M.set i emp) [i] M1)) : LCall C ws M P := ⟨M, fun _ _ s => s, [i], [r], by simp, ⟨r, [], rfl, e, rfl⟩, h⟩
theorem puts_same {i : Nat} {r : Res} (e : M[i]? = some r) : puts (M.set i emp) [i] [r] = M := by
  simp only [puts, List.nil_append]
  exact set_set_back e
theorem puts_one {i : Nat} {r : Res} {new : Mem} : puts (M.set i emp) [i] (r :: new) = new ++ M.set i r := by
  simp only [puts, List.set_set]
theorem call2 (i j : Nat) {r q : Res} (hij : i ≠ j) (e : M[i]? = some r) (e' : M[j]? = some q) (h : C ws [r, q] fun w M1 => P w (puts ((M.set i emp).set j emp) [i, j] M1)) : LCall C ws M P :=
  ⟨M, fun _ _ s => s, [i, j], [r, q], by simp [hij], ⟨r, [q], rfl, e, ⟨q, [], rfl, by rw [List.getElem?_set, if_neg hij]; exact e', rfl⟩⟩, h⟩
theorem call3 (i j k : Nat) {r q s : Res} (nd : [i, j, k].Nodup) (e : M[i]? = some r) (e' : M[j]? = some q) (e'' : M[k]? = some s) (h : C ws [r, q, s] fun w M1 => P w (puts (((M.set i emp).set j emp).set k emp) [i, j, k] M1)) : LCall C ws M P := by
  simp only [List.nodup_cons, List.mem_cons, List.not_mem_nil, or_false, not_or] at nd
  exact ⟨M, fun _ _ s => s, [i, j, k], [r, q, s], by simp [nd], ⟨r, [q, s], rfl, e, ⟨q, [s], rfl, by rw [List.getElem?_set, if_neg nd.1.1]; exact e', ⟨s, [], rfl, by rw [List.getElem?_set, if_neg nd.2.1, List.getElem?_set, if_neg nd.1.2]; exact e'', rfl⟩⟩⟩, h⟩
theorem puts_two {i j : Nat} {r q : Res} {new : Mem} (hij : i ≠ j) : puts ((M.set i emp).set j emp) [i, j] (r :: q :: new) = new ++ (M.set i r).set j q := by
  simp only [puts]
  rw [show ((M.set i emp).set j emp).set i r = ((M.set i emp).set i r).set j emp from List.set_comm _ _ hij.symm, List.set_set, List.set_set]
end
/-! ### the end of a def -/
def Drp (M : Mem) (p : Mem → Prop) : Prop := ∃ N, Ent M N ∧ p N
theorem Sm.drp {B : Bs} {M : Mem} {H : Hp} (h : Sm B M H) {is : List Nat} (nd : is.Nodup) : Sm B (is.filterMap fun i => M[i]?) H := by
  have hm : ∀ r ∈ is.filterMap fun i => M[i]?, r ∈ M := fun r hr => by
    obtain ⟨i, _, e⟩ := List.mem_filterMap.mp hr
    exact List.mem_of_getElem? e
  refine ⟨⟨fun r hr => h.ok.ok r (hm r hr), ?_⟩, h.fr, fun r hr => h.own r (hm r hr)⟩
  rw [List.pairwise_filterMap]
  refine nd.imp fun {i j} ne r e q e' x hx hq => ?_
  obtain ⟨li, ei⟩ := List.getElem?_eq_some_iff.mp e
  obtain ⟨lj, ej⟩ := List.getElem?_eq_some_iff.mp e'
  have := List.pairwise_iff_getElem.mp h.ok.dj
  subst ei ej
  rcases Nat.lt_or_gt_of_ne ne with z | z
  · exact this i j li lj z x hx hq
  · exact this j i lj li z x hq hx
theorem drp_ent {M N : Mem} {p : Mem → Prop} (e : Ent M N) (h : p N) : Drp M p := ⟨N, e, h⟩
theorem drp_all {M : Mem} {p : Mem → Prop} (h : p M) : Drp M p := ⟨M, fun _ _ s => s, h⟩
theorem drp_nil {M : Mem} {p : Mem → Prop} (h : p []) : Drp M p := ⟨[], fun B H s => s.sub (List.nil_sublist _), h⟩
theorem drp1 {M : Mem} {p : Mem → Prop} (i : Nat) {r : Res} (e : M[i]? = some r) (h : p [r]) : Drp M p := ⟨_, fun B H s => s.drp (is := [i]) (by simp), by simpa [e] using h⟩
theorem drp2 {M : Mem} {p : Mem → Prop} (i j : Nat) (ij : i ≠ j) {r q : Res} (e : M[i]? = some r) (e' : M[j]? = some q) (h : p [r, q]) : Drp M p := ⟨_, fun B H s => s.drp (is := [i, j]) (by simp [ij]), by simpa [e, e'] using h⟩
theorem drp3 {M : Mem} {p : Mem → Prop} (i j k : Nat) (nd : [i, j, k].Nodup) {r q s : Res} (e : M[i]? = some r) (e' : M[j]? = some q) (e'' : M[k]? = some s) (h : p [r, q, s]) : Drp M p := ⟨_, fun B H s => s.drp (is := [i, j, k]) nd, by simpa [e, e', e''] using h⟩
/-- how a def's body ends -/
def LEnd (P : W → Mem → Prop) : LD := ⟨fun _ M' => Drp M' (P .none), fun w M' => Drp M' (P w), fun _ _ => False, fun _ _ => False⟩
theorem envR_start {H : Hp} {ws : List W} {vs : List V} (r : WRs H ws vs) (k : Nat) : EnvR H (ws.map some ++ List.replicate k none) (vs.map some ++ List.replicate k none) := by
  refine ⟨by simp [r.length], fun i w h => ?_⟩
  rw [List.getElem?_append] at h ⊢
  rw [List.length_map] at h ⊢
  rw [r.length]
  by_cases z : i < ws.length
  · rw [if_pos z, List.getElem?_map] at h
    rw [if_pos z, List.getElem?_map]
    obtain ⟨d, e1, e2⟩ := Option.map_eq_some_iff.mp h
    cases e2
    obtain ⟨v, e3, e4⟩ := r.get e1
    exact ⟨v, by rw [e3]; rfl, e4⟩
  · rw [if_neg z, List.getElem?_replicate] at h
    split at h <;> cases h
theorem body_end {K : PySem.W.Frag} {H : Hp} {Q : VK} {t : TS} {ws : List W} {vs : List V} {M : Mem} {P : W → Mem → Prop} {k : Nat} (r : WRs H ws vs) (mo : MemOk H M)
    (q : ∀ H' v w M', AN.Fr (feet M) H H' → MemOk H' M' → (∀ r ∈ M', ∀ x ∈ r.ft, x ∈ feet M ∨ H x = none) → WR H' w v → P w M' → Q v H')
    (h : LS ⟨K, H, feet M⟩ t (LEnd P) (ws.map some ++ List.replicate k none) M) : t ⟨fun _ H' => Q .non H', Q, fun _ _ => False, fun _ _ => False⟩ (vs.map some ++ List.replicate k none) H := by
  have s0 : Sm ⟨K, H, feet M⟩ M H := ⟨mo, Fr.refl _ _, fun r hr x hx => .inl (mem_feet.mpr ⟨r, hr, hx⟩)⟩
  refine h _ H _ (envR_start r k) s0 ⟨fun σ' H' env' M' e' s' u' p' => ?_, fun v H' w M' s' u' r' p' => ?_, fun _ _ _ _ _ _ _ p => p.elim, fun _ _ _ _ _ _ _ p => p.elim⟩
  · obtain ⟨N, en, p⟩ := p'
    have s2 := en _ _ s'
    exact q H' .non .none _ s2.fr s2.ok s2.own wr_non p
  · obtain ⟨N, en, p⟩ := p'
    have s2 := en _ _ s'
    exact q H' v w _ s2.fr s2.ok s2.own r' p
section
variable {P : Program} {w : World} {K : PySem.W.Frag} {mg : Str → Option Value} {base : Heap} {x m qual : Str} {ps : List Str} {st : Stmt} {N : List Str} {k : Nat} {CC : Con'} {C : Addr}
theorem Def.mcal (D : Def K mg x st ps) (S : FnScope N ps (defScope st)) (len : ∀ ws M P, CC ws M P → ws.length = ps.length)
    (hbody : ∀ (f : Addr) (cdv : Value) (A : Around) (outer : List Env) (s : Shared) (H : Hp) (E : XK) (ws : List W) (M : Mem) (R : W → Mem → Prop) (B : Bs), Kk K → Room k (A.deeper (envOfC x (defScope st) s.heap.objs.size f cdv)) → CC ws M R →
      ∃ t, PSs (cxOf CX0 P w K mg base N x (defScope st) f cdv A outer s H E).nox (defBody st) t ∧ LS B t (LEnd R) (ws.map some ++ List.replicate (N.length - ps.length) none) M) : Cal P w K mg base CX0 (k + 1) x ps (spM CC) := by
  refine Def.cal D S _ rfl (fun vs H Q E h => ?_) (fun f cdv A outer s H vs Q E hk hr h => ?_)
  · obtain ⟨ws, M, R, r, _, c, _⟩ := h
    rw [r.length]; exact len ws M R c
  · obtain ⟨ws, M, R, r, mo, c, q⟩ := h
    obtain ⟨t, h1, h2⟩ := hbody f cdv A outer s H E ws M R ⟨K, H, feet M⟩ hk hr c
    exact ⟨t, h1, body_end r mo q h2⟩
theorem MDef.mcal (D : MDef K C m qual st ps) (cl : Cls K C) (S : FnScope N ps (defScope st)) (len : ∀ ws M P, CC ws M P → ws.length = ps.length)
    (hbody : ∀ (f : Addr) (cdv : Value) (A : Around) (outer : List Env) (s : Shared) (H : Hp) (E : XK) (ws : List W) (M : Mem) (R : W → Mem → Prop) (B : Bs), Kk K → Room k (A.deeper (envOfC qual (defScope st) s.heap.objs.size f cdv)) → CC ws M R →
      ∃ t, PSs (cxOf CX0 P w K mg base N qual (defScope st) f cdv A outer s H E).nox (defBody st) t ∧ LS B t (LEnd R) (ws.map some ++ List.replicate (N.length - ps.length) none) M) : MCal P w K mg base CX0 (k + 1) C m ps (spM CC) := by
  refine MDef.cal D cl S _ rfl (fun vs H Q E h => ?_) (fun f cdv A outer s H vs Q E hk hr h => ?_)
  · obtain ⟨ws, M, R, r, _, c, _⟩ := h
    rw [r.length]; exact len ws M R c
  · obtain ⟨ws, M, R, r, mo, c, q⟩ := h
    obtain ⟨t, h1, h2⟩ := hbody f cdv A outer s H E ws M R ⟨K, H, feet M⟩ hk hr c
    exact ⟨t, h1, body_end r mo q h2⟩
theorem IDef.mcal (D : IDef K C qual st ps) (hm : mg x = some (.ref C)) (S : FnScope N ps (defScope st)) (len : ∀ ws M P, CC ws M P → ws.length = ps.length)
    (hbody : ∀ (f : Addr) (cdv : Value) (A : Around) (outer : List Env) (s : Shared) (H : Hp) (E : XK) (ws : List W) (M : Mem) (R : W → Mem → Prop) (B : Bs), Kk K → Room k (A.deeper (envOfC qual (defScope st) s.heap.objs.size f cdv)) → CC ws M R →
      ∃ t, PSs (cxOf CX0 P w K mg base N qual (defScope st) f cdv A outer s H E).nox (defBody st) t ∧ LS B t (LEnd R) (ws.map some ++ List.replicate (N.length - ps.length) none) M) : KCal P w K mg base CX0 (k + 1) x C ps (spM CC) := by
  refine IDef.cal D hm S _ rfl (fun vs H Q E h => ?_) (fun f cdv A outer s H vs Q E hk hr h => ?_)
  · obtain ⟨ws, M, R, r, _, c, _⟩ := h
    rw [r.length]; exact len ws M R c
  · obtain ⟨ws, M, R, r, mo, c, q⟩ := h
    obtain ⟨t, h1, h2⟩ := hbody f cdv A outer s H E ws M R ⟨K, H, feet M⟩ hk hr c
    exact ⟨t, h1, body_end r mo q h2⟩
end
section
variable {B : Bs} {K : PySem.W.Frag} {env pat : Ev} {M N : Mem} {P : W → Mem → Prop} {te ta : TE} {ts : TA} {E : XK} {C a : Addr} {m : Str} {CC : Con'} {i : Nat} {fs : List (Str × W)} {x : W}
/-- x.m(..) -/
def LMeth (B : Bs) (C : Addr) (m : Str) (CC : Con') (ts : TA) (env : Ev) (x : W) (M : Mem) (P : W → Mem → Prop) : Prop := (∀ vx H, Sm B M H → WR H x vx → ∃ a dx fs, vx = .ref a ∧ H a = some (.ins C dx fs) ∧ fs.lookup m = none) ∧ LA B ts env M fun ws M2 => LCall CC (x :: ws) M2 P
theorem l_meth (h : LE B ta env M fun x M1 => LMeth B C m CC ts env x M1 P) : LE B (tMeth C m (spM CC) [] E ta ts) env M P := fun σ H Q e s k =>
  h σ H _ e s fun v H1 x M1 s1 u1 r1 p1 => by
    obtain ⟨a, dx, fs, rfl, ea, hl⟩ := p1.1 v H1 s1 r1
    have h2 := p1.2
    refine ⟨a, dx, fs, rfl, ea, hl, h2 σ H1 _ (e.up u1) s1 fun vs H2 ws M2 s2 u2 r2 p2 => ?_⟩
    obtain ⟨M2, en, is, rs, nd, hp, hc⟩ := p2
    have s2 := en _ _ s2
    have s3 : Sm B (rs ++ pks M2 is) H2 := by simpa using Sm.pks (pre := []) (by simpa using s2) hp
    have s4 : Sm B rs H2 := s3.sub (List.sublist_append_left _ _)
    refine ⟨x :: ws, rs, _, by simpa using wrs_cons (r1.up u2) r2, s4.ok, hc, fun H' v w M' f mo hf rv pw => ?_⟩
    exact k v H' w _ ((s3.swap f mo hf).puts (hp.emps) nd) ((u1.trans u2).trans f.toUp) rv pw
theorem methw (hm : M[i]? = some (insR C a fs)) (hl : fs.lookup m = none) (q : LA B ts env M fun ws M2 => LCall CC (rf a :: ws) M2 P) : LMeth B C m CC ts env (rf a) M P := by
  refine ⟨fun vx H s r => ?_, q⟩
  rw [wr_rf_iff.mp r]
  obtain ⟨dx, gs, ea, rs⟩ := s.at hm
  rcases pl_get rs (f := m) with ⟨_, e1⟩ | ⟨w', v, e1, e2, hv⟩
  · exact ⟨a, dx, gs, rfl, ea, e1⟩
  · rw [hl] at e1; cases e1
/-- C(..) -/
theorem l_make (h : LA B ts env M fun ws M1 => ∀ x, LCall CC (rf x :: ws) (insR C x [] :: M1) fun w M2 => w = .none ∧ P (rf x) M2) : LE B (tMake C (spM CC) [] E ts) env M P := fun σ H Q e s k =>
  h σ H _ e s fun vs H1 ws M1 s1 u1 r1 p1 => fun x dx nx nd ne => by
    have f : AN.Fr [] H1 (upd (upd H1 dx (.own x)) x (.ins C dx [])) := (AN.Fr.new (p := dx) (o := .own x) nd).trans (AN.Fr.new (p := x) (o := .ins C dx []) (by rw [upd_ne ne.symm]; exact nx)) (fun _ m => by cases m)
    have s2 : Sm B (insR C x [] :: M1) (upd (upd H1 dx (.own x)) x (.ins C dx [])) := s1.new f ⟨dx, [], upd_same, .nil⟩ fun y hy => by rw [List.mem_singleton.mp hy]; exact nx
    obtain ⟨N, en, is, rs, nd', hp, hc⟩ := p1 x
    have s2 := en _ _ s2
    have s3 := Sm.pks (pre := []) (by simpa using s2) hp
    rw [List.nil_append] at s3
    have s4 : Sm B rs _ := s3.sub (List.sublist_append_left _ _)
    refine ⟨rf x :: ws, rs, _, by simpa using wrs_cons wr_rf (r1.up f.toUp), s4.ok, hc, fun H' v w M' f' mo hf rv pw => ?_⟩
    obtain ⟨rfl, pw⟩ := pw
    exact ⟨wr_non_iff.mp rv, k _ H' _ _ ((s3.swap f' mo hf).puts (hp.emps) nd') ((u1.trans f.toUp).trans f'.toUp) wr_rf pw⟩
end
end AN

/-! AN: loops and comprehensions over values and memory. -/
namespace AN
open PySem PySem.Spec PyProof.Rows L2
/-- the next turn -/
def Nxt (Pv : Ev → Mem → Prop) : Ev → Mem → Prop := fun e M => ∃ pat, EvLe e pat ∧ ∃ N, Ent M N ∧ Pv pat N
section
variable {B : Bs} {K : PySem.W.Frag} {env pat : Ev} {M N : Mem} {P : W → Mem → Prop} {PB : Bool → Mem → Prop} {te ta tb : TE} {tt : TT} {t : TS} {ts : TA} {g : TG} {i j m : Nat} {w x y z : W} {n b c : Ev → Mem → Prop} {r : W → Mem → Prop} {ws us ds es : List W} {a p l : Addr}
theorem l_le (h : EvLe env pat) {L : LD} (q : LS B t L pat M) : LS B t L env M := fun σ H D e s k => q σ H D (e.le h) s k
/-- the same memory, told in another order or less of it -/
theorem l_sub' {L : LD} (e : N.Sublist M) (q : LS B t L env N) : LS B t L env M := fun σ H D ev s k => q σ H D ev (s.sub e) k
theorem l_perm {L : LD} (e : M.Perm N) (q : LS B t L env N) : LS B t L env M := fun σ H D ev s k => q σ H D ev (s.perm e) k
theorem l_while (Wv : Nat → Ev → Mem → Prop) (m0 : Nat) (h0 : Nxt (Wv m0) env M)
    (step : ∀ m env M, Wv m env M → LT B tt env M fun k M1 => if k = true then LS B t ⟨Nxt (fun e M => ∃ m', m' < m ∧ Wv m' e M), r, n, Nxt (fun e M => ∃ m', m' < m ∧ Wv m' e M)⟩ env M1 else n env M1) : LS B (tWhile tt t) ⟨n, r, b, c⟩ env M := fun σ H D ev s ko => by
  refine ⟨fun m σ H' => ∃ env M, EnvR H' env σ ∧ Sm B M H' ∧ Up H H' ∧ Wv m env M, ⟨m0, ?_⟩, fun m σ' H' hW => ?_⟩
  · obtain ⟨pat, e, N, en, p⟩ := h0
    exact ⟨pat, N, ev.le e, en _ _ s, Up.refl _, p⟩
  · obtain ⟨env', M', e', s', u', p'⟩ := hW
    refine step m env' M' p' σ' H' _ e' s' fun k H1 M1 s1 u1 p1 => ?_
    cases k with
    | false => exact ko.nx σ' H1 env' M1 (e'.up u1) s1 (u'.trans u1) p1
    | true =>
      rw [if_pos rfl] at p1
      rw [if_pos rfl]
      refine ⟨fun σ2 H2 => ∃ m', m' < m ∧ ∃ env M, EnvR H2 env σ2 ∧ Sm B M H2 ∧ Up H H2 ∧ Wv m' env M, fun σ2 H2 z => z, p1 σ' H1 _ (e'.up u1) s1 ⟨fun σ2 H2 e2 M2 ee ss uu pp => ?_, ko.rt.up (u'.trans u1), ko.nx.up (u'.trans u1), fun σ2 H2 e2 M2 ee ss uu pp => ?_⟩⟩
      · obtain ⟨pat, le, N, en, m', hm, q⟩ := pp
        exact ⟨m', hm, pat, N, ee.le le, en _ _ ss, (u'.trans u1).trans uu, q⟩
      · obtain ⟨pat, le, N, en, m', hm, q⟩ := pp
        exact ⟨m', hm, pat, N, ee.le le, en _ _ ss, (u'.trans u1).trans uu, q⟩
/-- for over what w is -/
def LFor (B : Bs) (F : TG → TS → (L2.St → Hp → Prop) → VK → L2.St → VK) (g : TG) (t : TS) (n : Ev → Mem → Prop) (r : W → Mem → Prop) (w : W) (env : Ev) (M : Mem) : Prop :=
  ∀ σ H nx rt v, EnvR H env σ → Sm B M H → WR H w v → Ks B nx n H → Kx B rt r H → F g t nx rt σ v H
theorem l_forT (h : LE B te env M fun w M1 => LFor B (ForT K) g t n r w env M1) : LS B (tFor (fun σ H R => iList K te σ H R ∨ iTup K te σ H R) g t) ⟨n, r, b, c⟩ env M := fun σ H D e s k => by
  obtain ⟨dn, dr, db, dc⟩ := D
  exact g_forT (h σ H _ e s fun v H1 w M1 s1 u1 r1 p1 => p1 σ H1 dn dr v (e.up u1) s1 r1 (k.nx.up u1) (k.rt.up u1))
theorem l_forL (h : LE B te env M fun w M1 => LFor B (ForL K) g t n r w env M1) : LS B (tFor (fun σ H R => iList K te σ H R ∨ iTup K te σ H R) g t) ⟨n, r, b, c⟩ env M := fun σ H D e s k => by
  obtain ⟨dn, dr, db, dc⟩ := D
  exact g_forL (h σ H _ e s fun v H1 w M1 s1 u1 r1 p1 => p1 σ H1 dn dr v (e.up u1) s1 r1 (k.nx.up u1) (k.rt.up u1))
theorem forw_tup (Pv : Nat → Ev → Mem → Prop) (h0 : Nxt (Pv 0) env M)
    (step : ∀ i d env' M', ds[i]? = some d → Pv i env' M' → LG B g d env' M' fun e2 M2 => LS B t ⟨Nxt (Pv (i + 1)), r, n, Nxt (Pv (i + 1))⟩ e2 M2)
    (hd : ∀ env' M', Pv ds.length env' M' → n env' M') : LFor B (ForT K) g t n r (.tuple ds) env M := fun σ H nx rt v e s rv kn kr => by
  obtain ⟨a, vs, rfl, ha, rs⟩ := wr_tup_iff.mp rv
  refine ⟨a, rfl, ⟨vs, .of ha⟩, for_tup (xs := vs) (D := ⟨nx, rt, fun _ _ => False, fun _ _ => False⟩) (fun i σ' H' => ∃ env' M', EnvR H' env' σ' ∧ Sm B M' H' ∧ Up H H' ∧ Pv i env' M') ?_ (fun i σ' H' _ p => ?_) (fun i x σ' H' ex p => ?_) (fun σ' H' p => ?_)⟩
  · obtain ⟨pat, le, N, en, p⟩ := h0
    exact ⟨pat, N, e.le le, en _ _ s, Up.refl _, p⟩
  · obtain ⟨_, _, _, _, u, _⟩ := p
    exact .of (u _ _ ha)
  · obtain ⟨env', M', e', s', u', p'⟩ := p
    obtain ⟨d, ed, rd⟩ := rs.get' ex
    refine step i d env' M' ed p' x σ' H' _ e' s' (rd.up u') fun σ2 H2 e2 M2 ee2 s2 u2 p2 => p2 σ2 H2 _ ee2 s2 ⟨?_, kr.up (u'.trans u2), kn.up (u'.trans u2), ?_⟩
    · exact fun σ3 H3 e3 M3 ee3 s3 u3 ⟨pat, le, N, en, q⟩ => ⟨pat, N, ee3.le le, en _ _ s3, (u'.trans u2).trans u3, q⟩
    · exact fun σ3 H3 e3 M3 ee3 s3 u3 ⟨pat, le, N, en, q⟩ => ⟨pat, N, ee3.le le, en _ _ s3, (u'.trans u2).trans u3, q⟩
  · obtain ⟨env', M', e', s', u', p'⟩ := p
    exact kn σ' H' env' M' e' s' u' (hd env' M' (by rw [← rs.length]; exact p'))
theorem forw_lst (Pv : Nat → Ev → Mem → Prop) (h0 : Nxt (Pv 0) env M) (hl : ∀ i env' M', Pv i env' M' → ∃ m : Nat, M'[m]? = some (lstR a ds))
    (step : ∀ i d env' M', ds[i]? = some d → Pv i env' M' → LG B g d env' M' fun e2 M2 => LS B t ⟨Nxt (Pv (i + 1)), r, n, Nxt (Pv (i + 1))⟩ e2 M2)
    (hd : ∀ env' M', Pv ds.length env' M' → n env' M') : LFor B (ForL K) g t n r (rf a) env M := fun σ H nx rt v e s rv kn kr => by
  rw [wr_rf_iff] at rv
  subst rv
  have h0' := h0
  obtain ⟨pat0, le0, N0, en0, p0⟩ := h0'
  obtain ⟨m0, hm0⟩ := hl 0 pat0 N0 p0
  have s0 := en0 _ _ s
  obtain ⟨vs, ha, rs⟩ := s0.at hm0
  -- the list's own values, as they stand at each turn, stand for ds
  refine ⟨a, rfl, ⟨vs, .inl (.inl ha)⟩, fun i m σ' H' => m = ds.length - i ∧ i ≤ ds.length ∧ ∃ env' M', EnvR H' env' σ' ∧ Sm B M' H' ∧ Up H H' ∧ Pv i env' M', ⟨ds.length, by simp, Nat.zero_le _, pat0, N0, e.le le0, s0, Up.refl _, p0⟩, ?_⟩
  rintro i m σ' H' ⟨rfl, hi, env', M', e', s', u', p'⟩
  obtain ⟨m', hm'⟩ := hl i env' M' p'
  obtain ⟨vs', ha', rs'⟩ := s'.at hm'
  have uniq : ∀ ys, SqL K H' a ys → ys = vs' ∨ ∃ o, K.lookup a = some o := fun ys h => by
    rcases h with (h | ⟨o, h⟩) | ⟨o, _, _, h, _⟩
    · rw [ha'] at h; cases h; exact .inl rfl
    · rw [ha'] at h; cases h
    · exact .inr ⟨o, h⟩
  by_cases hlt : i < ds.length
  · obtain ⟨x, ex, rx⟩ := rs'.get (List.getElem?_eq_getElem hlt)
    refine .inr ⟨⟨vs', x, .inl (.inl ha'), ex⟩, fun σ2 H2 => ∃ env' M', EnvR H2 env' σ2 ∧ Sm B M' H2 ∧ Up H H2 ∧ Pv (i + 1) env' M', fun σ2 H2 z => ⟨ds.length - (i + 1), by omega, rfl, hlt, z⟩, fun x' H'' y => ?_⟩
    obtain ⟨rfl, y⟩ := y
    have e1 := y vs' (.inl (.inl ha'))
    rw [ex] at e1
    cases e1
    refine step i ds[i] env' M' (List.getElem?_eq_getElem hlt) p' x σ' H'' _ e' s' rx fun σ2 H2 e2 M2 ee2 s2 u2 p2 => p2 σ2 H2 _ ee2 s2 ⟨?_, kr.up (u'.trans u2), kn.up (u'.trans u2), ?_⟩
    · exact fun σ3 H3 e3 M3 ee3 s3 u3 ⟨pat, le, N, en, q⟩ => ⟨pat, N, ee3.le le, en _ _ s3, (u'.trans u2).trans u3, q⟩
    · exact fun σ3 H3 e3 M3 ee3 s3 u3 ⟨pat, le, N, en, q⟩ => ⟨pat, N, ee3.le le, en _ _ s3, (u'.trans u2).trans u3, q⟩
  · have ei : i = ds.length := by omega
    subst ei
    exact .inl ⟨⟨vs', .inl (.inl ha'), by rw [rs'.length]; exact Nat.le_refl _⟩, kn σ' H' env' M' e' s' u' (hd env' M' p')⟩
/-- for over range(j) -/
def LForR (B : Bs) (g : TG) (t : TS) (n : Ev → Mem → Prop) (r : W → Mem → Prop) (ws : List W) (env : Ev) (M : Mem) : Prop :=
  ∀ σ H nx rt vs, EnvR H env σ → Sm B M H → WRs H ws vs → Ks B nx n H → Kx B rt r H → ForR1 g t nx rt σ vs H
theorem l_forR1 (h : LA B ts env M fun ws M1 => LForR B g t n r ws env M1) : LS B (tFor (iRng1 ts) g t) ⟨n, r, b, c⟩ env M := fun σ H D e s k => by
  obtain ⟨dn, dr, db, dc⟩ := D
  exact g_forR1 (h σ H _ e s fun v H1 w M1 s1 u1 r1 p1 => p1 σ H1 dn dr v (e.up u1) s1 r1 (k.nx.up u1) (k.rt.up u1))
theorem forw_rng {k : Nat} {j : Int} (hj : j = (k : Nat)) (hk : k < 1000000000) (Pv : Nat → Ev → Mem → Prop) (h0 : Nxt (Pv 0) env M)
    (step : ∀ (i : Nat) env' M', i < k → Pv i env' M' → LG B g (.int (i : Nat)) env' M' fun e2 M2 => LS B t ⟨Nxt (Pv (i + 1)), r, n, Nxt (Pv (i + 1))⟩ e2 M2)
    (hd : ∀ env' M', Pv k env' M' → n env' M') : LForR B g t n r [.int j] env M := fun σ H nx rt vs e s rv kn kr => by
  obtain ⟨v, rfl, r1⟩ := wrs1 rv
  rw [wr_int_iff.mp r1]
  refine forR1_q hj hk (fun i σ' H' => ∃ env' M', EnvR H' env' σ' ∧ Sm B M' H' ∧ Up H H' ∧ Pv i env' M') ?_ (fun i σ' H' hi p => ?_) (fun σ' H' p => ?_)
  · obtain ⟨pat, le, N, en, p⟩ := h0
    exact ⟨pat, N, e.le le, en _ _ s, Up.refl _, p⟩
  · obtain ⟨env', M', e', s', u', p'⟩ := p
    refine step i env' M' hi p' _ σ' H' _ e' s' wr_int fun σ2 H2 e2 M2 ee2 s2 u2 p2 => p2 σ2 H2 _ ee2 s2 ⟨?_, kr.up (u'.trans u2), kn.up (u'.trans u2), ?_⟩
    · exact fun σ3 H3 e3 M3 ee3 s3 u3 ⟨pat, le, N, en, q⟩ => ⟨pat, N, ee3.le le, en _ _ s3, (u'.trans u2).trans u3, q⟩
    · exact fun σ3 H3 e3 M3 ee3 s3 u3 ⟨pat, le, N, en, q⟩ => ⟨pat, N, ee3.le le, en _ _ s3, (u'.trans u2).trans u3, q⟩
  · obtain ⟨env', M', e', s', u', p'⟩ := p
    exact kn σ' H' env' M' e' s' u' (hd env' M' p')
/-! ### comprehensions -/
theorem wipe_get {σ : L2.St} : ∀ {vs : List Nat} {i : Nat}, i ∈ vs → (L2.wipe σ vs)[i]? = if i < σ.length then some none else none
  | [], i, h => by cases h
  | v :: vs, i, h => by
    unfold L2.wipe
    rw [List.getElem?_set, L2.wipe_length]
    by_cases z : v = i
    · subst z; simp
    · rw [if_neg z]
      rcases List.mem_cons.mp h with e | h
      · exact absurd e.symm z
      · exact wipe_get h
theorem wipe_set {σ : L2.St} {vs : List Nat} {i : Nat} {o : Option V} (h : i ∈ vs) : L2.wipe (σ.set i o) vs = L2.wipe σ vs := by
  apply List.ext_getElem?
  intro j
  by_cases z : j ∈ vs
  · rw [wipe_get z, wipe_get z, List.length_set]
  · rw [wipe_out z, wipe_out z, List.getElem?_set, if_neg (fun e => z (by rw [← e]; exact h))]
theorem wipe_wipe {σ : L2.St} {vs : List Nat} : L2.wipe (L2.wipe σ vs) vs = L2.wipe σ vs := by
  apply List.ext_getElem?
  intro j
  by_cases z : j ∈ vs
  · rw [wipe_get z, wipe_get z, L2.wipe_length]
  · rw [wipe_out z]
/-- an item's place in a comprehension -/
def LGw (B : Bs) (g : TG) (vs : List Nat) (x : W) (env : Ev) (M : Mem) (P : Ev → Mem → Prop) : Prop := ∀ v σ H q, EnvR H env σ → Sm B M H → WR H x v → (∀ σ' H' env' M', EnvR H' env' σ' → Sm B M' H' → Up H H' → L2.wipe σ' vs = L2.wipe σ vs → P env' M' → q σ' H') → g v σ H q
def LGws (B : Bs) (g : TGs) (vs : List Nat) (xs : List W) (env : Ev) (M : Mem) (P : Ev → Mem → Prop) : Prop := ∀ us σ H q, EnvR H env σ → Sm B M H → WRs H xs us → (∀ σ' H' env' M', EnvR H' env' σ' → Sm B M' H' → Up H H' → L2.wipe σ' vs = L2.wipe σ vs → P env' M' → q σ' H') → g us σ H q
theorem l_namew {vs : List Nat} {q : Ev → Mem → Prop} (hi : vs.elem i = true) (h : q (env.set i (some x)) M) : LGw B (gName i) vs x env M q := fun v σ H Q e s rv k => k _ H _ M (e.set i rv) s (Up.refl _) (wipe_set (by simpa using hi)) h
theorem l_gtupw {vs : List Nat} {k : Nat} {tg : TGs} {q : Ev → Mem → Prop} (hl : ds.length = k) (h : LGws B tg vs ds env M q) : LGw B (gTup K k tg) vs (.tuple ds) env M q := fun v σ H Q e s rv ko => by
  obtain ⟨a, us, rfl, ha, rs⟩ := wr_tup_iff.mp rv
  exact ⟨a, us, rfl, .inl (.inl ha), by rw [rs.length]; exact hl, h us σ H Q e s rs ko⟩
theorem l_gconsw {vs : List Nat} {tg : TGs} {xs : List W} {q : Ev → Mem → Prop} (h : LGw B g vs x env M fun e1 M1 => LGws B tg vs xs e1 M1 q) : LGws B (gCons g tg) vs (x :: xs) env M q := fun us σ H Q e s rv ko => by
  obtain ⟨v, r, rfl, h1, h2⟩ := wrs_cons_iff.mp rv
  exact ⟨v, r, rfl, h v σ H _ e s h1 fun σ' H' env' M' e' s' u' w' p' => p' r σ' H' Q e' s' (h2.up u') fun σ2 H2 e2 M2 ee ss uu ww pp => ko σ2 H2 e2 M2 ee ss (u'.trans uu) (ww.trans w') pp⟩
theorem l_gnilw {vs : List Nat} {q : Ev → Mem → Prop} (h : q env M) : LGws B gNil vs [] env M q := fun us σ H Q e s rv ko => ⟨wrs_nil_iff.mp rv, ko σ H env M e s (Up.refl _) rfl h⟩
/-- one turn: x the item, A what the new list may be, then -/
def LElt (B : Bs) (g : TG) (tt : TT) (te : TE) (vs : List Nat) (env : Ev) (x : W) (D : Addr) (Pn : Mem → Prop) (M : Mem) : Prop :=
  LGw B g vs x (wipeE env vs) M fun e2 M2 => LT B tt e2 M2 fun k M3 => if k = true then LE B te e2 M3 fun y M4 => ∃ m acc, M4[m]? = some (lstR D acc) ∧ acc.length < sizeLine ∧ Pn (M4.set m (lstR D (acc ++ [y]))) else Pn M3
theorem elt_run {vs : List Nat} {D : Addr} {Pn : Mem → Prop} {σ : L2.St} {H0 H : Hp} {v : V} {P1 : Hp → Prop} (h : LElt B g tt te vs env x D Pn M) (e0 : EnvR H0 env σ) (u0 : Up H0 H) (s : Sm B M H) (rv : WR H x v) (k : ∀ H' M', Sm B M' H' → Up H H' → Pn M' → P1 H') : Elt1 g tt te vs σ D P1 v H := by
  refine h v (L2.wipe σ vs) H _ ((e0.up u0).wipe vs) s rv fun σ2 H2 e2 M2 ee2 s2 u2 w2 p2 => ⟨w2.trans wipe_wipe, p2 σ2 H2 _ ee2 s2 fun kk H3 M3 s3 u3 p3 => ?_⟩
  cases kk with
  | false => exact k H3 M3 s3 (u2.trans u3) p3
  | true =>
    rw [if_pos rfl] at p3
    rw [if_pos rfl]
    refine p3 σ2 H3 _ (ee2.up u3) s3 fun y' H4 y M4 s4 u4 r4 p4 => ?_
    obtain ⟨m, acc, hm, hl, pn⟩ := p4
    obtain ⟨us, ea, rs⟩ := s4.at hm
    have z := sm_set s4 hm ea (rs.append (wrs_cons r4 wrs_nil))
    exact ⟨us, ea, by rw [rs.length]; exact hl, k _ _ z.1 (((u2.trans u3).trans u4).trans z.2) pn⟩
/-- a comprehension over what w is -/
def LLc (B : Bs) (F : TG → TT → TE → List Nat → L2.St → VK → VK) (g : TG) (tt : TT) (te : TE) (vs : List Nat) (w : W) (env : Ev) (M : Mem) (P : W → Mem → Prop) : Prop :=
  ∀ σ H Q v, EnvR H env σ → Sm B M H → WR H w v → Kx B Q P H → F g tt te vs σ Q v H
theorem l_lcT {vs : List Nat} (h : LE B ta env M fun w M1 => LLc B (LcT K) g tt te vs w env M1 P) : LE B (tLc (fun σ H R => iList K ta σ H R ∨ iTup K ta σ H R) g tt te vs) env M P := fun σ H Q e s k =>
  g_lcT (h σ H _ e s fun v H1 w M1 s1 u1 r1 p1 => p1 σ H1 Q v (e.up u1) s1 r1 (k.up u1))
theorem l_lcL {vs : List Nat} (h : LE B ta env M fun w M1 => LLc B (LcL K) g tt te vs w env M1 P) : LE B (tLc (fun σ H R => iList K ta σ H R ∨ iTup K ta σ H R) g tt te vs) env M P := fun σ H Q e s k =>
  g_lcL (h σ H _ e s fun v H1 w M1 s1 u1 r1 p1 => p1 σ H1 Q v (e.up u1) s1 r1 (k.up u1))
theorem lcw_tup {vs : List Nat} (Pv : Addr → Nat → Mem → Prop) (h0 : ∀ D, Pv D 0 (lstR D [] :: M))
    (step : ∀ D i d M', ds[i]? = some d → Pv D i M' → LElt B g tt te vs env d D (Pv D (i + 1)) M')
    (hd : ∀ D M', Pv D ds.length M' → P (rf D) M') : LLc B (LcT K) g tt te vs (.tuple ds) env M P := fun σ H Q v e s rv k => by
  obtain ⟨a, us, rfl, ha, rs⟩ := wr_tup_iff.mp rv
  refine ⟨a, rfl, ⟨us, .of ha⟩, fun D nD => lc_tup (xs := us) (fun i H' => ∃ M', Sm B M' H' ∧ Up H H' ∧ Pv D i M') ?_ (fun i H' _ p => ?_) (fun i x H' ex p => ?_) (fun H' p => ?_)⟩
  · exact ⟨_, sm_lst s wrs_nil nD, (Fr.new nD : AN.Fr [] _ _).toUp, h0 D⟩
  · obtain ⟨_, _, u, _⟩ := p
    exact .of (u _ _ ha)
  · obtain ⟨M', s', u', p'⟩ := p
    obtain ⟨d, ed, rd⟩ := rs.get' ex
    exact elt_run (step D i d M' ed p') e u' s' (rd.up u') fun H2 M2 s2 u2 p2 => ⟨M2, s2, u'.trans u2, p2⟩
  · obtain ⟨M', s', u', p'⟩ := p
    exact k _ H' _ M' s' u' wr_rf (hd D M' (by rw [← rs.length]; exact p'))
theorem lcw_lst {vs : List Nat} (Pv : Addr → Nat → Mem → Prop) (h0 : ∀ D, Pv D 0 (lstR D [] :: M)) (hm : M[m]? = some (lstR a ds)) (hl : ∀ D i M', Pv D i M' → ∃ m : Nat, M'[m]? = some (lstR a ds))
    (step : ∀ D i d M', ds[i]? = some d → Pv D i M' → LElt B g tt te vs env d D (Pv D (i + 1)) M')
    (hd : ∀ D M', Pv D ds.length M' → P (rf D) M') : LLc B (LcL K) g tt te vs (rf a) env M P := fun σ H Q v e s rv k => by
  rw [wr_rf_iff] at rv
  subst rv
  obtain ⟨us, ha, rs⟩ := s.at hm
  refine ⟨a, rfl, ⟨us, .inl (.inl ha)⟩, fun D nD => ?_⟩
  refine ⟨fun i m H' => m = ds.length - i ∧ i ≤ ds.length ∧ ∃ M', Sm B M' H' ∧ Up H H' ∧ Pv D i M', ⟨ds.length, by simp, Nat.zero_le _, _, sm_lst s wrs_nil nD, (Fr.new nD : AN.Fr [] _ _).toUp, h0 D⟩, ?_⟩
  rintro i m' H' ⟨rfl, hi, M', s', u', p'⟩
  obtain ⟨m2, hm2⟩ := hl D i M' p'
  obtain ⟨vs', ha', rs'⟩ := s'.at hm2
  by_cases hlt : i < ds.length
  · obtain ⟨x, ex, rx⟩ := rs'.get (List.getElem?_eq_getElem hlt)
    refine .inr ⟨⟨vs', x, .inl (.inl ha'), ex⟩, fun H2 => ∃ M', Sm B M' H2 ∧ Up H H2 ∧ Pv D (i + 1) M', fun H2 z => ⟨ds.length - (i + 1), by omega, rfl, hlt, z⟩, fun x' H'' y => ?_⟩
    obtain ⟨rfl, y⟩ := y
    have e1 := y vs' (.inl (.inl ha'))
    rw [ex] at e1
    cases e1
    exact elt_run (step D i ds[i] M' (List.getElem?_eq_getElem hlt) p') e u' s' rx fun H2 M2 s2 u2 p2 => ⟨M2, s2, u'.trans u2, p2⟩
  · have ei : i = ds.length := by omega
    subst ei
    exact .inl ⟨⟨vs', .inl (.inl ha'), by rw [rs'.length]; exact Nat.le_refl _⟩, k _ H' _ M' s' u' wr_rf (hd D M' p')⟩
def LLcR (B : Bs) (g : TG) (tt : TT) (te : TE) (vs : List Nat) (ws : List W) (env : Ev) (M : Mem) (P : W → Mem → Prop) : Prop :=
  ∀ σ H Q us, EnvR H env σ → Sm B M H → WRs H ws us → Kx B Q P H → LcR1 g tt te vs σ Q us H
theorem l_lcR1 {vs : List Nat} (h : LA B ts env M fun ws M1 => LLcR B g tt te vs ws env M1 P) : LE B (tLc (iRng1 ts) g tt te vs) env M P := fun σ H Q e s k =>
  g_lcR1 (h σ H _ e s fun v H1 w M1 s1 u1 r1 p1 => p1 σ H1 Q v (e.up u1) s1 r1 (k.up u1))
theorem lcw_rng {vs : List Nat} {k : Nat} {j : Int} (hj : j = (k : Nat)) (hk : k < 1000000000) (Pv : Addr → Nat → Mem → Prop) (h0 : ∀ D, Pv D 0 (lstR D [] :: M))
    (step : ∀ D (i : Nat) M', i < k → Pv D i M' → LElt B g tt te vs env (.int (i : Nat)) D (Pv D (i + 1)) M')
    (hd : ∀ D M', Pv D k M' → P (rf D) M') : LLcR B g tt te vs [.int j] env M P := fun σ H Q us e s rv ko => by
  obtain ⟨v, rfl, r1⟩ := wrs1 rv
  rw [wr_int_iff.mp r1]
  refine lcR1_q hj hk (fun D i H' => ∃ M', Sm B M' H' ∧ Up H H' ∧ Pv D i M') (fun D nD => ⟨_, sm_lst s wrs_nil nD, (Fr.new nD : AN.Fr [] _ _).toUp, h0 D⟩) (fun D i H' nD hi p => ?_) (fun D H' nD p => ?_)
  · obtain ⟨M', s', u', p'⟩ := p
    exact elt_run (step D i M' hi p') e u' s' wr_int fun H2 M2 s2 u2 p2 => ⟨M2, s2, u'.trans u2, p2⟩
  · obtain ⟨M', s', u', p'⟩ := p
    exact ko _ H' _ M' s' u' wr_rf (hd D M' p')
/-- the new list by what it holds: the rest of the memory stays as it is -/
def AccP (A : Nat → List W → Prop) (M : Mem) : Addr → Nat → Mem → Prop := fun D i M' => ∃ acc, A i acc ∧ M' = lstR D acc :: M
end
end AN

/-! AN: draws in the value layer; groups of things. -/
namespace AN
open PySem PySem.Spec PyProof.Rows L2
/-- several things as one -/
def grp (rs : List Res) : Res := ⟨feet rs, fun H => MemOk H rs, fun H H' l f n h => ⟨fun r hr => r.loc H H' l f (fun x hx => n x (mem_feet.mpr ⟨r, hr, hx⟩)) (h.ok r hr), h.dj⟩, fun H h x hx => by
  obtain ⟨r, hr, hx⟩ := mem_feet.mp hx
  exact r.at' H (h.ok r hr) x hx⟩
section
variable {B : Bs} {K : PySem.W.Frag} {env pat : Ev} {M N R rs : Mem} {P : W → Mem → Prop} {te : TE} {t : TS} {L : LD} {φ : Prop} {i : Nat}
theorem Ent.trans (h : Ent M N) (g : Ent N R) : Ent M R := fun B H s => g B H (h B H s)
theorem Ent.refl (M : Mem) : Ent M M := fun B H s => s
theorem Ent.perm (e : M.Perm N) : Ent M N := fun B H s => s.perm e
theorem Ent.sub (e : N.Sublist M) : Ent M N := fun B H s => s.sub e
theorem ent_open : Ent (grp rs :: M) (rs ++ M) := fun B H s => by
  have hp := List.pairwise_cons.mp s.ok.dj
  have hg : MemOk H rs := s.ok.ok (grp rs) (List.mem_cons_self ..)
  refine ⟨⟨fun r hr => ?_, List.pairwise_append.mpr ⟨hg.dj, hp.2, fun r hr q hq x hx hx' => hp.1 q hq x (mem_feet.mpr ⟨r, hr, hx⟩) hx'⟩⟩, s.fr, fun r hr x hx => ?_⟩
  · rcases List.mem_append.mp hr with hr | hr
    · exact hg.ok r hr
    · exact s.ok.ok r (List.mem_cons_of_mem _ hr)
  · rcases List.mem_append.mp hr with hr | hr
    · exact s.own (grp rs) (List.mem_cons_self ..) x (mem_feet.mpr ⟨r, hr, hx⟩)
    · exact s.own r (List.mem_cons_of_mem _ hr) x hx
theorem ent_close : Ent (rs ++ M) (grp rs :: M) := fun B H s => by
  have hp := List.pairwise_append.mp s.ok.dj
  have s1 := s.sub (List.sublist_append_left rs M)
  refine ⟨⟨fun r hr => ?_, List.pairwise_cons.mpr ⟨fun q hq x hx hx' => ?_, hp.2.1⟩⟩, s.fr, fun r hr x hx => ?_⟩
  · rcases List.mem_cons.mp hr with rfl | hr
    · exact s1.ok
    · exact s.ok.ok r (List.mem_append.mpr (.inr hr))
  · obtain ⟨r, hr, hx⟩ := mem_feet.mp hx
    exact hp.2.2 r hr q hq x hx hx'
  · rcases List.mem_cons.mp hr with rfl | hr
    · obtain ⟨r, hr, hx⟩ := mem_feet.mp hx
      exact s.own r (List.mem_append.mpr (.inl hr)) x hx
    · exact s.own r (List.mem_append.mpr (.inr hr)) x hx
theorem ent_openAt (i : Nat) (e : M[i]? = some (grp rs)) : Ent M (rs ++ M.eraseIdx i) := Ent.trans (Ent.perm (perm_take e)) ent_open
theorem lcb_ent {K : PySem.W.Frag} {F : List V → Hp → VK → Prop} {ws : List W} (h : Ent M N) (q : LCB B F ws N P) : LCB B F ws M P := fun vs H Q s r k => q vs H Q (h B H s) r k
theorem lr2_ent {F : R2} {x y : W} (h : Ent M N) (q : LR2 B F x y N P) : LR2 B F x y M P := fun vx vy H Q s r1 r2 k => q vx vy H Q (h B H s) r1 r2 k
theorem lset_ent {F : TSet} {o i x : W} {PM : Mem → Prop} (h : Ent M N) (q : LSet B F o i x N PM) : LSet B F o i x M PM := fun vo vi vx H Q s r1 r2 r3 k => q vo vi vx H Q (h B H s) r1 r2 r3 k
theorem la_ent {ts : TA} {PA : List W → Mem → Prop} (h : Ent M N) (q : LA B ts env N PA) : LA B ts env M PA := fun σ H Q e s k => q σ H Q e (h B H s) k
theorem lt_ent {tt : TT} {PB : Bool → Mem → Prop} (h : Ent M N) (q : LT B tt env N PB) : LT B tt env M PB := fun σ H Q e s k => q σ H Q e (h B H s) k
theorem ls_ent (h : Ent M N) (q : LS B t L env N) : LS B t L env M := fun σ H D e s k => q σ H D e (h B H s) k
theorem le_ent (h : Ent M N) (q : LE B te env N P) : LE B te env M P := fun σ H Q e s k => q σ H Q e (h B H s) k
theorem ls_fact (h : ∀ B H, Sm B M H → φ) (q : φ → LS B t L env M) : LS B t L env M := fun σ H D e s k => q (h B H s) σ H D e s k
theorem le_fact (h : ∀ B H, Sm B M H → φ) (q : φ → LE B te env M P) : LE B te env M P := fun σ H Q e s k => q (h B H s) σ H Q e s k
theorem ls_start {ws : List W} {k : Nat} (z : Ev) (hz : List.replicate k none = z) (h : LS B t L (ws.map some ++ z) M) : LS B t L (ws.map some ++ List.replicate k none) M := by rw [hz]; exact h
/-- what is wanted, up to what the memory says -/
theorem LE.imp {P' : W → Mem → Prop} (q : LE B te env M P) (h : ∀ w M', P w M' → P' w M') : LE B te env M P' := fun σ H Q e s k => q σ H Q e s fun v H' w M' s' u' r' p => k v H' w M' s' u' r' (h w M' p)
theorem LCall.imp {C : Con'} {ws : List W} {P' : W → Mem → Prop} (hC : ∀ ws M P P', C ws M P → (∀ w M', P w M' → P' w M') → C ws M P') (q : LCall C ws M P) (h : ∀ w M', P w M' → P' w M') : LCall C ws M P' := by
  obtain ⟨N, en, is, rs, nd, p, c⟩ := q
  exact ⟨N, en, is, rs, nd, p, hC _ _ _ _ c fun w M' => h w _⟩
/-- what is told of a list that two rows share -/
theorem Sm.ne {a b : Addr} {H : Hp} {r q : Res} {i j : Nat} (s : Sm B M H) (e : M[i]? = some r) (e' : M[j]? = some q) (ij : i ≠ j) (ha : a ∈ r.ft) (hb : b ∈ q.ft) : a ≠ b := fun z => by
  obtain ⟨li, ei⟩ := List.getElem?_eq_some_iff.mp e
  obtain ⟨lj, ej⟩ := List.getElem?_eq_some_iff.mp e'
  have := List.pairwise_iff_getElem.mp s.ok.dj
  subst ei ej z
  rcases Nat.lt_or_gt_of_ne ij with z | z
  · exact this i j li lj z a ha hb
  · exact this j i lj li z a hb ha
end
theorem ent_grp {rs : Mem} : Ent rs [grp rs] := by
  have := ent_close (rs := rs) (M := [])
  rwa [List.append_nil] at this
/-! ### draws -/
def cDraw : Con' := fun ws M P => ∃ (a c : Addr) (m : Nat), ws = [rf a, .int (m : Int)] ∧ M = [drawR a c] ∧ 0 < m ∧ m < 1000000000 ∧ ∀ k : Nat, k < m → P (.int (k : Int)) [drawR a c]
def cPick : Con' := fun ws M P => ∃ a c l ds, ws = [rf a, rf l] ∧ M = [drawR a c, lstR l ds] ∧ 0 < ds.length ∧ ds.length < 1000000 ∧ ∀ (i : Nat) d, ds[i]? = some d → P d [drawR a c, lstR l ds]
def cPop : Con' := fun ws M P => ∃ a c l ds, ws = [rf a, rf l] ∧ M = [drawR a c, lstR l ds] ∧ 0 < ds.length ∧ ds.length < 1000000 ∧ ∀ (i : Nat) d, ds[i]? = some d → P d [drawR a c, lstR l (ds.eraseIdx i)]
def cShuf : Con' := fun ws M P => ∃ a c l ds, ws = [rf a, rf l] ∧ M = [drawR a c, lstR l ds] ∧ ds.length ≤ 1000 ∧ ∀ es L, es.Perm ds → P (rf L) [drawR a c, lstR l ds, lstR L es]
theorem dok_mem {H : Hp} {a c : Addr} : MemOk H [drawR a c] ↔ DrawOk H a c := ⟨fun h => h.ok (drawR a c) (List.mem_cons_self ..), fun h => ⟨fun r hr => by rw [List.mem_singleton.mp hr]; exact h, List.pairwise_singleton _ _⟩⟩
theorem draw_bridge {P : Program} {w : World} {K : PySem.W.Frag} {mg : Str → Option Value} {base : Heap} {k : Nat} (C : Cal P w K mg base CX0 k "_law_draw" ["d", "many"] spDraw) : Cal P w K mg base CX0 k "_law_draw" ["d", "many"] (spM cDraw) := C.imp fun vs H Q E h => by
  obtain ⟨ws, M, R, r, mo, ⟨a, c, m, rfl, rfl, m0, m1, hk⟩, q⟩ := h
  obtain ⟨v, v', rfl, r1, r2⟩ := wrs2 r
  refine ⟨a, c, m, by rw [wr_rf_iff.mp r1, wr_int_iff.mp r2], dok_mem.mp mo, m0, m1, fun H' k f d hlt => ?_⟩
  refine q H' (.int k) (.int (k : Int)) [drawR a c] (f.mono fun b hb => ?_) (dok_mem.mpr d) (fun r hr x hx => ?_) wr_int (hk k hlt)
  · rw [List.mem_singleton.mp hb]; exact List.mem_cons_self ..
  · left; rw [List.mem_singleton.mp hr] at hx; simpa [feet] using hx
section
variable {M : Mem} {P : W → Mem → Prop} {a c : Addr} {i j : Nat}
theorem drawc (hm : M[i]? = some (drawR a c)) {z : Int} (h0 : 0 < z) (h1 : z < 1000000000) (q : ∀ k : Nat, (k : Int) < z → P (.int (k : Int)) M) : LCall cDraw [rf a, .int z] M P :=
  call1 i hm ⟨a, c, z.toNat, by rw [Int.toNat_of_nonneg (by omega)], rfl, by omega, by omega, fun k hk => by dsimp only; rw [puts_same hm]; exact q k (by omega)⟩
theorem puts_same2 {r s : Res} (ij : i ≠ j) (e : M[i]? = some r) (e' : M[j]? = some s) : puts ((M.set i emp).set j emp) [i, j] [r, s] = M := by
  rw [puts_two ij, List.nil_append]
  have : ∀ {M : Mem} {i : Nat} {r : Res}, M[i]? = some r → M.set i r = M := fun {M i r} e => by
    have := set_set_back e
    rwa [List.set_set] at this
  rw [this e, this e']
theorem set_same {r : Res} (e : M[i]? = some r) : M.set i r = M := by
  have := set_set_back e
  rwa [List.set_set] at this
theorem pickc {l : Addr} {ds : List W} (ij : i ≠ j) (hm : M[i]? = some (drawR a c)) (hm' : M[j]? = some (lstR l ds)) (h0 : 0 < ds.length) (h1 : ds.length < 1000000) (q : ∀ (i : Nat) d, ds[i]? = some d → P d M) : LCall cPick [rf a, rf l] M P :=
  call2 i j ij hm hm' ⟨a, c, l, ds, rfl, rfl, h0, h1, fun k d e => by dsimp only; rw [puts_same2 ij hm hm']; exact q k d e⟩
theorem popc {l : Addr} {ds : List W} (ij : i ≠ j) (hm : M[i]? = some (drawR a c)) (hm' : M[j]? = some (lstR l ds)) (h0 : 0 < ds.length) (h1 : ds.length < 1000000) (q : ∀ (i : Nat) d, ds[i]? = some d → P d (M.set j (lstR l (ds.eraseIdx i)))) : LCall cPop [rf a, rf l] M P :=
  call2 i j ij hm hm' ⟨a, c, l, ds, rfl, rfl, h0, h1, fun k d e => by dsimp only; rw [puts_two ij, List.nil_append, set_same hm]; exact q k d e⟩
theorem shufc {l : Addr} {ds : List W} (ij : i ≠ j) (hm : M[i]? = some (drawR a c)) (hm' : M[j]? = some (lstR l ds)) (h1 : ds.length ≤ 1000) (q : ∀ es L, es.Perm ds → P (rf L) (lstR L es :: M)) : LCall cShuf [rf a, rf l] M P :=
  call2 i j ij hm hm' ⟨a, c, l, ds, rfl, rfl, h1, fun es L e => by dsimp only; rw [puts_two ij, set_same hm, set_same hm']; exact q es L e⟩
end
/-! ### the law's start -/
/-- from the heap into the value layer, at a law's first row done -/
theorem law_enter {K : PySem.W.Frag} {t : TS} {σ : L2.St} {H : Hp} {Q : VK} {a c : Addr} {env : Ev} (hd : DrawOk H a c) (he : EnvR H env σ) (q : ∀ H', Q (.bl true) H')
    (h : ∀ B : Bs, LS B t ⟨fun _ _ => False, fun w _ => w = .bool true, fun _ _ => False, fun _ _ => False⟩ env [drawR a c]) : t ⟨fun _ H' => Q .non H', Q, fun _ _ => False, fun _ _ => False⟩ σ H := by
  refine h ⟨K, H, [a, c]⟩ σ H _ he ⟨dok_mem.mpr hd, Fr.refl _ _, fun r hr x hx => .inl ?_⟩ ⟨fun _ _ _ _ _ _ _ p => p.elim, fun v H' w M' s' u' r' p => ?_, fun _ _ _ _ _ _ _ p => p.elim, fun _ _ _ _ _ _ _ p => p.elim⟩
  · rw [List.mem_singleton.mp hr] at hx; exact hx
  · subst p
    rw [wr_bl_iff.mp r']
    exact q H'
end AN

/-! AN: sorted of a dict keyed by whole numbers and texts. -/
namespace AN
open PySem PySem.Spec PyProof.Rows L2
open PySem.W (dataLt dataLe alike AllAlike Sortable EachIs)
def rSortDK (K : PySem.W.Frag) : List V → Hp → VK → Prop := fun vs H Q => ∃ (a : Addr) (kvs : List (L2.Key × V)), vs = [.ref a] ∧ Rd H a (.dK kvs) ∧ SortP K (kvs.map fun p => kD p.1) H Q
theorem each_at {α β : Type} {R : α → β → Prop} : ∀ {as : List α} {bs : List β}, as.length = bs.length → (∀ (j : Nat) a b, as[j]? = some a → bs[j]? = some b → R a b) → EachIs R as bs
  | [], [], _, _ => .nil
  | [], _ :: _, h, _ => by simp at h
  | _ :: _, [], h, _ => by simp at h
  | a :: as, b :: bs, h, r => .cons (r 0 a b rfl rfl) (each_at (by simpa using h) fun j x y e1 e2 => r (j + 1) x y (by simpa using e1) (by simpa using e2))
theorem cr_sortDK {X : Cx} (hc : X.calm = true) (hu : X.A.units + 64 < cLine) : CallR X (.builtin "sorted") (rSortDK X.K) := by
  intro pins s σ H vs us Q I r h
  obtain ⟨a, kvs, rfl, hx, hp⟩ := h
  obtain ⟨u, rfl, ru⟩ := vals1 r
  obtain rfl : u = Value.ref a := ru
  obtain ⟨z, lo, xs, rel, dd⟩ := dk_rd I.hok hx
  obtain ⟨ep, hat⟩ := dd.dictAt
  have hkeys : xs.map (·.1) = kvs.map (·.1) := rel.keys.symm
  have hl : xs.length = kvs.length := by
    have e := congrArg List.length hkeys
    rwa [List.length_map, List.length_map] at e
  refine sorted_from I hu _ hp fun R hR => PySem.W.kdu_collect (PySem.W.kdl_dict (knd := mixKind X.prog X.w) (kvs := xs) (ep := ep) lo) (I.ok.hd hc) hat (by rw [hl]; exact z) fun h' tk acc hk hacc => ?_
  refine hR h' tk _ hk (each_at (by rw [Array.length_toList, hacc.1, hl, List.length_map]) fun j v d e1 e2 => ?_)
  obtain ⟨k, x, e3, e4⟩ := hacc.2 j v (by rw [← Array.getElem?_toList]; exact e1)
  rw [List.getElem?_map] at e2
  obtain ⟨p, ep', e5⟩ := Option.map_eq_some_iff.mp e2
  have e6 : (kvs.map (·.1))[j]? = some k := by rw [← hkeys, List.getElem?_map, e3]; rfl
  rw [List.getElem?_map, ep'] at e6
  have e7 : p.1 = k := by simpa using e6
  subst e5
  rcases keyIs_shape (show keyIs k v = true from e4) with ⟨i, t, ek, ev⟩ | ⟨i, t, ek, ev⟩
  · rw [e7, ek]; exact ⟨.int i, ⟨t, ev⟩, rep_int⟩
  · rw [e7, ek]; exact ⟨.str i, ⟨t, ev⟩, rep_str⟩
def rSorted3 (K : PySem.W.Frag) : List V → Hp → VK → Prop := fun vs H Q => rSorted2 K vs H Q ∨ rSortDK K vs H Q
theorem call_sorted3K {X : Cx} {K : PySem.W.Frag} (hK : X.K = K) (hc : X.calm = true) (hu : X.A.units + 65 < cLine) : CallR X (.builtin "sorted") (rSorted3 K) := by
  subst hK; exact (call_sorted2K rfl hc hu).or (cr_sortDK hc (by omega))
section
variable {B : Bs} {K : PySem.W.Frag} {M : Mem} {P : W → Mem → Prop} {ws : List W} {a : Addr} {m : Nat}
theorem sortw3 (h : LCB B (rSorted2 K) ws M P) : LCB B (rSorted3 K) ws M P := fun vs H Q s r k => .inl (h vs H Q s r k)
theorem sortw_dkD {rr : List (L2.Key × W)} (hm : IsDk M m a rr) (h1 : AllAlike (rr.map fun p => kD p.1)) (h2 : Sortable (rr.map fun p => kD p.1)) (hl : rr.length ≤ 1000) (q : ∀ es, es.Perm (rr.map fun p => kD p.1) → Asc es → ∀ p, P (rf p) (lstR p es :: M)) : LCB B (rSorted3 K) [rf a] M P := fun vs H Q s r k => by
  obtain ⟨v, rfl, r1⟩ := wrs1 r
  rw [wr_rf_iff.mp r1]
  obtain ⟨kvs, ed, rs⟩ := hm.rd s
  have e1 : (kvs.map fun p => kD p.1) = rr.map fun p => kD p.1 := by
    have := congrArg (List.map kD) rs.keys
    rw [List.map_map, List.map_map] at this
    exact this
  refine .inr ⟨a, kvs, rfl, ed, ?_⟩
  rw [e1]
  refine ⟨h1, h2, fun d hd => ?_, by rw [List.length_map]; exact Nat.le_of_lt (small1000 hl), fun H' p ys es hp ha f np e rs => k _ _ _ _ (s.new (r' := lstR p es) f ⟨ys, e, rs.wrs⟩ fun x hx => by rw [List.mem_singleton.mp hx]; exact np) f.toUp wr_rf (q es hp ha p)⟩
  obtain ⟨p, _, rfl⟩ := List.mem_map.mp hd
  cases p.1 <;> simp [kD, PyData.depth]
/-- rows of whole numbers -/
theorem ints_alike (ks : List Int) : AllAlike (ks.map PyData.int) := by
  intro a ha b hb
  obtain ⟨i, _, rfl⟩ := List.mem_map.mp ha
  obtain ⟨j, _, rfl⟩ := List.mem_map.mp hb
  rfl
theorem ints_sortable (ks : List Int) : Sortable (ks.map PyData.int) := .inr fun d hd => by
  obtain ⟨i, _, rfl⟩ := List.mem_map.mp hd
  exact ⟨(fun z => by cases z), fun xs z => by cases z⟩
theorem perm_ints : ∀ {es : List PyData} {ks : List Int}, es.Perm (ks.map PyData.int) → ∃ js : List Int, es = js.map .int ∧ js.Perm ks := fun {es ks} h => by
  refine ⟨es.map fun d => match d with | .int i => i | _ => 0, ?_, ?_⟩
  · rw [List.map_map]
    conv => lhs; rw [← List.map_id es]
    refine List.map_congr_left fun d hd => ?_
    obtain ⟨i, _, rfl⟩ := List.mem_map.mp (h.subset hd)
    rfl
  · have := h.map fun d => match d with | PyData.int i => i | _ => 0
    rw [List.map_map] at this
    refine this.trans ?_
    rw [show (ks.map ((fun d => match d with | PyData.int i => i | _ => 0) ∘ PyData.int)) = ks from List.map_id'' (fun _ => rfl) ks]
theorem asc_ints {js : List Int} (h : Asc (js.map PyData.int)) : js.Pairwise (· ≤ ·) := by
  unfold Asc at h
  rw [List.pairwise_map] at h
  refine h.imp fun {a b} hab => ?_
  rw [PySem.W.dataLt_int] at hab
  simpa using hab
/-- two ascending rows of the same numbers -/
theorem asc_eq {js ks : List Int} (h : js.Pairwise (· ≤ ·)) (g : ks.Pairwise (· ≤ ·)) (p : js.Perm ks) : js = ks :=
  p.eq_of_pairwise (fun a b _ _ h1 h2 => Int.le_antisymm h1 h2) h g
end
end AN

/-! AN: more rules of the value layer. -/
namespace AN
open PySem PySem.Spec PyProof.Rows L2
section
variable {B : Bs} {K : PySem.W.Frag} {env pat : Ev} {M N : Mem} {P : W → Mem → Prop} {PB : Bool → Mem → Prop} {PM : Mem → Prop} {te ta tb tk tv td ty tx : TE} {tt tu : TT} {t u : TS} {ts : TA} {g : TG} {i j m : Nat} {w x y z : W} {n b c : Ev → Mem → Prop} {r : W → Mem → Prop} {ws us ds es : List W} {a p l C : Addr}
/-- what comes behind, by a word of its own -/
theorem ls_nx (N : Ev → Mem → Prop) (h : LS B t ⟨N, r, b, c⟩ env M) (hN : ∀ e M, N e M → n e M) : LS B t ⟨n, r, b, c⟩ env M := fun σ H D e s k =>
  h σ H D e s ⟨fun σ' H' e' M' ee ss uu p => k.nx σ' H' e' M' ee ss uu (hN e' M' p), k.rt, k.bk, k.ct⟩
theorem l_notV (h : LE B ta env M fun x M1 => ∃ k, x = .bool k ∧ P (.bool (!k)) M1) : LE B (tNotV ta) env M P := fun σ H Q e s ko =>
  h σ H _ e s fun v H1 x M1 s1 u1 r1 p1 => by
    obtain ⟨q, rfl, p⟩ := p1
    exact ⟨q, wr_bl_iff.mp r1, ko _ H1 _ M1 s1 u1 wr_bl p⟩
/-- {k: v} -/
theorem l_disp1 (h : ∀ p, LE B tk env (dkR p [] :: M) fun x M1 => LE B tv env M1 fun y M2 => ∃ k m, x = kw k ∧ M2[m]? = some (dkR p []) ∧ P (rf p) (M2.set m (dkR p [(k, y)]))) : LE B (tDisp [(tk, tv)]) env M P := fun σ H Q e s ko p hp => by
  have f : AN.Fr [] H (upd H p (.dK [])) := Fr.new hp
  have s1 : Sm B (dkR p [] :: M) (upd H p (.dK [])) := s.new (r' := dkR p []) f ⟨[], upd_same, DR.nil⟩ fun x hx => by rw [List.mem_singleton.mp hx]; exact hp
  show tk σ _ _
  refine h p σ _ _ (e.up f.toUp) s1 fun vk H1 x M1 s2 u1 r1 p1 => p1 σ H1 _ ((e.up f.toUp).up u1) s2 fun vy H2 y M2 s3 u2 r2 p2 => ?_
  obtain ⟨k, m, rfl, hm, q⟩ := p2
  obtain ⟨kvs, ed, rs⟩ := s3.at hm
  have e0 : kvs = [] := List.length_eq_zero_iff.mp (by rw [← rs.length]; rfl)
  subst e0
  rw [kw_kV (r1.up u2)]
  have f2 : AN.Fr [p] H2 (upd H2 p (.dK [(k, vy)])) := Fr.setD ed
  refine ⟨ed, [(k, vy)], rfl, by simp, ?_⟩
  exact ko _ _ _ _ (s3.set (r' := dkR p [(k, y)]) hm f2 ⟨[(k, vy)], upd_same, .cons ⟨rfl, r2.up f2.toUp⟩ .nil⟩ fun x hx => .inl hx) (((f.toUp.trans u1).trans u2).trans f2.toUp) wr_rf q
end
end AN

/-! AN: groves, plainly; woods on the heap. -/
namespace AN
open PySem PySem.Spec PyProof.Rows L2
inductive Nd where
  | val (v : Nat)
  | ask (p : Str) (a : Nat) (ks : List Nat)
def natD (k : Nat) : PyData := .int (k : Int)
def Nd.toD : Nd → PyData
  | .val v => .tuple [.str "value", .int (v : Int)]
  | .ask p a ks => .tuple [.str "ask", .str p, .int (a : Int), .tuple (ks.map natD)]
def askK (p : Str) (a : Nat) (ks : List Nat) : List NestedKey := [.text p, .num (a : Int), .tup (ks.map fun (k : Nat) => NestedKey.num (k : Int))]
def Nd.key : Nd → Option NestedKey
  | .val _ => none
  | .ask p a ks => some (.tup (askK p a ks))
theorem nkDs_map {α : Type} (f : α → NestedKey) : ∀ l : List α, nkDs (l.map f) = l.map fun x => nkD (f x)
  | [] => rfl
  | x :: l => by rw [List.map_cons, List.map_cons, ← nkDs_map f l]; rfl
theorem askK_D (p : Str) (a : Nat) (ks : List Nat) : nkD (.tup (askK p a ks)) = .tuple [.str p, .int (a : Int), .tuple (ks.map natD)] := by
  unfold askK
  simp only [nkD, nkDs, nkDs_map]
  rfl
theorem askK_depth (p : Str) (a : Nat) (ks : List Nat) : (NestedKey.tup (askK p a ks)).depth ≤ 8 := by
  have : ∀ l : List Nat, NestedKey.depthAll (l.map fun (k : Nat) => NestedKey.num (k : Int)) = 0 := fun l => by
    induction l with
    | nil => rfl
    | cons x l ih => rw [List.map_cons]; simp [NestedKey.depthAll, NestedKey.depth, ih]
  simp [askK, NestedKey.depth, NestedKey.depthAll, this]
theorem askK_inj {p p' : Str} {a a' : Nat} {ks ks' : List Nat} (h : NestedKey.tup (askK p a ks) = .tup (askK p' a' ks')) : p = p' ∧ a = a' ∧ ks = ks' := by
  simp only [askK, NestedKey.tup.injEq, List.cons.injEq, NestedKey.text.injEq, NestedKey.num.injEq, and_true] at h
  refine ⟨h.1, by omega, ?_⟩
  have : ∀ {l m : List Nat}, (l.map fun (k : Nat) => NestedKey.num (k : Int)) = m.map (fun (k : Nat) => NestedKey.num (k : Int)) → l = m := fun {l m} h => by
    induction l generalizing m with
    | nil => cases m with
      | nil => rfl
      | cons _ _ => cases h
    | cons x l ih => cases m with
      | nil => cases h
      | cons y m =>
        simp only [List.map_cons, List.cons.injEq, NestedKey.num.injEq] at h
        rw [ih h.2, show x = y by omega]
  exact this h.2.2
def knownOf (ns : List Nd) : List (NestedKey × Nat) := ns.zipIdx.filterMap fun x => x.1.key.map fun k => (k, x.2)
theorem known_at {ns : List Nd} {p : Str} {a i : Nat} {ks : List Nat} (h : aget (knownOf ns) (.tup (askK p a ks)) = some i) : ns[i]? = some (.ask p a ks) := by
  have m := aget_some h
  unfold knownOf at m
  obtain ⟨x, hx, e⟩ := List.mem_filterMap.mp m
  obtain ⟨nd, j⟩ := x
  obtain ⟨k, ek, e2⟩ := Option.map_eq_some_iff.mp e
  cases e2
  have hn := List.mem_zipIdx_iff_getElem?.mp hx
  simp only at hn
  rw [hn]
  cases nd with
  | val v => cases ek
  | ask q b js =>
    obtain ⟨h1, h2, h3⟩ := askK_inj (Option.some.inj ek)
    rw [h1, h2, h3]
theorem known_snoc (ns : List Nd) (p : Str) (a : Nat) (ks : List Nat) : knownOf (ns ++ [.ask p a ks]) = knownOf ns ++ [(.tup (askK p a ks), ns.length)] := by
  unfold knownOf
  rw [List.zipIdx_append, List.filterMap_append]
  simp [Nd.key]
theorem known_vals : ∀ vs : List Nat, knownOf (vs.map Nd.val) = [] := fun vs => by
  unfold knownOf
  rw [List.filterMap_eq_nil_iff]
  intro x hx
  obtain ⟨nd, j⟩ := x
  have hn := List.mem_zipIdx_iff_getElem?.mp hx
  simp only at hn
  rw [List.getElem?_map] at hn
  obtain ⟨v, _, rfl⟩ := Option.map_eq_some_iff.mp hn
  rfl
theorem known_len (ns : List Nd) : (knownOf ns).length ≤ ns.length := by
  unfold knownOf
  have := List.length_filterMap_le (fun x : Nd × Nat => x.1.key.map fun k => (k, x.2)) ns.zipIdx
  rwa [List.length_zipIdx] at this
theorem putF_len (f : Str) (v : V) : ∀ fs : List (Str × V), (putF f v fs).length ≤ fs.length + 1
  | [] => Nat.le_refl _
  | (g, x) :: r => by
    unfold putF
    split
    · simp
    · have := putF_len f v r
      simp only [List.length_cons]
      omega
/-! the fields of a grove -/
def gF (size : Nat) (nl kn : Addr) : List (Str × V) := putF "known" (.ref kn) (putF "nodes" (.ref nl) (putF "size" (.int (size : Int)) []))
theorem gF_size (size : Nat) (nl kn : Addr) : (gF size nl kn).lookup ("size" : Str) = some (V.int (size : Int)) := by
  unfold gF
  rw [lookup_putF, if_neg (by decide +kernel), lookup_putF, if_neg (by decide +kernel), lookup_putF, if_pos rfl]
theorem gF_nodes (size : Nat) (nl kn : Addr) : (gF size nl kn).lookup ("nodes" : Str) = some (V.ref nl) := by
  unfold gF
  rw [lookup_putF, if_neg (by decide +kernel), lookup_putF, if_pos rfl]
theorem gF_known (size : Nat) (nl kn : Addr) : (gF size nl kn).lookup ("known" : Str) = some (V.ref kn) := by
  unfold gF
  rw [lookup_putF, if_pos rfl]
theorem gF_no (size : Nat) (nl kn : Addr) {m : Str} (h1 : ¬ m = "size") (h2 : ¬ m = "nodes") (h3 : ¬ m = "known") : (gF size nl kn).lookup m = none := by
  unfold gF
  rw [lookup_putF, if_neg h3, lookup_putF, if_neg h2, lookup_putF, if_neg h1]
  rfl
/-! ### groves on the heap -/
section
variable {P : Program} {w : World} {K : PySem.W.Frag} {C : Addr} {H H' : Hp} {g nl kn : Addr} {size : Nat} {ns : List Nd} {l : List Addr}
structure GroveAt (P : Program) (w : World) (K : PySem.W.Frag) (C : Addr) (H : Hp) (g nl kn : Addr) (size : Nat) (ns : List Nd) : Prop where
  ob : ∃ dx, H g = some (.ins C dx (gF size nl kn))
  nd : ∃ us, H nl = some (.lst us) ∧ Reps K H (ns.map Nd.toD) us
  kn : NW P w K H natD kn (knownOf ns)
theorem GroveAt.fr (h : GroveAt P w K C H g nl kn size ns) (f : AN.Fr l H H') (n1 : g ∉ l) (n2 : nl ∉ l) (n3 : kn ∉ l) : GroveAt P w K C H' g nl kn size ns := by
  obtain ⟨⟨dx, e⟩, ⟨us, e2, r⟩, k⟩ := h
  exact ⟨⟨dx, f.keep _ _ e n1⟩, ⟨us, f.keep _ _ e2 n2, r.up f⟩, k.fr f n3⟩
theorem GroveAt.fr0 (h : GroveAt P w K C H g nl kn size ns) (f : AN.Fr [] H H') : GroveAt P w K C H' g nl kn size ns := h.fr f (by simp) (by simp) (by simp)
/-- two places of unlike content -/
theorem GroveAt.ne_gn (h : GroveAt P w K C H g nl kn size ns) : g ≠ nl := by
  obtain ⟨⟨dx, e⟩, ⟨us, e2, _⟩, _⟩ := h
  exact ne_of e e2 (fun z => by cases z)
theorem GroveAt.ne_gk (h : GroveAt P w K C H g nl kn size ns) : g ≠ kn := by
  obtain ⟨⟨dx, e⟩, _, ⟨xs, N, _⟩⟩ := h
  exact ne_of e N.ob (fun z => by
    have z' : HO.ins _ _ _ = HO.ext _ := z
    cases z')
theorem GroveAt.ne_nk (h : GroveAt P w K C H g nl kn size ns) : nl ≠ kn := by
  obtain ⟨_, ⟨us, e2, _⟩, ⟨xs, N, _⟩⟩ := h
  exact ne_of e2 N.ob (fun z => by
    have z' : HO.lst _ = HO.ext _ := z
    cases z')
end
/-! ### dicts keyed by numbers -/
section
variable {K : PySem.W.Frag} {H H' : Hp} {σ : L2.St} {a : Addr} {l : List Addr} {α : Type} {toD : α → PyData} {rr : List (Nat × α)} {Q : VK} {k : Nat}
def nk (i : Nat) : L2.Key := .inl (i : Int)
theorem nk_inj : ∀ a b : Nat, nk a = nk b → a = b := fun a b h => by
  have := Sum.inl.inj h
  omega
def DN (K : PySem.W.Frag) (H : Hp) (toD : α → PyData) (a : Addr) (rr : List (Nat × α)) : Prop := ∃ kvs, H a = some (.dK kvs) ∧ DR nk (fun c v => Rep K H (toD c) v) rr kvs
theorem DN.fr (h : DN K H toD a rr) (f : AN.Fr l H H') (na : a ∉ l) : DN K H' toD a rr := let ⟨kvs, e, r⟩ := h; ⟨kvs, f.keep _ _ e na, r.imp fun _ _ q => q.up f⟩
theorem dn_new (h : H a = some (.dK [])) : DN K H toD a [] := ⟨[], h, DR.nil⟩
theorem dn_in {j : Int} (h : DN K H toD a rr) (hj : j = (k : Int)) (q : Q (.bl (aget rr k).isSome) H) : rIn2 K (.int j) (.ref a) H Q := by
  subst hj
  obtain ⟨kvs, e, r⟩ := h
  refine .inl (.inr (.inl ⟨a, _, rfl, .inl ⟨kvs, nk k, .inl e, rfl, rfl⟩, ?_⟩))
  rw [r.isSome nk_inj k]
  exact q
theorem dn_notIn {j : Int} (h : DN K H toD a rr) (hj : j = (k : Int)) (q : Q (.bl (!(aget rr k).isSome)) H) : rNotIn2 K (.int j) (.ref a) H Q := by
  subst hj
  obtain ⟨kvs, e, r⟩ := h
  refine .inl (.inr (.inl ⟨a, _, rfl, .inl ⟨kvs, nk k, .inl e, rfl, rfl⟩, ?_⟩))
  rw [r.isSome nk_inj k]
  exact q
theorem dn_ix {y : α} {j : Int} (h : DN K H toD a rr) (hj : j = (k : Int)) (e : aget rr k = some y) (q : ∀ v, Rep K H (toD y) v → Q v H) : rIxG K (.ref a) (.int j) H Q := by
  subst hj
  obtain ⟨kvs, ed, r⟩ := h
  rcases r.get nk_inj k with ⟨e1, _⟩ | ⟨c, v, e1, e2, hv⟩
  · rw [e] at e1; cases e1
  · rw [e] at e1
    cases e1
    exact .inr (.inr (.inl ⟨a, v, rfl, .inl ⟨kvs, nk k, .inl ed, rfl, e2.symm⟩, q v hv⟩))
theorem dn_set {y : α} {v : V} {j : Int} {q : Hp → Prop} (h : DN K H toD a rr) (hj : j = (k : Int)) (hv : Rep K H (toD y) v) (hl : rr.length < 1000) (w : ∀ H', AN.Fr [a] H H' → DN K H' toD a (aput rr k y) → q H') : rSetL (.ref a) (.int j) v H q ∨ rSetD (.ref a) (.int j) v H q := by
  subst hj
  obtain ⟨kvs, e, r⟩ := h
  refine setD_q (k := nk k) e rfl (by rw [← r.length]; exact hl) fun H' f e' => w H' f ⟨_, e', ?_⟩
  exact (r.imp fun _ _ z => z.up f).put nk_inj k (hv.up f)
end
theorem aput_new {κ α : Type} [DecidableEq κ] {r : List (κ × α)} {k : κ} {c : α} (h : aget r k = none) : aput r k c = r ++ [(k, c)] := by
  unfold aput
  rw [any_aget, h]
  rfl
theorem aput_same {κ α : Type} [DecidableEq κ] {k : κ} {c : α} : ∀ {r : List (κ × α)}, (r.map (·.1)).Nodup → aget r k = some c → aput r k c = r := fun {r} nd h => by
  unfold aput
  rw [any_aget, h]
  simp only [Option.isSome_some, if_true]
  conv => rhs; rw [← List.map_id r]
  refine List.map_congr_left fun e he => ?_
  split
  · rename_i z
    have h2 := aget_of_mem nd (show (e.1, e.2) ∈ r from he)
    rw [z, h] at h2
    cases h2
    rfl
  · rfl
def ownOf (ns : List Nd) : List (Nat × Nd) := ns.zipIdx.map fun x => (x.2, x.1)
theorem own_keys (ns : List Nd) : (ownOf ns).map (·.1) = List.range ns.length := by
  unfold ownOf
  rw [List.map_map]
  show ns.zipIdx.map Prod.snd = _
  rw [List.zipIdx_map_snd, List.range_eq_range']
theorem own_nd (ns : List Nd) : ((ownOf ns).map (·.1)).Nodup := by rw [own_keys]; exact List.nodup_range
theorem own_get (ns : List Nd) (i : Nat) : aget (ownOf ns) i = ns[i]? := by
  cases h : ns[i]? with
  | some nd =>
    refine aget_of_mem (own_nd ns) ?_
    unfold ownOf
    exact List.mem_map.mpr ⟨(nd, i), List.mem_zipIdx_iff_getElem?.mpr h, rfl⟩
  | none =>
    cases h2 : aget (ownOf ns) i with
    | none => rfl
    | some c =>
      have m := aget_some h2
      unfold ownOf at m
      obtain ⟨x, hx, e⟩ := List.mem_map.mp m
      cases e
      have := List.mem_zipIdx_iff_getElem?.mp hx
      rw [h] at this
      cases this
theorem own_snoc (ns : List Nd) (nd : Nd) : ownOf (ns ++ [nd]) = ownOf ns ++ [(ns.length, nd)] := by
  unfold ownOf
  rw [List.zipIdx_append, List.map_append]
  simp
theorem own_len (ns : List Nd) : (ownOf ns).length = ns.length := by unfold ownOf; rw [List.length_map, List.length_zipIdx]
abbrev Op3 := Str × Nat × Nat
def op3D (o : Op3) : PyData := .tuple [.str o.1, .int (o.2.1 : Int), .int (o.2.2 : Int)]
structure OpsOk (size : Nat) (ops : List Op3) : Prop where
  len : ops.length ≤ 8
  all : ∀ o ∈ ops, PyData.strOk o.1 = true ∧ 1 ≤ o.2.1 ∧ o.2.1 ≤ size ∧ o.2.2 ≤ size
  wide : ∃ o ∈ ops, 0 < o.2.2
theorem map_erase (l : List Str) (i : Nat) : (l.map V.str).eraseIdx i = (l.eraseIdx i).map V.str := by
  rw [List.eraseIdx_eq_take_drop_succ, List.eraseIdx_eq_take_drop_succ, List.map_append, List.map_take, List.map_drop]
/-! ### woods: a grove, what it must hold, its numbers, its operations -/
structure WA where
  g : Addr
  nl : Addr
  kn : Addr
  o : Addr
  l : Addr
  q : Addr
def WA.mut (A : WA) : List Addr := [A.nl, A.kn, A.l, A.o]
def WA.all (A : WA) : List Addr := [A.g, A.nl, A.kn, A.o, A.l, A.q]
structure NsOk (size : Nat) (ns : List Nd) : Prop where
  wf : ∀ (i : Nat) p a ks, ns[i]? = some (Nd.ask p a ks) → ∀ k ∈ ks, k < i
  st : ∀ (i : Nat) p a ks, ns[i]? = some (Nd.ask p a ks) → PyData.strOk p = true ∧ ks.length ≤ 4
  vals : ∀ (i : Nat), i < size → ns[i]? = some (.val i)
  asks : ∀ (i : Nat), size ≤ i → i < ns.length → ∃ p a ks, ns[i]? = some (.ask p a ks)
  lo : 2 ≤ size
  hi : size ≤ 4
  len : size ≤ ns.length
theorem NsOk.base {size : Nat} (h2 : 2 ≤ size) (h4 : size ≤ 4) : NsOk size ((List.range size).map Nd.val) := by
  have e : ∀ (i : Nat), ((List.range size).map Nd.val)[i]? = if i < size then some (.val i) else none := fun i => by
    rw [List.getElem?_map]
    by_cases h : i < size
    · rw [List.getElem?_range h, if_pos h]; rfl
    · rw [if_neg h, List.getElem?_eq_none (by simp; omega)]; rfl
  refine ⟨fun i p a ks h => ?_, fun i p a ks h => ?_, fun i hi => by rw [e, if_pos hi], fun i h1 h2 => ?_, h2, h4, by simp⟩
  · rw [e] at h; split at h <;> cases h
  · rw [e] at h; split at h <;> cases h
  · simp at h2; omega
theorem NsOk.snoc {size : Nat} {ns : List Nd} {p : Str} {a : Nat} {ks : List Nat} (h : NsOk size ns) (hp : PyData.strOk p = true) (hk : ∀ k ∈ ks, k < ns.length) (hl : ks.length ≤ 4) : NsOk size (ns ++ [.ask p a ks]) := by
  have e : ∀ (i : Nat), (ns ++ [Nd.ask p a ks])[i]? = if i < ns.length then ns[i]? else if i = ns.length then some (.ask p a ks) else none := fun i => by
    by_cases h1 : i < ns.length
    · rw [if_pos h1, List.getElem?_append_left h1]
    · rw [if_neg h1, List.getElem?_append_right (by omega)]
      by_cases h2 : i = ns.length
      · rw [if_pos h2, h2]; simp
      · rw [if_neg h2, List.getElem?_eq_none (by simp; omega)]
  have hl2 := h.len
  refine ⟨fun i q b js hj k hk' => ?_, fun i q b js hj => ?_, fun i hi => by rw [e, if_pos (by omega)]; exact h.vals i hi, fun i h1 h2 => ?_, h.lo, h.hi, by rw [List.length_append]; omega⟩
  · rw [e] at hj
    split at hj
    · exact h.wf i q b js hj k hk'
    · split at hj
      · cases hj; rename_i z; rw [z]; exact hk k hk'
      · cases hj
  · rw [e] at hj
    split at hj
    · exact h.st i q b js hj
    · split at hj
      · cases hj; exact ⟨hp, hl⟩
      · cases hj
  · rw [List.length_append] at h2
    simp only [List.length_cons, List.length_nil] at h2
    rw [e]
    by_cases h3 : i < ns.length
    · rw [if_pos h3]; exact h.asks i h1 h3
    · rw [if_neg h3, if_pos (by omega)]; exact ⟨_, _, _, rfl⟩
section
variable {P : Program} {w : World} {K : PySem.W.Frag} {C : Addr} {H H' : Hp} {wd : Addr} {A B : WA} {size : Nat} {ops : List Op3} {ns : List Nd} {l : List Addr}
structure WoodAt (P : Program) (w : World) (K : PySem.W.Frag) (C : Addr) (H : Hp) (wd : Addr) (A : WA) (size : Nat) (ops : List Op3) (ns : List Nd) : Prop where
  ob : H wd = some (.lst [.ref A.g, .ref A.o, .ref A.l, .ref A.q])
  gr : GroveAt P w K C H A.g A.nl A.kn size ns
  own : DN K H Nd.toD A.o (ownOf ns)
  nums : H A.l = some (.lst ((List.range ns.length).map fun (i : Nat) => V.int (i : Int)))
  qs : ∃ us, H A.q = some (.lst us) ∧ Reps K H (ops.map op3D) us
  n1 : A.nl ≠ wd
  n2 : A.l ≠ wd
  n3 : A.l ≠ A.nl
  n4 : A.q ≠ A.nl
  n5 : A.q ≠ A.l
  ok : NsOk size ns
  oo : OpsOk size ops
theorem WoodAt.fr (h : WoodAt P w K C H wd A size ops ns) (f : AN.Fr l H H') (n0 : wd ∉ l) (n : ∀ x ∈ A.all, x ∉ l) : WoodAt P w K C H' wd A size ops ns := by
  obtain ⟨us, e, r⟩ := h.qs
  exact ⟨f.keep _ _ h.ob n0, h.gr.fr f (n _ (by simp [WA.all])) (n _ (by simp [WA.all])) (n _ (by simp [WA.all])), h.own.fr f (n _ (by simp [WA.all])), f.keep _ _ h.nums (n _ (by simp [WA.all])), ⟨us, f.keep _ _ e (n _ (by simp [WA.all])), r.up f⟩, h.n1, h.n2, h.n3, h.n4, h.n5, h.ok, h.oo⟩
theorem WoodAt.fr0 (h : WoodAt P w K C H wd A size ops ns) (f : AN.Fr [] H H') : WoodAt P w K C H' wd A size ops ns := h.fr f (by simp) (fun _ _ => by simp)
/-- every place of it is taken -/
theorem WoodAt.some (h : WoodAt P w K C H wd A size ops ns) : ∀ x ∈ A.all, H x ≠ none := by
  obtain ⟨us, e, r⟩ := h.qs
  obtain ⟨dx, e1⟩ := h.gr.ob
  obtain ⟨us2, e2, _⟩ := h.gr.nd
  obtain ⟨xs, N, _⟩ := h.gr.kn
  obtain ⟨kvs, e3, _⟩ := h.own
  have e4 := h.nums
  have e5 := N.ob
  intro x hx
  simp only [WA.all, List.mem_cons, List.not_mem_nil, or_false] at hx
  rcases hx with rfl | rfl | rfl | rfl | rfl | rfl <;> simp [e, e1, e2, e3, e4, e5]
end
/-- a wood's places are not those of the draws -/
structure Dis (wd : Addr) (A : WA) (a c : Addr) : Prop where
  wa : wd ≠ a
  wc : wd ≠ c
  al : ∀ x ∈ A.all, x ≠ a ∧ x ≠ c
theorem Dis.mut {wd : Addr} {A : WA} {a c : Addr} (h : Dis wd A a c) : ∀ x ∈ A.mut, x ≠ a ∧ x ≠ c := fun x hx => h.al x (by
  simp only [WA.mut, List.mem_cons, List.not_mem_nil, or_false] at hx
  simp only [WA.all, List.mem_cons, List.not_mem_nil, or_false]
  rcases hx with rfl | rfl | rfl | rfl <;> simp)
/-- a draw leaves a wood -/
theorem WoodAt.frA {P : Program} {w : World} {K : PySem.W.Frag} {C : Addr} {H H' : Hp} {wd : Addr} {A : WA} {size : Nat} {ops : List Op3} {ns : List Nd} {a c : Addr} (h : WoodAt P w K C H wd A size ops ns) (f : AN.Fr [a] H H') (d : Dis wd A a c) : WoodAt P w K C H' wd A size ops ns :=
  h.fr f (by simpa using d.wa) fun x hx => by simpa using (d.al x hx).1
theorem DrawOk.frM {H H' : Hp} {wd a c : Addr} {A : WA} (h : DrawOk H a c) (f : AN.Fr A.mut H H') (d : Dis wd A a c) : DrawOk H' a c :=
  h.fr f (fun m => (d.mut a m).1 rfl) (fun m => (d.mut c m).2 rfl)
end AN

/-! AN: the way down a grove, plainly. -/
namespace AN
open PySem PySem.Spec PyProof.Rows L2
abbrev St3 := Str × Nat × Nat
inductive En where
  | ends (v : Nat)
  | stops (p : Str) (a : Nat)
  | waits (p : Str) (a : Nat)
def st3D (s : St3) : PyData := .tuple [.str s.1, .int (s.2.1 : Int), .int (s.2.2 : Int)]
def En.toD : En → PyData
  | .ends v => .tuple [.str "ends", .int (v : Int)]
  | .stops p a => .tuple [.str "stops", .str p, .int (a : Int)]
  | .waits p a => .tuple [.str "waits", .str p, .int (a : Int)]
abbrev Tell := List St3 × En
def tellD (r : Tell) : PyData := .tuple [.tuple (r.1.map st3D), r.2.toD]
def down (ns : List Nd) : List Int → Nat → Tell
  | [], i => ([], match ns[i]? with
    | some (.val v) => .ends v
    | some (.ask p a []) => .stops p a
    | some (.ask p a (_ :: _)) => .waits p a
    | none => .ends 0)
  | x :: w, i => match ns[i]? with
    | some (.ask p a (k :: ks)) => ((p, a, (x % ((k :: ks).length : Int)).toNat) :: (down ns w ((k :: ks).getD (x % ((k :: ks).length : Int)).toNat 0)).1, (down ns w ((k :: ks).getD (x % ((k :: ks).length : Int)).toNat 0)).2)
    | some (.val v) => ([], .ends v)
    | some (.ask p a []) => ([], .stops p a)
    | none => ([], .ends 0)
section
variable {ns : List Nd} {w : List Int} {i j k : Nat} {v a : Nat} {p : Str} {ks : List Nat} {x : Int}
theorem down_val (h : ns[i]? = some (.val v)) : down ns w i = ([], .ends v) := by cases w <;> simp [down, h]
theorem down_stop (h : ns[i]? = some (.ask p a [])) : down ns w i = ([], .stops p a) := by cases w <;> simp [down, h]
theorem down_wait (h : ns[i]? = some (.ask p a ks)) (hk : 0 < ks.length) : down ns [] i = ([], .waits p a) := by
  cases ks with
  | nil => simp at hk
  | cons _ _ => simp [down, h]
theorem down_go (h : ns[i]? = some (.ask p a ks)) (hj : x % (ks.length : Int) = (j : Int)) (hk : ks[j]? = some k) : down ns (x :: w) i = ((p, a, j) :: (down ns w k).1, (down ns w k).2) := by
  cases ks with
  | nil => simp at hk
  | cons y ys =>
    simp only [down, h]
    rw [hj, Int.toNat_natCast]
    simp only [List.getD, hk, Option.getD_some]
/-- a way that a grove has -/
def OkSteps (ns : List Nd) : List St3 → Nat → Prop
  | [], i => i < ns.length
  | s :: r, i => ∃ ks k, ns[i]? = some (.ask s.1 s.2.1 ks) ∧ ks[s.2.2]? = some k ∧ OkSteps ns r k
def along (ns : List Nd) : List St3 → Nat → List Nat
  | [], i => [i]
  | s :: r, i => i :: along ns r (match ns[i]? with | some (.ask _ _ ks) => ks.getD s.2.2 0 | _ => 0)
theorem along_go {s : St3} {r : List St3} {ks : List Nat} (h : ns[i]? = some (.ask s.1 s.2.1 ks)) (hk : ks[s.2.2]? = some k) : along ns (s :: r) i = i :: along ns r k := by
  simp [along, h, List.getD, hk]
theorem along_len : ∀ (r : List St3) (i : Nat), (along ns r i).length = r.length + 1
  | [], _ => rfl
  | s :: r, i => by rw [along, List.length_cons, along_len r, List.length_cons]
/-- the cases of a node -/
theorem mod_lt (x : Int) {n : Nat} (h : 0 < n) : ∃ j : Nat, x % (n : Int) = (j : Int) ∧ j < n := draw_mod x n h
theorem down_ok {size : Nat} (ok : NsOk size ns) : ∀ (w : List Int) (i : Nat), i < ns.length → OkSteps ns (down ns w i).1 i
  | [], i, hi => hi
  | x :: w, i, hi => by
    have e : ns[i]? = some ns[i] := List.getElem?_eq_getElem hi
    cases h : ns[i] with
    | val v => rw [h] at e; rw [down_val e]; exact hi
    | ask p a ks =>
      rw [h] at e
      by_cases hk : ks = []
      · subst hk; rw [down_stop e]; exact hi
      · obtain ⟨j, hj, hjl⟩ := mod_lt x (List.length_pos_iff.mpr hk)
        have ek : ks[j]? = some ks[j] := List.getElem?_eq_getElem hjl
        rw [down_go e hj ek]
        refine ⟨ks, ks[j], e, ek, down_ok ok w _ ?_⟩
        exact Nat.lt_trans (ok.wf i p a ks e _ (List.getElem_mem hjl)) hi
theorem down_len : ∀ (w : List Int) (i : Nat), (down ns w i).1.length ≤ w.length
  | [], i => by simp [down]
  | x :: w, i => by
    unfold down
    split
    · exact Nat.succ_le_succ (down_len w _)
    all_goals simp
theorem down_cut {size : Nat} (ok : NsOk size ns) : ∀ (w : List Int) (i : Nat), i < ns.length → ∀ c, c ≤ (down ns w i).1.length → ∃ k, (along ns (down ns w i).1 i)[c]? = some k ∧ k < ns.length ∧ down ns (w.drop c) k = ((down ns w i).1.drop c, (down ns w i).2)
  | w, i, hi, 0, _ => ⟨i, by cases (down ns w i).1 <;> rfl, hi, by simp⟩
  | [], i, hi, c + 1, hc => by simp [down] at hc
  | x :: w, i, hi, c + 1, hc => by
    have e : ns[i]? = some ns[i] := List.getElem?_eq_getElem hi
    cases h : ns[i] with
    | val v => rw [h] at e; rw [down_val e] at hc; simp at hc
    | ask p a ks =>
      rw [h] at e
      by_cases hk : ks = []
      · subst hk; rw [down_stop e] at hc; simp at hc
      · obtain ⟨j, hj, hjl⟩ := mod_lt x (List.length_pos_iff.mpr hk)
        have ek : ks[j]? = some ks[j] := List.getElem?_eq_getElem hjl
        rw [down_go e hj ek] at hc ⊢
        obtain ⟨k, h1, h2, h3⟩ := down_cut ok w ks[j] (Nat.lt_trans (ok.wf i p a ks e _ (List.getElem_mem hjl)) hi) c (by simpa using hc)
        refine ⟨k, ?_, h2, by simpa using h3⟩
        rw [along_go (s := (p, a, j)) e ek]
        simpa using h1
def isW : En → Bool
  | .waits _ _ => true
  | _ => false
theorem down_long : ∀ (w : List Int) (i : Nat) (z : List Int), isW (down ns w i).2 = false → down ns (w ++ z) i = down ns w i
  | [], i, z, h => by
    cases e : ns[i]? with
    | none => cases z <;> simp [down, e]
    | some nd =>
      cases nd with
      | val v => rw [down_val e, down_val e]
      | ask p a ks =>
        cases ks with
        | nil => rw [down_stop e, down_stop e]
        | cons k ks => rw [down_wait e (by simp)] at h; simp [isW] at h
  | x :: w, i, z, h => by
    cases e : ns[i]? with
    | none => simp [down, e]
    | some nd =>
      cases nd with
      | val v => rw [down_val e, down_val e]
      | ask p a ks =>
        by_cases hk : ks = []
        · subst hk; rw [down_stop e, down_stop e]
        · obtain ⟨j, hj, hjl⟩ := mod_lt x (List.length_pos_iff.mpr hk)
          have ek : ks[j]? = some ks[j] := List.getElem?_eq_getElem hjl
          rw [down_go e hj ek] at h
          rw [List.cons_append, down_go e hj ek, down_go e hj ek, down_long w _ z h]
theorem down_more : ∀ (w : List Int) (i : Nat) (m : List Int), m.length = (down ns w i).1.length →
    (∀ c, c < m.length → ∃ (k : Nat) (p : Str) (a : Nat) (ks : List Nat) (n : Int), (along ns (down ns w i).1 i)[c]? = some k ∧ ns[k]? = some (.ask p a ks) ∧ m[c]? = some ((w.getD c 0) + (ks.length : Int) * n)) → down ns m i = down ns w i
  | [], i, m, hl, _ => by
    have : m = [] := List.eq_nil_of_length_eq_zero (by rw [hl]; simp [down])
    rw [this]
  | x :: w, i, m, hl, h => by
    cases e : ns[i]? with
    | none =>
      have : m = [] := List.eq_nil_of_length_eq_zero (by rw [hl]; simp [down, e])
      rw [this]; simp [down, e]
    | some nd =>
      cases nd with
      | val v => rw [down_val e, down_val e]
      | ask p a ks =>
        by_cases hk : ks = []
        · subst hk; rw [down_stop e, down_stop e]
        · obtain ⟨j, hj, hjl⟩ := mod_lt x (List.length_pos_iff.mpr hk)
          have ek : ks[j]? = some ks[j] := List.getElem?_eq_getElem hjl
          rw [down_go e hj ek] at hl h ⊢
          cases m with
          | nil => simp at hl
          | cons y m =>
            obtain ⟨k0, p0, a0, ks0, n, h1, h2, h3⟩ := h 0 (by simp)
            rw [along_go (s := (p, a, j)) e ek] at h1
            simp only [List.getElem?_cons_zero, Option.some.injEq] at h1 h3
            subst h1
            rw [e] at h2
            cases h2
            simp only [List.getD_cons_zero] at h3
            have hj2 : y % (ks.length : Int) = (j : Int) := by rw [h3, Int.add_mul_emod_self_left]; exact hj
            rw [down_go e hj2 ek]
            have := down_more w ks[j] m (by simpa using hl) (fun c hc => by
              obtain ⟨k, p', a', ks', n', g1, g2, g3⟩ := h (c + 1) (by simpa using hc)
              rw [along_go (s := (p, a, j)) e ek] at g1
              exact ⟨k, p', a', ks', n', by simpa using g1, g2, by simpa using g3⟩)
            rw [this]
/-- the node on the way -/
theorem along_at : ∀ (r : List St3) (i : Nat), OkSteps ns r i → ∀ c, c < r.length → ∃ k p a ks, (along ns r i)[c]? = some k ∧ ns[k]? = some (.ask p a ks) ∧ k < ns.length
  | [], i, _, c, hc => by simp at hc
  | s :: r, i, ⟨ks, k, e, ek, ok⟩, 0, _ => ⟨i, _, _, ks, by rw [along_go e ek]; rfl, e, (List.getElem?_eq_some_iff.mp e).1⟩
  | s :: r, i, ⟨ks, k, e, ek, ok⟩, c + 1, hc => by
    obtain ⟨k', p, a, ks', h1, h2, h3⟩ := along_at r k ok c (by simpa using hc)
    exact ⟨k', p, a, ks', by rw [along_go e ek]; simpa using h1, h2, h3⟩
theorem down_G {size : Nat} (ok : NsOk size ns) : ∀ (w : List Int) (i : Nat), (∀ s ∈ (down ns w i).1, PyData.strOk s.1 = true) ∧ G 3 (down ns w i).2.toD := by
  have endsG : ∀ v : Nat, G 3 (En.ends v).toD := fun v => .tup (.cons (.str (by decide +kernel)) (.cons .int .nil)) (Nat.le_of_ble_eq_true rfl)
  have stG : ∀ (p : Str) (a : Nat), PyData.strOk p = true → G 3 (En.stops p a).toD ∧ G 3 (En.waits p a).toD := fun p a h =>
    ⟨.tup (.cons (.str (by decide +kernel)) (.cons (.str h) (.cons .int .nil))) (Nat.le_of_ble_eq_true rfl), .tup (.cons (.str (by decide +kernel)) (.cons (.str h) (.cons .int .nil))) (Nat.le_of_ble_eq_true rfl)⟩
  intro w
  induction w with
  | nil =>
    intro i
    cases e : ns[i]? with
    | none => simp [down, e]; exact endsG 0
    | some nd =>
      cases nd with
      | val v => rw [down_val e]; exact ⟨fun s h => (by cases h), endsG v⟩
      | ask p a ks =>
        have hp := (ok.st i p a ks e).1
        by_cases hk : ks = []
        · subst hk; rw [down_stop e]; exact ⟨fun s h => (by cases h), (stG p a hp).1⟩
        · rw [down_wait e (List.length_pos_iff.mpr hk)]; exact ⟨fun s h => (by cases h), (stG p a hp).2⟩
  | cons x w ih =>
    intro i
    cases e : ns[i]? with
    | none => simp [down, e]; exact endsG 0
    | some nd =>
      cases nd with
      | val v => rw [down_val e]; exact ⟨fun s h => (by cases h), endsG v⟩
      | ask p a ks =>
        have hp := (ok.st i p a ks e).1
        by_cases hk : ks = []
        · subst hk; rw [down_stop e]; exact ⟨fun s h => (by cases h), (stG p a hp).1⟩
        · obtain ⟨j, hj, hjl⟩ := mod_lt x (List.length_pos_iff.mpr hk)
          have ek : ks[j]? = some ks[j] := List.getElem?_eq_getElem hjl
          rw [down_go e hj ek]
          refine ⟨fun s h => ?_, (ih ks[j]).2⟩
          rcases List.mem_cons.mp h with rfl | h
          · exact hp
          · exact (ih ks[j]).1 s h
theorem tell_G {size : Nat} (ok : NsOk size ns) (w : List Int) (i : Nat) (hw : w.length ≤ 800) : G 5 (tellD (down ns w i)) := by
  have h := down_G ok w i
  have hl := down_len (ns := ns) w i
  refine .tup (.cons (.tup (.map fun s hs => ?_) (by rw [List.length_map]; omega)) (.cons (h.2.mono (by decide)) .nil)) (Nat.le_of_ble_eq_true rfl)
  exact .tup (.cons (.str (h.1 s hs)) (.cons .int (.cons .int .nil))) (Nat.le_of_ble_eq_true rfl)
end
end AN

/-! AN: the least way to an ask of some names, plainly. -/
namespace AN
open PySem PySem.Spec PyProof.Rows L2
theorem rev_ind {α : Type} {p : List α → Prop} (h0 : p []) (h : ∀ l a, p l → p (l ++ [a])) (l : List α) : p l := by
  have : ∀ m : List α, p m.reverse := fun m => by
    induction m with
    | nil => exact h0
    | cons a m ih => rw [List.reverse_cons]; exact h _ _ ih
  have := this l.reverse
  rwa [List.reverse_reverse] at this
section
variable (nm : List Str) (ns : List Nd)
def kidsOf (i : Nat) : List Nat := match ns[i]? with
  | some (.ask _ _ ks) => ks
  | _ => []
def tgt (i : Nat) : Bool := match ns[i]? with
  | some (.ask p _ _) => decide (p ∈ nm)
  | _ => false
end
/-- the shortest of the kids' ways, the first one of these -/
def pickB (b : Nat → Option (List Nat)) : List Nat → Nat → Option (List Nat) → Option (List Nat)
  | [], _, f => f
  | k :: ks, a, f => pickB b ks (a + 1) (match b k with
    | none => f
    | some r => match f with
      | none => some (a :: r)
      | some g => if r.length + 1 < g.length then some (a :: r) else some g)
theorem pickB_congr {b b' : Nat → Option (List Nat)} : ∀ (ks : List Nat) (a : Nat) (f : Option (List Nat)), (∀ k ∈ ks, b k = b' k) → pickB b ks a f = pickB b' ks a f
  | [], _, _, _ => rfl
  | k :: ks, a, f, h => by
    unfold pickB
    rw [h k (List.mem_cons_self ..), pickB_congr ks (a + 1) _ fun x hx => h x (List.mem_cons_of_mem _ hx)]
theorem pickB_take (b : Nat → Option (List Nat)) : ∀ (ks : List Nat) (k : Nat) (a : Nat) (f : Option (List Nat)), pickB b (ks ++ [k]) a f = pickB b [k] (a + ks.length) (pickB b ks a f)
  | [], k, a, f => rfl
  | x :: ks, k, a, f => by
    rw [List.cons_append]
    conv => lhs; unfold pickB
    rw [pickB_take b ks k (a + 1)]
    conv => rhs; unfold pickB
    rw [show a + (x :: ks).length = a + 1 + ks.length by simp; omega]
    rfl
theorem pickB_none {b : Nat → Option (List Nat)} : ∀ (ks : List Nat) (a : Nat) (f : Option (List Nat)), pickB b ks a f = none → f = none ∧ ∀ k ∈ ks, b k = none
  | [], _, f, h => ⟨h, fun k hk => by cases hk⟩
  | k :: ks, a, f, h => by
    unfold pickB at h
    obtain ⟨h1, h2⟩ := pickB_none ks (a + 1) _ h
    cases e : b k with
    | none =>
      rw [e] at h1
      exact ⟨h1, fun x hx => by
        rcases List.mem_cons.mp hx with rfl | hx
        · exact e
        · exact h2 x hx⟩
    | some r =>
      rw [e] at h1
      cases f with
      | none => cases h1
      | some g =>
        simp only at h1
        split at h1 <;> cases h1
theorem pickB_some {b : Nat → Option (List Nat)} : ∀ (ks : List Nat) (a : Nat) (f : Option (List Nat)) (w : List Nat), pickB b ks a f = some w →
    (f = some w ∧ ∀ k ∈ ks, ∀ r, b k = some r → w.length ≤ r.length + 1) ∨
    ∃ (j k : Nat) (r : List Nat), ks[j]? = some k ∧ b k = some r ∧ w = (a + j) :: r ∧ (∀ g, f = some g → r.length + 1 < g.length) ∧ ∀ (j' k' : Nat) r', ks[j']? = some k' → b k' = some r' → r.length ≤ r'.length ∧ (j' < j → r.length < r'.length)
  | [], _, f, w, h => .inl ⟨h, fun k hk => by cases hk⟩
  | k :: ks, a, f, w, h => by
    unfold pickB at h
    rcases pickB_some ks (a + 1) _ w h with ⟨h1, h2⟩ | ⟨j, k1, r, e1, e2, e3, h4, h5⟩
    · cases e : b k with
      | none =>
        rw [e] at h1
        exact .inl ⟨h1, fun x hx r er => by
          rcases List.mem_cons.mp hx with rfl | hx
          · rw [e] at er; cases er
          · exact h2 x hx r er⟩
      | some r =>
        rw [e] at h1
        have new : some (a :: r) = some w → (∀ g, f = some g → r.length + 1 < g.length) → ∃ (j k' : Nat) (r : List Nat), (k :: ks)[j]? = some k' ∧ b k' = some r ∧ w = (a + j) :: r ∧ (∀ g, f = some g → r.length + 1 < g.length) ∧ ∀ (j' k'' : Nat) r', (k :: ks)[j']? = some k'' → b k'' = some r' → r.length ≤ r'.length ∧ (j' < j → r.length < r'.length) := fun hw hf => by
          cases hw
          refine ⟨0, k, r, rfl, e, rfl, hf, fun j' k' r' ej er => ⟨?_, fun z => by omega⟩⟩
          cases j' with
          | zero =>
            simp only [List.getElem?_cons_zero, Option.some.injEq] at ej
            subst ej
            rw [e] at er; cases er; exact Nat.le_refl _
          | succ j' =>
            have := h2 k' (List.mem_of_getElem? (by simpa using ej)) r' er
            simp only [List.length_cons] at this
            omega
        cases f with
        | none => exact .inr (new h1 fun g z => by cases z)
        | some g =>
          simp only at h1
          split at h1
          · rename_i hlt
            exact .inr (new h1 fun g' z => by cases z; exact hlt)
          · rename_i hlt
            cases h1
            refine .inl ⟨rfl, fun x hx r' er => ?_⟩
            rcases List.mem_cons.mp hx with rfl | hx
            · rw [e] at er; cases er; omega
            · exact h2 x hx r' er
    · refine .inr ⟨j + 1, k1, r, by simpa using e1, e2, by rw [e3]; congr 1; omega, fun g hg => ?_, fun j' k' r' ej er => ?_⟩
      · subst hg
        cases e : b k with
        | none => rw [e] at h4; exact h4 g rfl
        | some q =>
          rw [e] at h4
          simp only at h4
          split at h4
          · rename_i hlt
            have := h4 _ rfl
            simp only [List.length_cons] at this
            omega
          · exact h4 g rfl
      · cases j' with
        | zero =>
          simp only [List.getElem?_cons_zero, Option.some.injEq] at ej
          subst ej
          rw [er] at h4
          have hl : r.length < r'.length := by
            cases f with
            | none =>
              have := h4 _ rfl
              simp only [List.length_cons] at this
              omega
            | some g =>
              simp only at h4
              split at h4
              · have := h4 _ rfl
                simp only [List.length_cons] at this
                omega
              · rename_i hge
                have := h4 g rfl
                omega
          exact ⟨by omega, fun _ => hl⟩
        | succ j' =>
          have := h5 j' k' r' (by simpa using ej) er
          exact ⟨this.1, fun z => this.2 (by omega)⟩
/-! the table -/
def rowB (nm : List Str) (b : Nat → Option (List Nat)) : Nd → Option (List Nat)
  | .val _ => none
  | .ask p _ ks => if p ∈ nm then some [] else pickB b ks 0 none
def tabB (nm : List Str) : List Nd → List (Option (List Nat)) := List.foldl (fun t nd => t ++ [rowB nm (fun k => (t[k]?).join) nd]) []
theorem tabB_snoc (nm : List Str) (ns : List Nd) (nd : Nd) : tabB nm (ns ++ [nd]) = tabB nm ns ++ [rowB nm (fun k => ((tabB nm ns)[k]?).join) nd] := by
  unfold tabB
  rw [List.foldl_append]
  rfl
theorem tabB_len (nm : List Str) (ns : List Nd) : (tabB nm ns).length = ns.length := by
  refine rev_ind (p := fun ns => (tabB nm ns).length = ns.length) rfl (fun ns nd ih => ?_) ns
  rw [tabB_snoc, List.length_append, List.length_append, ih]; rfl
def bst (nm : List Str) (ns : List Nd) (i : Nat) : Option (List Nat) := ((tabB nm ns)[i]?).join
theorem bst_snoc (nm : List Str) (ns : List Nd) (nd : Nd) (i : Nat) (h : i < ns.length) : bst nm (ns ++ [nd]) i = bst nm ns i := by
  unfold bst
  rw [tabB_snoc, List.getElem?_append_left (by rw [tabB_len]; exact h)]
theorem bst_prefix {nm : List Str} {ns ms : List Nd} (h : ns <+: ms) {i : Nat} (hi : i < ns.length) : bst nm ms i = bst nm ns i := by
  obtain ⟨t, rfl⟩ := h
  refine rev_ind (p := fun t => bst nm (ns ++ t) i = bst nm ns i) (by rw [List.append_nil]) (fun t nd ih => ?_) t
  rw [← List.append_assoc, bst_snoc _ _ _ _ (by rw [List.length_append]; omega), ih]
theorem bst_eq {size : Nat} {nm : List Str} {ns : List Nd} (ok : NsOk size ns) (i : Nat) : bst nm ns i = if tgt nm ns i = true then some [] else pickB (bst nm ns) (kidsOf ns i) 0 none := by
  cases e : ns[i]? with
  | none =>
    unfold tgt kidsOf
    rw [e]
    unfold bst
    rw [List.getElem?_eq_none (by rw [tabB_len]; exact List.getElem?_eq_none_iff.mp e)]
    rfl
  | some nd =>
    have hi := (List.getElem?_eq_some_iff.mp e).1
    have hp : ns.take (i + 1) <+: ns := List.take_prefix _ _
    have hp0 : ns.take i <+: ns := List.take_prefix _ _
    have e1 : ns.take (i + 1) = ns.take i ++ [nd] := by rw [List.take_add_one, e]; rfl
    have e2 : bst nm ns i = rowB nm (bst nm (ns.take i)) nd := by
      rw [bst_prefix hp (by rw [List.length_take]; omega), e1]
      unfold bst
      rw [tabB_snoc, List.getElem?_append_right (by rw [tabB_len, List.length_take]; omega), tabB_len, List.length_take, show i - min i ns.length = 0 by omega]
      rfl
    rw [e2]
    unfold tgt kidsOf
    rw [e]
    cases nd with
    | val v => rfl
    | ask p a ks =>
      simp only [rowB, decide_eq_true_eq]
      split
      · rfl
      · exact pickB_congr ks 0 none fun k hk => (bst_prefix hp0 (by rw [List.length_take]; have := ok.wf i p a ks e k hk; omega)).symm
/-! reach -/
inductive Reach (ns : List Nd) : Nat → Nat → Prop
  | refl (i : Nat) : Reach ns i i
  | step {i j k : Nat} : Reach ns i j → k ∈ kidsOf ns j → Reach ns i k
section
variable {size : Nat} {nm : List Str} {ns : List Nd} (ok : NsOk size ns)
include ok
theorem bst_kid {x k : Nat} {r : List Nat} (hk : k ∈ kidsOf ns x) (e : bst nm ns k = some r) : ∃ r', bst nm ns x = some r' ∧ r'.length ≤ r.length + 1 := by
  rw [bst_eq ok x]
  split
  · exact ⟨[], rfl, by simp⟩
  · cases h : pickB (bst nm ns) (kidsOf ns x) 0 none with
    | none =>
      have := (pickB_none _ _ _ h).2 k hk
      rw [e] at this; cases this
    | some w =>
      rcases pickB_some _ _ _ _ h with ⟨z, _⟩ | ⟨j, k1, r1, e1, e2, e3, _, h5⟩
      · cases z
      · obtain ⟨j', hj⟩ := List.mem_iff_getElem?.mp hk
        have := (h5 j' k r hj e).1
        exact ⟨w, rfl, by rw [e3, List.length_cons]; omega⟩
theorem bst_reach {x y : Nat} (h : Reach ns x y) (e : bst nm ns y ≠ none) : bst nm ns x ≠ none := by
  induction h with
  | refl => exact e
  | step _ hk ih =>
    refine ih fun z => ?_
    obtain ⟨r, er⟩ := Option.ne_none_iff_exists'.mp e
    obtain ⟨r', e', _⟩ := bst_kid ok hk er
    rw [z] at e'; cases e'
theorem bst_tgt {x : Nat} (h : tgt nm ns x = true) : bst nm ns x = some [] := by rw [bst_eq ok x, if_pos h]
theorem bst_go {x : Nat} {r : List Nat} (h : tgt nm ns x = false) (e : bst nm ns x = some r) : ∃ (j k : Nat) (r1 : List Nat), (kidsOf ns x)[j]? = some k ∧ bst nm ns k = some r1 ∧ r = j :: r1 ∧ ∀ (j' k' : Nat) r', (kidsOf ns x)[j']? = some k' → bst nm ns k' = some r' → r1.length ≤ r'.length ∧ (j' < j → r1.length < r'.length) := by
  rw [bst_eq ok x, if_neg (by rw [h]; decide)] at e
  rcases pickB_some _ _ _ _ e with ⟨z, _⟩ | ⟨j, k1, r1, e1, e2, e3, _, h5⟩
  · cases z
  · exact ⟨j, k1, r1, e1, e2, by rw [e3, Nat.zero_add], h5⟩
omit ok in
theorem kids_lt (ok : NsOk size ns) {x k : Nat} (hk : k ∈ kidsOf ns x) : k < x ∧ x < ns.length := by
  unfold kidsOf at hk
  split at hk
  · rename_i p a ks e
    exact ⟨ok.wf x p a ks e k hk, (List.getElem?_eq_some_iff.mp e).1⟩
  · cases hk
theorem bst_len : ∀ (i : Nat) {r : List Nat}, bst nm ns i = some r → r.length ≤ i := fun i => by
  induction i using Nat.strongRecOn with
  | _ i ih =>
    intro r e
    cases h : tgt nm ns i with
    | true => rw [bst_tgt ok h] at e; cases e; simp
    | false =>
      obtain ⟨j, k, r1, e1, e2, e3, _⟩ := bst_go ok h e
      have hk := kids_lt ok (List.mem_of_getElem? e1)
      have := ih k hk.1 e2
      rw [e3, List.length_cons]; omega
end
/-! the search by rows -/
abbrev Ent2 := List Nat × Nat
/-- a way down -/
inductive Way (ns : List Nd) : Nat → List Nat → Nat → Prop
  | nil (i : Nat) : Way ns i [] i
  | cons {i a k x : Nat} {w : List Nat} : (kidsOf ns i)[a]? = some k → Way ns k w x → Way ns i (a :: w) x
theorem Way.snoc {ns : List Nd} {i x a k : Nat} {w : List Nat} (h : Way ns i w x) (e : (kidsOf ns x)[a]? = some k) : Way ns i (w ++ [a]) k := by
  induction h with
  | nil => exact .cons e (.nil _)
  | cons e' _ ih => exact .cons e' (ih e)
theorem Way.take {ns : List Nd} {i x : Nat} {w : List Nat} (h : Way ns i w x) : ∀ j, j < w.length → ∃ y a k, Way ns i (w.take j) y ∧ w[j]? = some a ∧ (kidsOf ns y)[a]? = some k ∧ Way ns i (w.take (j + 1)) k := by
  induction h with
  | nil => intro j hj; simp at hj
  | @cons i a k x w e _ ih =>
    intro j hj
    cases j with
    | zero => exact ⟨i, a, k, .nil i, rfl, e, .cons e (.nil k)⟩
    | succ j =>
      obtain ⟨y, b, z, h1, h2, h3, h4⟩ := ih j (by simpa using hj)
      exact ⟨y, b, z, .cons e h1, by simpa using h2, h3, .cons e h4⟩
theorem Way.det {ns : List Nd} {i x y : Nat} {w : List Nat} (h : Way ns i w x) (g : Way ns i w y) : x = y := by
  induction h with
  | nil => cases g; rfl
  | cons e _ ih =>
    cases g with
    | cons e' g =>
      rw [e] at e'
      cases e'
      exact ih g
theorem kids_at {ns : List Nd} {i a k : Nat} (h : (kidsOf ns i)[a]? = some k) : ∃ p b ks, ns[i]? = some (.ask p b ks) ∧ ks[a]? = some k := by
  unfold kidsOf at h
  split at h
  · rename_i p b ks e
    exact ⟨p, b, ks, e, h⟩
  · simp at h
theorem way_down {ns : List Nd} {i x : Nat} {w : List Nat} (h : Way ns i w x) : (down ns (w.map fun (a : Nat) => (a : Int)) i).2 = (down ns [] x).2 := by
  induction h with
  | nil => rfl
  | @cons i a k x w e _ ih =>
    obtain ⟨p, b, ks, e1, e2⟩ := kids_at e
    have hl := (List.getElem?_eq_some_iff.mp e2).1
    rw [List.map_cons, down_go e1 (j := a) (by rw [Int.emod_eq_of_lt (by omega) (by omega)]) e2]
    exact ih
/-- the kids of one entry -/
def klB (w : List Nat) : List Nat → Nat → List Nat × List Ent2 → List Nat × List Ent2
  | [], _, s => s
  | k :: ks, a, s => klB w ks (a + 1) (if k ∈ s.1 then s else (s.1 ++ [k], s.2 ++ [(w ++ [a], k)]))
theorem klB_cons (w : List Nat) (k : Nat) (ks : List Nat) (a : Nat) (s : List Nat × List Ent2) : klB w (k :: ks) a s = klB w ks (a + 1) (if k ∈ s.1 then s else (s.1 ++ [k], s.2 ++ [(w ++ [a], k)])) := rfl
theorem klB_snoc (w : List Nat) : ∀ (ks : List Nat) (k a : Nat) (s : List Nat × List Ent2), klB w (ks ++ [k]) a s = klB w [k] (a + ks.length) (klB w ks a s)
  | [], _, _, _ => rfl
  | x :: ks, k, a, s => by
    rw [List.cons_append]
    conv => lhs; unfold klB
    rw [klB_snoc w ks k (a + 1)]
    conv => rhs; unfold klB
    rw [show a + (x :: ks).length = a + 1 + ks.length by simp; omega]
    rfl
/-- a row -/
def scanB (nm : List Str) (ns : List Nd) : List Ent2 → List Nat × List Ent2 → Sum Ent2 (List Nat × List Ent2)
  | [], s => .inr s
  | e :: r, s => if tgt nm ns e.2 = true then .inl e else scanB nm ns r (klB e.1 (kidsOf ns e.2) 0 s)
theorem scanB_snoc_inr {nm : List Str} {ns : List Nd} : ∀ {row : List Ent2} {e : Ent2} {s s' : List Nat × List Ent2}, scanB nm ns row s = .inr s' → scanB nm ns (row ++ [e]) s = if tgt nm ns e.2 = true then .inl e else .inr (klB e.1 (kidsOf ns e.2) 0 s')
  | [], e, s, s', h => by
    cases h
    rfl
  | x :: row, e, s, s', h => by
    rw [List.cons_append]
    unfold scanB at h ⊢
    split at h
    · cases h
    · rename_i z
      rw [if_neg z]
      exact scanB_snoc_inr h
theorem scanB_app {nm : List Str} {ns : List Nd} : ∀ {row more : List Ent2} {e : Ent2} {s : List Nat × List Ent2}, scanB nm ns row s = .inl e → scanB nm ns (row ++ more) s = .inl e
  | [], _, _, _, h => by cases h
  | x :: row, more, e, s, h => by
    rw [List.cons_append]
    unfold scanB at h ⊢
    split at h
    · rename_i z; rw [if_pos z]; exact h
    · rename_i z; rw [if_neg z]; exact scanB_app h
/-- what holds of what a row leaves, whatever the ends -/
structure MetOk (ns : List Nd) (node : Nat) (met : List Nat) (fur : List Ent2) (k : Nat) : Prop where
  nd : met.Nodup
  re : ∀ x ∈ met, Reach ns node x
  fu : ∀ e ∈ fur, e.2 ∈ met ∧ e.1.length = k ∧ Way ns node e.1 e.2
  me : node ∈ met
theorem klB_sub (w : List Nat) : ∀ (ks : List Nat) (a : Nat) (s : List Nat × List Ent2), ∃ ms fs, klB w ks a s = (s.1 ++ ms, s.2 ++ fs) ∧ ms = fs.map (·.2) ∧ (∀ e ∈ fs, ∃ (j k : Nat), ks[j]? = some k ∧ e = (w ++ [a + j], k) ∧ k ∉ s.1) ∧ (∀ k ∈ ks, k ∈ s.1 ++ ms) ∧ (s.1.Nodup → (s.1 ++ ms).Nodup)
  | [], a, s => ⟨[], [], by simp [klB], rfl, (fun e he => by cases he), (fun k hk => by cases hk), fun h => by simpa using h⟩
  | k :: ks, a, s => by
    unfold klB
    by_cases h : k ∈ s.1
    · rw [if_pos h]
      obtain ⟨ms, fs, e, h1, h2, h3, h4⟩ := klB_sub w ks (a + 1) s
      refine ⟨ms, fs, e, h1, fun z hz => ?_, fun z hz => ?_, h4⟩
      · obtain ⟨j, k', e1, e2, e3⟩ := h2 z hz
        exact ⟨j + 1, k', by simpa using e1, by rw [e2]; simp; omega, e3⟩
      · rcases List.mem_cons.mp hz with rfl | hz
        · exact List.mem_append.mpr (.inl h)
        · exact h3 z hz
    · rw [if_neg h]
      obtain ⟨ms, fs, e, h1, h2, h3, h4⟩ := klB_sub w ks (a + 1) (s.1 ++ [k], s.2 ++ [(w ++ [a], k)])
      refine ⟨k :: ms, (w ++ [a], k) :: fs, by rw [e]; simp, by simp [h1], fun z hz => ?_, fun z hz => ?_, fun hn => ?_⟩
      · rcases List.mem_cons.mp hz with rfl | hz
        · exact ⟨0, k, rfl, by simp, h⟩
        · obtain ⟨j, k', e1, e2, e3⟩ := h2 z hz
          exact ⟨j + 1, k', by simpa using e1, by rw [e2]; simp; omega, fun m => e3 (by simp [m])⟩
      · rcases List.mem_cons.mp hz with rfl | hz
        · simp
        · have := h3 z hz
          simpa using this
      · have := h4 (by
          rw [List.nodup_append]
          exact ⟨hn, by simp, fun x hx y hy z => h (by rw [List.mem_singleton.mp hy] at z; rw [← z]; exact hx)⟩)
        simpa using this
section
variable {size : Nat} {nm : List Str} {ns : List Nd} {node : Nat} {met : List Nat} {fur : List Ent2} {k : Nat}
theorem klB_ok {w : List Nat} {x : Nat} (h : MetOk ns node met fur (k + 1)) (hx : x ∈ met) (hw : w.length = k) (hy : Way ns node w x) : MetOk ns node (klB w (kidsOf ns x) 0 (met, fur)).1 (klB w (kidsOf ns x) 0 (met, fur)).2 (k + 1) := by
  obtain ⟨ms, fs, e, h1, h2, h3, h4⟩ := klB_sub w (kidsOf ns x) 0 (met, fur)
  rw [e]
  refine ⟨h4 h.nd, fun y hy => ?_, fun z hz => ?_, List.mem_append.mpr (.inl h.me)⟩
  · rcases List.mem_append.mp hy with hy | hy
    · exact h.re y hy
    · rw [h1] at hy
      obtain ⟨z, hz, rfl⟩ := List.mem_map.mp hy
      obtain ⟨j, k', e1, e2, _⟩ := h2 z hz
      rw [e2]
      exact .step (h.re x hx) (List.mem_of_getElem? e1)
  · rcases List.mem_append.mp hz with hz | hz
    · exact ⟨List.mem_append.mpr (.inl (h.fu z hz).1), (h.fu z hz).2⟩
    · obtain ⟨j, k', e1, e2, _⟩ := h2 z hz
      refine ⟨List.mem_append.mpr (.inr ?_), ?_, ?_⟩
      · rw [h1]; exact List.mem_map.mpr ⟨z, hz, rfl⟩
      · rw [e2]; simp [hw]
      · rw [e2, Nat.zero_add]; exact hy.snoc e1
/-- what is met and not to be looked at any more has its kids met -/
def Clo (ns : List Nd) (met : List Nat) (open' : List Nat) : Prop := ∀ x ∈ met, x ∉ open' → ∀ k ∈ kidsOf ns x, k ∈ met
theorem klB_clo {w : List Nat} {x : Nat} {rest : List Ent2} (h : Clo ns met (fur.map (·.2) ++ (x :: rest.map (·.2)))) : Clo ns (klB w (kidsOf ns x) 0 (met, fur)).1 ((klB w (kidsOf ns x) 0 (met, fur)).2.map (·.2) ++ rest.map (·.2)) := by
  obtain ⟨ms, fs, e, h1, h2, h3, h4⟩ := klB_sub w (kidsOf ns x) 0 (met, fur)
  rw [e]
  intro y hy ho k hk
  simp only [List.map_append, List.mem_append, not_or] at ho
  rcases List.mem_append.mp hy with hy | hy
  · by_cases z : y = x
    · subst z; exact h3 k hk
    · refine List.mem_append.mpr (.inl (h y hy ?_ k hk))
      simp only [List.mem_append, List.mem_cons, not_or]
      exact ⟨ho.1.1, z, ho.2⟩
  · rw [h1] at hy
    exact absurd hy ho.1.2
/-! the way found -/
structure Aim (nm : List Str) (ns : List Nd) (Wy : List Nat) (met : List Nat) (row : List Ent2) (k : Nat) : Prop where
  lo : ∀ x ∈ met, ∀ r, bst nm ns x = some r → Wy.length ≤ k + r.length
  at_ : ∃ pre w x r post, row = pre ++ (w, x) :: post ∧ bst nm ns x = some r ∧ Wy = w ++ r ∧ ∀ e ∈ pre, ∀ r', bst nm ns e.2 = some r' → Wy.length < k + r'.length
/-- ahead of the entry that leads on -/
structure Bef (nm : List Str) (ns : List Nd) (Wy : List Nat) (met : List Nat) (fur : List Ent2) (k : Nat) : Prop where
  lo : ∀ x ∈ met, ∀ r, bst nm ns x = some r → x ∉ fur.map (·.2) → Wy.length ≤ k + r.length
  fu : ∀ e ∈ fur, ∀ r, bst nm ns e.2 = some r → Wy.length < k + 1 + r.length
theorem Bef.up (h : Bef nm ns Wy met fur k) : ∀ x ∈ met, ∀ r, bst nm ns x = some r → Wy.length ≤ k + 1 + r.length := fun x hx r e => by
  by_cases z : x ∈ fur.map (·.2)
  · obtain ⟨f, hf, rfl⟩ := List.mem_map.mp z
    exact Nat.le_of_lt (h.fu f hf r e)
  · have := h.lo x hx r e z; omega
theorem bef_step (ok : NsOk size ns) {Wy w : List Nat} {x : Nat} (h : Bef nm ns Wy met fur k) (hx : ∀ r, bst nm ns x = some r → Wy.length < k + r.length) : Bef nm ns Wy (klB w (kidsOf ns x) 0 (met, fur)).1 (klB w (kidsOf ns x) 0 (met, fur)).2 k := by
  obtain ⟨ms, fs, e, h1, h2, h3, h4⟩ := klB_sub w (kidsOf ns x) 0 (met, fur)
  rw [e]
  refine ⟨fun y hy r er hn => ?_, fun z hz r er => ?_⟩
  · simp only [List.map_append, List.mem_append, not_or] at hn
    rcases List.mem_append.mp hy with hy | hy
    · exact h.lo y hy r er hn.1
    · rw [h1] at hy; exact absurd hy hn.2
  · rcases List.mem_append.mp hz with hz | hz
    · exact h.fu z hz r er
    · obtain ⟨j, k', e1, e2, _⟩ := h2 z hz
      rw [e2] at er
      obtain ⟨r', e3, e4⟩ := bst_kid ok (List.mem_of_getElem? e1) er
      have := hx r' e3
      omega
theorem klB_split (w : List Nat) (ks : List Nat) (j kk : Nat) (e : ks[j]? = some kk) (s : List Nat × List Ent2) : klB w ks 0 s = klB w (ks.drop (j + 1)) (j + 1) (klB w [kk] j (klB w (ks.take j) 0 s)) := by
  have app : ∀ (l m : List Nat) (a : Nat) (s : List Nat × List Ent2), klB w (l ++ m) a s = klB w m (a + l.length) (klB w l a s) := fun l => by
    induction l with
    | nil => intro m a s; rfl
    | cons y l ih =>
      intro m a s
      rw [List.cons_append, klB_cons, klB_cons, ih, show a + (y :: l).length = a + 1 + l.length by simp; omega]
  have hj := (List.getElem?_eq_some_iff.mp e).1
  have e1 : ks = ks.take j ++ ([kk] ++ ks.drop (j + 1)) := by
    rw [List.singleton_append, ← (List.getElem?_eq_some_iff.mp e).2, ← List.drop_eq_getElem_cons hj, List.take_append_drop]
  conv => lhs; rw [e1]
  rw [app, app, List.length_take, Nat.min_eq_left (Nat.le_of_lt hj), Nat.zero_add]
  rfl
/-- the entry that leads on, opened -/
theorem bef_good (ok : NsOk size ns) {w r : List Nat} {x : Nat} (h : Bef nm ns (w ++ r) met fur k) (hw : w.length = k) (hx : x ∈ met) (hlo : (w ++ r).length ≤ k + r.length) (e : bst nm ns x = some r) (ht : tgt nm ns x = false) :
    Aim nm ns (w ++ r) (klB w (kidsOf ns x) 0 (met, fur)).1 (klB w (kidsOf ns x) 0 (met, fur)).2 (k + 1) := by
  obtain ⟨j, kk, r1, e1, e2, e3, h5⟩ := bst_go ok ht e
  have hlen : (w ++ r).length = k + 1 + r1.length := by rw [e3]; simp [hw]; omega
  refine ⟨fun y hy r' er => ?_, ?_⟩
  · obtain ⟨ms, fs, e4, h1, h2, h3, h4⟩ := klB_sub w (kidsOf ns x) 0 (met, fur)
    rw [e4] at hy
    rcases List.mem_append.mp hy with hy | hy
    · exact h.up y hy r' er
    · rw [h1] at hy
      obtain ⟨z, hz, rfl⟩ := List.mem_map.mp hy
      obtain ⟨j', k', e5, e6, _⟩ := h2 z hz
      rw [e6] at er
      have := (h5 j' k' r' e5 er).1
      omega
  · -- the kids ahead of the one that leads on
    obtain ⟨ms, fs, e4, h1, h2, h3, h4⟩ := klB_sub w ((kidsOf ns x).take j) 0 (met, fur)
    rw [klB_split w _ j kk e1, e4]
    have hfs : ∀ z ∈ fs, ∀ r', bst nm ns z.2 = some r' → (w ++ r).length < k + 1 + r'.length := fun z hz r' er => by
      obtain ⟨j', k', e5, e6, _⟩ := h2 z hz
      rw [e6] at er
      rw [List.getElem?_take] at e5
      split at e5
      · rename_i hlt
        have := (h5 j' k' r' e5 er).2 hlt
        omega
      · cases e5
    have hnot : kk ∉ met ++ ms := fun m => by
      rcases List.mem_append.mp m with m | m
      · by_cases z : kk ∈ fur.map (·.2)
        · obtain ⟨f, hf, rfl⟩ := List.mem_map.mp z
          have := h.fu f hf r1 e2
          omega
        · have := h.lo kk m r1 e2 z
          omega
      · rw [h1] at m
        obtain ⟨f, hf, rfl⟩ := List.mem_map.mp m
        have := hfs f hf r1 e2
        omega
    have e7 : klB w [kk] j (met ++ ms, fur ++ fs) = (met ++ ms ++ [kk], fur ++ fs ++ [(w ++ [j], kk)]) := by
      unfold klB
      rw [if_neg hnot]
      rfl
    rw [e7]
    obtain ⟨ms', fs', e8, _⟩ := klB_sub w ((kidsOf ns x).drop (j + 1)) (j + 1) (met ++ ms ++ [kk], fur ++ fs ++ [(w ++ [j], kk)])
    rw [e8]
    refine ⟨fur ++ fs, w ++ [j], kk, r1, fs', by simp, e2, by rw [e3]; simp, fun f hf r' er => ?_⟩
    rcases List.mem_append.mp hf with hf | hf
    · exact h.fu f hf r' er
    · exact hfs f hf r' er
theorem aim_more (ok : NsOk size ns) {Wy w : List Nat} {x : Nat} (h : Aim nm ns Wy met fur (k + 1)) (hx : ∀ r, bst nm ns x = some r → Wy.length ≤ k + r.length) : Aim nm ns Wy (klB w (kidsOf ns x) 0 (met, fur)).1 (klB w (kidsOf ns x) 0 (met, fur)).2 (k + 1) := by
  obtain ⟨ms, fs, e, h1, h2, h3, h4⟩ := klB_sub w (kidsOf ns x) 0 (met, fur)
  rw [e]
  obtain ⟨lo, pre, w', x', r, post, e1, e2, e3, e4⟩ := h
  refine ⟨fun y hy r' er => ?_, pre, w', x', r, post ++ fs, by rw [e1]; simp, e2, e3, e4⟩
  rcases List.mem_append.mp hy with hy | hy
  · exact lo y hy r' er
  · rw [h1] at hy
    obtain ⟨z, hz, rfl⟩ := List.mem_map.mp hy
    obtain ⟨j', k', e5, e6, _⟩ := h2 z hz
    rw [e6] at er
    obtain ⟨r2, e7, e8⟩ := bst_kid ok (List.mem_of_getElem? e5) er
    have := hx r2 e7
    omega
/-! whole rows -/
theorem scan_pre (ok : NsOk size ns) {Wy : List Nat} (hk : k ≤ Wy.length) : ∀ (pre : List Ent2) (s : List Nat × List Ent2), Bef nm ns Wy s.1 s.2 k → (∀ e ∈ pre, ∀ r', bst nm ns e.2 = some r' → Wy.length < k + r'.length) →
    ∃ s', (∀ rest, scanB nm ns (pre ++ rest) s = scanB nm ns rest s') ∧ Bef nm ns Wy s'.1 s'.2 k ∧ ∀ x ∈ s.1, x ∈ s'.1
  | [], s, h, _ => ⟨s, fun rest => rfl, h, fun x hx => hx⟩
  | e :: pre, s, h, hp => by
    have hn : ¬ tgt nm ns e.2 = true := fun z => by
      have := hp e (List.mem_cons_self ..) [] (bst_tgt ok z)
      simp at this; omega
    obtain ⟨s', h1, h2, h3⟩ := scan_pre ok hk pre (klB e.1 (kidsOf ns e.2) 0 (s.1, s.2)) (bef_step ok h (hp e (List.mem_cons_self ..))) fun f hf => hp f (List.mem_cons_of_mem _ hf)
    refine ⟨s', fun rest => ?_, h2, fun x hx => h3 x ?_⟩
    · rw [List.cons_append]
      conv => lhs; unfold scanB
      rw [if_neg hn]
      exact h1 rest
    · obtain ⟨ms, fs, e4, _⟩ := klB_sub e.1 (kidsOf ns e.2) 0 (s.1, s.2)
      rw [e4]
      exact List.mem_append.mpr (.inl hx)
theorem scan_post (ok : NsOk size ns) {Wy : List Nat} (hk : k < Wy.length) : ∀ (post : List Ent2) (s : List Nat × List Ent2), Aim nm ns Wy s.1 s.2 (k + 1) → (∀ e ∈ post, ∀ r', bst nm ns e.2 = some r' → Wy.length ≤ k + r'.length) →
    ∃ s', scanB nm ns post s = .inr s' ∧ Aim nm ns Wy s'.1 s'.2 (k + 1)
  | [], s, h, _ => ⟨s, rfl, h⟩
  | e :: post, s, h, hp => by
    have hn : ¬ tgt nm ns e.2 = true := fun z => by
      have := hp e (List.mem_cons_self ..) [] (bst_tgt ok z)
      simp at this; omega
    obtain ⟨s', h1, h2⟩ := scan_post ok hk post (klB e.1 (kidsOf ns e.2) 0 (s.1, s.2)) (aim_more ok h (hp e (List.mem_cons_self ..))) fun f hf => hp f (List.mem_cons_of_mem _ hf)
    refine ⟨s', ?_, h2⟩
    unfold scanB
    rw [if_neg hn]
    exact h1
theorem scan_aim (ok : NsOk size ns) {Wy : List Nat} {row : List Ent2} (h : Aim nm ns Wy met row k) (hr : ∀ e ∈ row, e.2 ∈ met ∧ e.1.length = k) :
    (∃ x, scanB nm ns row (met, []) = .inl (Wy, x) ∧ (Wy, x) ∈ row ∧ tgt nm ns x = true) ∨ ∃ s', scanB nm ns row (met, []) = .inr s' ∧ Aim nm ns Wy s'.1 s'.2 (k + 1) := by
  obtain ⟨lo, pre, w, x, r, post, e1, e2, e3, e4⟩ := h
  subst e1 e3
  have hw := hr (w, x) (by simp)
  simp only at hw
  have hlen : (w ++ r).length = k + r.length := by rw [List.length_append, hw.2]
  obtain ⟨s', h1, h2, h3⟩ := scan_pre ok (by omega : k ≤ (w ++ r).length) pre (met, []) ⟨fun y hy r' er _ => lo y hy r' er, fun e he => by cases he⟩ e4
  rw [h1]
  cases ht : tgt nm ns x with
  | true =>
    rw [bst_tgt ok ht] at e2
    cases e2
    refine .inl ⟨x, ?_, by simp, ht⟩
    unfold scanB
    rw [if_pos ht, List.append_nil]
  | false =>
    right
    obtain ⟨j, kk, r1, e5, e6, e7, _⟩ := bst_go ok ht e2
    have ha := bef_good ok h2 hw.2 (h3 x hw.1) (by omega) e2 ht
    have hlt : k < (w ++ r).length := by rw [hlen, e7]; simp
    obtain ⟨s2, h4, h5⟩ := scan_post ok hlt post (klB w (kidsOf ns x) 0 (s'.1, s'.2)) ha fun e he r' er => lo e.2 (hr e (by simp [he])).1 r' er
    refine ⟨s2, ?_, h5⟩
    unfold scanB
    rw [if_neg (by rw [ht]; decide)]
    exact h4
theorem scan_inl : ∀ {row : List Ent2} {s : List Nat × List Ent2} {e : Ent2}, scanB nm ns row s = .inl e → e ∈ row ∧ tgt nm ns e.2 = true
  | [], s, e, h => by cases h
  | x :: row, s, e, h => by
    unfold scanB at h
    split at h
    · rename_i z
      cases h
      exact ⟨List.mem_cons_self .., z⟩
    · obtain ⟨h1, h2⟩ := scan_inl h
      exact ⟨List.mem_cons_of_mem _ h1, h2⟩
theorem scan_met : ∀ {row : List Ent2} {s s' : List Nat × List Ent2}, MetOk ns node s.1 s.2 (k + 1) → (∀ e ∈ row, e.2 ∈ s.1 ∧ e.1.length = k ∧ Way ns node e.1 e.2) → Clo ns s.1 (s.2.map (·.2) ++ row.map (·.2)) → scanB nm ns row s = .inr s' →
    MetOk ns node s'.1 s'.2 (k + 1) ∧ Clo ns s'.1 (s'.2.map (·.2)) ∧ s'.1.length + s.2.length = s.1.length + s'.2.length
  | [], s, s', h, _, hc, e => by
    cases e
    exact ⟨h, by simpa using hc, rfl⟩
  | x :: row, s, s', h, hr, hc, e => by
    unfold scanB at e
    split at e
    · cases e
    · have hx := hr x (List.mem_cons_self ..)
      obtain ⟨ms, fs, e4, e5, e6, _⟩ := klB_sub x.1 (kidsOf ns x.2) 0 (s.1, s.2)
      have hm := klB_ok (w := x.1) h hx.1 hx.2.1 hx.2.2
      have hcl := klB_clo (w := x.1) (x := x.2) (rest := row) (met := s.1) (fur := s.2) (by simpa using hc)
      obtain ⟨h1, h2, h3⟩ := scan_met (s := klB x.1 (kidsOf ns x.2) 0 (s.1, s.2)) hm (fun f hf => ⟨by
        rw [e4]
        exact List.mem_append.mpr (.inl (hr f (List.mem_cons_of_mem _ hf)).1), (hr f (List.mem_cons_of_mem _ hf)).2⟩) hcl e
      refine ⟨h1, h2, ?_⟩
      rw [e4, e5] at h3
      simp only [List.length_append, List.length_map] at h3
      omega
theorem clo_reach {met : List Nat} (hn : node ∈ met) (hr : ∀ x ∈ met, Reach ns node x) (hc : ∀ x ∈ met, ∀ k ∈ kidsOf ns x, k ∈ met) (x : Nat) : x ∈ met ↔ Reach ns node x := by
  refine ⟨hr x, fun h => ?_⟩
  induction h with
  | refl => exact hn
  | step _ hk ih => exact hc _ ih _ hk
theorem nodup_lt {l : List Nat} {n : Nat} (nd : l.Nodup) (h : ∀ x ∈ l, x < n) : l.length ≤ n := by
  have := nd_len (l := l) (m := List.range n) nd fun x hx => List.mem_range.mpr (h x hx)
  simpa using this
theorem reach_lt (ok : NsOk size ns) (hn : node < ns.length) {x : Nat} (h : Reach ns node x) : x < ns.length := by
  cases h with
  | refl => exact hn
  | step _ hk => have := kids_lt ok hk; omega
/-- two rows of the same numbers, sorted -/
theorem same_sorted {l m : List Nat} (n1 : l.Nodup) (n2 : m.Nodup) (h : ∀ x, x ∈ l ↔ x ∈ m) {es fs : List PyData} (h1 : es.Perm (l.map fun (k : Nat) => PyData.int (k : Int))) (a1 : Asc es) (h2 : fs.Perm (m.map fun (k : Nat) => PyData.int (k : Int))) (a2 : Asc fs) : es = fs ∧ ∃ js : List Int, es = js.map .int := by
  have p : l.Perm m := (List.perm_ext_iff_of_nodup n1 n2).mpr h
  have c : ∀ q : List Nat, q.map (fun (k : Nat) => PyData.int (k : Int)) = (q.map fun (k : Nat) => (k : Int)).map PyData.int := fun q => by rw [List.map_map]; rfl
  rw [c] at h1 h2
  obtain ⟨js, rfl, hj⟩ := perm_ints h1
  obtain ⟨ks, rfl, hk⟩ := perm_ints h2
  have hjk : js.Perm ks := hj.trans ((p.map _).trans hk.symm)
  exact ⟨by rw [asc_eq (asc_ints a1) (asc_ints a2) hjk], js, rfl⟩
end
end AN

/-! AN: groves in the value layer. -/
namespace AN
open PySem PySem.Spec PyProof.Rows L2
section
variable (P : Program) (w : World) (K : PySem.W.Frag) (C : Addr)
def gvF (size : Nat) (nl kn : Addr) : List (Str × W) := putW "known" (rf kn) (putW "nodes" (rf nl) (putW "size" (.int (size : Int)) []))
theorem lookup_putW (f g : Str) (v : W) : ∀ fs : List (Str × W), (putW f v fs).lookup g = if g = f then some v else fs.lookup g
  | [] => by
    unfold putW
    by_cases h : g = f
    · subst h; simp [List.lookup]
    · have : (g == f) = false := by simpa using h
      simp [List.lookup, this, h]
  | (k, x) :: r => by
    unfold putW
    by_cases h : k = f
    · subst h
      rw [if_pos rfl]
      by_cases e : g = k
      · subst e; simp [List.lookup]
      · have : (g == k) = false := by simpa using e
        simp [List.lookup, this, e]
    · rw [if_neg h]
      by_cases e : g = k
      · subst e
        have : ¬ g = f := h
        simp [List.lookup, this]
      · have : (g == k) = false := by simpa using e
        simp only [List.lookup, this]
        exact lookup_putW f g v r
theorem putW_len (f : Str) (v : W) : ∀ fs : List (Str × W), (putW f v fs).length ≤ fs.length + 1
  | [] => Nat.le_refl _
  | (g, x) :: r => by
    unfold putW
    split
    · simp
    · have := putW_len f v r
      simp only [List.length_cons]
      omega
theorem gvF_size (size : Nat) (nl kn : Addr) : (gvF size nl kn).lookup ("size" : Str) = some (.int (size : Int)) := by
  unfold gvF
  rw [lookup_putW, if_neg (by decide +kernel), lookup_putW, if_neg (by decide +kernel), lookup_putW, if_pos rfl]
theorem gvF_nodes (size : Nat) (nl kn : Addr) : (gvF size nl kn).lookup ("nodes" : Str) = some (rf nl) := by
  unfold gvF
  rw [lookup_putW, if_neg (by decide +kernel), lookup_putW, if_pos rfl]
theorem gvF_known (size : Nat) (nl kn : Addr) : (gvF size nl kn).lookup ("known" : Str) = some (rf kn) := by
  unfold gvF
  rw [lookup_putW, if_pos rfl]
theorem gvF_no (size : Nat) (nl kn : Addr) {m : Str} (h1 : ¬ m = "size") (h2 : ¬ m = "nodes") (h3 : ¬ m = "known") : (gvF size nl kn).lookup m = none := by
  unfold gvF
  rw [lookup_putW, if_neg h3, lookup_putW, if_neg h2, lookup_putW, if_neg h1]
  rfl
def gvRows (g nl kn : Addr) (size : Nat) (ns : List Nd) : Mem := [insR C g (gvF size nl kn), lstR nl (ns.map Nd.toD), dnR P w K natD kn (knownOf ns)]
def gvR (g nl kn : Addr) (size : Nat) (ns : List Nd) : Res := grp (gvRows P w K C g nl kn size ns)
def cGInit : Con' := fun ws M R => ∃ (g : Addr) (size : Nat), ws = [rf g, .int (size : Int)] ∧ M = [insR C g []] ∧ size ≤ 100 ∧ ∀ nl kn, R .none [gvR P w K C g nl kn size ((List.range size).map Nd.val)]
def cGAsk : Con' := fun ws M R => ∃ (g nl kn : Addr) (size : Nat) (ns : List Nd) (p : Str) (a : Nat) (ks : List Nat), ws = [rf g, .str p, .int (a : Int), .tuple (ks.map natD)] ∧ M = [gvR P w K C g nl kn size ns] ∧ ns.length < 15000 ∧
  (∀ i : Nat, ns[i]? = some (Nd.ask p a ks) → R (.int (i : Int)) [gvR P w K C g nl kn size ns]) ∧
  (aget (knownOf ns) (.tup (askK p a ks)) = none → R (.int (ns.length : Int)) [gvR P w K C g nl kn size (ns ++ [Nd.ask p a ks])])
def cGNode : Con' := fun ws M R => ∃ (g nl kn : Addr) (size : Nat) (ns : List Nd) (i : Nat) (nd : Nd), ws = [rf g, .int (i : Int)] ∧ M = [gvR P w K C g nl kn size ns] ∧ ns[i]? = some nd ∧ R nd.toD [gvR P w K C g nl kn size ns]
def Nd.kids : Nd → List Nat
  | .val _ => []
  | .ask _ _ ks => ks
def cGKids : Con' := fun ws M R => ∃ (g nl kn : Addr) (size : Nat) (ns : List Nd) (i : Nat) (nd : Nd), ws = [rf g, .int (i : Int)] ∧ M = [gvR P w K C g nl kn size ns] ∧ ns[i]? = some nd ∧ R (.tuple (nd.kids.map natD)) [gvR P w K C g nl kn size ns]
end
section
variable {P : Program} {w : World} {K : PySem.W.Frag} {C : Addr} {B : Bs} {M : Mem} {R : W → Mem → Prop} {i j size : Nat} {g nl kn : Addr} {ns : List Nd} {env : Ev} {ts : TA} {CC : Con'} {m : Str}
/-- dicts keyed by nested tuples -/
theorem inw_dn {α : Type} {toD : α → PyData} {a : Addr} {rr : List (NestedKey × α)} {ks : List NestedKey} {x : W} (hm : M[i]? = some (dnR P w K toD a rr)) (hk : x = nkD (.tup ks)) (hn : nn x = true) (hd : (NestedKey.tup ks).depth ≤ 8) (q : R (.bool (aget rr (.tup ks)).isSome) M) : LR2 B (rInN P w K) x (rf a) M R := fun vx vy H Q s r1 r2 ko => by
  subst hk
  rw [wr_rf_iff.mp r2]
  exact nw_in (s.at hm) (WR.rep r1 hn) hd (ko _ _ _ M s (Up.refl _) wr_bl q)
theorem ixw_dn {α : Type} {toD : α → PyData} {a : Addr} {rr : List (NestedKey × α)} {ks : List NestedKey} {x : W} {c : α} (hm : M[i]? = some (dnR P w K toD a rr)) (hk : x = nkD (.tup ks)) (hn : nn x = true) (hd : (NestedKey.tup ks).depth ≤ 8) (e : aget rr (.tup ks) = some c) (q : R (toD c) M) : LR2 B (rIxN P w K) (rf a) x M R := fun vx vy H Q s r1 r2 ko => by
  subst hk
  rw [wr_rf_iff.mp r1]
  exact nw_ix (s.at hm) (WR.rep r2 hn) hd e fun v hv => ko _ _ _ M s (Up.refl _) hv.wr q
theorem setw_dn {α : Type} {toD : α → PyData} {a : Addr} {rr : List (NestedKey × α)} {ks : List NestedKey} {x y : W} {c : α} {PM : Mem → Prop} (hm : M[i]? = some (dnR P w K toD a rr)) (hk : x = nkD (.tup ks)) (hn : nn x = true) (hd : (NestedKey.tup ks).depth ≤ 8) (hy : y = toD c) (hny : nn y = true) (he : aget rr (.tup ks) = none) (hl : rr.length ≤ 100000) (q : PM (M.set i (dnR P w K toD a (rr ++ [(.tup ks, c)])))) : LSet B (rSetN P w K) (rf a) x y M PM := fun vo vi vx H q0 s ro ri rx ko => by
  subst hk hy
  rw [wr_rf_iff.mp ro]
  exact nw_set (s.at hm) (WR.rep ri hn) hd (WR.rep rx hny) he hl fun H' f h' => ko _ _ (s.set (r' := dnR P w K toD a (rr ++ [((.tup ks, c) : NestedKey × α)])) hm f h' fun x hx => .inl hx) f.toUp q
theorem gv_at {H : Hp} (s : Sm B M H) (hm : M[i]? = some (gvR P w K C g nl kn size ns)) : ∃ dx gs, H g = some (.ins C dx gs) ∧ Paired (fun (p : Str × W) (q : Str × V) => q.1 = p.1 ∧ WR H p.2 q.2) (gvF size nl kn) gs := by
  have h := s.at hm
  exact (show MemOk H _ from h).ok (insR C g (gvF size nl kn)) (List.mem_cons_self ..)
theorem methG (hm : M[i]? = some (gvR P w K C g nl kn size ns)) (hl : (gvF size nl kn).lookup m = none) (q : LA B ts env M fun ws M2 => LCall CC (rf g :: ws) M2 R) : LMeth B C m CC ts env (rf g) M R := by
  refine ⟨fun vx H s r => ?_, q⟩
  rw [wr_rf_iff.mp r]
  obtain ⟨dx, gs, ea, rs⟩ := gv_at s hm
  rcases pl_get rs (f := m) with ⟨_, e1⟩ | ⟨w', v, e1, e2, hv⟩
  · exact ⟨g, dx, gs, rfl, ea, e1⟩
  · rw [hl] at e1; cases e1
theorem fldG {f : Str} {x : W} (hm : M[i]? = some (gvR P w K C g nl kn size ns)) (cl : Cls K C) (no : NoAttr K C f) (e : (gvF size nl kn).lookup f = some x) (q : R x M) : LFld B K f (rf g) M R := fun vx H Q s r1 ko => by
  rw [wr_rf_iff.mp r1]
  obtain ⟨dx, gs, ea, rs⟩ := gv_at s hm
  rcases pl_get rs (f := f) with ⟨e1, _⟩ | ⟨w', v, e1, e2, hv⟩
  · rw [e] at e1; cases e1
  · rw [e] at e1
    cases e1
    exact ⟨g, C, dx, gs, v, rfl, ea, cl, no, e2, ko _ _ _ M s (Up.refl _) hv q⟩
/-- one thing handed on that stays -/
theorem gnodec (hm : M[i]? = some (gvR P w K C g nl kn size ns)) {k : Nat} {z : Int} {nd : Nd} (hz : z = (k : Nat)) (e : ns[k]? = some nd) (q : R nd.toD M) : LCall (cGNode P w K C) [rf g, .int z] M R := by
  subst hz
  exact call1 i hm ⟨g, nl, kn, size, ns, k, nd, rfl, rfl, e, by dsimp only; rw [puts_same hm]; exact q⟩
theorem gkidsc (hm : M[i]? = some (gvR P w K C g nl kn size ns)) {k : Nat} {z : Int} {nd : Nd} (hz : z = (k : Nat)) (e : ns[k]? = some nd) (q : R (.tuple (nd.kids.map natD)) M) : LCall (cGKids P w K C) [rf g, .int z] M R := by
  subst hz
  exact call1 i hm ⟨g, nl, kn, size, ns, k, nd, rfl, rfl, e, by dsimp only; rw [puts_same hm]; exact q⟩
theorem gaskc (hm : M[i]? = some (gvR P w K C g nl kn size ns)) {p : Str} {a : Nat} {ks : List Nat} (hl : ns.length < 15000) (q1 : ∀ k : Nat, ns[k]? = some (Nd.ask p a ks) → R (.int (k : Int)) M)
    (q2 : aget (knownOf ns) (.tup (askK p a ks)) = none → R (.int (ns.length : Int)) (M.set i (gvR P w K C g nl kn size (ns ++ [Nd.ask p a ks])))) : LCall (cGAsk P w K C) [rf g, .str p, .int (a : Int), .tuple (ks.map natD)] M R :=
  call1 i hm ⟨g, nl, kn, size, ns, p, a, ks, rfl, rfl, hl, fun k e => by dsimp only; rw [puts_same hm]; exact q1 k e, fun e => by dsimp only; rw [puts_one]; exact q2 e⟩
end
end AN

/-! AN: the woods of k27 in the value layer. -/
namespace AN
open PySem PySem.Spec PyProof.Rows L2
/-! rows of a dict told by others -/
section
variable {κ κ' α β : Type} [DecidableEq κ] [DecidableEq κ'] {f : κ → κ'} {g : α → β}
def mkv (f : κ → κ') (g : α → β) (r : List (κ × α)) : List (κ' × β) := r.map fun e => (f e.1, g e.2)
theorem aget_mkv (inj : ∀ a b, f a = f b → a = b) (k : κ) : ∀ r : List (κ × α), aget (mkv f g r) (f k) = (aget r k).map g
  | [] => rfl
  | p :: r => by
    have := aget_mkv inj k r
    unfold mkv at this ⊢
    rw [List.map_cons, aget_cons, aget_cons, this]
    by_cases h : p.1 = k
    · rw [if_pos h, if_pos (by rw [h])]; rfl
    · rw [if_neg h, if_neg fun z => h (inj _ _ z)]
theorem aput_mkv (inj : ∀ a b, f a = f b → a = b) (k : κ) (y : α) (r : List (κ × α)) : aput (mkv f g r) (f k) (g y) = mkv f g (aput r k y) := by
  unfold aput
  rw [any_aget, any_aget, aget_mkv inj]
  have e : ((aget r k).map g).isSome = (aget r k).isSome := by cases aget r k <;> rfl
  rw [e]
  split
  · unfold mkv
    rw [List.map_map, List.map_map]
    refine List.map_congr_left fun p _ => ?_
    simp only [Function.comp]
    by_cases h : p.1 = k
    · rw [if_pos h, if_pos (by rw [h])]
    · rw [if_neg h, if_neg fun z => h (inj _ _ z)]
  · unfold mkv
    rw [List.map_append]; rfl
end
theorem aget_isSome_none {κ α : Type} [DecidableEq κ] {r : List (κ × α)} {k : κ} : (aget r k).isSome = false ↔ aget r k = none := by cases aget r k <;> simp
/-- what the wood's ways are told by: any numbers -/
def idxOf {α : Type} (ys : List α) : List (Nat × α) := ys.zipIdx.map fun x => (x.2, x.1)
theorem idx_get {α : Type} (ys : List α) (i : Nat) : aget (idxOf ys) i = ys[i]? := by
  have nd : ((idxOf ys).map (·.1)).Nodup := by
    unfold idxOf
    rw [List.map_map]
    show (ys.zipIdx.map Prod.snd).Nodup
    rw [List.zipIdx_map_snd, ← List.range_eq_range']
    exact List.nodup_range
  cases h : ys[i]? with
  | some y =>
    refine aget_of_mem nd ?_
    unfold idxOf
    exact List.mem_map.mpr ⟨(y, i), List.mem_zipIdx_iff_getElem?.mpr h, rfl⟩
  | none =>
    cases h2 : aget (idxOf ys) i with
    | none => rfl
    | some c =>
      have m := aget_some h2
      unfold idxOf at m
      obtain ⟨x, hx, e⟩ := List.mem_map.mp m
      cases e
      have := List.mem_zipIdx_iff_getElem?.mp hx
      rw [h] at this
      cases this
theorem idx_len {α : Type} (ys : List α) : (idxOf ys).length = ys.length := by unfold idxOf; rw [List.length_map, List.length_zipIdx]
theorem idx_put {α : Type} (ys : List α) (i : Nat) (y : α) (h : i ≤ ys.length) : aput (idxOf ys) i y = idxOf (if i < ys.length then ys.set i y else ys ++ [y]) := by
  unfold aput
  rw [any_aget, idx_get]
  by_cases hi : i < ys.length
  · rw [List.getElem?_eq_getElem hi, if_pos hi]
    simp only [Option.isSome_some, if_true]
    unfold idxOf
    rw [List.map_map]
    apply List.ext_getElem?
    intro j
    rw [List.getElem?_map, List.getElem?_map, List.getElem?_zipIdx, List.getElem?_zipIdx, List.getElem?_set]
    by_cases z : i = j
    · subst z
      simp [hi]
    · rw [if_neg z]
      cases ys[j]? with
      | none => rfl
      | some v =>
        simp
        intro q; omega
  · have e : i = ys.length := by omega
    subst e
    rw [if_neg hi, List.getElem?_eq_none (Nat.le_refl _)]
    simp only [Option.isSome_none]
    unfold idxOf
    rw [List.zipIdx_append, List.map_append]
    simp
theorem own_idx (ns : List Nd) : ownOf ns = idxOf ns := rfl
structure Wd where
  wd : Addr
  g : Addr
  nl : Addr
  kn : Addr
  ow : Addr
  nu : Addr
  op : Addr
  wy : Addr
  far : Str
  size : Nat
  ops : List Op3
def wdF (A : Wd) : List W := [rf A.g, rf A.ow, rf A.nu, rf A.op, .str A.far, .int (A.size : Int), rf A.wy]
def wyR (A : Wd) (ys : List Int) : Res := dkR A.wy (mkv nk PyData.int (idxOf ys))
/-- a row of a wood's numbers -/
def numsD (n : Nat) : List W := (List.range n).map natD
def wdRows (P : Program) (w : World) (K : PySem.W.Frag) (C : Addr) (A : Wd) (ns : List Nd) (ys : List Int) : Mem :=
  [lstR A.wd (wdF A), gvR P w K C A.g A.nl A.kn A.size ns, dkR A.ow (mkv nk Nd.toD (idxOf ns)), lstR A.nu (numsD ns.length), lstR A.op (A.ops.map op3D), wyR A ys]
def wdR (P : Program) (w : World) (K : PySem.W.Frag) (C : Addr) (A : Wd) (ns : List Nd) (ys : List Int) : Res := grp (wdRows P w K C A ns ys)
structure WdOk (A : Wd) (ns : List Nd) (ys : List Int) : Prop where
  ok : NsOk A.size ns
  oo : OpsOk A.size A.ops
  far : PyData.strOk A.far = true
  ly : ys.length = ns.length
theorem numsD_at {n k : Nat} (h : k < n) : (numsD n)[k]? = some (.int (k : Int)) := by
  unfold numsD
  rw [List.getElem?_map, List.getElem?_range h]; rfl
theorem numsD_len (n : Nat) : (numsD n).length = n := by unfold numsD; simp
theorem numsD_of {n k : Nat} {d : W} (h : (numsD n)[k]? = some d) : k < n ∧ d = .int (k : Int) := by
  have hk : k < n := by rw [← numsD_len n]; exact (List.getElem?_eq_some_iff.mp h).1
  rw [numsD_at hk] at h
  exact ⟨hk, (Option.some.inj h).symm⟩
theorem numsD_succ (n : Nat) : numsD (n + 1) = numsD n ++ [.int (n : Int)] := by
  unfold numsD
  rw [List.range_succ, List.map_append]; rfl
theorem op3_at {ops : List Op3} {k : Nat} {d : W} (h : (ops.map op3D)[k]? = some d) : ∃ o, ops[k]? = some o ∧ d = op3D o := by
  rw [List.getElem?_map] at h
  obtain ⟨o, e1, e2⟩ := Option.map_eq_some_iff.mp h
  exact ⟨o, e1, e2.symm⟩
section
variable (P : Program) (w : World) (K : PySem.W.Frag) (C : Addr)
def cKid : Con' := fun ws M R => ∃ (a c : Addr) (A : Wd) (ns : List Nd) (ys : List Int), ws = [rf a, rf A.wd] ∧ M = [wdR P w K C A ns ys, drawR a c] ∧ WdOk A ns ys ∧ ns.length ≤ 900 ∧ ∀ k : Nat, k < ns.length → R (.int (k : Int)) [wdR P w K C A ns ys, drawR a c]
def cWays : Con' := fun ws M R => ∃ (A : Wd) (ys : List Int) (L : Addr) (ks : List Nat) (b : Bool), ws = [rf A.wd, if b then .tuple (ks.map natD) else rf L] ∧ M = [lstR A.wd (wdF A), wyR A ys] ++ (if b then [] else [lstR L (ks.map natD)]) ∧ (∀ k ∈ ks, k < ys.length) ∧ ks.length ≤ 50 ∧ ∀ z : Int, R (.int z) ([lstR A.wd (wdF A), wyR A ys] ++ (if b then [] else [lstR L (ks.map natD)]))
def cAdd : Con' := fun ws M R => ∃ (A : Wd) (ns : List Nd) (ys : List Int) (p : Str) (x : Nat) (ks : List Nat), ws = [rf A.wd, .str p, .int (x : Int), .tuple (ks.map natD)] ∧ M = [wdR P w K C A ns ys] ∧ WdOk A ns ys ∧ PyData.strOk p = true ∧ (∀ k ∈ ks, k < ns.length) ∧ ks.length ≤ 4 ∧ ns.length ≤ 900 ∧
  ∀ ns' ys' (i : Nat), WdOk A ns' ys' → ns <+: ns' → ns'.length ≤ ns.length + 1 → i < ns'.length → ns'[i]? = some (.ask p x ks) → R (.int (i : Int)) [wdR P w K C A ns' ys']
def cGrow : Con' := fun ws M R => ∃ (a c : Addr) (A : Wd) (ns : List Nd) (ys : List Int) (many : Nat), ws = [rf a, rf A.wd, .int (many : Int)] ∧ M = [wdR P w K C A ns ys, drawR a c] ∧ WdOk A ns ys ∧ ns.length + many ≤ 900 ∧
  ∀ ns' ys', WdOk A ns' ys' → ns <+: ns' → ns'.length ≤ ns.length + many → R .none [wdR P w K C A ns' ys', drawR a c]
def cChain : Con' := fun ws M R => ∃ (a c : Addr) (A : Wd) (ns : List Nd) (ys : List Int) (many : Nat), ws = [rf a, rf A.wd, .int (many : Int)] ∧ M = [wdR P w K C A ns ys, drawR a c] ∧ WdOk A ns ys ∧ ns.length + many + 1 ≤ 900 ∧
  ∀ ns' ys' (i : Nat), WdOk A ns' ys' → ns <+: ns' → ns'.length ≤ ns.length + many + 1 → i < ns'.length → R (.int (i : Int)) [wdR P w K C A ns' ys', drawR a c]
def cWood : Con' := fun ws M R => ∃ (a c : Addr) (many : Nat), ws = [rf a, .int (many : Int)] ∧ M = [drawR a c] ∧ many ≤ 800 ∧ ∀ A ns ys, WdOk A ns ys → ns.length ≤ many + 4 → R (rf A.wd) [wdR P w K C A ns ys, drawR a c]
/-- names that are asked for -/
def NmOk (nm : List Str) : Prop := nm.length ≤ 20 ∧ ∀ n ∈ nm, PyData.strOk n = true
def namesD (nm : List Str) : W := .tuple (nm.map .str)
def cSome : Con' := fun ws M R => ∃ (a c : Addr) (A : Wd) (ns : List Nd) (ys : List Int), ws = [rf a, rf A.wd] ∧ M = [wdR P w K C A ns ys, drawR a c] ∧ WdOk A ns ys ∧ ∀ nm, NmOk nm → R (namesD nm) [wdR P w K C A ns ys, drawR a c]
def optD : Option (List Nat) → W
  | none => .none
  | some w => .tuple (w.map natD)
def cTable : Con' := fun ws M R => ∃ (A : Wd) (ns : List Nd) (ys : List Int) (nm : List Str), ws = [rf A.wd, namesD nm] ∧ M = [wdR P w K C A ns ys] ∧ WdOk A ns ys ∧ ns.length ≤ 900 ∧ NmOk nm ∧ ∀ L, R (rf L) [wdR P w K C A ns ys, dkR L (mkv nk optD (idxOf (tabB nm ns)))]
def cBelow : Con' := fun ws M R => ∃ (ow : Addr) (ns : List Nd) (size node : Nat), ws = [rf ow, .int (node : Int)] ∧ M = [dkR ow (mkv nk Nd.toD (idxOf ns))] ∧ NsOk size ns ∧ node < ns.length ∧ ns.length ≤ 900 ∧
  ∀ (met : List Nat) es, met.Nodup → (∀ x, x ∈ met ↔ Reach ns node x) → es.Perm (met.map natD) → Asc es → R (.tuple es) [dkR ow (mkv nk Nd.toD (idxOf ns))]
def cLeast : Con' := fun ws M R => ∃ (g nl kn : Addr) (size : Nat) (ns : List Nd) (node : Nat) (nm : List Str), ws = [rf g, .int (node : Int), namesD nm] ∧ M = [gvR P w K C g nl kn size ns] ∧ NsOk size ns ∧ node < ns.length ∧ ns.length ≤ 900 ∧ NmOk nm ∧
  (∀ (wy : List Nat) (x : Nat), bst nm ns node = some wy → Way ns node wy x → tgt nm ns x = true → R (.tuple [.tuple (wy.map natD), .int (x : Int)]) [gvR P w K C g nl kn size ns]) ∧
  (∀ (met : List Nat) es, bst nm ns node = none → met.Nodup → (∀ x, x ∈ met ↔ Reach ns node x) → es.Perm (met.map natD) → Asc es → R (.tuple [.str "closed", .tuple es]) [gvR P w K C g nl kn size ns])
def cTrace : Con' := fun ws M R => ∃ (g nl kn : Addr) (size : Nat) (ns : List Nd) (i : Nat) (wl : List Int), ws = [rf g, .int (i : Int), .tuple (wl.map .int)] ∧ M = [gvR P w K C g nl kn size ns] ∧ NsOk size ns ∧ i < ns.length ∧ wl.length ≤ 900 ∧ R (tellD (down ns wl i)) [gvR P w K C g nl kn size ns]
def cIsLeast : Con' := fun ws M R => ∃ (A : Wd) (ns : List Nd) (ys : List Int) (node : Nat) (nm : List Str), ws = [rf A.wd, .int (node : Int), namesD nm] ∧ M = [wdR P w K C A ns ys] ∧ WdOk A ns ys ∧ node < ns.length ∧ ns.length ≤ 900 ∧ NmOk nm ∧ R (.bool true) [wdR P w K C A ns ys]
end
/-! what is met; the entries of a row -/
def metD (met : List Nat) : List (L2.Key × W) := met.map fun x => (nk x, PyData.bool true)
theorem metD_get (met : List Nat) (x : Nat) : (aget (metD met) (nk x)).isSome = decide (x ∈ met) := by
  rw [Bool.eq_iff_iff, aget_isSome, decide_eq_true_eq]
  unfold metD
  rw [List.map_map]
  constructor
  · intro h
    obtain ⟨y, hy, e⟩ := List.mem_map.mp h
    rw [← nk_inj _ _ e]; exact hy
  · exact fun h => List.mem_map.mpr ⟨x, h, rfl⟩
theorem metD_get' (met : List Nat) (x : Nat) : (aget (metD met) (Sum.inl (x : Int))).isSome = decide (x ∈ met) := metD_get met x
theorem metD_put {met : List Nat} {x : Nat} (h : x ∉ met) : aput (metD met) (nk x) (.bool true) = metD (met ++ [x]) := by
  have : aget (metD met) (nk x) = none := by
    have := metD_get met x
    rw [decide_eq_false h] at this
    exact aget_isSome_none.mp this
  rw [aput_new this]
  unfold metD
  rw [List.map_append]; rfl
theorem metD_keys (met : List Nat) : ((metD met).map fun p => kD p.1) = (met.map fun (k : Nat) => (k : Int)).map PyData.int := by
  unfold metD
  rw [List.map_map, List.map_map]; rfl
theorem metD_len (met : List Nat) : (metD met).length = met.length := by unfold metD; rw [List.length_map]
def entD (e : Ent2) : W := .tuple [.tuple (e.1.map natD), .int (e.2 : Int)]
theorem okd_str {x : Str} (h : PyData.strOk x = true) : Okd (.str x) := ⟨by simpa [pl] using h, by simp [PyData.depth]⟩
theorem okds_strs {nm : List Str} (h : ∀ n ∈ nm, PyData.strOk n = true) : Okds (nm.map .str) := by
  refine ⟨pls_all.mpr fun d hd => ?_, depthAll_le.mpr fun d hd => ?_⟩
  · obtain ⟨n, hn, rfl⟩ := List.mem_map.mp hd
    simpa [pl] using h n hn
  · obtain ⟨n, hn, rfl⟩ := List.mem_map.mp hd
    simp [PyData.depth]
theorem in_strs {nm : List Str} {x : Str} (h : ∀ n ∈ nm, PyData.strOk n = true) (hx : PyData.strOk x = true) : ((nm.map PyData.str).any fun z => PyData.eqv z (.str x)) = decide (x ∈ nm) := by
  rw [Bool.eq_iff_iff, any_pl (okds_strs h).1 (okd_str hx).1, decide_eq_true_eq, List.mem_map]
  constructor
  · rintro ⟨y, hy, e⟩; cases e; exact hy
  · exact fun h => ⟨x, h, rfl⟩
end AN

namespace K27
open PySem PySem.Spec PyProof.Rows L2 AN
def topS (i : Nat) : Stmt := PySem.Challenge.pw_asknest_k27_least_world.main.body.getD i (.Pass ⟨0, 0, 0, 0⟩)
abbrev s_trace : Stmt := topS 6
abbrev N_trace : List Str := ["grove", "node", "world", "steps", "at", "used", "told", "children", "answer"]
theorem sc_trace : FnScope N_trace ["grove", "node", "world"] (defScope s_trace) := ⟨rfl, rfl, rfl, by decide +kernel, rfl, by decide +kernel, by decide +kernel⟩
abbrev s_least_world : Stmt := topS 7
abbrev N_least_world : List Str := ["grove", "node", "names", "met", "row", "further", "world", "at", "told", "children", "answer", "child"]
theorem sc_least_world : FnScope N_least_world ["grove", "node", "names"] (defScope s_least_world) := ⟨rfl, rfl, rfl, by decide +kernel, rfl, by decide +kernel, by decide +kernel⟩
abbrev s_Grove___init__ : Stmt := inClass (topS 9) 0
abbrev N_Grove___init__ : List Str := ["self", "size", "value"]
theorem sc_Grove___init__ : FnScope N_Grove___init__ ["self", "size"] (defScope s_Grove___init__) := ⟨rfl, rfl, rfl, by decide +kernel, rfl, by decide +kernel, by decide +kernel⟩
abbrev s_Grove_ask : Stmt := inClass (topS 9) 3
abbrev N_Grove_ask : List Str := ["self", "p", "argument", "children", "key"]
theorem sc_Grove_ask : FnScope N_Grove_ask ["self", "p", "argument", "children"] (defScope s_Grove_ask) := ⟨rfl, rfl, rfl, by decide +kernel, rfl, by decide +kernel, by decide +kernel⟩
abbrev s_Grove_node : Stmt := inClass (topS 9) 4
abbrev N_Grove_node : List Str := ["self", "number"]
theorem sc_Grove_node : FnScope N_Grove_node ["self", "number"] (defScope s_Grove_node) := ⟨rfl, rfl, rfl, by decide +kernel, rfl, by decide +kernel, by decide +kernel⟩
abbrev s_Grove_children : Stmt := inClass (topS 9) 5
abbrev N_Grove_children : List Str := ["self", "number", "node"]
theorem sc_Grove_children : FnScope N_Grove_children ["self", "number"] (defScope s_Grove_children) := ⟨rfl, rfl, rfl, by decide +kernel, rfl, by decide +kernel, by decide +kernel⟩
abbrev s_law_begin : Stmt := topS 11
abbrev N_law_begin : List Str := ["script", "cell"]
theorem sc_law_begin : FnScope N_law_begin ["script"] (defScope s_law_begin) := ⟨rfl, rfl, rfl, by decide +kernel, rfl, by decide +kernel, by decide +kernel⟩
abbrev s_law_draw : Stmt := topS 12
abbrev N_law_draw : List Str := ["d", "many", "found", "size", "cell"]
theorem sc_law_draw : FnScope N_law_draw ["d", "many"] (defScope s_law_draw) := ⟨rfl, rfl, rfl, by decide +kernel, rfl, by decide +kernel, by decide +kernel⟩
abbrev s_law_pick : Stmt := topS 13
abbrev N_law_pick : List Str := ["d", "row"]
theorem sc_law_pick : FnScope N_law_pick ["d", "row"] (defScope s_law_pick) := ⟨rfl, rfl, rfl, by decide +kernel, rfl, by decide +kernel, by decide +kernel⟩
abbrev s_law_pop : Stmt := topS 14
abbrev N_law_pop : List Str := ["d", "row"]
theorem sc_law_pop : FnScope N_law_pop ["d", "row"] (defScope s_law_pop) := ⟨rfl, rfl, rfl, by decide +kernel, rfl, by decide +kernel, by decide +kernel⟩
abbrev s_law_shuffled : Stmt := topS 15
abbrev N_law_shuffled : List Str := ["d", "row", "left", "found", "k"]
theorem sc_law_shuffled : FnScope N_law_shuffled ["d", "row"] (defScope s_law_shuffled) := ⟨rfl, rfl, rfl, by decide +kernel, rfl, by decide +kernel, by decide +kernel⟩
abbrev s_law_pool : Stmt := topS 16
abbrev N_law_pool : List Str := ["text"]
theorem sc_law_pool : FnScope N_law_pool [] (defScope s_law_pool) := ⟨rfl, rfl, rfl, by decide +kernel, rfl, by decide +kernel, by decide +kernel⟩
abbrev s_law_is_int : Stmt := topS 17
abbrev N_law_is_int : List Str := ["thing"]
theorem sc_law_is_int : FnScope N_law_is_int ["thing"] (defScope s_law_is_int) := ⟨rfl, rfl, rfl, by decide +kernel, rfl, by decide +kernel, by decide +kernel⟩
abbrev s_law_is_ints : Stmt := topS 18
abbrev N_law_is_ints : List Str := ["row", "part"]
theorem sc_law_is_ints : FnScope N_law_is_ints ["row"] (defScope s_law_is_ints) := ⟨rfl, rfl, rfl, by decide +kernel, rfl, by decide +kernel, by decide +kernel⟩
abbrev s_law_operations : Stmt := topS 19
abbrev N_law_operations : List Str := ["d", "size", "many", "names", "found", "k"]
theorem sc_law_operations : FnScope N_law_operations ["d", "size", "many", "names"] (defScope s_law_operations) := ⟨rfl, rfl, rfl, by decide +kernel, rfl, by decide +kernel, by decide +kernel⟩
abbrev s_law_wood : Stmt := topS 20
abbrev N_law_wood : List Str := ["d", "many", "size", "names", "ops", "wood", "v"]
theorem sc_law_wood : FnScope N_law_wood ["d", "many"] (defScope s_law_wood) := ⟨rfl, rfl, rfl, by decide +kernel, rfl, by decide +kernel, by decide +kernel⟩
abbrev s_law_kid : Stmt := topS 21
abbrev N_law_kid : List Str := ["d", "wood"]
theorem sc_law_kid : FnScope N_law_kid ["d", "wood"] (defScope s_law_kid) := ⟨rfl, rfl, rfl, by decide +kernel, rfl, by decide +kernel, by decide +kernel⟩
abbrev s_law_add : Stmt := topS 22
abbrev N_law_add : List Str := ["wood", "p", "argument", "kids", "number"]
theorem sc_law_add : FnScope N_law_add ["wood", "p", "argument", "kids"] (defScope s_law_add) := ⟨rfl, rfl, rfl, by decide +kernel, rfl, by decide +kernel, by decide +kernel⟩
abbrev s_law_ways : Stmt := topS 23
abbrev N_law_ways : List Str := ["wood", "kids", "kid"]
theorem sc_law_ways : FnScope N_law_ways ["wood", "kids"] (defScope s_law_ways) := ⟨rfl, rfl, rfl, by decide +kernel, rfl, by decide +kernel, by decide +kernel⟩
abbrev s_law_grow : Stmt := topS 24
abbrev N_law_grow : List Str := ["d", "wood", "many", "k", "p", "kids", "j"]
theorem sc_law_grow : FnScope N_law_grow ["d", "wood", "many"] (defScope s_law_grow) := ⟨rfl, rfl, rfl, by decide +kernel, rfl, by decide +kernel, by decide +kernel⟩
abbrev s_law_chain : Stmt := topS 25
abbrev N_law_chain : List Str := ["d", "wood", "many", "wide", "is_bare", "kids", "node", "k", "p", "place", "j"]
theorem sc_law_chain : FnScope N_law_chain ["d", "wood", "many"] (defScope s_law_chain) := ⟨rfl, rfl, rfl, by decide +kernel, rfl, by decide +kernel, by decide +kernel⟩
abbrev s_law_some : Stmt := topS 26
abbrev N_law_some : List Str := ["d", "wood", "found", "p"]
theorem sc_law_some : FnScope N_law_some ["d", "wood"] (defScope s_law_some) := ⟨rfl, rfl, rfl, by decide +kernel, rfl, by decide +kernel, by decide +kernel⟩
abbrev s_law_table : Stmt := topS 27
abbrev N_law_table : List Str := ["wood", "names", "best", "number", "node", "found", "answer", "rest"]
theorem sc_law_table : FnScope N_law_table ["wood", "names"] (defScope s_law_table) := ⟨rfl, rfl, rfl, by decide +kernel, rfl, by decide +kernel, by decide +kernel⟩
abbrev s_law_below : Stmt := topS 28
abbrev N_law_below : List Str := ["own", "node", "met", "waiting", "one"]
theorem sc_law_below : FnScope N_law_below ["own", "node"] (defScope s_law_below) := ⟨rfl, rfl, rfl, by decide +kernel, rfl, by decide +kernel, by decide +kernel⟩
abbrev s_law_is_least : Stmt := topS 29
abbrev N_law_is_least : List Str := ["wood", "node", "names", "grove", "own", "world", "told", "at", "answer", "word"]
theorem sc_law_is_least : FnScope N_law_is_least ["wood", "node", "names"] (defScope s_law_is_least) := ⟨rfl, rfl, rfl, by decide +kernel, rfl, by decide +kernel, by decide +kernel⟩
abbrev s_law : Stmt := topS 30
abbrev N_law : List Str := ["script", "d", "woods", "asked", "wood", "node", "k", "names"]
theorem sc_law : FnScope N_law ["script"] (defScope s_law) := ⟨rfl, rfl, rfl, by decide +kernel, rfl, by decide +kernel, by decide +kernel⟩
structure G_Grove (K : PySem.W.Frag) (mg : Str → Option Value) (C : Addr) : Prop where
  c : CDef K mg "Grove" C ["size", "nodes", "known"]
  i : IDef K C "Grove.__init__" s_Grove___init__ ["self", "size"]
  d_ask : MDef K C "ask" "Grove.ask" s_Grove_ask ["self", "p", "argument", "children"]
  d_node : MDef K C "node" "Grove.node" s_Grove_node ["self", "number"]
  d_children : MDef K C "children" "Grove.children" s_Grove_children ["self", "number"]
structure Top (K : PySem.W.Frag) (mg : Str → Option Value) : Prop where
  m_abs : mg "abs" = none
  m_all : mg "all" = none
  m_bool : mg "bool" = none
  m_int : mg "int" = none
  m_isinstance : mg "isinstance" = none
  m_len : mg "len" = none
  m_list : mg "list" = none
  m_max : mg "max" = none
  m_min : mg "min" = none
  m_range : mg "range" = none
  m_sorted : mg "sorted" = none
  m_sum : mg "sum" = none
  m_tuple : mg "tuple" = none
  g_GROVE_NODES : ∃ t : Tok, mg "GROVE_NODES" = some (.int 20000 t)
  d_trace : Def K mg "trace" s_trace ["grove", "node", "world"]
  d_least_world : Def K mg "least_world" s_least_world ["grove", "node", "names"]
  d_law_begin : Def K mg "_law_begin" s_law_begin ["script"]
  d_law_draw : Def K mg "_law_draw" s_law_draw ["d", "many"]
  d_law_pick : Def K mg "_law_pick" s_law_pick ["d", "row"]
  d_law_pop : Def K mg "_law_pop" s_law_pop ["d", "row"]
  d_law_shuffled : Def K mg "_law_shuffled" s_law_shuffled ["d", "row"]
  d_law_pool : Def K mg "_law_pool" s_law_pool []
  d_law_is_int : Def K mg "_law_is_int" s_law_is_int ["thing"]
  d_law_is_ints : Def K mg "_law_is_ints" s_law_is_ints ["row"]
  d_law_operations : Def K mg "_law_operations" s_law_operations ["d", "size", "many", "names"]
  d_law_wood : Def K mg "_law_wood" s_law_wood ["d", "many"]
  d_law_kid : Def K mg "_law_kid" s_law_kid ["d", "wood"]
  d_law_add : Def K mg "_law_add" s_law_add ["wood", "p", "argument", "kids"]
  d_law_ways : Def K mg "_law_ways" s_law_ways ["wood", "kids"]
  d_law_grow : Def K mg "_law_grow" s_law_grow ["d", "wood", "many"]
  d_law_chain : Def K mg "_law_chain" s_law_chain ["d", "wood", "many"]
  d_law_some : Def K mg "_law_some" s_law_some ["d", "wood"]
  d_law_table : Def K mg "_law_table" s_law_table ["wood", "names"]
  d_law_below : Def K mg "_law_below" s_law_below ["own", "node"]
  d_law_is_least : Def K mg "_law_is_least" s_law_is_least ["wood", "node", "names"]
  d_law : Def K mg "law" s_law ["script"]
  c_Grove : ∃ C, G_Grove K mg C
section
variable {P : Program} {w : World} {K : PySem.W.Frag} {mg : Str → Option Value} {base : Heap}
local macro_rules | `(tactic| regloopunroll_open) => `(tactic| (repeat (first | kct_strs | regstrif_slice | (first | with_reducible refine g_fld ?_ | ((with_reducible refine' fld_q ?h ?c ?n ?e ?_); (case h => regstrif_fact); (case c => assumption); (case n => assumption); (case e => assumption))) | (first | with_reducible refine g_meth ?_ | ((with_reducible refine' meth_q ?h ?e ?_); (case h => regstrif_fact); (case e => assumption))) | kfm_turns | ((with_reducible refine' ixL_q ?h ?e ?j ?_); (case j => exact rfl); (case h => first | assumption | exact SqL.of (by regstrif_fact)); (case e => first | exact rfl | assumption)) | (with_reducible first | refine rI0_int ?_ | refine ipI_int ?_ | refine addG_int ?_ | refine intOf_int ?_ | refine intOf_bl ?_ | refine absOf_int ?_ | refine rU_int ?_ | refine eqG_int ?_ | refine neG_int ?_ | refine neG_str ?_ | refine ltI_q ?_ | refine lenS_q (by decide +kernel) ?_) | ((with_reducible refine' rI_int ?c ?_); (case c => (first | exact Int.mul_pos (by decide) (Int.pow_pos (by decide)) | omega | exact ⟨by omega, by omega⟩ | exact Or.inl ⟨by omega, by omega⟩ | exact Or.inr ⟨by omega, by omega⟩ | exact ⟨by omega, by omega, by decide⟩ | decide))) | (first | ((with_reducible refine' tupOf_rep ?h ?_); (case h => lcg_src)) | ((with_reducible refine' tupOf_lst ?h ?_); (case h => regstrif_fact); intro _ _ _ _ _)) | ((with_reducible refine' isi_rep ?h ?e ?_); (case h => lcg_src); (case e => first | exact (show kitB "tuple" _ = some true by decide +kernel) | exact (show kitB "tuple" _ = some false by decide +kernel) | exact (show kitB "int" _ = some true by decide +kernel) | exact (show kitB "int" _ = some false by decide +kernel) | exact (show kitB "str" _ = some true by decide +kernel) | exact (show kitB "str" _ = some false by decide +kernel) | exact (show kitB "bool" _ = some true by decide +kernel) | exact (show kitB "bool" _ = some false by decide +kernel))) | ((with_reducible refine' draw_q ?h ?a ?b ?_); (case h => regstrif_gather); (case a => first | decide | omega); (case b => first | decide | omega); intro _ _ _ _ _) | ((with_reducible refine' setD_q ?h ?x ?l ?_); (case h => regstrif_fact); (case x => (first | exact (show V.str _ = kV (Sum.inr _) from rfl) | exact (show V.int _ = kV (Sum.inl _) from rfl))); (case l => assumption); intro _ _ _) | ((with_reducible first | refine' inD_q ?h ?x ?_ | refine' notInD_q ?h ?x ?_); (case h => regstrif_fact); (case x => (first | exact (show V.str _ = kV (Sum.inr _) from rfl) | exact (show V.int _ = kV (Sum.inl _) from rfl)))) | (with_reducible refine g_dnew (fun _ _ _ _ _ => ?_)) | ((with_reducible refine' lst_ty ?h ?_); (case h => regstrif_fact)) | ((with_reducible refine' append_q ?h ?l ?_); (case h => regstrif_fact); (case l => assumption); intro _ _ _) | ((with_reducible refine' pop_q ?h ?_); (case h => regstrif_fact); intro _ _ _) | ((with_reducible refine' gTup2_rep ?h ?_); (case h => lcg_src); intro _ _ _ _) | ((with_reducible refine' gTup3_rep ?h ?_); (case h => lcg_src); intro _ _ _ _ _ _) | ((with_reducible refine' setL_q ?h ?j ?k ?_); (case j => exact rfl); (case h => regstrif_fact); (case k => first | exact Nat.le_of_ble_eq_true rfl | assumption); intro _ _ _) | ((with_reducible refine' len_lst ?h ?_); (case h => lsm_bools)) | ((with_reducible refine' len_tup ?h ?_); (case h => lcg_src)) | ((with_reducible refine' g_aug ?e ?_); (case e => exact rfl)) | ((with_reducible refine' getL_q ?h ?e ?j ?_); (case j => exact rfl); (case h => lsm_bools); (case e => first | exact rfl | assumption)) | ((with_reducible refine' setL1_q ?h ?j ?k ?_); (case j => exact rfl); (case h => regstrif_fact); (case k => first | exact Nat.le_of_ble_eq_true rfl | assumption); intro _ _ _) | ((with_reducible refine' newR ?k ?r ?l ?_); (case k => assumption); (case r => lcg_sub); (case l => exact Nat.le_of_ble_eq_true rfl); intro _ _ _ _) | (with_reducible refine newT (Nat.le_of_ble_eq_true rfl) (fun _ _ _ _ _ => ?_)) | (with_reducible refine newL (Nat.le_of_ble_eq_true rfl) (fun _ _ _ _ _ => ?_)) | ((with_reducible refine' in_rep ?h ?e1 ?e2 ?e3 ?e4 ?_); (case h => lcg_src); (case e1 => exact rfl); (case e2 => exact rfl); (case e3 => exact rfl); (case e4 => first | exact (show _ = true by decide +kernel) | exact (show _ = false by decide +kernel))) | with_reducible refine eqG_str ?_ | (first | ((with_reducible refine' ifT ?e ?_); (case e => (with_reducible rfl))) | ((with_reducible refine' ifF ?e ?_); (case e => decide +kernel)) | ((with_reducible refine' ifNF ?e ?_); (case e => (with_reducible rfl))) | ((with_reducible refine' ifNT ?e ?_); (case e => decide +kernel)) | with_reducible refine iteN1 ?_ | with_reducible refine iteN0 ?_ | with_reducible refine iteT ?_ | with_reducible refine iteF ?_))))
local macro_rules | `(tactic| kpf_close) => `(tactic| (repeat (first | (first | (with_reducible first | refine g_seq ?_ | refine g_next ?_ | refine g_asg ?_ | refine g_name ?_ | refine g_c ?_ | refine g_op ?_ | refine g_tup ?_ | refine g_lst ?_ | refine g_nil ?_ | refine g_cons ?_ | refine g_ret ?_ | refine g_retN ?_ | refine g_test ?_ | refine g_b ?_ | refine g_drop ?_ | refine g_bl ?_ | refine g_and ?_ | refine g_or ?_ | refine g_not ?_ | refine g_andV ?_ | refine g_orV ?_ | refine g_cb ?_ | refine g_call ?_ | refine g_un ?_ | refine g_if ?_ | refine g_sub ?_ | refine g_yes ?_ | refine g_tapp ?_ | refine g_tapp0 ?_ | refine g_sl ?_ | refine g_nopart ?_ | refine g_part ?_ | refine g_int ?_ | refine g_augs ?_ | refine g_forR1 ?_ | refine g_lcR1 ?_ | refine g_notV ?_) | ((with_reducible refine' g_var ?e ?_); (case e => exact rfl))) | regstrif_slice | (first | with_reducible refine g_fld ?_ | ((with_reducible refine' fld_q ?h ?c ?n ?e ?_); (case h => regstrif_fact); (case c => assumption); (case n => assumption); (case e => assumption))) | (first | with_reducible refine g_meth ?_ | ((with_reducible refine' meth_q ?h ?e ?_); (case h => regstrif_fact); (case e => assumption))) | kfm_turns | ((with_reducible refine' ixL_q ?h ?e ?j ?_); (case j => exact rfl); (case h => first | assumption | exact SqL.of (by regstrif_fact)); (case e => first | exact rfl | assumption)) | (with_reducible first | refine rI0_int ?_ | refine ipI_int ?_ | refine addG_int ?_ | refine intOf_int ?_ | refine intOf_bl ?_ | refine absOf_int ?_ | refine rU_int ?_ | refine eqG_int ?_ | refine neG_int ?_ | refine neG_str ?_ | refine ltI_q ?_ | refine lenS_q (by decide +kernel) ?_) | ((with_reducible refine' rI_int ?c ?_); (case c => (first | exact Int.mul_pos (by decide) (Int.pow_pos (by decide)) | omega | exact ⟨by omega, by omega⟩ | exact Or.inl ⟨by omega, by omega⟩ | exact Or.inr ⟨by omega, by omega⟩ | exact ⟨by omega, by omega, by decide⟩ | decide))) | (first | ((with_reducible refine' tupOf_rep ?h ?_); (case h => lcg_src)) | ((with_reducible refine' tupOf_lst ?h ?_); (case h => regstrif_fact); intro _ _ _ _ _)) | ((with_reducible refine' isi_rep ?h ?e ?_); (case h => lcg_src); (case e => first | exact (show kitB "tuple" _ = some true by decide +kernel) | exact (show kitB "tuple" _ = some false by decide +kernel) | exact (show kitB "int" _ = some true by decide +kernel) | exact (show kitB "int" _ = some false by decide +kernel) | exact (show kitB "str" _ = some true by decide +kernel) | exact (show kitB "str" _ = some false by decide +kernel) | exact (show kitB "bool" _ = some true by decide +kernel) | exact (show kitB "bool" _ = some false by decide +kernel))) | ((with_reducible refine' draw_q ?h ?a ?b ?_); (case h => regstrif_gather); (case a => first | decide | omega); (case b => first | decide | omega); intro _ _ _ _ _) | ((with_reducible refine' setD_q ?h ?x ?l ?_); (case h => regstrif_fact); (case x => (first | exact (show V.str _ = kV (Sum.inr _) from rfl) | exact (show V.int _ = kV (Sum.inl _) from rfl))); (case l => assumption); intro _ _ _) | ((with_reducible first | refine' inD_q ?h ?x ?_ | refine' notInD_q ?h ?x ?_); (case h => regstrif_fact); (case x => (first | exact (show V.str _ = kV (Sum.inr _) from rfl) | exact (show V.int _ = kV (Sum.inl _) from rfl)))) | (with_reducible refine g_dnew (fun _ _ _ _ _ => ?_)) | ((with_reducible refine' lst_ty ?h ?_); (case h => regstrif_fact)) | ((with_reducible refine' append_q ?h ?l ?_); (case h => regstrif_fact); (case l => assumption); intro _ _ _) | ((with_reducible refine' pop_q ?h ?_); (case h => regstrif_fact); intro _ _ _) | ((with_reducible refine' gTup2_rep ?h ?_); (case h => lcg_src); intro _ _ _ _) | ((with_reducible refine' gTup3_rep ?h ?_); (case h => lcg_src); intro _ _ _ _ _ _) | ((with_reducible refine' setL_q ?h ?j ?k ?_); (case j => exact rfl); (case h => regstrif_fact); (case k => first | exact Nat.le_of_ble_eq_true rfl | assumption); intro _ _ _) | ((with_reducible refine' len_lst ?h ?_); (case h => lsm_bools)) | ((with_reducible refine' len_tup ?h ?_); (case h => lcg_src)) | ((with_reducible refine' g_aug ?e ?_); (case e => exact rfl)) | ((with_reducible refine' getL_q ?h ?e ?j ?_); (case j => exact rfl); (case h => lsm_bools); (case e => first | exact rfl | assumption)) | ((with_reducible refine' setL1_q ?h ?j ?k ?_); (case j => exact rfl); (case h => regstrif_fact); (case k => first | exact Nat.le_of_ble_eq_true rfl | assumption); intro _ _ _) | ((with_reducible refine' newR ?k ?r ?l ?_); (case k => assumption); (case r => lcg_sub); (case l => exact Nat.le_of_ble_eq_true rfl); intro _ _ _ _) | (with_reducible refine newT (Nat.le_of_ble_eq_true rfl) (fun _ _ _ _ _ => ?_)) | (with_reducible refine newL (Nat.le_of_ble_eq_true rfl) (fun _ _ _ _ _ => ?_)) | ((with_reducible refine' in_rep ?h ?e1 ?e2 ?e3 ?e4 ?_); (case h => lcg_src); (case e1 => exact rfl); (case e2 => exact rfl); (case e3 => exact rfl); (case e4 => first | exact (show _ = true by decide +kernel) | exact (show _ = false by decide +kernel))) | with_reducible refine eqG_str ?_ | (first | ((with_reducible refine' ifT ?e ?_); (case e => (with_reducible rfl))) | ((with_reducible refine' ifF ?e ?_); (case e => decide +kernel)) | ((with_reducible refine' ifNF ?e ?_); (case e => (with_reducible rfl))) | ((with_reducible refine' ifNT ?e ?_); (case e => decide +kernel)) | with_reducible refine iteN1 ?_ | with_reducible refine iteN0 ?_ | with_reducible refine iteT ?_ | with_reducible refine iteF ?_))))
local macro_rules | `(tactic| lcg_src) => `(tactic| (repeat' (first | exact rep_as (by assumption) | exact rep_int | exact rep_str | exact rep_bl | exact rep_non | (with_reducible refine' Rep.up ?_ (by assumption)))))
local macro_rules | `(tactic| lcg_sub) => `(tactic| (repeat' (first | (with_reducible exact reps_nil) | (with_reducible refine' reps_cons ?_ ?_) | exact rep_as (by assumption) | exact reps_as (by assumption) | exact rep_int | exact rep_str | exact rep_bl | exact rep_non | (with_reducible refine' Rep.up ?_ (by assumption)) | (with_reducible refine' Reps.up ?_ (by assumption)))))
local macro_rules | `(tactic| lcg_off) => `(tactic| (repeat' (first | exact Fr.refl _ _ | exact fr_as (by assumption) | refine Fr.step0 ?_ (by assumption) | refine Fr.step ?_ (by assumption))))
local macro_rules | `(tactic| regstrif_fact) => `(tactic| (repeat' (first | exact at_as (by assumption) | refine' Fr.at (by assumption) ?_ | refine' Fr.at1 (by assumption) ?_ (by first | assumption | exact Ne.symm (by assumption)))))
local macro_rules | `(tactic| regstrif_gather) => `(tactic| (repeat' (first | exact dok_as (by assumption) | refine' DrawOk.fr0 ?_ (by assumption) | refine' DrawOk.fr1 ?_ (by assumption) (by assumption) (by assumption))))
local macro_rules | `(tactic| regstrif_slice) => `(tactic| (dsimp only [List.set, List.cons_append, List.nil_append, List.append_nil, Option.isSome_none, Option.isSome_some, Option.getD_none, Option.getD_some, Bool.not_true, Bool.not_false]))
local macro_rules | `(tactic| kpt_turns) => `(tactic| dsimp only [cxOf, List.map, List.cons_append, List.nil_append])
local macro_rules | `(tactic| kpc_turns) => `(tactic| (repeat (first | kct_strs | regstrif_slice)))
local macro_rules | `(tactic| kfm_turns) => `(tactic| ((with_reducible refine' ix_get ?h ?j ?e ?_); (case h => lcg_src); (case j => exact rfl); (case e => exact rfl); (first | with_reducible refine get_str ?_ | with_reducible refine get_int ?_ | with_reducible refine get_bl ?_ | refine get_any (fun _ _ => ?_))))
local macro_rules | `(tactic| lsm_bools) => `(tactic| (first | assumption | exact SqL.of (by regstrif_fact)))
local macro_rules | `(tactic| kct_strs) => `(tactic| (first | (with_reducible first | refine g_seq ?_ | refine g_next ?_ | refine g_asg ?_ | refine g_name ?_ | refine g_c ?_ | refine g_op ?_ | refine g_tup ?_ | refine g_lst ?_ | refine g_nil ?_ | refine g_cons ?_ | refine g_ret ?_ | refine g_retN ?_ | refine g_ifs ?_ | refine g_test ?_ | refine g_b ?_ | refine g_drop ?_ | refine g_bl ?_ | refine g_and ?_ | refine g_or ?_ | refine g_not ?_ | refine g_andV ?_ | refine g_orV ?_ | refine g_cb ?_ | refine g_call ?_ | refine g_un ?_ | refine g_if ?_ | refine g_sub ?_ | refine g_yes ?_ | refine g_tapp ?_ | refine g_tapp0 ?_ | refine g_sl ?_ | refine g_nopart ?_ | refine g_part ?_ | refine g_int ?_ | refine g_augs ?_ | refine g_forR1 ?_ | refine g_lcR1 ?_ | refine g_notV ?_) | ((with_reducible refine' g_var ?e ?_); (case e => exact rfl))))
local macro_rules | `(tactic| kaf_pre) => `(tactic| (repeat kat_tups))
local macro_rules | `(tactic| kaf_suf) => `(tactic| (repeat (first | (with_reducible first | refine l_seq ?_ | refine l_next ?_ | refine l_break ?_ | refine l_cont ?_ | refine l_asg ?_ | refine l_name ?_ | refine l_op ?_ | refine l_un ?_ | refine l_nil ?_ | refine l_cons ?_ | refine l_ret ?_ | refine l_retN ?_ | refine l_test ?_ | refine l_b ?_ | refine l_drop ?_ | refine l_bl ?_ | refine l_and ?_ | refine l_or ?_ | refine l_not ?_ | refine l_andV ?_ | refine l_orV ?_ | refine l_if ?_ | refine l_chain ?_ | refine l_cb ?_ | refine l_yes ?_ | refine l_sl ?_ | refine l_nopart ?_ | refine l_part ?_ | refine l_intx ?_ | refine l_sub ?_ | refine l_augS ?_ | refine l_fld ?_ | refine l_fldS ?_ | refine l_cI ?_ | refine l_cS ?_ | refine l_cB ?_ | refine l_cN ?_ | refine l_cT ?_ | refine l_cR ?_ | refine l_call ?_ | refine l_meth ?_ | refine l_make ?_ | refine l_notV ?_ | refine l_forR1 ?_ | refine l_lcR1 ?_ | refine l_gnil ?_ | refine l_gcons ?_ | refine l_bm ?_ | refine l_bm0 ?_ | refine l_tup ?_ | refine l_lst ?_) | ((with_reducible refine' l_var ?e ?_); (case e => exact rfl)) | kba_bound | kat_kinds | (first | ((with_reducible refine' ifT ?e ?_); (case e => (with_reducible rfl))) | ((with_reducible refine' ifF ?e ?_); (case e => decide +kernel)) | ((with_reducible refine' ifNF ?e ?_); (case e => (with_reducible rfl))) | ((with_reducible refine' ifNT ?e ?_); (case e => decide +kernel)) | with_reducible refine iteN1 ?_ | with_reducible refine iteN0 ?_ | with_reducible refine iteT ?_ | with_reducible refine iteF ?_))))
local macro_rules | `(tactic| kbe_one) => `(tactic| (repeat (first | (with_reducible first | refine l_next ?_ | refine l_break ?_ | refine l_cont ?_ | refine l_asg ?_ | refine l_name ?_ | refine l_op ?_ | refine l_un ?_ | refine l_nil ?_ | refine l_cons ?_ | refine l_ret ?_ | refine l_retN ?_ | refine l_ifs ?_ | refine l_test ?_ | refine l_b ?_ | refine l_drop ?_ | refine l_bl ?_ | refine l_and ?_ | refine l_or ?_ | refine l_not ?_ | refine l_andV ?_ | refine l_orV ?_ | refine l_if ?_ | refine l_chain ?_ | refine l_cb ?_ | refine l_yes ?_ | refine l_sl ?_ | refine l_nopart ?_ | refine l_part ?_ | refine l_intx ?_ | refine l_sub ?_ | refine l_augS ?_ | refine l_fld ?_ | refine l_fldS ?_ | refine l_cI ?_ | refine l_cS ?_ | refine l_cB ?_ | refine l_cN ?_ | refine l_cT ?_ | refine l_cR ?_ | refine l_call ?_ | refine l_meth ?_ | refine l_make ?_ | refine l_notV ?_ | refine l_forR1 ?_ | refine l_lcR1 ?_ | refine l_gnil ?_ | refine l_gcons ?_ | refine l_bm ?_ | refine l_bm0 ?_ | refine l_tup ?_ | refine l_lst ?_) | ((with_reducible refine' l_var ?e ?_); (case e => exact rfl)) | kba_bound | kat_kinds | (first | ((with_reducible refine' ifT ?e ?_); (case e => (with_reducible rfl))) | ((with_reducible refine' ifF ?e ?_); (case e => decide +kernel)) | ((with_reducible refine' ifNF ?e ?_); (case e => (with_reducible rfl))) | ((with_reducible refine' ifNT ?e ?_); (case e => decide +kernel)) | with_reducible refine iteN1 ?_ | with_reducible refine iteN0 ?_ | with_reducible refine iteT ?_ | with_reducible refine iteF ?_))))
local macro_rules | `(tactic| kas_ty) => `(tactic| (with_reducible first | exact mem0 | exact mem1 | exact mem2 | exact mem3 | exact mem4 | exact mem5 | exact mem6 | exact mem7 | exact mem8 | exact mem9 | exact mem10 | exact mem11 | exact mem12 | assumption))
local macro_rules | `(tactic| kas_types) => `(tactic| ((try dsimp only [List.set]); repeat (first | exact ev_nil | exact EvLe.refl _ | refine ev_cons _ ?_ | refine ev_none _ ?_)))
local macro_rules | `(tactic| kat_kinds) => `(tactic| (first | (with_reducible first | refine addw_int ?_ | refine rI0w_int ?_ | refine rI0w_bl ?_ | refine ipw_int ?_ | refine eqw_int ?_ | refine new_int ?_ | refine eqw_str ?_ | refine new_str ?_ | refine eqw_bl ?_ | refine isNw ?_ | refine notNw ?_ | refine rUw_int ?_ | refine intw_int ?_ | refine intw_bl ?_ | refine absw_int ?_ | refine tupw_tup ?_ | refine lenw_tup ?_ | refine minw ?_ | refine maxw ?_ | (refine listw_tup ?_; intro _)) | ((with_reducible refine' rIw_int ?hc ?_); (case hc => (first | exact Int.mul_pos (by decide) (Int.pow_pos (by decide)) | omega | exact ⟨by omega, by omega⟩ | exact Or.inl ⟨by omega, by omega⟩ | exact Or.inr ⟨by omega, by omega⟩ | exact ⟨by omega, by omega, by decide⟩ | decide))) | ((with_reducible refine' ixw_tup ?hj ?_); (case hj => kba_idx)) | ((with_reducible refine' ixw_lst ?hm ?hj ?_); (case hm => kas_ty); (case hj => kba_idx)) | ((with_reducible refine' lenw_lst ?hm ?_); (case hm => kas_ty)) | ((with_reducible refine' lenw_dk ?hm ?_); (case hm => kas_ty)) | ((with_reducible refine' tupw_lst ?hm ?_); (case hm => kas_ty)) | ((with_reducible refine' listw_lst ?hm ?_); (case hm => kas_ty); intro _) | ((with_reducible refine' listw_dk ?hm ?_); (case hm => kba_in); intro _) | ((with_reducible refine' dictw_dk ?hm ?_); (case hm => kba_in); intro _) | ((with_reducible refine' inw_dk ?hm ?hk ?_); (case hm => kba_in); (case hk => (first | exact (show _ = kw (Sum.inr _) from rfl) | exact (show _ = kw (Sum.inl _) from rfl)))) | ((with_reducible refine' notInw_dk ?hm ?hk ?_); (case hm => kba_in); (case hk => (first | exact (show _ = kw (Sum.inr _) from rfl) | exact (show _ = kw (Sum.inl _) from rfl)))) | ((with_reducible refine' newtw ?h ?_); (case h => (first | exact Nat.le_of_ble_eq_true rfl | assumption))) | ((with_reducible refine' newlw ?h ?_); (case h => (first | exact Nat.le_of_ble_eq_true rfl | assumption)); intro _) | ((refine And.intro ?hty ?_); (case hty => first | exact tyw_lst (by kas_ty) | exact tyw_dk (by kas_ty))) | ((with_reducible refine' appendw ?hm ?hl ?_); (case hm => kas_ty); (case hl => (first | assumption | exact small1000 (Nat.le_of_ble_eq_true rfl)))) | ((with_reducible refine' popw ?hm ?_); (case hm => kas_ty)) | ((with_reducible refine' setw_lst ?hm ?hk ?_); (case hm => kas_ty); (case hk => (first | exact Nat.le_of_ble_eq_true rfl | assumption))) | ((with_reducible refine' setw_lst1 ?hm ?hk ?_); (case hm => kas_ty); (case hk => (first | exact Nat.le_of_ble_eq_true rfl | assumption))) | ((with_reducible refine' getw_lst ?hm ?hk ?_); (case hm => kas_ty); (case hk => first | exact rfl | assumption)) | ((with_reducible refine' fldw ?hm ?cl ?no ?e ?_); (case hm => kas_ty); (case cl => assumption); (case no => assumption); (case e => first | assumption | exact rfl)) | ((with_reducible refine' fldG ?hm ?cl ?no ?e ?_); (case hm => kas_ty); (case cl => assumption); (case no => assumption); (case e => assumption)) | ((with_reducible refine' fldSw ?hm ?cl ?no ?hl ?_); (case hm => kas_ty); (case cl => assumption); (case no => assumption); (case hl => first | decide | exact Nat.lt_of_le_of_lt (putW_len _ _ _) (by decide) | exact Nat.lt_of_le_of_lt (putW_len _ _ _) (Nat.lt_of_le_of_lt (Nat.succ_le_succ (putW_len _ _ _)) (by decide)))) | ((with_reducible refine' methw ?hm ?hl ?_); (case hm => kas_ty); (case hl => exact rfl)) | ((with_reducible refine' methG ?hm ?hl ?_); (case hm => kas_ty); (case hl => assumption)) | ((with_reducible refine' isiw ?e ?n ?_); (case e => first | exact (show kitB "tuple" _ = some true by decide +kernel) | exact (show kitB "tuple" _ = some false by decide +kernel) | exact (show kitB "int" _ = some true by decide +kernel) | exact (show kitB "int" _ = some false by decide +kernel) | exact (show kitB "str" _ = some true by decide +kernel) | exact (show kitB "str" _ = some false by decide +kernel) | exact (show kitB "bool" _ = some true by decide +kernel) | exact (show kitB "bool" _ = some false by decide +kernel) | exact (show kitB "NoneType" _ = some true by decide +kernel) | exact (show kitB "NoneType" _ = some false by decide +kernel)); (case n => (intro _ z; cases z))) | ((with_reducible refine' l_aug ?e ?_); (case e => exact rfl)) | ((with_reducible refine' l_gtup ?hl ?_); (case hl => exact rfl)) | ((with_reducible refine' l_dnewK ?_); intro _) | ((with_reducible refine' l_dnewT ?_); intro _) | ((with_reducible refine' l_namew ?hi ?_); (case hi => exact rfl)) | ((with_reducible refine' l_gtupw ?hl ?_); (case hl => exact rfl)) | (with_reducible first | refine l_gconsw ?_ | refine l_gnilw ?_)))
local macro_rules | `(tactic| kat_tups) => `(tactic| (first | kba_ints | ((with_reducible refine' l_var ?e ?_); (case e => exact rfl)) | kba_bound | kat_kinds | (first | ((with_reducible refine' ifT ?e ?_); (case e => (with_reducible rfl))) | ((with_reducible refine' ifF ?e ?_); (case e => decide +kernel)) | ((with_reducible refine' ifNF ?e ?_); (case e => (with_reducible rfl))) | ((with_reducible refine' ifNT ?e ?_); (case e => decide +kernel)) | with_reducible refine iteN1 ?_ | with_reducible refine iteN0 ?_ | with_reducible refine iteT ?_ | with_reducible refine iteF ?_)))
local macro_rules | `(tactic| kba_bound) => `(tactic| (dsimp only [List.set, wipeE, List.cons_append, List.nil_append, List.append_nil, Option.isSome_none, Option.isSome_some, Option.getD_none, Option.getD_some, Bool.not_true, Bool.not_false, isN]))
local macro_rules | `(tactic| kba_idx) => `(tactic| (first | exact at_nat rfl rfl | exact at_last | exact at_nat rfl (by assumption) | (refine at_nat ?_ (by assumption); omega)))
local macro_rules | `(tactic| kba_in) => `(tactic| (first | exact Or.inl (by kas_ty) | assumption))
local macro_rules | `(tactic| kba_ints) => `(tactic| (with_reducible first | refine l_seq ?_ | refine l_next ?_ | refine l_break ?_ | refine l_cont ?_ | refine l_asg ?_ | refine l_name ?_ | refine l_op ?_ | refine l_un ?_ | refine l_nil ?_ | refine l_cons ?_ | refine l_ret ?_ | refine l_retN ?_ | refine l_ifs ?_ | refine l_test ?_ | refine l_b ?_ | refine l_drop ?_ | refine l_bl ?_ | refine l_and ?_ | refine l_or ?_ | refine l_not ?_ | refine l_andV ?_ | refine l_orV ?_ | refine l_if ?_ | refine l_chain ?_ | refine l_cb ?_ | refine l_yes ?_ | refine l_sl ?_ | refine l_nopart ?_ | refine l_part ?_ | refine l_intx ?_ | refine l_sub ?_ | refine l_augS ?_ | refine l_fld ?_ | refine l_fldS ?_ | refine l_cI ?_ | refine l_cS ?_ | refine l_cB ?_ | refine l_cN ?_ | refine l_cT ?_ | refine l_cR ?_ | refine l_call ?_ | refine l_meth ?_ | refine l_make ?_ | refine l_notV ?_ | refine l_forR1 ?_ | refine l_lcR1 ?_ | refine l_gnil ?_ | refine l_gcons ?_ | refine l_bm ?_ | refine l_bm0 ?_ | refine l_tup ?_ | refine l_lst ?_))

theorem ok_law_draw (T : Top K mg) : Cal P w K mg base CX0 1 "_law_draw" ["d", "many"] spDraw := by
  refine T.d_law_draw.cal sc_law_draw [none, none, none] rfl (fun vs H Q E h => ?_) (fun f cdv A outer s H vs Q E hk hr h => ?_)
  · obtain ⟨a, c, m, rfl, _⟩ := h; rfl
  obtain ⟨a, c, m, rfl, ⟨ns, p, fo, sd, ha, hc, hne⟩, m0, m1, q⟩ := h
  have hu := hu_of hr
  have fin : ∀ (H' : Hp) (z f2 s2 : Int) (p2 : Nat), Fr [a] H H' → H' a = some (.lst [.ref c, .int (p2 : Int), .int f2, .int s2, .int 3]) → Q (.int (z % (m : Int))) H' := by
    intro H' z f2 s2 p2 f1 e1
    obtain ⟨k, e, hk⟩ := draw_mod z m m0
    rw [e]
    exact q H' k f1 ⟨ns, p2, f2, s2, e1, f1.at1 hc hne, hne⟩ hk
  refine ⟨_, (pss_cons (ps_if (pt_cmpR op_gt (pe_ix (ix_GK (K := K) rfl hu) (pv 0) pe_int (fun _ _ => rfl)) pe_int (nomark _)) (pss_cons (ps_set (i := 2) sc_law_draw.nd rfl (Or.inl rfl) (pe_ix (ix_GK (K := K) rfl hu) (pv 0) pe_int (fun _ _ => rfl))) (pss_cons (ps_asg (pe_op op_fdiv (pv 2) (pv 1)) (pg_sub (pv 0) pe_int (set_G hu))) (pss_one (ps_ret (pe_op op_mod (pe_callTy call_intG (by rfl) T.m_int (by decide +kernel) (pa_cons (pv 2) pa_nil)) (pv 1)))))) pss_nil) (pss_cons (ps_set (i := 3) sc_law_draw.nd rfl (Or.inl rfl) pe_int) (pss_cons (ps_if (pt_cmpR (op_lt2K (K := K) rfl hr.u65) (pe_ix (ix_GK (K := K) rfl hu) (pv 0) pe_int (fun _ _ => rfl)) (pe_callB (call_lenGK (K := K) rfl) (by rfl) T.m_len (by decide +kernel) (pa_cons (pe_ix (ix_GK (K := K) rfl hu) (pv 0) pe_int (fun _ _ => rfl)) pa_nil)) (nomark _)) (pss_cons (ps_set (i := 4) sc_law_draw.nd rfl (Or.inl rfl) (pe_ix (ix_GK (K := K) rfl hu) (pe_ix (ix_GK (K := K) rfl hu) (pv 0) pe_int (fun _ _ => rfl)) (pe_ix (ix_GK (K := K) rfl hu) (pv 0) pe_int (fun _ _ => rfl)) (fun _ _ => rfl))) (pss_one (ps_set (i := 3) sc_law_draw.nd rfl (Or.inl rfl) (pe_op (op_addGK (K := K) rfl) (pe_op op_mul pe_int (pe_callB call_absG (by rfl) T.m_abs (by decide +kernel) (pa_cons (pv 4) pa_nil))) (pe_callTy call_intG (by rfl) T.m_int (by decide +kernel) (pa_cons (pe_cmpR (op_lt2K (K := K) rfl hr.u65) (pv 4) pe_int (nomark _)) pa_nil)))))) pss_nil) (pss_cons (ps_augS (pv 0) pe_int get_list pe_int ip_add set_list) (pss_cons (ps_if (pt_cmpR op_ge (pv 3) (pe_op op_mul pe_int (pe_op op_pow pe_int pe_int)) (nomark _)) (pss_cons (ps_set (i := 2) sc_law_draw.nd rfl (Or.inl rfl) (pe_op op_mod (pe_callTy call_intG (by rfl) T.m_int (by decide +kernel) (pa_cons (pe_op op_fdiv (pv 3) pe_int) pa_nil)) (pe_op op_shl pe_int pe_int))) (pss_cons (ps_asg (pe_op op_fdiv (pv 2) (pv 1)) (pg_sub (pv 0) pe_int (set_G hu))) (pss_one (ps_ret (pe_op op_mod (pe_callTy call_intG (by rfl) T.m_int (by decide +kernel) (pa_cons (pv 2) pa_nil)) (pv 1)))))) pss_nil) (pss_cons (ps_asg (pe_op op_mod (pe_callTy call_intG (by rfl) T.m_int (by decide +kernel) (pa_cons (pe_op (op_addGK (K := K) rfl) (pe_op (op_addGK (K := K) rfl) (pe_op (op_addGK (K := K) rfl) (pe_op op_mul (pe_ix (ix_GK (K := K) rfl hu) (pv 0) pe_int (fun _ _ => rfl)) pe_int) (pe_op op_mul (pe_op op_mod (pe_callTy call_intG (by rfl) T.m_int (by decide +kernel) (pa_cons (pv 3) pa_nil)) pe_int) pe_int)) (pe_op op_mul (pe_ix (ix_GK (K := K) rfl hu) (pv 0) pe_int (fun _ _ => rfl)) pe_int)) pe_int) pa_nil)) pe_int) (pg_sub (pv 0) pe_int (set_G hu))) (pss_one (ps_ret (pe_op op_mod (pe_callTy call_intG (by rfl) T.m_int (by decide +kernel) (pa_cons (pe_op op_fdiv (pe_ix (ix_GK (K := K) rfl hu) (pv 0) pe_int (fun _ _ => rfl)) pe_int) pa_nil)) (pv 1)))))))))), ?_⟩
  kpt_turns
  regloopunroll_open
  refine ifD (fun h1 => ?_) (fun h1 => ?_)
  · regloopunroll_open
    exact fin _ _ _ _ _ (by lcg_off) (by assumption)
  · regloopunroll_open
    refine ifD (fun h2 => ?_) (fun h2 => ?_)
    · have hp : p < ns.length := by simpa using h2
      have hz : (ns.map V.int)[p]? = some (.int ns[p]) := by simp [hp]
      regloopunroll_open
      refine ifD (fun h3 => ?_) (fun h3 => ?_)
      all_goals regloopunroll_open
      all_goals exact fin _ _ _ _ (p + 1) (by lcg_off) (by assumption)
    · regloopunroll_open
      exact fin _ _ _ _ (p + 1) (by lcg_off) (by assumption)
theorem ok_law_pick (T : Top K mg) : Cal P w K mg base CX0 2 "_law_pick" ["d", "row"] (spPick K) := by
  refine T.d_law_pick.cal sc_law_pick [] rfl (fun vs H Q E h => ?_) (fun f cdv A outer s H vs Q E hk hr h => ?_)
  · obtain ⟨a, c, l, xs, rfl, _⟩ := h; rfl
  obtain ⟨a, c, l, xs, rfl, hd, hl, hne, h0, h1, q⟩ := h
  have hu := hu_of hr
  have C_law_draw := ok_law_draw (P := P) (w := w) (base := base) T
  refine ⟨_, (pss_one (ps_ret (pe_ix (ix_GK (K := K) rfl hu) (pv 1) (pe_cal C_law_draw (hr.mono (by omega)) (by rfl) pass0 (pa_cons (pv 0) (pa_cons (pe_callB (call_lenGK (K := K) rfl) (by rfl) T.m_len (by decide +kernel) (pa_cons (pv 1) pa_nil)) pa_nil))) (fun _ _ => rfl)))), ?_⟩
  kpt_turns
  regloopunroll_open
  rename_i H' k fr hd' hk
  have hl' := fr.sqL hl (by simpa using hne)
  have hk2 : k < xs.length := by omega
  have e : xs[k]? = some xs[k] := by simp [hk2]
  regloopunroll_open
  exact q _ k _ fr hd' e
theorem ok_law_begin (T : Top K mg) : Cal P w K mg base CX0 1 "_law_begin" ["script"] (spBegin K) := by
  refine T.d_law_begin.cal sc_law_begin [none] rfl (fun vs H Q E h => ?_) (fun f cdv A outer s H vs Q E hk hr h => ?_)
  · obtain ⟨a, l, rfl, _⟩ := h; rfl
  obtain ⟨a, ns, rfl, hs, hl, q⟩ := h
  have hu := hu_of hr
  refine ⟨_, (pss_one (ps_ret (pe_lst (pa_cons (pe_lc (own := [("cell", 1)]) (g := gName 1) rfl sc_law_begin.nd (pi_seqK (K := K) rfl (pv 0)) (blkOk_by (N := N_law_begin) (sc := defScope s_law_begin) (by decide +kernel)) (fun _ _ _ _ _ => pg_name (i := 1) sc_law_begin.nd rfl (Or.inl rfl)) (fun _ _ _ _ _ => pts_nil) (fun _ _ _ _ _ => (pe_callTy call_intG (by rfl) T.m_int (by decide +kernel) (pa_cons (pv 1) pa_nil)))) (pa_cons pe_int (pa_cons pe_int (pa_cons pe_int (pa_cons pe_int pa_nil)))))))), ?_⟩
  kpt_turns
  regloopunroll_open
  refine g_lcL ?_
  regloopunroll_open
  refine lcL_q hs (fun D i H' => Fr [] H H' ∧ H' D = some (.lst ((ns.take i).map V.int))) (fun D nD => ⟨Fr.new nD, by rw [upd_same]; rfl⟩) (fun D i H' nD p => p.1.sqL hs (by simp)) (fun D i x H' nD e p => ?_) (fun D H' nD p => ?_)
  · obtain ⟨f1, e1⟩ := p
    obtain ⟨z, hz, rfl⟩ : ∃ z, ns[i]? = some z ∧ V.int z = x := by simpa [List.getElem?_map, Option.map_eq_some_iff] using e
    regloopunroll_open
    refine ⟨rfl, ?_⟩
    regloopunroll_open
    refine ⟨_, e1, small1000 (by simp; omega), f1.updN nD e1, ?_⟩
    rw [upd_same, List.take_add_one, hz, List.map_append]
    rfl
  · obtain ⟨f1, e1⟩ := p
    regloopunroll_open
    rename_i H2 l f2 n2 e2
    rw [List.length_map, List.take_length] at e1
    exact q H2 l D (f1.step0 f2) (f1.free n2 (by simp)) nD ⟨ns, 0, 0, 7, e2, f2.at e1, fun z => by subst z; rw [e1] at n2; cases n2⟩

theorem new_law_pick (T : Top K mg) : Cal P w K mg base CX0 2 "_law_pick" ["d", "row"] (spM cPick) := by
  refine T.d_law_pick.mcal sc_law_pick (fun ws M R h => ?_) (fun f cdv A outer s H E ws M R B hk hr h => ?_)
  · obtain ⟨a, c, l, ds, rfl, _⟩ := h; rfl
  obtain ⟨a, c, l, ds, rfl, rfl, h0, h1, q⟩ := h
  have hu := hu_of hr
  have C_law_draw := draw_bridge (ok_law_draw (P := P) (w := w) (base := base) T)
  refine ⟨_, (pss_one (ps_ret (pe_ix (ix_GK (K := K) rfl hu) (pv 1) (pe_cal C_law_draw (hr.mono (by omega)) (by rfl) pass0 (pa_cons (pv 0) (pa_cons (pe_callB (call_lenGK (K := K) rfl) (by rfl) T.m_len (by decide +kernel) (pa_cons (pv 1) pa_nil)) pa_nil))) (fun _ _ => rfl)))), ?_⟩
  refine ls_start [] rfl ?_
  dsimp only [cxOf, List.map, List.cons_append, List.nil_append]
  unfold LEnd

  kaf_pre
  refine drawc (by kas_ty) (by omega) (by omega) (fun k hk => ?_)
  have hk2 : k < ds.length := by omega
  have e : ds[k]? = some ds[k] := by simp [hk2]
  kaf_pre
  exact drp2 0 1 (by decide) rfl rfl (q k _ e)
theorem new_law_pop (T : Top K mg) : Cal P w K mg base CX0 2 "_law_pop" ["d", "row"] (spM cPop) := by
  refine T.d_law_pop.mcal sc_law_pop (fun ws M R h => ?_) (fun f cdv A outer s H E ws M R B hk hr h => ?_)
  · obtain ⟨a, c, l, ds, rfl, _⟩ := h; rfl
  obtain ⟨a, c, l, ds, rfl, rfl, h0, h1, q⟩ := h
  have hu := hu_of hr
  have C_law_draw := draw_bridge (ok_law_draw (P := P) (w := w) (base := base) T)
  refine ⟨_, (pss_one (ps_ret (pe_bm PySem.F.plainAttrs_list PySem.F.slot_list_pop PySem.F.type_list_pop mt_popAt (pv 1) (pa_cons (pe_cal C_law_draw (hr.mono (by omega)) (by rfl) pass0 (pa_cons (pv 0) (pa_cons (pe_callB (call_lenGK (K := K) rfl) (by rfl) T.m_len (by decide +kernel) (pa_cons (pv 1) pa_nil)) pa_nil))) pa_nil)))), ?_⟩
  refine ls_start [] rfl ?_
  dsimp only [cxOf, List.map, List.cons_append, List.nil_append]
  unfold LEnd

  kaf_pre
  refine drawc (by kas_ty) (by omega) (by omega) (fun k hk => ?_)
  have hk2 : k < ds.length := by omega
  have e : ds[k]? = some ds[k] := by simp [hk2]
  kaf_pre
  refine popAtw (m := 1) rfl e (by omega) ?_
  kaf_pre
  exact drp2 0 1 (by decide) rfl rfl (q k _ e)

def spPool : Sp := fun vs H Q _ => vs = [] ∧ ∀ H' L, Fr [] H H' → H L = none → H' L = some (.lst (poolL.map V.str)) → Q (.ref L) H'
theorem ok_law_pool (T : Top K mg) : Cal P w K mg base CX0 1 "_law_pool" [] spPool := by
  refine T.d_law_pool.cal sc_law_pool [none] rfl (fun vs H Q E h => ?_) (fun f cdv A outer s H vs Q E hk hr h => ?_)
  · obtain ⟨rfl, _⟩ := h; rfl
  obtain ⟨rfl, q⟩ := h
  have hu := hu_of hr
  refine ⟨_, (pss_cons (ps_set (i := 0) sc_law_pool.nd rfl (Or.inl rfl) pe_str) (pss_cons (ps_set (i := 0) sc_law_pool.nd rfl (Or.inl rfl) (pe_op (op_addGK (K := K) rfl) (pv 0) pe_str)) (pss_cons (ps_set (i := 0) sc_law_pool.nd rfl (Or.inl rfl) (pe_op (op_addGK (K := K) rfl) (pv 0) pe_str)) (pss_one (ps_ret (pe_split (pv 0) pe_str)))))), ?_⟩
  kpt_turns
  regloopunroll_open
  refine addG_str (by decide +kernel) ?_
  regloopunroll_open
  refine addG_str (by decide +kernel) ?_
  regloopunroll_open
  refine g_m1 ?_
  regloopunroll_open
  refine ⟨⟨_, rfl⟩, ?_⟩
  regloopunroll_open
  refine ⟨_, _, rfl, rfl, by decide +kernel, by decide +kernel, fun p np => ?_⟩
  refine q _ p (Fr.new np) np ?_
  rw [upd_same]
  exact congrArg (fun z : List Str => some (HO.lst (z.map V.str))) (by decide +kernel)

theorem new_law_shuffled (T : Top K mg) : Cal P w K mg base CX0 2 "_law_shuffled" ["d", "row"] (spM cShuf) := by
  refine T.d_law_shuffled.mcal sc_law_shuffled (fun ws M R h => ?_) (fun f cdv A outer s H E ws M R B hk hr h => ?_)
  · obtain ⟨a, c, l, ds, rfl, _⟩ := h; rfl
  obtain ⟨a, c, l, ds, rfl, rfl, hl, q⟩ := h
  have hu := hu_of hr
  have C_law_draw := draw_bridge (ok_law_draw (P := P) (w := w) (base := base) T)
  refine ⟨_, (pss_cons (ps_set (i := 2) sc_law_shuffled.nd rfl (Or.inl rfl) (pe_callTy (call_listGK (K := K) rfl rfl) (by rfl) T.m_list (by decide +kernel) (pa_cons (pv 1) pa_nil))) (pss_cons (ps_set (i := 3) sc_law_shuffled.nd rfl (Or.inl rfl) (pe_lst pa_nil)) (pss_cons (ps_for PassesOwn.never rfl (pi_range1 (by rfl) T.m_range (pa_cons (pe_callB (call_lenGK (K := K) rfl) (by rfl) T.m_len (by decide +kernel) (pa_cons (pv 2) pa_nil)) pa_nil)) (pg_name (i := 4) sc_law_shuffled.nd rfl (Or.inl rfl)) (pss_one (ps_expr (pe_bm PySem.F.plainAttrs_list PySem.F.slot_list_append PySem.F.type_list_append mt_append (pv 3) (pa_cons (pe_bm PySem.F.plainAttrs_list PySem.F.slot_list_pop PySem.F.type_list_pop mt_popAt (pv 2) (pa_cons (pe_cal C_law_draw (hr.mono (by omega)) (by rfl) pass0 (pa_cons (pv 0) (pa_cons (pe_callB (call_lenGK (K := K) rfl) (by rfl) T.m_len (by decide +kernel) (pa_cons (pv 2) pa_nil)) pa_nil))) pa_nil)) pa_nil))))) (pss_one (ps_ret (pv 3)))))), ?_⟩
  refine ls_start [none, none, none] rfl ?_
  dsimp only [cxOf, List.map, List.cons_append, List.nil_append]
  unfold LEnd
  kaf_pre
  rename_i p S
  refine forw_rng (k := ds.length) rfl (by omega) (fun i e M => ∃ ps qs : List W, (qs ++ ps).Perm ds ∧ ps.length + i = ds.length ∧ e = [some (rf a), some (rf l), some (rf p), some (rf S), none] ∧ M = [lstR S qs, lstR p ps, drawR a c, lstR l ds])
    ⟨_, by kas_types, _, fun _ _ s => s, ds, [], List.Perm.refl _, rfl, rfl, rfl⟩ (fun i e M hi h => ?_) (fun e M h => ?_)
  · obtain ⟨ps, qs, hp, hlen, rfl, rfl⟩ := h
    kaf_pre
    refine drawc (by kas_ty) (by omega) (by omega) (fun k hk => ?_)
    have hk2 : k < ps.length := by omega
    have e : ps[k]? = some ps[k] := List.getElem?_eq_getElem hk2
    have hq := hp.length_eq
    rw [List.length_append] at hq
    kaf_pre
    refine popAtw (m := 1) rfl e (by omega) ?_
    kaf_pre
    refine appendw (m := 0) rfl (small1000 (by omega)) ?_
    refine ⟨_, ?ev, _, fun _ _ s => s, ps.eraseIdx k, qs ++ [ps[k]], ?_, ?_, rfl, rfl⟩
    case ev => kas_types
    · refine List.Perm.trans ?_ hp
      rw [List.append_assoc]
      exact List.Perm.append_left _ (perm_take e).symm
    · rw [List.length_eraseIdx_of_lt hk2]; omega
  · obtain ⟨ps, qs, hp, hlen, rfl, rfl⟩ := h
    have : ps = [] := List.length_eq_zero_iff.mp (by omega)
    subst this
    rw [List.append_nil] at hp
    kaf_pre
    exact drp3 2 3 0 (by decide) rfl rfl rfl (q qs S hp)
def cPool : Con' := fun ws M R => ws = [] ∧ M = [] ∧ ∀ L, R (rf L) [lstR L (poolL.map .str)]
theorem new_law_pool (C : Cal P w K mg base CX0 1 "_law_pool" [] spPool) : Cal P w K mg base CX0 1 "_law_pool" [] (spM cPool) := C.imp fun vs H Q E h => by
  obtain ⟨ws, M, R, r, mo, ⟨rfl, rfl, q0⟩, q⟩ := h
  refine ⟨wrs_nil_iff.mp r, fun H' L f nL e => ?_⟩
  refine q H' _ (rf L) [lstR L (poolL.map .str)] f ⟨fun r hr => ?_, List.pairwise_singleton _ _⟩ (fun r hr x hx => ?_) wr_rf (q0 L)
  · rw [List.mem_singleton.mp hr]; exact ⟨_, e, wrs_strs _⟩
  · rw [List.mem_singleton.mp hr] at hx; right; rw [List.mem_singleton.mp hx]; exact nL

theorem new_Grove_init (T : Top K mg) {C : Addr} (G : G_Grove K mg C) : KCal P w K mg base CX0 1 "Grove" C ["self", "size"] (spM (cGInit P w K C)) := by
  refine G.i.mcal G.c.m sc_Grove___init__ (fun ws M R h => ?_) (fun f cdv A outer s H E ws M R B hk hr h => ?_)
  · obtain ⟨g, size, rfl, _⟩ := h; rfl
  obtain ⟨g, size, rfl, rfl, hs, q⟩ := h
  have hu := hu_of hr
  have cl := G.c.cl
  have no1 : NoAttr K C "size" := G.c.no _ (by simp)
  have no2 : NoAttr K C "nodes" := G.c.no _ (by simp)
  have no3 : NoAttr K C "known" := G.c.no _ (by simp)
  refine ⟨_, (pss_cons (ps_fld (pv 0) (pv 1) rfl) (pss_cons (ps_fld (pv 0) (pe_lc (own := [("value", 2)]) (g := gName 2) rfl sc_Grove___init__.nd (pi_range1 (by rfl) T.m_range (pa_cons (pv 1) pa_nil)) (blkOk_by (N := N_Grove___init__) (sc := defScope s_Grove___init__) (by decide +kernel)) (fun _ _ _ _ _ => pg_name (i := 2) sc_Grove___init__.nd rfl (Or.inl rfl)) (fun _ _ _ _ _ => pts_nil) (fun _ _ _ _ _ => (pe_tup (pa_cons pe_str (pa_cons (pv 2) pa_nil))))) rfl) (pss_one (ps_fld (pv 0) (pe_dnewN (P := P) (w := w) rfl rfl) rfl)))), ?_⟩
  refine ls_start [none] rfl ?_
  dsimp only [cxOf, List.map, List.cons_append, List.nil_append]
  unfold LEnd
  kaf_pre
  refine lcw_rng (k := size) rfl (by omega) (fun D i M => M = [lstR D (((List.range i).map Nd.val).map Nd.toD), insR C g (putW "size" (.int (size : Int)) [])]) (fun D => rfl) (fun D i M hi h => ?_) (fun D M h => ?_)
  · subst h
    unfold LElt
    kaf_pre
    refine ⟨0, _, rfl, ?_, ?_⟩
    · rw [List.length_map, List.length_map, List.length_range]; exact small1000 (by omega)
    · kba_bound
      rw [List.range_succ, List.map_append, List.map_append]
      rfl
  · subst h
    kaf_pre
    refine l_dnewN (K := K) natD (fun kn => ?_)
    kaf_pre
    refine drp_ent (N := [gvR P w K C g D kn size ((List.range size).map Nd.val)]) ?_ (q D kn)
    refine Ent.trans (Ent.perm (N := gvRows P w K C g D kn size ((List.range size).map Nd.val)) ?_) ent_grp
    unfold gvRows
    rw [known_vals]
    exact List.Perm.trans (.swap _ _ _) (.trans (.cons _ (.swap _ _ _)) (.swap _ _ _))
theorem new_Grove_ask (T : Top K mg) {C : Addr} (G : G_Grove K mg C) : MCal P w K mg base CX0 1 C "ask" ["self", "p", "argument", "children"] (spM (cGAsk P w K C)) := by
  refine G.d_ask.mcal G.c.cl sc_Grove_ask (fun ws M R h => ?_) (fun f cdv A outer s H E ws M R B hk hr h => ?_)
  · obtain ⟨g, nl, kn, size, ns, p, a, ks, rfl, _⟩ := h; rfl
  obtain ⟨g, nl, kn, size, ns, p, a, ks, rfl, rfl, hl, q1, q2⟩ := h
  have hu := hu_of hr
  have cl := G.c.cl
  have no2 : NoAttr K C "nodes" := G.c.no _ (by simp)
  have no3 : NoAttr K C "known" := G.c.no _ (by simp)
  have l2 := gvF_nodes size nl kn
  have l3 := gvF_known size nl kn
  have hkd := askK_D p a ks
  have hnk : nn (.tuple [.str p, .int (a : Int), .tuple (ks.map natD)]) = true := by simp [nn, nns, nns_all, natD]
  have hkl := known_len ns
  refine ⟨_, (pss_cons (ps_set (i := 4) sc_Grove_ask.nd rfl (Or.inl rfl) (pe_tup (pa_cons (pv 1) (pa_cons (pv 2) (pa_cons (pe_callTy (call_tupGK (K := K) rfl) (by rfl) T.m_tuple (by decide +kernel) (pa_cons (pv 3) pa_nil)) pa_nil))))) (pss_cons (ps_if (pt_cmpR (op_inN (P := P) (w := w) (K := K) rfl rfl rfl hr.units) (pv 4) (pe_fld (pv 0) rfl) (by rfl)) (pss_one (ps_ret (pe_ix (ix_N (P := P) (w := w) (K := K) rfl rfl rfl hr.units) (pe_fld (pv 0) rfl) (pv 4) (fun _ _ => rfl)))) pss_nil) (pss_cons (ps_if (pt_cmpR op_ge (pe_callB (call_lenGK (K := K) rfl) (by rfl) T.m_len (by decide +kernel) (pa_cons (pe_fld (pv 0) rfl) pa_nil)) (pe_glob (v := .int 20000) (by rfl) T.g_GROVE_NODES.choose_spec ⟨_, rfl⟩) (nomark _)) (pss_one ps_never) pss_nil) (pss_cons (ps_asg (pe_callB (call_lenGK (K := K) rfl) (by rfl) T.m_len (by decide +kernel) (pa_cons (pe_fld (pv 0) rfl) pa_nil)) (pg_sub (pe_fld (pv 0) rfl) (pv 4) (set_N (P := P) (w := w) (K := K) rfl rfl rfl hr.units))) (pss_cons (ps_expr (pe_bm PySem.F.plainAttrs_list PySem.F.slot_list_append PySem.F.type_list_append mt_append (pe_fld (pv 0) rfl) (pa_cons (pe_tup (pa_cons pe_str (pa_cons (pv 1) (pa_cons (pv 2) (pa_cons (pe_callTy (call_tupGK (K := K) rfl) (by rfl) T.m_tuple (by decide +kernel) (pa_cons (pv 3) pa_nil)) pa_nil))))) pa_nil))) (pss_one (ps_ret (pe_ix (ix_N (P := P) (w := w) (K := K) rfl rfl rfl hr.units) (pe_fld (pv 0) rfl) (pv 4) (fun _ _ => rfl))))))))), ?_⟩
  refine ls_start [none] rfl ?_
  dsimp only [cxOf, List.map, List.cons_append, List.nil_append]
  unfold LEnd
  refine ls_ent ent_open ?_
  unfold gvRows
  kaf_pre
  refine inw_dn (i := 2) rfl hkd.symm hnk (askK_depth p a ks) ?_
  kaf_pre
  cases hg : aget (knownOf ns) (.tup (askK p a ks)) with
  | some i =>
    kaf_pre
    refine ixw_dn (i := 2) rfl hkd.symm hnk (askK_depth p a ks) hg ?_
    kaf_pre
    exact drp_ent ent_grp (q1 i (known_at hg))
  | none =>
    kaf_pre
    refine ifD (fun w0 => absurd w0 (by rw [List.length_map]; omega)) (fun w0 => ?_)
    kaf_pre
    refine setw_dn (i := 2) rfl hkd.symm hnk (askK_depth p a ks) (c := ns.length) (by rw [List.length_map]; rfl) (by rfl) hg (by omega) ?_
    kaf_pre
    refine appendw (m := 1) rfl (by rw [List.length_map]; exact Nat.lt_of_lt_of_le hl (by decide)) ?_
    kaf_pre
    refine ixw_dn (i := 2) rfl hkd.symm hnk (askK_depth p a ks) (c := ns.length) (by rw [aget_app, hg]; simp [aget_cons]) ?_
    kaf_pre
    refine drp_ent ?_ (q2 hg)
    rw [show List.map Nd.toD ns ++ [.tuple [.str "ask", .str p, .int (a : Int), .tuple (ks.map natD)]] = (ns ++ [Nd.ask p a ks]).map Nd.toD by rw [List.map_append]; rfl, ← known_snoc]
    exact ent_grp
theorem new_Grove_node (T : Top K mg) {C : Addr} (G : G_Grove K mg C) : MCal P w K mg base CX0 1 C "node" ["self", "number"] (spM (cGNode P w K C)) := by
  refine G.d_node.mcal G.c.cl sc_Grove_node (fun ws M R h => ?_) (fun f cdv A outer s H E ws M R B hk hr h => ?_)
  · obtain ⟨g, nl, kn, size, ns, i, nd, rfl, _⟩ := h; rfl
  obtain ⟨g, nl, kn, size, ns, i, nd, rfl, rfl, e, q⟩ := h
  have hu := hu_of hr
  have cl := G.c.cl
  have no2 : NoAttr K C "nodes" := G.c.no _ (by simp)
  have l2 := gvF_nodes size nl kn
  have e' : (ns.map Nd.toD)[i]? = some nd.toD := by rw [List.getElem?_map, e]; rfl
  refine ⟨_, (pss_one (ps_ret (pe_ix (ix_GK (K := K) rfl hu) (pe_fld (pv 0) rfl) (pv 1) (fun _ _ => rfl)))), ?_⟩
  refine ls_start [] rfl ?_
  dsimp only [cxOf, List.map, List.cons_append, List.nil_append]
  unfold LEnd
  refine ls_ent ent_open ?_
  unfold gvRows
  kaf_pre
  exact drp_ent ent_grp q
theorem new_Grove_children (T : Top K mg) {C : Addr} (G : G_Grove K mg C) : MCal P w K mg base CX0 1 C "children" ["self", "number"] (spM (cGKids P w K C)) := by
  refine G.d_children.mcal G.c.cl sc_Grove_children (fun ws M R h => ?_) (fun f cdv A outer s H E ws M R B hk hr h => ?_)
  · obtain ⟨g, nl, kn, size, ns, i, nd, rfl, _⟩ := h; rfl
  obtain ⟨g, nl, kn, size, ns, i, nd, rfl, rfl, e, q⟩ := h
  have hu := hu_of hr
  have cl := G.c.cl
  have no2 : NoAttr K C "nodes" := G.c.no _ (by simp)
  have l2 := gvF_nodes size nl kn
  have e' : (ns.map Nd.toD)[i]? = some nd.toD := by rw [List.getElem?_map, e]; rfl
  refine ⟨_, (pss_cons (ps_set (i := 2) sc_Grove_children.nd rfl (Or.inl rfl) (pe_ix (ix_GK (K := K) rfl hu) (pe_fld (pv 0) rfl) (pv 1) (fun _ _ => rfl))) (pss_cons (ps_if (pt_cmpR (op_eqGK (K := K) rfl hr.units) (pe_ix (ix_GK (K := K) rfl hu) (pv 2) pe_int (fun _ _ => rfl)) pe_str (nomark _)) (pss_one (ps_ret (pe_tup pa_nil))) pss_nil) (pss_one (ps_ret (pe_ix (ix_GK (K := K) rfl hu) (pv 2) pe_int (fun _ _ => rfl)))))), ?_⟩
  refine ls_start [none] rfl ?_
  dsimp only [cxOf, List.map, List.cons_append, List.nil_append]
  unfold LEnd
  refine ls_ent ent_open ?_
  unfold gvRows
  kaf_pre
  cases nd with
  | val v =>
    unfold Nd.toD
    kaf_pre
    exact drp_ent ent_grp q
  | ask p a ks =>
    unfold Nd.toD
    kaf_pre
    exact drp_ent ent_grp q

theorem gvF_nonode {size : Nat} {nl kn : Addr} : (gvF size nl kn).lookup ("node" : Str) = none := gvF_no _ _ _ (by decide +kernel) (by decide +kernel) (by decide +kernel)
theorem gvF_nokids {size : Nat} {nl kn : Addr} : (gvF size nl kn).lookup ("children" : Str) = none := gvF_no _ _ _ (by decide +kernel) (by decide +kernel) (by decide +kernel)
theorem gvF_noask {size : Nat} {nl kn : Addr} : (gvF size nl kn).lookup ("ask" : Str) = none := gvF_no _ _ _ (by decide +kernel) (by decide +kernel) (by decide +kernel)
theorem new_trace (T : Top K mg) {C : Addr} (G : G_Grove K mg C) : Cal P w K mg base CX0 2 "trace" ["grove", "node", "world"] (spM (cTrace P w K C)) := by
  refine T.d_trace.mcal sc_trace (fun ws M R h => ?_) (fun f cdv A0 outer s H E ws M R B hk hr h => ?_)
  · obtain ⟨g, nl, kn, size, ns, i, wl, rfl, _⟩ := h; rfl
  obtain ⟨g, nl, kn, size, ns, i0, wl, rfl, rfl, hok, hi, hl, q⟩ := h
  have hu := hu_of hr
  have C_Grove_node := new_Grove_node (P := P) (w := w) (base := base) T G
  have nono := gvF_nonode (size := size) (nl := nl) (kn := kn)
  refine ⟨_, (pss_cons (ps_set (i := 3) sc_trace.nd rfl (Or.inl rfl) (pe_lst pa_nil)) (pss_cons (ps_set (i := 4) sc_trace.nd rfl (Or.inl rfl) (pv 1)) (pss_cons (ps_set (i := 5) sc_trace.nd rfl (Or.inl rfl) pe_int) (pss_one (ps_while PassesOwn.never (pt_val pe_bl) (pss_cons (ps_set (i := 6) sc_trace.nd rfl (Or.inl rfl) (pe_met C_Grove_node (hr.mono (by omega)) pass0 (pv 0) (pa_cons (pv 4) pa_nil))) (pss_cons (ps_if (pt_cmpR (op_eqGK (K := K) rfl hr.units) (pe_ix (ix_GK (K := K) rfl hu) (pv 6) pe_int (fun _ _ => rfl)) pe_str (nomark _)) (pss_one (ps_ret (pe_tup (pa_cons (pe_callTy (call_tupGK (K := K) rfl) (by rfl) T.m_tuple (by decide +kernel) (pa_cons (pv 3) pa_nil)) (pa_cons (pe_tup (pa_cons pe_str (pa_cons (pe_ix (ix_GK (K := K) rfl hu) (pv 6) pe_int (fun _ _ => rfl)) pa_nil))) pa_nil))))) pss_nil) (pss_cons (ps_set (i := 7) sc_trace.nd rfl (Or.inl rfl) (pe_ix (ix_GK (K := K) rfl hu) (pv 6) pe_int (fun _ _ => rfl))) (pss_cons (ps_if (pt_cmpR (op_eqGK (K := K) rfl hr.units) (pe_callB (call_lenGK (K := K) rfl) (by rfl) T.m_len (by decide +kernel) (pa_cons (pv 7) pa_nil)) pe_int (nomark _)) (pss_one (ps_ret (pe_tup (pa_cons (pe_callTy (call_tupGK (K := K) rfl) (by rfl) T.m_tuple (by decide +kernel) (pa_cons (pv 3) pa_nil)) (pa_cons (pe_tup (pa_cons pe_str (pa_cons (pe_ix (ix_GK (K := K) rfl hu) (pv 6) pe_int (fun _ _ => rfl)) (pa_cons (pe_ix (ix_GK (K := K) rfl hu) (pv 6) pe_int (fun _ _ => rfl)) pa_nil)))) pa_nil))))) pss_nil) (pss_cons (ps_if (pt_cmpR op_ge (pv 5) (pe_callB (call_lenGK (K := K) rfl) (by rfl) T.m_len (by decide +kernel) (pa_cons (pv 2) pa_nil)) (nomark _)) (pss_one (ps_ret (pe_tup (pa_cons (pe_callTy (call_tupGK (K := K) rfl) (by rfl) T.m_tuple (by decide +kernel) (pa_cons (pv 3) pa_nil)) (pa_cons (pe_tup (pa_cons pe_str (pa_cons (pe_ix (ix_GK (K := K) rfl hu) (pv 6) pe_int (fun _ _ => rfl)) (pa_cons (pe_ix (ix_GK (K := K) rfl hu) (pv 6) pe_int (fun _ _ => rfl)) pa_nil)))) pa_nil))))) pss_nil) (pss_cons (ps_set (i := 8) sc_trace.nd rfl (Or.inl rfl) (pe_op op_mod (pe_ix (ix_GK (K := K) rfl hu) (pv 2) (pv 5) (fun _ _ => rfl)) (pe_callB (call_lenGK (K := K) rfl) (by rfl) T.m_len (by decide +kernel) (pa_cons (pv 7) pa_nil)))) (pss_cons (ps_expr (pe_bm PySem.F.plainAttrs_list PySem.F.slot_list_append PySem.F.type_list_append mt_append (pv 3) (pa_cons (pe_tup (pa_cons (pe_ix (ix_GK (K := K) rfl hu) (pv 6) pe_int (fun _ _ => rfl)) (pa_cons (pe_ix (ix_GK (K := K) rfl hu) (pv 6) pe_int (fun _ _ => rfl)) (pa_cons (pv 8) pa_nil)))) pa_nil))) (pss_cons (ps_set (i := 4) sc_trace.nd rfl (Or.inl rfl) (pe_ix (ix_GK (K := K) rfl hu) (pv 7) (pv 8) (fun _ _ => rfl))) (pss_one (ps_aug (i := 5) sc_trace.nd rfl (Or.inl rfl) pe_int ip_add))))))))))))))), ?_⟩
  refine ls_start [none, none, none, none, none, none] rfl ?_
  dsimp only [cxOf, List.map, List.cons_append, List.nil_append]
  unfold LEnd
  kaf_pre
  rename_i S
  refine l_while (fun m e M => ∃ (pre : List St3) (i u : Nat), m = wl.length - u ∧ e = [some (rf g), some (.int (i0 : Int)), some (.tuple (wl.map .int)), some (rf S), some (.int (i : Int)), some (.int (u : Int)), none, none, none] ∧ M = [lstR S (pre.map st3D), gvR P w K C g nl kn size ns] ∧ i < ns.length ∧ u ≤ wl.length ∧ pre.length = u ∧ down ns wl i0 = (pre ++ (down ns (wl.drop u) i).1, (down ns (wl.drop u) i).2)) wl.length
    ⟨_, by kas_types, _, fun _ _ s => s, [], i0, 0, rfl, rfl, rfl, hi, Nat.zero_le _, rfl, by simp⟩ (fun m e M hW => ?_)
  obtain ⟨pre, i, u, rfl, rfl, rfl, hi', hu', hpre, hdn⟩ := hW
  have e : ns[i]? = some ns[i] := List.getElem?_eq_getElem hi'
  generalize ns[i] = nd at e
  kaf_pre
  refine gnodec (by kas_ty) rfl e ?_
  cases nd with
  | val vv =>
    have hd : down ns wl i0 = (pre, .ends vv) := by rw [hdn, down_val e]; simp
    unfold Nd.toD
    kaf_pre
    exact drp1 1 rfl (by rw [hd] at q; exact q)
  | ask p a ks =>
    unfold Nd.toD
    kaf_pre
    refine ifD (fun w0 => ?_) (fun w0 => ?_)
    · have hk : ks = [] := by
        cases ks with
        | nil => rfl
        | cons _ _ => exact absurd w0 (by simp; omega)
      subst hk
      have hd : down ns wl i0 = (pre, .stops p a) := by rw [hdn, down_stop e]; simp
      kaf_pre
      exact drp1 1 rfl (by rw [hd] at q; exact q)
    · have hk : 0 < ks.length := by
        cases ks with
        | nil => exact absurd rfl w0
        | cons _ _ => simp
      kaf_pre
      refine ifD (fun w1 => ?_) (fun w1 => ?_)
      · rw [List.length_map] at w1
        have hd : down ns wl i0 = (pre, .waits p a) := by
          rw [hdn, List.drop_of_length_le (by omega), down_wait e hk]; simp
        kaf_pre
        exact drp1 1 rfl (by rw [hd] at q; exact q)
      · rw [List.length_map] at w1
        have hul : u < wl.length := by omega
        have ew : wl[u]? = some wl[u] := List.getElem?_eq_getElem hul
        have edrop : wl.drop u = wl[u] :: wl.drop (u + 1) := List.drop_eq_getElem_cons hul
        generalize wl[u] = wu at ew edrop
        have hkl : (0 : Int) < (((ks.map natD).length : Nat) : Int) := by rw [List.length_map]; omega
        obtain ⟨j, hj, hjl⟩ := mod_lt wu (n := (ks.map natD).length) (by rw [List.length_map]; exact hk)
        have ew' : (wl.map PyData.int)[u]? = some (.int wu) := by rw [List.getElem?_map, ew]; rfl
        have hjl' : j < ks.length := by rw [List.length_map] at hjl; exact hjl
        have ek : ks[j]? = some ks[j] := List.getElem?_eq_getElem hjl'
        have ek' : (ks.map natD)[j]? = some (.int (ks[j] : Int)) := by rw [List.getElem?_map, ek]; rfl
        have hus : (pre.map st3D).length < sizeLine := by rw [List.length_map]; exact small1000 (by omega)
        have hkid : ks[j] < ns.length := Nat.lt_trans (hok.wf i p a ks e _ (List.getElem_mem hjl')) hi'
        kaf_pre
        rw [hj]
        kaf_pre
        rw [show (u : Int) + 1 = ((u + 1 : Nat) : Int) by omega]
        refine ⟨_, ?ev, _, fun _ _ s => s, _, ?lt, pre ++ [(p, a, j)], ks[j], u + 1, rfl, rfl, by rw [List.map_append]; rfl, hkid, by omega, by simp [hpre], ?_⟩
        case ev => kas_types
        case lt => omega
        rw [hdn, edrop, down_go e (by rw [← hj, List.length_map]) ek]
        simp

theorem new_least_world (T : Top K mg) {C : Addr} (G : G_Grove K mg C) : Cal P w K mg base CX0 2 "least_world" ["grove", "node", "names"] (spM (cLeast P w K C)) := by
  refine T.d_least_world.mcal sc_least_world (fun ws M R h => ?_) (fun f cdv A0 outer s H E ws M R B hk hr h => ?_)
  · obtain ⟨g, nl, kn, size, ns, i, nm, rfl, _⟩ := h; rfl
  obtain ⟨g, nl, kn, size, ns, node, nm, rfl, rfl, hok, hi, hl, hnm, q1, q2⟩ := h
  have hu := hu_of hr
  have C_Grove_node := new_Grove_node (P := P) (w := w) (base := base) T G
  have C_Grove_children := new_Grove_children (P := P) (w := w) (base := base) T G
  have nono := gvF_nonode (size := size) (nl := nl) (kn := kn)
  have noki := gvF_nokids (size := size) (nl := nl) (kn := kn)
  refine ⟨_, (pss_cons (ps_set (i := 3) sc_least_world.nd rfl (Or.inl rfl) (pe_disp (pps_cons (pv 1) pe_bl pps_nil) (by rfl) (by rfl) (fun z => by cases z) (by decide))) (pss_cons (ps_set (i := 4) sc_least_world.nd rfl (Or.inl rfl) (pe_lst (pa_cons (pe_tup (pa_cons (pe_tup pa_nil) (pa_cons (pv 1) pa_nil))) pa_nil))) (pss_cons (ps_while PassesOwn.never (pt_cmpR op_gt (pe_callB (call_lenGK (K := K) rfl) (by rfl) T.m_len (by decide +kernel) (pa_cons (pv 4) pa_nil)) pe_int (nomark _)) (pss_cons (ps_set (i := 5) sc_least_world.nd rfl (Or.inl rfl) (pe_lst pa_nil)) (pss_cons (ps_for PassesOwn.never rfl (pi_seqK (K := K) rfl (pv 4)) (pg_tupK (K := K) (n := 2) rfl rfl (pgs_cons (pg_name (i := 6) sc_least_world.nd rfl (Or.inl rfl)) (pgs_cons (pg_name (i := 7) sc_least_world.nd rfl (Or.inl rfl)) pgs_nil))) (pss_cons (ps_set (i := 8) sc_least_world.nd rfl (Or.inl rfl) (pe_met C_Grove_node (hr.mono (by omega)) pass0 (pv 0) (pa_cons (pv 7) pa_nil))) (pss_cons (ps_if (PW.pt (pw_and (pt_cmpR (op_eqGK (K := K) rfl hr.units) (pe_ix (ix_GK (K := K) rfl hu) (pv 8) pe_int (fun _ _ => rfl)) pe_str (nomark _)) (pw_and1 (pt_cmpR (op_in2K (K := K) rfl hr.u65) (pe_ix (ix_GK (K := K) rfl hu) (pv 8) pe_int (fun _ _ => rfl)) (pv 2) (by rfl))))) (pss_one (ps_ret (pe_tup (pa_cons (pv 6) (pa_cons (pv 7) pa_nil))))) pss_nil) (pss_cons (ps_set (i := 9) sc_least_world.nd rfl (Or.inl rfl) (pe_met C_Grove_children (hr.mono (by omega)) pass0 (pv 0) (pa_cons (pv 7) pa_nil))) (pss_one (ps_for PassesOwn.never rfl (pi_range1 (by rfl) T.m_range (pa_cons (pe_callB (call_lenGK (K := K) rfl) (by rfl) T.m_len (by decide +kernel) (pa_cons (pv 9) pa_nil)) pa_nil)) (pg_name (i := 10) sc_least_world.nd rfl (Or.inl rfl)) (pss_cons (ps_set (i := 11) sc_least_world.nd rfl (Or.inl rfl) (pe_ix (ix_GK (K := K) rfl hu) (pv 9) (pv 10) (fun _ _ => rfl))) (pss_one (ps_if (pt_cmpR (op_notIn2K (K := K) rfl hr.u65) (pv 11) (pv 3) (by rfl)) (pss_cons (ps_asg pe_bl (pg_sub (pv 3) (pv 11) (set_G hu))) (pss_one (ps_expr (pe_bm PySem.F.plainAttrs_list PySem.F.slot_list_append PySem.F.type_list_append mt_append (pv 5) (pa_cons (pe_tup (pa_cons (pe_op (op_addGK (K := K) rfl) (pv 6) (pe_tup (pa_cons (pv 10) pa_nil))) (pa_cons (pv 11) pa_nil))) pa_nil))))) pss_nil))))))))) (pss_one (ps_set (i := 4) sc_least_world.nd rfl (Or.inl rfl) (pv 5)))))) (pss_one (ps_ret (pe_tup (pa_cons pe_str (pa_cons (pe_callTy (call_tupGK (K := K) rfl) (by rfl) T.m_tuple (by decide +kernel) (pa_cons (pe_callB (call_sorted3K (K := K) rfl rfl hr.u65) (by rfl) T.m_sorted (by decide +kernel) (pa_cons (pv 3) pa_nil)) pa_nil)) pa_nil)))))))), ?_⟩
  refine ls_start [none, none, none, none, none, none, none, none, none] rfl ?_
  dsimp only [cxOf, List.map, List.cons_append, List.nil_append]
  unfold LEnd
  kaf_pre
  refine l_disp1 (fun D => ?_)
  kaf_pre
  refine ⟨nk node, 0, rfl, rfl, ?_⟩
  kaf_pre
  rename_i R0
  refine l_while (fun m e M => ∃ (met : List Nat) (row : List Ent2) (k : Nat) (Rr : Addr), m = 2 * (ns.length - met.length) + (if row = [] then 0 else 1) ∧ e = [some (rf g), some (.int (node : Int)), some (namesD nm), some (rf D), some (rf Rr), none, none, none, none, none, none, none] ∧ M = [lstR Rr (row.map entD), dkR D (metD met), gvR P w K C g nl kn size ns] ∧
      MetOk ns node met row k ∧ Clo ns met (row.map (·.2)) ∧ row.length ≤ met.length ∧ (row ≠ [] → k < met.length) ∧ (∀ wy, bst nm ns node = some wy → Aim nm ns wy met row k)) (2 * (ns.length - 1) + 1)
    ⟨_, by kas_types, _, fun _ _ s => s, [node], [([], node)], 0, R0, by simp, rfl, rfl, ⟨by simp, fun x hx => by rw [List.mem_singleton.mp hx]; exact .refl _, fun e he => by rw [List.mem_singleton.mp he]; exact ⟨by simp, rfl, .nil _⟩, by simp⟩, fun x hx ho => absurd hx (by simpa using ho), by simp, fun _ => by simp, fun wy hwy => ⟨fun x hx r er => ?a1, [], [], node, wy, [], rfl, hwy, rfl, fun e he => by cases he⟩⟩ (fun m e M hW => ?_)
  case a1 =>
    rw [List.mem_singleton.mp hx, hwy] at er
    cases er; omega
  obtain ⟨met, row, k, Rr, rfl, rfl, rfl, hm, hc, hrl, hkm, haim⟩ := hW
  have hmlt : ∀ x ∈ met, x < ns.length := fun x hx => reach_lt hok hi (hm.re x hx)
  have hml := nodup_lt hm.nd hmlt
  kaf_pre
  rw [List.length_map]
  refine ifD (fun h0 => ?_) (fun h0 => ?_)
  · have hrow : row ≠ [] := fun z => by subst z; simp at h0
    rw [if_neg hrow]
    have hk := hkm hrow
    kaf_pre
    rename_i F
    refine l_forL ?_
    kaf_pre
    refine forw_lst (ds := row.map entD) (fun j e M => ∃ (met' : List Nat) (fur : List Ent2), scanB nm ns (row.take j) (met, []) = .inr (met', fur) ∧ e = [some (rf g), some (.int (node : Int)), some (namesD nm), some (rf D), some (rf Rr), some (rf F), none, none, none, none, none, none] ∧ M = [lstR F (fur.map entD), lstR Rr (row.map entD), dkR D (metD met'), gvR P w K C g nl kn size ns] ∧ (∀ x ∈ met, x ∈ met') ∧ met'.Nodup ∧ (∀ x ∈ met', x < ns.length) ∧ fur.length + met.length = met'.length)
      ⟨_, by kas_types, _, fun _ _ s => s, met, [], rfl, rfl, rfl, fun x hx => hx, hm.nd, hmlt, by simp⟩ (fun j e M h => ?_) (fun j d e M hd h => ?_) (fun e M h => ?_)
    · obtain ⟨_, _, _, _, rfl, _⟩ := h
      exact ⟨1, rfl⟩
    · obtain ⟨met', fur, hs, rfl, rfl, hsub, hnd, hlt, hlen⟩ := h
      rw [List.getElem?_map] at hd
      obtain ⟨e0, he0, rfl⟩ := Option.map_eq_some_iff.mp hd
      obtain ⟨wl, x⟩ := e0
      have hmem := List.mem_of_getElem? he0
      have hfu := hm.fu _ hmem
      simp only at hfu
      have hx := hmlt x hfu.1
      have e : ns[x]? = some ns[x] := List.getElem?_eq_getElem hx
      have hmet' := nodup_lt hnd hlt
      have hsnoc := scanB_snoc_inr (e := ((wl, x) : Ent2)) hs
      have htk : row.take (j + 1) = row.take j ++ [(wl, x)] := by rw [List.take_add_one, he0]; rfl
      have hnt : tgt nm ns x = false → kidsOf ns x = (ns[x]).kids := fun _ => by unfold kidsOf; rw [e]; cases ns[x] <;> rfl
      unfold entD
      kaf_pre
      refine gnodec (by kas_ty) rfl e ?_
      have hkl : ∀ k ∈ (ns[x]).kids, k < ns.length := fun k hk => by
        have : k ∈ kidsOf ns x := by unfold kidsOf; rw [e]; cases hn : ns[x] with
          | val v => rw [hn] at hk; cases hk
          | ask p a ks => rw [hn] at hk; exact hk
        have := kids_lt hok this
        omega
      have hk4 : (ns[x]).kids.length ≤ 4 := by
        cases hn : ns[x] with
        | val v => simp [Nd.kids]
        | ask p a ks => rw [hn] at e; exact (hok.st x p a ks e).2
      kaf_suf
      refine ls_nx (fun e M => tgt nm ns x = false ∧ ∃ o, e = [some (rf g), some (.int (node : Int)), some (namesD nm), some (rf D), some (rf Rr), some (rf F), some (.tuple (wl.map natD)), some (.int (x : Int)), o, none, none, none] ∧ M = [lstR F (fur.map entD), lstR Rr (row.map entD), dkR D (metD met'), gvR P w K C g nl kn size ns]) ?_ (fun e1 M1 h1 => ?_)
      · cases hn : ns[x] with
        | val v =>
          have ht : tgt nm ns x = false := by unfold tgt; rw [e, hn]
          unfold Nd.toD
          kaf_pre
          exact ⟨ht, _, rfl, rfl⟩
        | ask p a ks =>
          rw [hn] at e
          have hp := (hok.st x p a ks e).1
          unfold Nd.toD namesD
          kaf_pre
          refine inw_tup (okd_str hp) (okds_strs hnm.2) ?_
          rw [in_strs hnm.2 hp]
          kaf_pre
          refine ifD (fun hin => ?_) (fun hin => ?_)
          · have ht : tgt nm ns x = true := by unfold tgt; rw [e]; simpa using hin
            rw [if_pos ht] at hsnoc
            kaf_pre
            refine drp1 3 rfl (q1 wl x ?_ hfu.2.2 ht)
            obtain ⟨wy, hwy⟩ := Option.ne_none_iff_exists'.mp (bst_reach hok (hm.re x hfu.1) (by rw [bst_tgt hok ht]; exact fun z => by cases z))
            have hsc : scanB nm ns row (met, []) = .inl (wl, x) := by
              rw [← List.take_append_drop (j + 1) row, htk]
              exact scanB_app hsnoc
            rcases scan_aim hok (haim wy hwy) (fun e he => ⟨(hm.fu e he).1, (hm.fu e he).2.1⟩) with ⟨x', h1, _, _⟩ | ⟨s', h1, _⟩
            · rw [hsc] at h1
              cases h1
              exact hwy
            · rw [hsc] at h1; cases h1
          · kaf_pre
            exact ⟨by unfold tgt; rw [e]; simpa using hin, _, rfl, rfl⟩
      · obtain ⟨ht, o, rfl, rfl⟩ := h1
        rw [if_neg (by rw [ht]; decide)] at hsnoc
        have hks := hnt ht
        generalize hgk : (ns[x]).kids = ks at hks hkl hk4
        rw [hks] at hsnoc
        have e' : ns[x]? = some ns[x] := e
        kaf_pre
        refine gkidsc (by kas_ty) rfl e ?_
        rw [hgk]
        kaf_pre
        refine forw_rng (k := ks.length) (by rw [List.length_map]) (by omega) (fun a e M => ∃ (met2 : List Nat) (fur2 : List Ent2), klB wl (ks.take a) 0 (met', fur) = (met2, fur2) ∧ e = [some (rf g), some (.int (node : Int)), some (namesD nm), some (rf D), some (rf Rr), some (rf F), some (.tuple (wl.map natD)), some (.int (x : Int)), none, some (.tuple (ks.map natD)), none, none] ∧ M = [lstR F (fur2.map entD), lstR Rr (row.map entD), dkR D (metD met2), gvR P w K C g nl kn size ns] ∧ met2.Nodup ∧ (∀ y ∈ met2, y < ns.length) ∧ (∀ y ∈ met', y ∈ met2) ∧ fur2.length + met.length = met2.length)
          ⟨_, by kas_types, _, fun _ _ s => s, met', fur, rfl, rfl, rfl, hnd, hlt, fun y hy => hy, hlen⟩ (fun a e M ha h => ?_) (fun e M h => ?_)
        · obtain ⟨met2, fur2, hkb, rfl, rfl, hnd2, hlt2, hsub2, hlen2⟩ := h
          have hml2 := nodup_lt hnd2 hlt2
          have ec : ks[a]? = some ks[a] := List.getElem?_eq_getElem ha
          have hc1 := hkl _ (List.getElem_mem ha)
          have hsn := klB_snoc wl (ks.take a) ks[a] 0 (met', fur)
          rw [hkb, List.length_take, Nat.min_eq_left (Nat.le_of_lt ha), Nat.zero_add, klB_cons] at hsn
          have htk2 : ks.take (a + 1) = ks.take a ++ [ks[a]] := by rw [List.take_add_one, ec]; rfl
          generalize ks[a] = cc at ec hc1 hsn htk2
          have ec' : (ks.map natD)[a]? = some (.int (cc : Int)) := by rw [List.getElem?_map, ec]; rfl
          kaf_pre
          rw [metD_get']
          refine iteN2 (fun hni => ?_) (fun hni => ?_)
          · rw [if_neg hni] at hsn
            kaf_pre
            refine setw_dk (k := nk cc) (m := 2) rfl rfl (by rw [metD_len]; omega) ?_
            rw [metD_put hni]
            kaf_pre
            refine addw_tup (by rw [List.length_map, hfu.2.1]; simp; omega) ?_
            kaf_pre
            refine appendw (m := 0) rfl (small1000 (by rw [List.length_map]; omega)) ?_
            refine ⟨_, ?ev, _, fun _ _ s => s, met2 ++ [cc], fur2 ++ [(wl ++ [a], cc)], ?_, rfl, ?_, ?_, ?_, ?_, ?_⟩
            case ev => kas_types
            · rw [htk2, hsn]; rfl
            · rw [List.map_append]
              unfold entD
              simp only [List.map_cons, List.map_nil, List.map_append]
              rfl
            · rw [List.nodup_append]
              exact ⟨hnd2, by simp, fun u hu' v hv z => hni (by rw [List.mem_singleton.mp hv] at z; rw [← z]; exact hu')⟩
            · intro y hy
              rcases List.mem_append.mp hy with hy | hy
              · exact hlt2 y hy
              · rw [List.mem_singleton.mp hy]; exact hc1
            · exact fun y hy => List.mem_append.mpr (.inl (hsub2 y hy))
            · simp only [List.length_append, List.length_cons, List.length_nil]; omega
          · have hni : cc ∈ met2 := hni
            rw [if_pos hni] at hsn
            kaf_pre
            refine ⟨_, ?ev, _, fun _ _ s => s, met2, fur2, ?_, rfl, rfl, hnd2, hlt2, hsub2, hlen2⟩
            case ev => kas_types
            rw [htk2, hsn]; rfl
        · obtain ⟨met2, fur2, hkb, rfl, rfl, hnd2, hlt2, hsub2, hlen2⟩ := h
          rw [List.take_length] at hkb
          refine ⟨_, ?ev, _, fun _ _ s => s, met2, fur2, ?_, rfl, rfl, fun y hy => hsub2 y (hsub y hy), hnd2, hlt2, hlen2⟩
          case ev => kas_types
          rw [htk, hsnoc, hkb]
    · obtain ⟨met', fur, hs, rfl, rfl, hsub, hnd, hlt, hlen⟩ := h
      rw [List.length_map, List.take_length] at hs
      obtain ⟨m1, m2, m3⟩ := scan_met (s := (met, [])) (k := k) ⟨hm.nd, hm.re, (fun e he => by cases he), hm.me⟩ hm.fu (by simpa using hc) hs
      have hml' := nodup_lt hnd hlt
      kaf_pre
      refine ⟨_, ?ev, _, Ent.sub (by simp), _, ?lt, met', fur, k + 1, F, rfl, rfl, rfl, m1, m2, by omega, fun z => ?_, fun wy hwy => ?_⟩
      case ev => kas_types
      case lt =>
        split
        · omega
        · rename_i z
          have : 0 < fur.length := by cases fur with
            | nil => exact absurd rfl z
            | cons _ _ => simp
          omega
      · have : 0 < fur.length := by cases fur with
          | nil => exact absurd rfl z
          | cons _ _ => simp
        omega
      · rcases scan_aim hok (haim wy hwy) (fun e he => ⟨(hm.fu e he).1, (hm.fu e he).2.1⟩) with ⟨x', h1, _, _⟩ | ⟨s', h1, h2⟩
        · rw [hs] at h1; cases h1
        · rw [hs] at h1
          cases h1
          exact h2
  · have hrow : row = [] := by
      cases row with
      | nil => rfl
      | cons _ _ => exact absurd (by simp) h0
    subst hrow
    have hb : bst nm ns node = none := by
      cases hbn : bst nm ns node with
      | none => rfl
      | some wy =>
        obtain ⟨_, pre, w1, x1, r1, post, e1, _⟩ := haim wy hbn
        cases pre <;> cases e1
    kaf_pre
    refine sortw_dkD (m := 1) (.inl rfl) ?_ ?_ (by rw [metD_len]; omega) (fun es hp ha S => ?_)
    · rw [metD_keys]; exact ints_alike _
    · rw [metD_keys]; exact ints_sortable _
    kaf_pre
    refine drp1 3 rfl (q2 met es hb hm.nd (clo_reach hm.me hm.re fun x hx k hk => hc x hx (by simp) k hk) ?_ ha)
    rw [metD_keys, List.map_map] at hp
    exact hp

def cInt : Con' := fun ws M R => ∃ i : Int, ws = [.int i] ∧ M = [] ∧ R (.bool true) []
theorem new_law_is_int (T : Top K mg) : Cal P w K mg base CX0 1 "_law_is_int" ["thing"] (spM cInt) := by
  refine T.d_law_is_int.mcal sc_law_is_int (fun ws M R h => ?_) (fun f cdv A0 outer s H E ws M R B hk hr h => ?_)
  · obtain ⟨i, rfl, _⟩ := h; rfl
  obtain ⟨i, rfl, rfl, q⟩ := h
  have hu := hu_of hr
  refine ⟨_, (pss_one (ps_ret (pe_and (pe_callB (call_isiGK (K := K) rfl) (by rfl) T.m_isinstance (by decide +kernel) (pa_cons (pv 0) (pa_cons (pe_bltn (v := .ty "int") (u := .type "int") (by rfl) T.m_int (by decide +kernel) rfl) pa_nil))) (pe_one (pe_not (pe_callB (call_isiGK (K := K) rfl) (by rfl) T.m_isinstance (by decide +kernel) (pa_cons (pv 0) (pa_cons (pe_bltn (v := .ty "bool") (u := .type "bool") (by rfl) T.m_bool (by decide +kernel) rfl) pa_nil)))))))), ?_⟩
  refine ls_start [] rfl ?_
  dsimp only [cxOf, List.map, List.cons_append, List.nil_append]
  unfold LEnd
  kaf_pre
  exact drp_nil q
theorem intc {M : Mem} {R : W → Mem → Prop} {i : Int} (q : R (.bool true) M) : LCall cInt [.int i] M R := call0 ⟨i, rfl, rfl, q⟩
def cInts : Con' := fun ws M R => ∃ js : List Int, ws = [.tuple (js.map .int)] ∧ M = [] ∧ js.length ≤ 1000 ∧ R (.bool true) []
theorem new_law_is_ints (T : Top K mg) : Cal P w K mg base CX0 2 "_law_is_ints" ["row"] (spM cInts) := by
  refine T.d_law_is_ints.mcal sc_law_is_ints (fun ws M R h => ?_) (fun f cdv A0 outer s H E ws M R B hk hr h => ?_)
  · obtain ⟨i, rfl, _⟩ := h; rfl
  obtain ⟨js, rfl, rfl, hl, q⟩ := h
  have hu := hu_of hr
  have C_law_is_int := new_law_is_int (P := P) (w := w) (base := base) T
  refine ⟨_, (pss_one (ps_ret (pe_and (pe_callB (call_isiGK (K := K) rfl) (by rfl) T.m_isinstance (by decide +kernel) (pa_cons (pv 0) (pa_cons (pe_bltn (v := .ty "tuple") (u := .type "tuple") (by rfl) T.m_tuple (by decide +kernel) rfl) pa_nil))) (pe_one (pe_callB (cr_all rfl) (by rfl) T.m_all (by decide +kernel) (pa_cons (pe_lc (own := [("part", 1)]) (g := gName 1) rfl sc_law_is_ints.nd (pi_seqK (K := K) rfl (pv 0)) (blkOk_by (N := N_law_is_ints) (sc := defScope s_law_is_ints) (by decide +kernel)) (fun _ _ _ _ _ => pg_name (i := 1) sc_law_is_ints.nd rfl (Or.inl rfl)) (fun _ _ _ _ _ => pts_nil) (fun _ _ _ _ _ => (pe_cal C_law_is_int (hr.mono (by omega)) (by rfl) pass0 (pa_cons (pv 1) pa_nil)))) pa_nil)))))), ?_⟩
  refine ls_start [none] rfl ?_
  dsimp only [cxOf, List.map, List.cons_append, List.nil_append]
  unfold LEnd
  kaf_pre
  refine l_lcT ?_
  kaf_pre
  refine lcw_tup (fun D i M => M = [lstR D ((List.replicate i true).map .bool)]) (fun D => rfl) (fun D i d M hd h => ?_) (fun D M h => ?_)
  · subst h
    rw [List.getElem?_map] at hd
    obtain ⟨z, hz, rfl⟩ := Option.map_eq_some_iff.mp hd
    have hi := (List.getElem?_eq_some_iff.mp hz).1
    unfold LElt
    kaf_pre
    refine intc ?_
    kaf_pre
    refine ⟨0, _, rfl, small1000 (by rw [List.length_map, List.length_replicate]; omega), ?_⟩
    rw [List.replicate_succ', List.map_append]
    rfl
  · subst h
    kaf_pre
    refine allw (by kas_ty) ?_
    have : ((List.replicate (List.length (List.map PyData.int js)) true).all id) = true := by simp [List.all_replicate]
    rw [this]
    exact drp_nil q
theorem intsc {M : Mem} {R : W → Mem → Prop} {js : List Int} (hl : js.length ≤ 1000) (q : R (.bool true) M) : LCall cInts [.tuple (js.map .int)] M R := call0 ⟨js, rfl, rfl, hl, q⟩
theorem wy_get {ys : List Int} {k : Nat} (h : k < ys.length) : aget (mkv nk PyData.int (idxOf ys)) (nk k) = some (.int ys[k]) := by
  rw [aget_mkv nk_inj, idx_get, List.getElem?_eq_getElem h]; rfl
theorem new_law_ways (T : Top K mg) : Cal P w K mg base CX0 1 "_law_ways" ["wood", "kids"] (spM cWays) := by
  refine T.d_law_ways.mcal sc_law_ways (fun ws M R h => ?_) (fun f cdv A0 outer s H E ws M R B hk hr h => ?_)
  · obtain ⟨A, ys, L, ks, b, rfl, _⟩ := h; rfl
  obtain ⟨A, ys, L, ks, b, rfl, rfl, hks, hkl, q⟩ := h
  have hu := hu_of hr
  refine ⟨_, (pss_one (ps_ret (pe_callB (cr_sum rfl) (by rfl) T.m_sum (by decide +kernel) (pa_cons (pe_lc (own := [("kid", 2)]) (g := gName 2) rfl sc_law_ways.nd (pi_seqK (K := K) rfl (pv 1)) (blkOk_by (N := N_law_ways) (sc := defScope s_law_ways) (by decide +kernel)) (fun _ _ _ _ _ => pg_name (i := 2) sc_law_ways.nd rfl (Or.inl rfl)) (fun _ _ _ _ _ => pts_nil) (fun _ _ _ _ _ => (pe_ix (ix_GK (K := K) rfl hu) (pe_ix (ix_GK (K := K) rfl hu) (pv 0) pe_int (fun _ _ => rfl)) (pv 2) (fun _ _ => rfl)))) pa_nil)))), ?_⟩
  refine ls_start [none] rfl ?_
  dsimp only [cxOf, List.map, List.cons_append, List.nil_append]
  unfold LEnd
  cases b with
  | true =>
    simp only [if_true, List.append_nil] at q ⊢
    kaf_pre
    refine l_lcT ?_
    kaf_pre
    refine lcw_tup (fun D i M => ∃ zs : List Int, zs.length = i ∧ M = [lstR D (zs.map .int), lstR A.wd (wdF A), wyR A ys]) (fun D => ⟨[], rfl, rfl⟩) (fun D i d M hd h => ?_) (fun D M h => ?_)
    · obtain ⟨zs, hz, rfl⟩ := h
      rw [List.getElem?_map] at hd
      obtain ⟨kk, ek, rfl⟩ := Option.map_eq_some_iff.mp hd
      have hkk := hks kk (List.mem_of_getElem? ek)
      have hi := (List.getElem?_eq_some_iff.mp ek).1
      unfold LElt natD wdF
      kaf_pre
      refine ixw_dk (m := 2) (k := nk kk) (.inl rfl) rfl (wy_get hkk) ?_
      kaf_pre
      refine ⟨0, _, rfl, small1000 (by rw [List.length_map]; omega), zs ++ [ys[kk]], by simp [hz], ?_⟩
      rw [List.map_append]; rfl
    · obtain ⟨zs, hz, rfl⟩ := h
      kaf_pre
      refine sumw (by kas_ty) ?_
      exact drp2 1 2 (by decide) rfl rfl (q _)
  | false =>
    simp only [Bool.false_eq_true, if_false, List.cons_append, List.nil_append] at q ⊢
    kaf_pre
    refine l_lcL ?_
    kaf_pre
    refine lcw_lst (m := 2) (ds := ks.map natD) (fun D i M => ∃ zs : List Int, zs.length = i ∧ M = [lstR D (zs.map .int), lstR A.wd (wdF A), wyR A ys, lstR L (ks.map natD)]) (fun D => ⟨[], rfl, rfl⟩) rfl (fun D i M h => ?_) (fun D i d M hd h => ?_) (fun D M h => ?_)
    · obtain ⟨zs, hz, rfl⟩ := h
      exact ⟨3, rfl⟩
    · obtain ⟨zs, hz, rfl⟩ := h
      rw [List.getElem?_map] at hd
      obtain ⟨kk, ek, rfl⟩ := Option.map_eq_some_iff.mp hd
      have hkk := hks kk (List.mem_of_getElem? ek)
      have hi := (List.getElem?_eq_some_iff.mp ek).1
      unfold LElt natD wdF
      kaf_pre
      refine ixw_dk (m := 2) (k := nk kk) (.inl rfl) rfl (wy_get hkk) ?_
      kaf_pre
      refine ⟨0, _, rfl, small1000 (by rw [List.length_map]; omega), zs ++ [ys[kk]], by simp [hz], ?_⟩
      rw [List.map_append]; rfl
    · obtain ⟨zs, hz, rfl⟩ := h
      kaf_pre
      refine sumw (by kas_ty) ?_
      exact drp3 1 2 3 (by decide) rfl rfl rfl (q _)
theorem waysT {M : Mem} {R : W → Mem → Prop} {i j : Nat} {A : Wd} {ys : List Int} {ks : List Nat} (ij : i ≠ j) (hm : M[i]? = some (lstR A.wd (wdF A))) (hm' : M[j]? = some (wyR A ys)) (hks : ∀ k ∈ ks, k < ys.length) (hl : ks.length ≤ 50) (q : ∀ z : Int, R (.int z) M) : LCall cWays [rf A.wd, .tuple (ks.map natD)] M R :=
  call2 i j ij hm hm' ⟨A, ys, 0, ks, true, rfl, rfl, hks, hl, fun z => by
    simp only [if_true, List.append_nil]
    rw [puts_same2 ij hm hm']; exact q z⟩
theorem puts_same3 {M : Mem} {i j k : Nat} {r s v : Res} (nd : [i, j, k].Nodup) (e : M[i]? = some r) (e' : M[j]? = some s) (e'' : M[k]? = some v) : puts (((M.set i emp).set j emp).set k emp) [i, j, k] [r, s, v] = M := by
  simp only [List.nodup_cons, List.mem_cons, List.not_mem_nil, or_false, not_or] at nd
  simp only [puts, List.nil_append]
  apply List.ext_getElem?
  intro n
  simp only [List.getElem?_set, List.length_set]
  have l1 := (List.getElem?_eq_some_iff.mp e).1
  have l2 := (List.getElem?_eq_some_iff.mp e').1
  have l3 := (List.getElem?_eq_some_iff.mp e'').1
  by_cases z3 : k = n
  · subst z3; simp [l3]; exact ((List.getElem?_eq_some_iff.mp e'').2).symm
  · by_cases z2 : j = n
    · subst z2; simp [z3, l2]; exact ((List.getElem?_eq_some_iff.mp e').2).symm
    · by_cases z1 : i = n
      · subst z1; simp [z3, z2, l1]; exact ((List.getElem?_eq_some_iff.mp e).2).symm
      · simp [z1, z2, z3]
theorem waysL {M : Mem} {R : W → Mem → Prop} {i j k : Nat} {A : Wd} {ys : List Int} {ks : List Nat} {L : Addr} (nd : [i, j, k].Nodup) (hm : M[i]? = some (lstR A.wd (wdF A))) (hm' : M[j]? = some (wyR A ys)) (hm'' : M[k]? = some (lstR L (ks.map natD))) (hks : ∀ k ∈ ks, k < ys.length) (hl : ks.length ≤ 50) (q : ∀ z : Int, R (.int z) M) : LCall cWays [rf A.wd, rf L] M R :=
  call3 i j k nd hm hm' hm'' ⟨A, ys, L, ks, false, rfl, rfl, hks, hl, fun z => by
    simp only [Bool.false_eq_true, if_false, List.cons_append, List.nil_append]
    rw [puts_same3 nd hm hm' hm'']; exact q z⟩

theorem ow_get {ns : List Nd} {i : Nat} : aget (mkv nk Nd.toD (idxOf ns)) (Sum.inl (i : Int)) = (ns[i]?).map Nd.toD := by
  have := aget_mkv (f := nk) (g := Nd.toD) nk_inj i (idxOf ns)
  rw [idx_get] at this
  exact this
theorem ow_in {ns : List Nd} {i : Nat} : (aget (mkv nk Nd.toD (idxOf ns)) (Sum.inl (i : Int))).isSome = decide (i < ns.length) := by
  rw [ow_get]
  by_cases h : i < ns.length
  · rw [List.getElem?_eq_getElem h, decide_eq_true h]; rfl
  · rw [List.getElem?_eq_none (by omega), decide_eq_false h]; rfl
theorem max_any (z : Int) : ∃ y : Int, (if z > 1 then z else 1) = y := ⟨_, rfl⟩
theorem new_law_add (T : Top K mg) {C : Addr} (G : G_Grove K mg C) : Cal P w K mg base CX0 2 "_law_add" ["wood", "p", "argument", "kids"] (spM (cAdd P w K C)) := by
  refine T.d_law_add.mcal sc_law_add (fun ws M R h => ?_) (fun f cdv A0 outer s H E ws M R B hk hr h => ?_)
  · obtain ⟨A, ns, ys, p, x, ks, rfl, _⟩ := h; rfl
  obtain ⟨A, ns, ys, p, x, ks, rfl, rfl, hok, hp, hks, hkl, hl, q⟩ := h
  have hu := hu_of hr
  have C_Grove_ask := new_Grove_ask (P := P) (w := w) (base := base) T G
  have C_law_ways := new_law_ways (P := P) (w := w) (base := base) T
  have noask := gvF_noask (size := A.size) (nl := A.nl) (kn := A.kn)
  have hly := hok.ly
  refine ⟨_, (pss_cons (ps_set (i := 4) sc_law_add.nd rfl (Or.inl rfl) (pe_met C_Grove_ask (hr.mono (by omega)) pass0 (pe_ix (ix_GK (K := K) rfl hu) (pv 0) pe_int (fun _ _ => rfl)) (pa_cons (pv 1) (pa_cons (pv 2) (pa_cons (pv 3) pa_nil))))) (pss_cons (ps_if (pt_cmpR (op_notIn2K (K := K) rfl hr.u65) (pv 4) (pe_ix (ix_GK (K := K) rfl hu) (pv 0) pe_int (fun _ _ => rfl)) (by rfl)) (pss_one (ps_expr (pe_bm PySem.F.plainAttrs_list PySem.F.slot_list_append PySem.F.type_list_append mt_append (pe_ix (ix_GK (K := K) rfl hu) (pv 0) pe_int (fun _ _ => rfl)) (pa_cons (pv 4) pa_nil)))) pss_nil) (pss_cons (ps_asg (pe_tup (pa_cons pe_str (pa_cons (pv 1) (pa_cons (pv 2) (pa_cons (pv 3) pa_nil))))) (pg_sub (pe_ix (ix_GK (K := K) rfl hu) (pv 0) pe_int (fun _ _ => rfl)) (pv 4) (set_G hu))) (pss_cons (ps_asg (pe_callB (call_max2 rfl) (by rfl) T.m_max (by decide +kernel) (pa_cons pe_int (pa_cons (pe_cal C_law_ways (hr.mono (by omega)) (by rfl) pass0 (pa_cons (pv 0) (pa_cons (pv 3) pa_nil))) pa_nil))) (pg_sub (pe_ix (ix_GK (K := K) rfl hu) (pv 0) pe_int (fun _ _ => rfl)) (pv 4) (set_G hu))) (pss_one (ps_ret (pv 4))))))), ?_⟩
  refine ls_start [none] rfl ?_
  dsimp only [cxOf, List.map, List.cons_append, List.nil_append]
  unfold LEnd
  refine ls_ent ent_open ?_
  unfold wdRows wdF
  kaf_pre
  refine gaskc (by kas_ty) (by omega) (fun i hi => ?_) (fun hn => ?_)
  · have hil := (List.getElem?_eq_some_iff.mp hi).1
    kaf_pre
    rw [ow_in, decide_eq_true hil]
    kaf_pre
    refine setw_dk (m := 2) (k := nk i) rfl rfl (by unfold mkv; rw [List.length_map, idx_len]; omega) ?_
    rw [show (PyData.tuple [.str "ask", .str p, .int (x : Int), .tuple (ks.map natD)]) = Nd.toD (.ask p x ks) from rfl, aput_mkv nk_inj, idx_put _ _ _ (by omega), if_pos hil, show ns.set i (.ask p x ks) = ns by
      apply List.ext_getElem?
      intro j
      rw [List.getElem?_set]
      by_cases z : i = j
      · subst z; rw [if_pos rfl, if_pos hil, hi]
      · rw [if_neg z]]
    kaf_pre
    refine waysT (i := 0) (j := 5) (by decide) rfl rfl (fun k hk => by rw [hly]; exact hks k hk) (by omega) (fun z => ?_)
    kaf_pre
    generalize (if z > 1 then z else 1) = y
    refine setw_dk (m := 5) (k := nk i) rfl rfl (by unfold mkv; rw [List.length_map, idx_len]; omega) ?_
    rw [aput_mkv nk_inj, idx_put _ _ _ (by omega), if_pos (by omega)]
    kaf_pre
    exact drp_ent ent_grp (q ns (ys.set i y) i ⟨hok.ok, hok.oo, hok.far, by rw [List.length_set]; exact hly⟩ (List.prefix_refl _) (by omega) hil hi)
  · kaf_pre
    rw [ow_in, decide_eq_false (Nat.lt_irrefl _)]
    kaf_pre
    refine appendw (m := 3) (ds := numsD ns.length) rfl (by rw [numsD_len]; exact small1000 (by omega)) ?_
    rw [← numsD_succ]
    kaf_pre
    refine setw_dk (m := 2) (k := nk ns.length) rfl rfl (by unfold mkv; rw [List.length_map, idx_len]; omega) ?_
    rw [show (PyData.tuple [.str "ask", .str p, .int (x : Int), .tuple (ks.map natD)]) = Nd.toD (.ask p x ks) from rfl, aput_mkv nk_inj, idx_put _ _ _ (Nat.le_refl _), if_neg (by omega)]
    kaf_pre
    refine waysT (i := 0) (j := 5) (by decide) rfl rfl (fun k hk => by rw [hly]; exact hks k hk) (by omega) (fun z => ?_)
    kaf_pre
    generalize (if z > 1 then z else 1) = y
    refine setw_dk (m := 5) (k := nk ns.length) rfl rfl (by unfold mkv; rw [List.length_map, idx_len]; omega) ?_
    rw [aput_mkv nk_inj, idx_put _ _ _ (by omega), if_neg (by omega)]
    kaf_pre
    refine drp_ent ?_ (q (ns ++ [.ask p x ks]) (ys ++ [y]) ns.length ⟨hok.ok.snoc hp hks hkl, hok.oo, hok.far, by simp [hly]⟩ ⟨_, rfl⟩ (by simp) (by simp) (by simp))
    have : wdRows P w K C A (ns ++ [.ask p x ks]) (ys ++ [y]) = [lstR A.wd (wdF A), gvR P w K C A.g A.nl A.kn A.size (ns ++ [.ask p x ks]), dkR A.ow (mkv nk Nd.toD (idxOf (ns ++ [.ask p x ks]))), lstR A.nu (numsD (ns.length + 1)), lstR A.op (A.ops.map op3D), wyR A (ys ++ [y])] := by
      unfold wdRows
      rw [show (ns ++ [Nd.ask p x ks]).length = ns.length + 1 by simp]
    unfold wdR
    rw [this]
    exact ent_grp
theorem addc {M : Mem} {R : W → Mem → Prop} {C : Addr} {i : Nat} {A : Wd} {ns : List Nd} {ys : List Int} {p : Str} {x : Nat} {ks : List Nat} (hm : M[i]? = some (wdR P w K C A ns ys)) (ok : WdOk A ns ys) (hp : PyData.strOk p = true) (hks : ∀ k ∈ ks, k < ns.length) (hkl : ks.length ≤ 4) (hl : ns.length ≤ 900)
    (q : ∀ ns' ys' (j : Nat), WdOk A ns' ys' → ns <+: ns' → ns'.length ≤ ns.length + 1 → j < ns'.length → ns'[j]? = some (.ask p x ks) → R (.int (j : Int)) (M.set i (wdR P w K C A ns' ys'))) : LCall (cAdd P w K C) [rf A.wd, .str p, .int (x : Int), .tuple (ks.map natD)] M R :=
  call1 i hm ⟨A, ns, ys, p, x, ks, rfl, rfl, ok, hp, hks, hkl, hl, fun ns' ys' j h1 h2 h3 h4 h5 => by dsimp only; rw [puts_one]; exact q ns' ys' j h1 h2 h3 h4 h5⟩
theorem new_law_kid (T : Top K mg) {C : Addr} : Cal P w K mg base CX0 3 "_law_kid" ["d", "wood"] (spM (cKid P w K C)) := by
  refine T.d_law_kid.mcal sc_law_kid (fun ws M R h => ?_) (fun f cdv A0 outer s H E ws M R B hk hr h => ?_)
  · obtain ⟨a, c, A, ns, ys, rfl, _⟩ := h; rfl
  obtain ⟨a, c, A, ns, ys, rfl, rfl, hok, hl, q⟩ := h
  have hu := hu_of hr
  have C_law_draw := draw_bridge (ok_law_draw (P := P) (w := w) (base := base) T)
  have C_law_pick := new_law_pick (P := P) (w := w) (base := base) T
  have hlo := hok.ok.len
  have hl2 := hok.ok.lo
  have hnl := numsD_len ns.length
  refine ⟨_, (pss_cons (ps_if (pt_cmpR (op_eqGK (K := K) rfl hr.units) (pe_cal C_law_draw (hr.mono (by omega)) (by rfl) pass0 (pa_cons (pv 0) (pa_cons pe_int pa_nil))) pe_int (nomark _)) (pss_one (ps_ret (pe_ix (ix_GK (K := K) rfl hu) (pe_ix (ix_GK (K := K) rfl hu) (pv 1) pe_int (fun _ _ => rfl)) (pe_op op_sub (pe_op op_sub (pe_callB (call_lenGK (K := K) rfl) (by rfl) T.m_len (by decide +kernel) (pa_cons (pe_ix (ix_GK (K := K) rfl hu) (pv 1) pe_int (fun _ _ => rfl)) pa_nil)) pe_int) (pe_cal C_law_draw (hr.mono (by omega)) (by rfl) pass0 (pa_cons (pv 0) (pa_cons (pe_callB (call_min2 rfl) (by rfl) T.m_min (by decide +kernel) (pa_cons (pe_callB (call_lenGK (K := K) rfl) (by rfl) T.m_len (by decide +kernel) (pa_cons (pe_ix (ix_GK (K := K) rfl hu) (pv 1) pe_int (fun _ _ => rfl)) pa_nil)) (pa_cons pe_int pa_nil))) pa_nil)))) (fun _ _ => rfl)))) pss_nil) (pss_one (ps_ret (pe_cal C_law_pick (hr.mono (by omega)) (by rfl) pass0 (pa_cons (pv 0) (pa_cons (pe_ix (ix_GK (K := K) rfl hu) (pv 1) pe_int (fun _ _ => rfl)) pa_nil)))))), ?_⟩
  refine ls_start [] rfl ?_
  dsimp only [cxOf, List.map, List.cons_append, List.nil_append]
  unfold LEnd
  refine ls_ent ent_open ?_
  unfold wdRows wdF
  kaf_pre
  refine drawc (by kas_ty) (by omega) (by omega) (fun k hk => ?_)
  kaf_pre
  refine ifD (fun h0 => ?_) (fun h0 => ?_)
  · kaf_pre
    rw [hnl]
    refine drawc (by kas_ty) (by split <;> omega) (by split <;> omega) (fun j hj => ?_)
    have hj' : j < ns.length := by split at hj <;> omega
    kaf_pre
    refine ixw_lst (m := 3) rfl (at_nat (k := ns.length - 1 - j) (by omega) (numsD_at (by omega))) ?_
    kaf_pre
    exact drp_ent (ent_close (rs := wdRows P w K C A ns ys) (M := [drawR a c])) (q _ (by omega))
  · kaf_pre
    refine pickc (i := 6) (j := 3) (by decide) rfl rfl (by rw [hnl]; omega) (by rw [hnl]; omega) (fun j d hd => ?_)
    obtain ⟨hj, rfl⟩ := numsD_of hd
    exact drp_ent (ent_close (rs := wdRows P w K C A ns ys) (M := [drawR a c])) (q _ hj)
theorem kidc {M : Mem} {R : W → Mem → Prop} {C : Addr} {i j : Nat} {a c : Addr} {A : Wd} {ns : List Nd} {ys : List Int} (ij : i ≠ j) (hm : M[i]? = some (wdR P w K C A ns ys)) (hm' : M[j]? = some (drawR a c)) (ok : WdOk A ns ys) (hl : ns.length ≤ 900)
    (q : ∀ k : Nat, k < ns.length → R (.int (k : Int)) M) : LCall (cKid P w K C) [rf a, rf A.wd] M R :=
  call2 i j ij hm hm' ⟨a, c, A, ns, ys, rfl, rfl, ok, hl, fun k hk => by dsimp only; rw [puts_same2 ij hm hm']; exact q k hk⟩

theorem ent_sel {M : Mem} (is : List Nat) (nd : is.Nodup) : Ent M (is.filterMap fun i => M[i]?) := fun B H s => s.drp nd
theorem nil_lt {n : Nat} : ∀ x ∈ ([] : List Nat), x < n := fun x hx => by cases hx
theorem natD_lt {n : Nat} {ks : List Nat} {k : Nat} (h : ∀ x ∈ ks, x < n) (hk : k < n) : ∀ x ∈ ks ++ [k], x < n := fun x hx => by
  rcases List.mem_append.mp hx with hx | hx
  · exact h x hx
  · rw [List.mem_singleton.mp hx]; exact hk
theorem new_law_grow (T : Top K mg) {C : Addr} (G : G_Grove K mg C) : Cal P w K mg base CX0 4 "_law_grow" ["d", "wood", "many"] (spM (cGrow P w K C)) := by
  refine T.d_law_grow.mcal sc_law_grow (fun ws M R h => ?_) (fun f cdv A0 outer s H E ws M R B hk hr h => ?_)
  · obtain ⟨a, c, A, ns, ys, many, rfl, _⟩ := h; rfl
  obtain ⟨a, c, A, ns0, ys0, many, rfl, rfl, hok0, hl, q⟩ := h
  have hu := hu_of hr
  have C_law_draw := draw_bridge (ok_law_draw (P := P) (w := w) (base := base) T)
  have C_law_pick := new_law_pick (P := P) (w := w) (base := base) T
  have C_law_kid := new_law_kid (P := P) (w := w) (base := base) T (C := C)
  have C_law_add := new_law_add (P := P) (w := w) (base := base) T G
  have C_law_ways := new_law_ways (P := P) (w := w) (base := base) T
  have hlo := hok0.ok.lo
  have hhi := hok0.ok.hi
  have hlen0 := hok0.ok.len
  obtain ⟨ow, how, _⟩ := hok0.oo.wide
  have hops := List.length_pos_of_mem how
  have hops8 := hok0.oo.len
  refine ⟨_, (pss_one (ps_for PassesOwn.never rfl (pi_range1 (by rfl) T.m_range (pa_cons (pv 2) pa_nil)) (pg_name (i := 3) sc_law_grow.nd rfl (Or.inl rfl)) (pss_cons (ps_set (i := 4) sc_law_grow.nd rfl (Or.inl rfl) (pe_cal C_law_pick (hr.mono (by omega)) (by rfl) pass0 (pa_cons (pv 0) (pa_cons (pe_ix (ix_GK (K := K) rfl hu) (pv 1) pe_int (fun _ _ => rfl)) pa_nil)))) (pss_cons (ps_setLc (i := 5) (own := [("j", 6)]) (g := gName 6) rfl sc_law_grow.nd rfl rfl (sw_true rfl rfl rfl (by decide +kernel)) (pi_range1 (by rfl) T.m_range (pa_cons (pe_ix (ix_GK (K := K) rfl hu) (pv 4) pe_int (fun _ _ => rfl)) pa_nil)) (blkOk_by (N := N_law_grow) (sc := defScope s_law_grow) (by decide +kernel)) (fun _ _ _ _ _ => pg_name (i := 6) sc_law_grow.nd rfl (Or.inl rfl)) (fun _ _ _ _ _ => pts_nil) (fun _ _ _ _ _ => (pe_cal C_law_kid (hr.mono (by omega)) (by rfl) pass0 (pa_cons (pv 0) (pa_cons (pv 1) pa_nil))))) (pss_cons (ps_if (pt_cmpR op_gt (pe_cal C_law_ways (hr.mono (by omega)) (by rfl) pass0 (pa_cons (pv 1) (pa_cons (pv 5) pa_nil))) pe_int (nomark _)) (pss_one (ps_setLc (i := 5) (own := [("j", 6)]) (g := gName 6) rfl sc_law_grow.nd rfl rfl (sw_true rfl rfl rfl (by decide +kernel)) (pi_range1 (by rfl) T.m_range (pa_cons (pe_ix (ix_GK (K := K) rfl hu) (pv 4) pe_int (fun _ _ => rfl)) pa_nil)) (blkOk_by (N := N_law_grow) (sc := defScope s_law_grow) (by decide +kernel)) (fun _ _ _ _ _ => pg_name (i := 6) sc_law_grow.nd rfl (Or.inl rfl)) (fun _ _ _ _ _ => pts_nil) (fun _ _ _ _ _ => (pe_cal C_law_draw (hr.mono (by omega)) (by rfl) pass0 (pa_cons (pv 0) (pa_cons (pe_ix (ix_GK (K := K) rfl hu) (pv 1) pe_int (fun _ _ => rfl)) pa_nil)))))) pss_nil) (pss_one (ps_expr (pe_cal C_law_add (hr.mono (by omega)) (by rfl) pass0 (pa_cons (pv 1) (pa_cons (pe_ix (ix_GK (K := K) rfl hu) (pv 4) pe_int (fun _ _ => rfl)) (pa_cons (pe_cal C_law_draw (hr.mono (by omega)) (by rfl) pass0 (pa_cons (pv 0) (pa_cons (pe_ix (ix_GK (K := K) rfl hu) (pv 4) pe_int (fun _ _ => rfl)) pa_nil))) (pa_cons (pe_callTy (call_tupGK (K := K) rfl) (by rfl) T.m_tuple (by decide +kernel) (pa_cons (pv 5) pa_nil)) pa_nil)))))))))))), ?_⟩
  refine ls_start [none, none, none, none] rfl ?_
  dsimp only [cxOf, List.map, List.cons_append, List.nil_append]
  unfold LEnd
  kaf_pre
  refine forw_rng (k := many) rfl (by omega) (fun k e M => ∃ ns ys, WdOk A ns ys ∧ ns0 <+: ns ∧ ns.length ≤ ns0.length + k ∧ e = [some (rf a), some (rf A.wd), some (.int (many : Int)), none, none, none, none] ∧ M = [wdR P w K C A ns ys, drawR a c])
    ⟨_, by kas_types, _, Ent.refl _, ns0, ys0, hok0, List.prefix_refl _, Nat.le_refl _, rfl, rfl⟩ (fun k e M hk h => ?_) (fun e M h => ?_)
  · obtain ⟨ns, ys, hok, hpre, hln, rfl, rfl⟩ := h
    have hly := hok.ly
    have hlen := hok.ok.len
    refine l_name ?_
    refine ls_ent ent_open ?_
    unfold wdRows wdF
    refine l_seq ?_
    kbe_one
    refine pickc (i := 6) (j := 4) (by decide) rfl rfl (by rw [List.length_map]; exact hops) (by rw [List.length_map]; omega) (fun i d hd => ?_)
    obtain ⟨o, ho, rfl⟩ := op3_at hd
    obtain ⟨so, ho1, ho2, ho3⟩ := hok.oo.all o (List.mem_of_getElem? ho)
    kbe_one
    refine ls_ent (ent_close (rs := wdRows P w K C A ns ys) (M := [drawR a c])) ?_
    refine l_seq ?_
    unfold op3D
    kbe_one
    refine lcw_rng (k := o.2.2) rfl (by omega) (fun D j M => ∃ ks : List Nat, ks.length = j ∧ (∀ x ∈ ks, x < ns.length) ∧ M = [lstR D (ks.map natD), wdR P w K C A ns ys, drawR a c]) (fun D => ⟨[], rfl, nil_lt, rfl⟩) (fun D j M hj h => ?_) (fun D M h => ?_)
    · obtain ⟨ks, hkl, hks, rfl⟩ := h
      unfold LElt
      kbe_one
      refine kidc (i := 1) (j := 2) (by decide) rfl rfl hok (by omega) (fun x hx => ?_)
      refine ⟨0, _, rfl, small1000 (by rw [List.length_map]; omega), ks ++ [x], by simp [hkl], natD_lt hks hx, ?_⟩
      rw [List.map_append]; rfl
    · obtain ⟨ks, hkl, hks, rfl⟩ := h
      kbe_one
      refine l_seq ?_
      refine ls_nx (fun e M => ∃ (D : Addr) (ks : List Nat) (o6 : Option W), ks.length = o.2.2 ∧ (∀ x ∈ ks, x < ns.length) ∧ e = [some (rf a), some (rf A.wd), some (.int (many : Int)), some (.int (k : Int)), some (op3D o), some (rf D), o6] ∧ Ent M [wdR P w K C A ns ys, lstR D (ks.map natD), drawR a c]) ?_ (fun e1 M1 h1 => ?_)
      · refine ls_ent (ent_openAt 1 rfl) ?_
        unfold wdRows wdF
        kaf_suf
        refine l_ifs ?_
        kaf_suf
        refine waysL (i := 0) (j := 5) (k := 6) (by decide) rfl rfl rfl (fun x hx => by rw [hly]; exact hks x hx) (by omega) (fun z => ?_)
        kaf_suf
        refine ifD (fun hz => ?_) (fun hz => ?_)
        · unfold op3D
          kbe_one
          refine lcw_rng (k := o.2.2) rfl (by omega) (fun D' j M => ∃ js : List Nat, js.length = j ∧ (∀ x ∈ js, x < ns.length) ∧ M = lstR D' (js.map natD) :: (wdRows P w K C A ns ys ++ [lstR D (ks.map natD), drawR a c])) (fun D => ⟨[], rfl, nil_lt, rfl⟩) (fun D' j M hj h => ?_) (fun D' M h => ?_)
          · obtain ⟨js, hjl, hjs, rfl⟩ := h
            unfold LElt wdRows wdF
            kbe_one
            refine drawc (by kas_ty) (by omega) (by omega) (fun x hx => ?_)
            refine ⟨0, _, rfl, small1000 (by rw [List.length_map]; omega), js ++ [x], by simp [hjl], natD_lt hjs (by omega), ?_⟩
            rw [List.map_append]; rfl
          · obtain ⟨js, hjl, hjs, rfl⟩ := h
            kbe_one
            refine ⟨D', js, _, hjl, hjs, rfl, ?_⟩
            exact Ent.trans (ent_sel [1, 2, 3, 4, 5, 6, 0, 8] (by decide)) (ent_close (rs := wdRows P w K C A ns ys) (M := [lstR D' (js.map natD), drawR a c]))
        · kbe_one
          refine ⟨D, ks, _, hkl, hks, rfl, ?_⟩
          exact ent_close (rs := wdRows P w K C A ns ys) (M := [lstR D (ks.map natD), drawR a c])
      · obtain ⟨D', js, o6, hjl, hjs, rfl, hent⟩ := h1
        refine ls_ent hent ?_
        unfold op3D
        kbe_one
        refine drawc (by kas_ty) (by omega) (by omega) (fun x hx => ?_)
        kbe_one
        refine addc (i := 0) rfl hok so hjs (by omega) (by omega) (fun ns' ys' i' h1 h2 h3 h4 h5 => ?_)
        refine ⟨_, ?ev, _, Ent.sub (by simp), ns', ys', h1, hpre.trans h2, by omega, rfl, rfl⟩
        case ev => kas_types
  · obtain ⟨ns, ys, hok, hpre, hln, rfl, rfl⟩ := h
    kaf_pre
    exact drp_all (q ns ys hok hpre hln)
theorem growc {M : Mem} {R : W → Mem → Prop} {C : Addr} {i j : Nat} {a c : Addr} {A : Wd} {ns : List Nd} {ys : List Int} {many : Nat} (ij : i ≠ j) (hm : M[i]? = some (wdR P w K C A ns ys)) (hm' : M[j]? = some (drawR a c)) (ok : WdOk A ns ys) (hl : ns.length + many ≤ 900)
    (q : ∀ ns' ys', WdOk A ns' ys' → ns <+: ns' → ns'.length ≤ ns.length + many → R .none (M.set i (wdR P w K C A ns' ys'))) : LCall (cGrow P w K C) [rf a, rf A.wd, .int (many : Int)] M R :=
  call2 i j ij hm hm' ⟨a, c, A, ns, ys, many, rfl, rfl, ok, hl, fun ns' ys' h1 h2 h3 => by dsimp only; rw [puts_two ij, List.nil_append, List.set_comm _ _ ij, set_same hm']; exact q ns' ys' h1 h2 h3⟩

theorem perm_map_inv {α β : Type} {f : α → β} {l : List α} {es : List β} (h : es.Perm (l.map f)) : ∃ l' : List α, es = l'.map f ∧ l'.Perm l := by
  have go : ∀ {xs ys : List β}, xs.Perm ys → ∀ l : List α, xs = l.map f → ∃ l' : List α, ys = l'.map f ∧ l'.Perm l := fun {xs ys} h => by
    induction h with
    | nil => intro l e; exact ⟨[], rfl, by cases l with | nil => exact .refl _ | cons _ _ => cases e⟩
    | cons x _ ih =>
      intro l e
      cases l with
      | nil => cases e
      | cons a l =>
        simp only [List.map_cons, List.cons.injEq] at e
        obtain ⟨l', e1, e2⟩ := ih l e.2
        exact ⟨a :: l', by rw [List.map_cons, ← e.1, e1], e2.cons a⟩
    | swap x y zs =>
      intro l e
      cases l with
      | nil => cases e
      | cons a l =>
        cases l with
        | nil => cases e
        | cons b l =>
          simp only [List.map_cons, List.cons.injEq] at e
          exact ⟨b :: a :: l, by rw [List.map_cons, List.map_cons, ← e.1, ← e.2.1, e.2.2], .swap _ _ _⟩
    | trans _ _ ih1 ih2 =>
      intro l e
      obtain ⟨l1, e1, p1⟩ := ih1 l e
      obtain ⟨l2, e2, p2⟩ := ih2 l1 e1
      exact ⟨l2, e2, p2.trans p1⟩
  exact go h.symm l rfl
theorem OpsOk.perm {size : Nat} {ops ops' : List Op3} (h : OpsOk size ops) (p : ops'.Perm ops) : OpsOk size ops' := ⟨by rw [p.length_eq]; exact h.len, fun o ho => h.all o (p.subset ho), let ⟨o, ho, h0⟩ := h.wide; ⟨o, p.symm.subset ho, h0⟩⟩
theorem map_eraseI {α β : Type} (f : α → β) (l : List α) (i : Nat) : (l.map f).eraseIdx i = (l.eraseIdx i).map f := by
  rw [List.eraseIdx_eq_take_drop_succ, List.eraseIdx_eq_take_drop_succ, List.map_append, List.map_take, List.map_drop]
def cOps : Con' := fun ws M R => ∃ (a c N : Addr) (size many : Nat) (nm : List Str), ws = [rf a, .int (size : Int), .int (many : Int), rf N] ∧ M = [drawR a c, lstR N (nm.map .str)] ∧ 2 ≤ size ∧ size ≤ 4 ∧ 1 ≤ many ∧ many ≤ 8 ∧ many < nm.length ∧ nm.length ≤ 500 ∧ (∀ n ∈ nm, PyData.strOk n = true) ∧
  ∀ (ops : List Op3) (L : Addr) (nm' : List Str), OpsOk size ops → (∀ n ∈ nm', PyData.strOk n = true) → 0 < nm'.length → nm'.length ≤ 500 → R (rf L) [drawR a c, lstR N (nm'.map .str), lstR L (ops.map op3D)]
theorem new_law_operations (T : Top K mg) : Cal P w K mg base CX0 3 "_law_operations" ["d", "size", "many", "names"] (spM cOps) := by
  refine T.d_law_operations.mcal sc_law_operations (fun ws M R h => ?_) (fun f cdv A0 outer s H E ws M R B hk hr h => ?_)
  · obtain ⟨a, c, N, size, many, nm, rfl, _⟩ := h; rfl
  obtain ⟨a, c, N, size, many, nm, rfl, rfl, h2, h4, hm1, hm8, hlt, hl5, hok, q⟩ := h
  have hu := hu_of hr
  have C_law_draw := draw_bridge (ok_law_draw (P := P) (w := w) (base := base) T)
  have C_law_pop := new_law_pop (P := P) (w := w) (base := base) T
  have C_law_shuffled := new_law_shuffled (P := P) (w := w) (base := base) T
  refine ⟨_, (pss_cons (ps_set (i := 4) sc_law_operations.nd rfl (Or.inl rfl) (pe_lst (pa_cons (pe_tup (pa_cons (pe_cal C_law_pop (hr.mono (by omega)) (by rfl) pass0 (pa_cons (pv 0) (pa_cons (pv 3) pa_nil))) (pa_cons (pe_op (op_addGK (K := K) rfl) pe_int (pe_cal C_law_draw (hr.mono (by omega)) (by rfl) pass0 (pa_cons (pv 0) (pa_cons (pv 1) pa_nil)))) (pa_cons (pe_op op_sub (pv 1) (pe_cal C_law_draw (hr.mono (by omega)) (by rfl) pass0 (pa_cons (pv 0) (pa_cons (pe_op op_sub (pv 1) pe_int) pa_nil)))) pa_nil)))) pa_nil))) (pss_cons (ps_for PassesOwn.never rfl (pi_range1 (by rfl) T.m_range (pa_cons (pe_op op_sub (pv 2) pe_int) pa_nil)) (pg_name (i := 5) sc_law_operations.nd rfl (Or.inl rfl)) (pss_one (ps_expr (pe_bm PySem.F.plainAttrs_list PySem.F.slot_list_append PySem.F.type_list_append mt_append (pv 4) (pa_cons (pe_tup (pa_cons (pe_cal C_law_pop (hr.mono (by omega)) (by rfl) pass0 (pa_cons (pv 0) (pa_cons (pv 3) pa_nil))) (pa_cons (pe_op (op_addGK (K := K) rfl) pe_int (pe_cal C_law_draw (hr.mono (by omega)) (by rfl) pass0 (pa_cons (pv 0) (pa_cons (pv 1) pa_nil)))) (pa_cons (pe_cal C_law_draw (hr.mono (by omega)) (by rfl) pass0 (pa_cons (pv 0) (pa_cons (pe_op (op_addGK (K := K) rfl) (pv 1) pe_int) pa_nil))) pa_nil)))) pa_nil))))) (pss_one (ps_ret (pe_cal C_law_shuffled (hr.mono (by omega)) (by rfl) pass0 (pa_cons (pv 0) (pa_cons (pv 4) pa_nil))))))), ?_⟩
  refine ls_start [none, none] rfl ?_
  dsimp only [cxOf, List.map, List.cons_append, List.nil_append]
  unfold LEnd
  kaf_pre
  refine popc (i := 0) (j := 1) (by decide) rfl rfl (by rw [List.length_map]; omega) (by rw [List.length_map]; omega) (fun i d hd => ?_)
  rw [List.getElem?_map] at hd
  obtain ⟨n1, en1, rfl⟩ := Option.map_eq_some_iff.mp hd
  have hn1 := hok n1 (List.mem_of_getElem? en1)
  have hi1 := (List.getElem?_eq_some_iff.mp en1).1
  have hnm1 : ∀ n ∈ nm.eraseIdx i, PyData.strOk n = true := fun n hn => hok n (List.eraseIdx_subset hn)
  have hln1 : (nm.eraseIdx i).length + 1 = nm.length := by rw [List.length_eraseIdx_of_lt hi1]; omega
  rw [map_eraseI]
  generalize nm.eraseIdx i = nm1 at hnm1 hln1
  kaf_pre
  refine drawc (by kas_ty) (by omega) (by omega) (fun x hx => ?_)
  kaf_pre
  refine drawc (by kas_ty) (by omega) (by omega) (fun y hy => ?_)
  kaf_pre
  rename_i F
  refine forw_rng (k := many - 1) (by omega) (by omega) (fun k e M => ∃ (ops : List Op3) (nm' : List Str), ops.length = k + 1 ∧ OpsOk size ops ∧ (∀ n ∈ nm', PyData.strOk n = true) ∧ nm'.length + k + 1 = nm.length ∧ e = [some (rf a), some (.int (size : Int)), some (.int (many : Int)), some (rf N), some (rf F), none] ∧ M = [lstR F (ops.map op3D), drawR a c, lstR N (nm'.map .str)])
    ⟨_, by kas_types, _, Ent.refl _, [(n1, 1 + x, size - y)], nm1, rfl, ⟨by simp, fun o ho => by rw [List.mem_singleton.mp ho]; exact ⟨hn1, by simp, by simp; omega, by simp⟩, ⟨_, List.mem_singleton.mpr rfl, by simp; omega⟩⟩, hnm1, by omega, rfl, ?_⟩ (fun k e M hk h => ?_) (fun e M h => ?_)
  · unfold op3D
    simp only [List.map_cons, List.map_nil]
    rw [show ((1 + x : Nat) : Int) = 1 + (x : Int) by omega, show ((size - y : Nat) : Int) = (size : Int) - (y : Int) by omega]
  · obtain ⟨ops, nm', hlo, hoo, hnm', hln', rfl, rfl⟩ := h
    kaf_pre
    refine popc (i := 1) (j := 2) (by decide) rfl rfl (by rw [List.length_map]; omega) (by rw [List.length_map]; omega) (fun i d hd => ?_)
    rw [List.getElem?_map] at hd
    obtain ⟨n2, en2, rfl⟩ := Option.map_eq_some_iff.mp hd
    have hn2 := hnm' n2 (List.mem_of_getElem? en2)
    have hi2 := (List.getElem?_eq_some_iff.mp en2).1
    have hnm2 : ∀ n ∈ nm'.eraseIdx i, PyData.strOk n = true := fun n hn => hnm' n (List.eraseIdx_subset hn)
    have hln2 : (nm'.eraseIdx i).length + 1 = nm'.length := by rw [List.length_eraseIdx_of_lt hi2]; omega
    rw [map_eraseI]
    generalize nm'.eraseIdx i = nm2 at hnm2 hln2
    kaf_pre
    refine drawc (by kas_ty) (by omega) (by omega) (fun x2 hx2 => ?_)
    kaf_pre
    refine drawc (by kas_ty) (by omega) (by omega) (fun y2 hy2 => ?_)
    kaf_pre
    refine appendw (m := 0) rfl (small1000 (by rw [List.length_map]; omega)) ?_
    refine ⟨_, ?ev, _, Ent.refl _, ops ++ [(n2, 1 + x2, y2)], nm2, by simp [hlo], ?_, hnm2, by omega, rfl, ?_⟩
    case ev => kas_types
    · refine ⟨by simp; omega, fun o ho => ?_, ?_⟩
      · rcases List.mem_append.mp ho with ho | ho
        · exact hoo.all o ho
        · rw [List.mem_singleton.mp ho]
          exact ⟨hn2, by simp, by simp; omega, by simp; omega⟩
      · obtain ⟨o, ho, h0⟩ := hoo.wide
        exact ⟨o, List.mem_append.mpr (.inl ho), h0⟩
    · rw [List.map_append]
      unfold op3D
      simp only [List.map_cons, List.map_nil]
      rw [show ((1 + x2 : Nat) : Int) = 1 + (x2 : Int) by omega]
      rfl
  · obtain ⟨ops, nm', hlo, hoo, hnm', hln', rfl, rfl⟩ := h
    kaf_pre
    refine shufc (i := 1) (j := 0) (by decide) rfl rfl (by rw [List.length_map]; omega) (fun es L hp => ?_)
    obtain ⟨ops', rfl, hp'⟩ := perm_map_inv hp
    exact drp3 2 3 0 (by decide) rfl rfl rfl (q ops' L nm' (OpsOk.perm hoo hp') hnm' (by omega) (by omega))
theorem opsc {M : Mem} {R : W → Mem → Prop} {i j : Nat} {a c N : Addr} {size many : Nat} {nm : List Str} {z : Int} (ij : i ≠ j) (hm : M[i]? = some (drawR a c)) (hm' : M[j]? = some (lstR N (nm.map .str))) (hz : z = (many : Int)) (h2 : 2 ≤ size) (h4 : size ≤ 4) (h1 : 1 ≤ many) (h8 : many ≤ 8) (hl : many < nm.length) (hl5 : nm.length ≤ 500) (hok : ∀ n ∈ nm, PyData.strOk n = true)
    (q : ∀ (ops : List Op3) (L : Addr) (nm' : List Str), OpsOk size ops → (∀ n ∈ nm', PyData.strOk n = true) → 0 < nm'.length → nm'.length ≤ 500 → R (rf L) (lstR L (ops.map op3D) :: M.set j (lstR N (nm'.map .str)))) : LCall cOps [rf a, .int (size : Int), .int z, rf N] M R := by
  subst hz
  exact call2 i j ij hm hm' ⟨a, c, N, size, many, nm, rfl, rfl, h2, h4, h1, h8, hl, hl5, hok, fun ops L nm' g1 g2 g3 g4 => by dsimp only; rw [puts_two ij, set_same hm]; exact q ops L nm' g1 g2 g3 g4⟩
theorem new_law_some (T : Top K mg) {C : Addr} : Cal P w K mg base CX0 3 "_law_some" ["d", "wood"] (spM (cSome P w K C)) := by
  refine T.d_law_some.mcal sc_law_some (fun ws M R h => ?_) (fun f cdv A0 outer s H E ws M R B hk hr h => ?_)
  · obtain ⟨a, c, A, ns, ys, rfl, _⟩ := h; rfl
  obtain ⟨a, c, A, ns, ys, rfl, rfl, hok, q⟩ := h
  have hu := hu_of hr
  have C_law_draw := draw_bridge (ok_law_draw (P := P) (w := w) (base := base) T)
  have C_law_pick := new_law_pick (P := P) (w := w) (base := base) T
  have C_law_shuffled := new_law_shuffled (P := P) (w := w) (base := base) T
  obtain ⟨ow, how, _⟩ := hok.oo.wide
  have hops := List.length_pos_of_mem how
  have hops8 := hok.oo.len
  refine ⟨_, (pss_cons (ps_if (pt_cmpR (op_eqGK (K := K) rfl hr.units) (pe_cal C_law_draw (hr.mono (by omega)) (by rfl) pass0 (pa_cons (pv 0) (pa_cons pe_int pa_nil))) pe_int (nomark _)) (pss_one (ps_set (i := 2) sc_law_some.nd rfl (Or.inl rfl) (pe_lst (pa_cons (pe_ix (ix_GK (K := K) rfl hu) (pe_cal C_law_pick (hr.mono (by omega)) (by rfl) pass0 (pa_cons (pv 0) (pa_cons (pe_ix (ix_GK (K := K) rfl hu) (pv 1) pe_int (fun _ _ => rfl)) pa_nil))) pe_int (fun _ _ => rfl)) pa_nil)))) (pss_one (ps_setLc (i := 2) (own := [("p", 3)]) (g := gName 3) rfl sc_law_some.nd rfl rfl (sw_true rfl rfl rfl (by decide +kernel)) (pi_seqK (K := K) rfl (pe_ix (ix_GK (K := K) rfl hu) (pv 1) pe_int (fun _ _ => rfl))) (blkOk_by (N := N_law_some) (sc := defScope s_law_some) (by decide +kernel)) (fun _ _ _ _ _ => pg_name (i := 3) sc_law_some.nd rfl (Or.inl rfl)) (fun _ _ _ _ _ => pts_one (pt_cmpR (op_eqGK (K := K) rfl hr.units) (pe_cal C_law_draw (hr.mono (by omega)) (by rfl) pass0 (pa_cons (pv 0) (pa_cons pe_int pa_nil))) pe_int (nomark _))) (fun _ _ _ _ _ => (pe_ix (ix_GK (K := K) rfl hu) (pv 3) pe_int (fun _ _ => rfl)))))) (pss_cons (ps_if (pt_cmpR (op_eqGK (K := K) rfl hr.units) (pe_cal C_law_draw (hr.mono (by omega)) (by rfl) pass0 (pa_cons (pv 0) (pa_cons pe_int pa_nil))) pe_int (nomark _)) (pss_one (ps_expr (pe_bm PySem.F.plainAttrs_list PySem.F.slot_list_append PySem.F.type_list_append mt_append (pv 2) (pa_cons (pe_ix (ix_GK (K := K) rfl hu) (pv 1) pe_int (fun _ _ => rfl)) pa_nil)))) pss_nil) (pss_one (ps_ret (pe_callTy (call_tupGK (K := K) rfl) (by rfl) T.m_tuple (by decide +kernel) (pa_cons (pe_cal C_law_shuffled (hr.mono (by omega)) (by rfl) pass0 (pa_cons (pv 0) (pa_cons (pv 2) pa_nil))) pa_nil)))))), ?_⟩
  refine ls_start [none, none] rfl ?_
  dsimp only [cxOf, List.map, List.cons_append, List.nil_append]
  unfold LEnd
  refine ls_ent ent_open ?_
  unfold wdRows wdF
  refine l_seq ?_
  refine ls_nx (fun e M => ∃ (F : Addr) (nm : List Str) (o3 : Option W), nm.length ≤ 10 ∧ (∀ n ∈ nm, PyData.strOk n = true) ∧ e = [some (rf a), some (rf A.wd), some (rf F), o3] ∧ Ent M (lstR F (nm.map .str) :: (wdRows P w K C A ns ys ++ [drawR a c]))) ?_ (fun e1 M1 h1 => ?_)
  · kaf_pre
    refine drawc (by kas_ty) (by omega) (by omega) (fun x hx => ?_)
    kaf_pre
    refine ifD (fun h0 => ?_) (fun h0 => ?_)
    · kaf_pre
      refine pickc (i := 6) (j := 4) (by decide) rfl rfl (by rw [List.length_map]; exact hops) (by rw [List.length_map]; omega) (fun i d hd => ?_)
      obtain ⟨o, ho, rfl⟩ := op3_at hd
      have so := (hok.oo.all o (List.mem_of_getElem? ho)).1
      unfold op3D
      kaf_pre
      exact ⟨_, [o.1], _, by simp, fun n hn => by rw [List.mem_singleton.mp hn]; exact so, rfl, Ent.refl _⟩
    · kaf_pre
      refine l_lcL ?_
      kaf_pre
      refine lcw_lst (m := 4) (ds := A.ops.map op3D) (fun D j M => ∃ nm : List Str, nm.length ≤ j ∧ (∀ n ∈ nm, PyData.strOk n = true) ∧ M = lstR D (nm.map .str) :: (wdRows P w K C A ns ys ++ [drawR a c])) (fun D => ⟨[], Nat.le_refl _, fun n hn => (by cases hn), rfl⟩) rfl (fun D j M h => ?_) (fun D j d M hd h => ?_) (fun D M h => ?_)
      · obtain ⟨nm, _, _, rfl⟩ := h
        exact ⟨5, rfl⟩
      · obtain ⟨nm, hl, hnm, rfl⟩ := h
        obtain ⟨o, ho, rfl⟩ := op3_at hd
        have so := (hok.oo.all o (List.mem_of_getElem? ho)).1
        have hj := (List.getElem?_eq_some_iff.mp ho).1
        unfold LElt wdRows op3D
        kaf_pre
        refine drawc (by kas_ty) (by omega) (by omega) (fun y hy => ?_)
        kaf_pre
        refine ifD (fun h3 => ?_) (fun h3 => ?_)
        · kaf_pre
          refine ⟨0, _, rfl, small1000 (by rw [List.length_map]; omega), nm ++ [o.1], by simp; omega, fun n hn => ?_, ?_⟩
          · rcases List.mem_append.mp hn with hn | hn
            · exact hnm n hn
            · rw [List.mem_singleton.mp hn]; exact so
          · rw [List.map_append]; rfl
        · kaf_pre
          exact ⟨nm, by omega, hnm, rfl⟩
      · obtain ⟨nm, hl, hnm, rfl⟩ := h
        rw [List.length_map] at hl
        kaf_pre
        exact ⟨D, nm, _, by omega, hnm, rfl, Ent.refl _⟩
  · obtain ⟨F, nm, o3, hl, hnm, rfl, hent⟩ := h1
    refine ls_ent hent ?_
    unfold wdRows wdF
    refine l_seq ?_
    refine ls_nx (fun e M => ∃ (nm : List Str), nm.length ≤ 11 ∧ (∀ n ∈ nm, PyData.strOk n = true) ∧ e = [some (rf a), some (rf A.wd), some (rf F), o3] ∧ M = (lstR F (nm.map .str) :: (wdRows P w K C A ns ys ++ [drawR a c]))) ?_ (fun e1 M1 h1 => ?_)
    · kaf_pre
      refine drawc (by kas_ty) (by omega) (by omega) (fun x hx => ?_)
      kaf_pre
      refine ifD (fun h0 => ?_) (fun h0 => ?_)
      · kaf_pre
        refine appendw (m := 0) (ds := nm.map .str) rfl (small1000 (by rw [List.length_map]; omega)) ?_
        refine ⟨nm ++ [A.far], by simp; omega, fun n hn => ?_, rfl, ?_⟩
        · rcases List.mem_append.mp hn with hn | hn
          · exact hnm n hn
          · rw [List.mem_singleton.mp hn]; exact hok.far
        · rw [List.map_append]; rfl
      · kaf_pre
        exact ⟨nm, by omega, hnm, rfl, rfl⟩
    · obtain ⟨nm2, hl2, hnm2, rfl, rfl⟩ := h1
      unfold wdRows
      kaf_pre
      refine shufc (i := 7) (j := 0) (by decide) rfl rfl (by rw [List.length_map]; omega) (fun es L hp => ?_)
      obtain ⟨nm3, rfl, hp'⟩ := perm_map_inv hp
      kaf_pre
      refine drp_ent ?_ (q nm3 ⟨by rw [hp'.length_eq]; omega, fun n hn => hnm2 n (hp'.subset hn)⟩)
      exact Ent.trans (ent_sel [2, 3, 4, 5, 6, 7, 8] (by decide)) (ent_close (rs := wdRows P w K C A ns ys) (M := [drawR a c]))
theorem somec {M : Mem} {R : W → Mem → Prop} {C : Addr} {i j : Nat} {a c : Addr} {A : Wd} {ns : List Nd} {ys : List Int} (ij : i ≠ j) (hm : M[i]? = some (wdR P w K C A ns ys)) (hm' : M[j]? = some (drawR a c)) (ok : WdOk A ns ys)
    (q : ∀ nm, NmOk nm → R (namesD nm) M) : LCall (cSome P w K C) [rf a, rf A.wd] M R :=
  call2 i j ij hm hm' ⟨a, c, A, ns, ys, rfl, rfl, ok, fun nm h => by dsimp only; rw [puts_same2 ij hm hm']; exact q nm h⟩

theorem poolc {M : Mem} {R : W → Mem → Prop} (q : ∀ L, R (rf L) (lstR L (poolL.map .str) :: M)) : LCall cPool [] M R := call0 ⟨rfl, rfl, fun L => q L⟩
theorem ginitc {M : Mem} {R : W → Mem → Prop} {C x : Addr} {size : Nat} (h : size ≤ 100) (q : ∀ nl kn, R .none (gvR P w K C x nl kn size ((List.range size).map Nd.val) :: M)) : LCall (cGInit P w K C) [rf x, .int (size : Int)] (insR C x [] :: M) R :=
  call1 0 rfl ⟨x, size, rfl, rfl, h, fun nl kn => q nl kn⟩
theorem new_law_wood (T : Top K mg) {C : Addr} (G : G_Grove K mg C) : Cal P w K mg base CX0 5 "_law_wood" ["d", "many"] (spM (cWood P w K C)) := by
  refine T.d_law_wood.mcal sc_law_wood (fun ws M R h => ?_) (fun f cdv A0 outer s H E ws M R B hk hr h => ?_)
  · obtain ⟨a, c, many, rfl, _⟩ := h; rfl
  obtain ⟨a, c, many, rfl, rfl, hmany, q⟩ := h
  have hu := hu_of hr
  have C_law_draw := draw_bridge (ok_law_draw (P := P) (w := w) (base := base) T)
  have C_law_pop := new_law_pop (P := P) (w := w) (base := base) T
  have C_law_pool := new_law_pool (ok_law_pool (P := P) (w := w) (base := base) T)
  have C_law_operations := new_law_operations (P := P) (w := w) (base := base) T
  have C_law_grow := new_law_grow (P := P) (w := w) (base := base) T G
  have M_Grove := new_Grove_init (P := P) (w := w) (base := base) T G
  refine ⟨_, (pss_cons (ps_set (i := 2) sc_law_wood.nd rfl (Or.inl rfl) (pe_op (op_addGK (K := K) rfl) pe_int (pe_cal C_law_draw (hr.mono (by omega)) (by rfl) pass0 (pa_cons (pv 0) (pa_cons pe_int pa_nil))))) (pss_cons (ps_set (i := 3) sc_law_wood.nd rfl (Or.inl rfl) (pe_cal0 C_law_pool (hr.mono (by omega)) (by rfl) pass0)) (pss_cons (ps_set (i := 4) sc_law_wood.nd rfl (Or.inl rfl) (pe_cal C_law_operations (hr.mono (by omega)) (by rfl) pass0 (pa_cons (pv 0) (pa_cons (pv 2) (pa_cons (pe_op (op_addGK (K := K) rfl) pe_int (pe_cal C_law_draw (hr.mono (by omega)) (by rfl) pass0 (pa_cons (pv 0) (pa_cons pe_int pa_nil)))) (pa_cons (pv 3) pa_nil)))))) (pss_cons (ps_set (i := 5) sc_law_wood.nd rfl (Or.inl rfl) (pe_lst (pa_cons (pe_mkc M_Grove (hr.mono (by omega)) (by rfl) pass0 (pa_cons (pv 2) pa_nil)) (pa_cons pe_dnewK (pa_cons (pe_lst pa_nil) (pa_cons (pv 4) (pa_cons (pe_cal C_law_pop (hr.mono (by omega)) (by rfl) pass0 (pa_cons (pv 0) (pa_cons (pv 3) pa_nil))) (pa_cons (pv 2) (pa_cons pe_dnewK pa_nil))))))))) (pss_cons (ps_for PassesOwn.never rfl (pi_range1 (by rfl) T.m_range (pa_cons (pv 2) pa_nil)) (pg_name (i := 6) sc_law_wood.nd rfl (Or.inl rfl)) (pss_cons (ps_asg (pe_tup (pa_cons pe_str (pa_cons (pv 6) pa_nil))) (pg_sub (pe_ix (ix_GK (K := K) rfl hu) (pv 5) pe_int (fun _ _ => rfl)) (pv 6) (set_G hu))) (pss_cons (ps_expr (pe_bm PySem.F.plainAttrs_list PySem.F.slot_list_append PySem.F.type_list_append mt_append (pe_ix (ix_GK (K := K) rfl hu) (pv 5) pe_int (fun _ _ => rfl)) (pa_cons (pv 6) pa_nil))) (pss_one (ps_asg pe_int (pg_sub (pe_ix (ix_GK (K := K) rfl hu) (pv 5) pe_int (fun _ _ => rfl)) (pv 6) (set_G hu))))))) (pss_cons (ps_expr (pe_cal C_law_grow (hr.mono (by omega)) (by rfl) pass0 (pa_cons (pv 0) (pa_cons (pv 5) (pa_cons (pv 1) pa_nil))))) (pss_one (ps_ret (pv 5))))))))), ?_⟩
  refine ls_start [none, none, none, none, none] rfl ?_
  dsimp only [cxOf, List.map, List.cons_append, List.nil_append]
  unfold LEnd
  kaf_pre
  refine drawc (by kas_ty) (by omega) (by omega) (fun s0 hs0 => ?_)
  obtain ⟨size, hsize, hsz⟩ : ∃ size : Nat, 2 + (s0 : Int) = (size : Int) ∧ 2 ≤ size ∧ size ≤ 4 := ⟨2 + s0, by omega, by omega, by omega⟩
  kaf_pre
  rw [hsize]
  refine poolc (fun N => ?_)
  kaf_pre
  refine drawc (by kas_ty) (by omega) (by omega) (fun m0 hm0 => ?_)
  kaf_pre
  refine opsc (i := 1) (j := 0) (nm := poolL) (many := 1 + m0) (by decide) rfl rfl (by omega) hsz.1 hsz.2 (by omega) (by omega) (by rw [pool_len]; omega) (by rw [pool_len]; omega) pool_ok (fun ops OP nm hoo hnm hn0 hn5 => ?_)
  kaf_pre
  intro g
  refine ginitc (by omega) (fun nl kn => ⟨rfl, ?_⟩)
  kaf_pre
  rename_i OW NU
  refine popc (i := 5) (j := 4) (by decide) rfl rfl (by rw [List.length_map]; omega) (by rw [List.length_map]; omega) (fun i d hd => ?_)
  rw [List.getElem?_map] at hd
  obtain ⟨far, efar, rfl⟩ := Option.map_eq_some_iff.mp hd
  have hfar := hnm far (List.mem_of_getElem? efar)
  kaf_pre
  rename_i WY WD
  obtain ⟨A, hA⟩ : ∃ A : Wd, A = ⟨WD, g, nl, kn, OW, NU, OP, WY, far, size, ops⟩ := ⟨_, rfl⟩
  have hb := NsOk.base hsz.1 hsz.2
  refine forw_rng (k := size) rfl (by omega) (fun i e M => e = [some (rf a), some (.int (many : Int)), some (.int (size : Int)), some (rf N), some (rf OP), some (rf WD), none] ∧
      M = [lstR WD (wdF A), gvR P w K C g nl kn size ((List.range size).map Nd.val), dkR OW (mkv nk Nd.toD (idxOf ((List.range i).map Nd.val))), lstR NU (numsD i), lstR OP (ops.map op3D), dkR WY (mkv nk PyData.int (idxOf (List.replicate i 1))), drawR a c])
    ⟨_, by kas_types, _, ent_sel [0, 4, 3, 2, 5, 1, 7] (by decide), rfl, by rw [hA]; rfl⟩ (fun i e M hi h => ?_) (fun e M h => ?_)
  · obtain ⟨rfl, rfl⟩ := h
    rw [hA]
    unfold wdF
    kaf_pre
    refine setw_dk (m := 2) (k := nk i) rfl rfl (by unfold mkv; rw [List.length_map, idx_len]; simp; omega) ?_
    rw [show (PyData.tuple [.str "value", .int (i : Int)]) = Nd.toD (.val i) from rfl, aput_mkv nk_inj, idx_put _ _ _ (by simp), if_neg (by simp), show (List.range i).map Nd.val ++ [Nd.val i] = (List.range (i + 1)).map Nd.val by rw [List.range_succ, List.map_append]; rfl]
    kaf_pre
    refine appendw (m := 3) (ds := numsD i) rfl (by rw [numsD_len]; exact small1000 (by omega)) ?_
    rw [← numsD_succ]
    kaf_pre
    refine setw_dk (m := 5) (k := nk i) rfl rfl (by unfold mkv; rw [List.length_map, idx_len]; simp; omega) ?_
    rw [aput_mkv nk_inj, idx_put _ _ _ (by simp), if_neg (by simp), ← List.replicate_succ']
    refine ⟨_, ?ev, _, Ent.refl _, rfl, rfl⟩
    case ev => kas_types
  · obtain ⟨rfl, rfl⟩ := h
    have hok : WdOk A ((List.range size).map Nd.val) (List.replicate size 1) := by rw [hA]; exact ⟨hb, hoo, hfar, by simp⟩
    kaf_pre
    have hrow : [lstR WD (wdF A), gvR P w K C g nl kn size ((List.range size).map Nd.val), dkR OW (mkv nk Nd.toD (idxOf ((List.range size).map Nd.val))), lstR NU (numsD size), lstR OP (ops.map op3D), dkR WY (mkv nk PyData.int (idxOf (List.replicate size 1))), drawR a c] = wdRows P w K C A ((List.range size).map Nd.val) (List.replicate size 1) ++ [drawR a c] := by
      subst hA
      unfold wdRows
      rw [show ((List.range size).map Nd.val).length = size by simp]
      rfl
    rw [hrow]
    refine lcall_ent ent_close ?_
    rw [show rf WD = rf A.wd by rw [hA]]
    refine growc (i := 0) (j := 1) (by decide) rfl rfl hok (by simp; omega) (fun ns' ys' h1 h2 h3 => ?_)
    kaf_pre
    exact drp_all (q A ns' ys' h1 (by simp at h3; omega))
theorem woodc {M : Mem} {R : W → Mem → Prop} {C : Addr} {i : Nat} {a c : Addr} {many : Nat} {z : Int} (hm : M[i]? = some (drawR a c)) (hz : z = (many : Int)) (hl : many ≤ 800)
    (q : ∀ A ns ys, WdOk A ns ys → ns.length ≤ many + 4 → R (rf A.wd) (drawR a c :: M.set i (wdR P w K C A ns ys))) : LCall (cWood P w K C) [rf a, .int z] M R := by
  subst hz
  exact call1 i hm ⟨a, c, many, rfl, rfl, hl, fun A ns ys h1 h2 => by dsimp only; rw [puts_one]; exact q A ns ys h1 h2⟩

theorem lt_cut {B : Bs} {tt : L2.TT} {env : Ev} {M : Mem} {PB : Bool → Mem → Prop} (Nb : Bool → Mem → Prop) (h : LT B tt env M Nb) (hN : ∀ k M1, Nb k M1 → PB k M1) : LT B tt env M PB := fun σ H Q e s k => h σ H Q e s fun b H' M' s' u' p => k b H' M' s' u' (hN b M' p)
theorem llcr_ent {B : Bs} {g : L2.TG} {tt : L2.TT} {te : L2.TE} {vs : List Nat} {ws : List W} {env : Ev} {M N : Mem} {R : W → Mem → Prop} (e : Ent M N) (h : LLcR B g tt te vs ws env N R) : LLcR B g tt te vs ws env M R := fun σ H Q us ev s r k => h σ H Q us ev (e B H s) r k
theorem new_law_chain (T : Top K mg) {C : Addr} (G : G_Grove K mg C) : Cal P w K mg base CX0 4 "_law_chain" ["d", "wood", "many"] (spM (cChain P w K C)) := by
  refine T.d_law_chain.mcal sc_law_chain (fun ws M R h => ?_) (fun f cdv A0 outer s H E ws M R B hk hr h => ?_)
  · obtain ⟨a, c, A, ns, ys, many, rfl, _⟩ := h; rfl
  obtain ⟨a, c, A, ns0, ys0, many, rfl, rfl, hok0, hl, q⟩ := h
  have hu := hu_of hr
  have C_law_draw := draw_bridge (ok_law_draw (P := P) (w := w) (base := base) T)
  have C_law_pick := new_law_pick (P := P) (w := w) (base := base) T
  have C_law_kid := new_law_kid (P := P) (w := w) (base := base) T (C := C)
  have C_law_add := new_law_add (P := P) (w := w) (base := base) T G
  have C_law_ways := new_law_ways (P := P) (w := w) (base := base) T
  have hlo := hok0.ok.lo
  have hhi := hok0.ok.hi
  have hlen0 := hok0.ok.len
  have hops8 := hok0.oo.len
  refine ⟨_, (pss_cons (ps_setLc (i := 3) (own := [("p", 8)]) (g := gName 8) rfl sc_law_chain.nd rfl rfl (sw_true rfl rfl rfl (by decide +kernel)) (pi_seqK (K := K) rfl (pe_ix (ix_GK (K := K) rfl hu) (pv 1) pe_int (fun _ _ => rfl))) (blkOk_by (N := N_law_chain) (sc := defScope s_law_chain) (by decide +kernel)) (fun _ _ _ _ _ => pg_name (i := 8) sc_law_chain.nd rfl (Or.inl rfl)) (fun _ _ _ _ _ => pts_one (pt_cmpR op_gt (pe_ix (ix_GK (K := K) rfl hu) (pv 8) pe_int (fun _ _ => rfl)) pe_int (nomark _))) (fun _ _ _ _ _ => (pv 8))) (pss_cons (ps_set (i := 4) sc_law_chain.nd rfl (Or.inl rfl) (pe_cmpR (op_eqGK (K := K) rfl hr.units) (pe_cal C_law_draw (hr.mono (by omega)) (by rfl) pass0 (pa_cons (pv 0) (pa_cons pe_int pa_nil))) pe_int (nomark _))) (pss_cons (ps_setLc (i := 5) (own := [("j", 10)]) (g := gName 10) rfl sc_law_chain.nd rfl rfl (sw_true rfl rfl rfl (by decide +kernel)) (pi_range1 (by rfl) T.m_range (pa_cons (pe_cal C_law_draw (hr.mono (by omega)) (by rfl) pass0 (pa_cons (pv 0) (pa_cons (pe_op (op_addGK (K := K) rfl) (pe_ix (ix_GK (K := K) rfl hu) (pv 1) pe_int (fun _ _ => rfl)) pe_int) pa_nil))) pa_nil)) (blkOk_by (N := N_law_chain) (sc := defScope s_law_chain) (by decide +kernel)) (fun _ _ _ _ _ => pg_name (i := 10) sc_law_chain.nd rfl (Or.inl rfl)) (fun _ _ _ _ _ => pts_nil) (fun _ _ _ _ _ => (pe_cal C_law_draw (hr.mono (by omega)) (by rfl) pass0 (pa_cons (pv 0) (pa_cons (pe_ix (ix_GK (K := K) rfl hu) (pv 1) pe_int (fun _ _ => rfl)) pa_nil))))) (pss_cons (ps_set (i := 6) sc_law_chain.nd rfl (Or.inl rfl) (pe_cal C_law_add (hr.mono (by omega)) (by rfl) pass0 (pa_cons (pv 1) (pa_cons (pe_ix (ix_GK (K := K) rfl hu) (pv 1) pe_int (fun _ _ => rfl)) (pa_cons (pe_cal C_law_draw (hr.mono (by omega)) (by rfl) pass0 (pa_cons (pv 0) (pa_cons (pe_ix (ix_GK (K := K) rfl hu) (pv 1) pe_int (fun _ _ => rfl)) pa_nil))) (pa_cons (pe_callTy (call_tupGK (K := K) rfl) (by rfl) T.m_tuple (by decide +kernel) (pa_cons (pv 5) pa_nil)) pa_nil)))))) (pss_cons (ps_for PassesOwn.never rfl (pi_range1 (by rfl) T.m_range (pa_cons (pv 2) pa_nil)) (pg_name (i := 7) sc_law_chain.nd rfl (Or.inl rfl)) (pss_cons (ps_set (i := 8) sc_law_chain.nd rfl (Or.inl rfl) (pe_cal C_law_pick (hr.mono (by omega)) (by rfl) pass0 (pa_cons (pv 0) (pa_cons (pv 3) pa_nil)))) (pss_cons (ps_setLc (i := 5) (own := [("j", 10)]) (g := gName 10) rfl sc_law_chain.nd rfl rfl (sw_true rfl rfl rfl (by decide +kernel)) (pi_range1 (by rfl) T.m_range (pa_cons (pe_ix (ix_GK (K := K) rfl hu) (pv 8) pe_int (fun _ _ => rfl)) pa_nil)) (blkOk_by (N := N_law_chain) (sc := defScope s_law_chain) (by decide +kernel)) (fun _ _ _ _ _ => pg_name (i := 10) sc_law_chain.nd rfl (Or.inl rfl)) (fun _ _ _ _ _ => pts_nil) (fun _ _ _ _ _ => (pe_cal C_law_kid (hr.mono (by omega)) (by rfl) pass0 (pa_cons (pv 0) (pa_cons (pv 1) pa_nil))))) (pss_cons (ps_if (PW.pt (pw_or (pt_val (pv 4)) (pw_or1 (pt_cmpR op_gt (pe_cal C_law_ways (hr.mono (by omega)) (by rfl) pass0 (pa_cons (pv 1) (pa_cons (pe_op (op_addGK (K := K) rfl) (pv 5) (pe_lst (pa_cons (pv 6) pa_nil))) pa_nil))) pe_int (nomark _))))) (pss_one (ps_setLc (i := 5) (own := [("j", 10)]) (g := gName 10) rfl sc_law_chain.nd rfl rfl (sw_true rfl rfl rfl (by decide +kernel)) (pi_range1 (by rfl) T.m_range (pa_cons (pe_ix (ix_GK (K := K) rfl hu) (pv 8) pe_int (fun _ _ => rfl)) pa_nil)) (blkOk_by (N := N_law_chain) (sc := defScope s_law_chain) (by decide +kernel)) (fun _ _ _ _ _ => pg_name (i := 10) sc_law_chain.nd rfl (Or.inl rfl)) (fun _ _ _ _ _ => pts_nil) (fun _ _ _ _ _ => (pe_cal C_law_draw (hr.mono (by omega)) (by rfl) pass0 (pa_cons (pv 0) (pa_cons (pe_ix (ix_GK (K := K) rfl hu) (pv 1) pe_int (fun _ _ => rfl)) pa_nil)))))) pss_nil) (pss_cons (ps_set (i := 9) sc_law_chain.nd rfl (Or.inl rfl) (pe_cal C_law_draw (hr.mono (by omega)) (by rfl) pass0 (pa_cons (pv 0) (pa_cons (pe_ix (ix_GK (K := K) rfl hu) (pv 8) pe_int (fun _ _ => rfl)) pa_nil)))) (pss_cons (ps_asg (pv 6) (pg_sub (pv 5) (pv 9) (set_G hu))) (pss_one (ps_set (i := 6) sc_law_chain.nd rfl (Or.inl rfl) (pe_cal C_law_add (hr.mono (by omega)) (by rfl) pass0 (pa_cons (pv 1) (pa_cons (pe_ix (ix_GK (K := K) rfl hu) (pv 8) pe_int (fun _ _ => rfl)) (pa_cons (pe_cal C_law_draw (hr.mono (by omega)) (by rfl) pass0 (pa_cons (pv 0) (pa_cons (pe_ix (ix_GK (K := K) rfl hu) (pv 8) pe_int (fun _ _ => rfl)) pa_nil))) (pa_cons (pe_callTy (call_tupGK (K := K) rfl) (by rfl) T.m_tuple (by decide +kernel) (pa_cons (pv 5) pa_nil)) pa_nil))))))))))))) (pss_one (ps_ret (pv 6)))))))), ?_⟩
  refine ls_start [none, none, none, none, none, none, none, none] rfl ?_
  dsimp only [cxOf, List.map, List.cons_append, List.nil_append]
  unfold LEnd
  refine ls_ent ent_open ?_
  unfold wdRows wdF
  refine l_seq ?_
  kbe_one
  refine l_lcL ?_
  kbe_one
  refine lcw_lst (m := 4) (ds := A.ops.map op3D) (fun D j M => M = lstR D (((A.ops.take j).filter fun o => decide (0 < o.2.2)).map op3D) :: (wdRows P w K C A ns0 ys0 ++ [drawR a c])) (fun D => rfl) rfl (fun D j M h => ?_) (fun D j d M hd h => ?_) (fun D M h => ?_)
  · subst h; exact ⟨5, rfl⟩
  · subst h
    obtain ⟨o, ho, rfl⟩ := op3_at hd
    have hj := (List.getElem?_eq_some_iff.mp ho).1
    have hnext : (A.ops.take (j + 1)).filter (fun o => decide (0 < o.2.2)) = (A.ops.take j).filter (fun o => decide (0 < o.2.2)) ++ (if 0 < o.2.2 then [o] else []) := by
      rw [List.take_add_one, ho, List.filter_append]
      simp [List.filter_cons]
    have hfl : ((A.ops.take j).filter fun o => decide (0 < o.2.2)).length ≤ 8 := Nat.le_trans (List.length_filter_le _ _) (by rw [List.length_take]; omega)
    unfold LElt op3D
    kbe_one
    refine ifD (fun h1 => ?_) (fun h1 => ?_)
    · kbe_one
      refine ⟨0, _, rfl, small1000 (by rw [List.length_map]; omega), ?_⟩
      rw [hnext, if_pos (by omega), List.map_append]; rfl
    · kbe_one
      rw [hnext, if_neg (by omega), List.append_nil]
  subst h
  rw [List.length_map, List.take_length]
  generalize ewide : (A.ops.filter fun o => decide (0 < o.2.2)) = wide
  have hwide : ∀ o ∈ wide, o ∈ A.ops ∧ 0 < o.2.2 := fun o ho => by
    rw [← ewide] at ho
    have := List.mem_filter.mp ho
    exact ⟨this.1, by simpa using this.2⟩
  have hw0 : 0 < wide.length := by
    obtain ⟨o, ho, h0⟩ := hok0.oo.wide
    exact List.length_pos_of_mem (a := o) (by rw [← ewide]; exact List.mem_filter.mpr ⟨ho, by simpa using h0⟩)
  have hw8 : wide.length ≤ 8 := by
    rw [← ewide]
    exact Nat.le_trans (List.length_filter_le _ _) hops8
  unfold wdRows wdF
  kbe_one
  refine l_seq ?_
  kbe_one
  refine drawc (by kas_ty) (by omega) (by omega) (fun bx hbx => ?_)
  kbe_one
  generalize decide ((bx : Int) = 0) = bare
  refine l_seq ?_
  kbe_one
  refine drawc (by kas_ty) (by omega) (by omega) (fun kx hkx => ?_)
  kbe_one
  refine lcw_rng (k := kx) rfl (by omega) (fun D' j M => ∃ js : List Nat, js.length = j ∧ (∀ x ∈ js, x < ns0.length) ∧ M = lstR D' (js.map natD) :: lstR D (wide.map op3D) :: (wdRows P w K C A ns0 ys0 ++ [drawR a c])) (fun D => ⟨[], rfl, nil_lt, rfl⟩) (fun D' j M hj h => ?_) (fun D' M h => ?_)
  · obtain ⟨js, hjl, hjs, rfl⟩ := h
    unfold LElt wdRows wdF
    kbe_one
    refine drawc (by kas_ty) (by omega) (by omega) (fun x hx => ?_)
    refine ⟨0, _, rfl, small1000 (by rw [List.length_map]; omega), js ++ [x], by simp [hjl], natD_lt hjs (by omega), ?_⟩
    rw [List.map_append]; rfl
  obtain ⟨js, hjl, hjs, rfl⟩ := h
  unfold wdRows wdF
  kbe_one
  refine l_seq ?_
  kbe_one
  refine drawc (by kas_ty) (by omega) (by omega) (fun ax hax => ?_)
  kbe_one
  refine lcall_ent (Ent.trans (ent_sel [2, 3, 4, 5, 6, 7, 1, 8] (by decide)) (ent_close (rs := wdRows P w K C A ns0 ys0) (M := [lstR D (wide.map op3D), drawR a c]))) ?_
  refine addc (i := 0) rfl hok0 hok0.far hjs (by omega) (by omega) (fun ns1 ys1 i1 h1 h2 h3 h4 h5 => ?_)
  kbe_one
  refine l_seq ?_
  kbe_one
  refine forw_rng (k := many) rfl (by omega) (fun k e M => ∃ (ns : List Nd) (ys : List Int) (nd : Nat), WdOk A ns ys ∧ ns0 <+: ns ∧ ns.length ≤ ns0.length + 1 + k ∧ nd < ns.length ∧ e = [some (rf a), some (rf A.wd), some (.int (many : Int)), some (rf D), some (.bool bare), none, some (.int (nd : Int)), none, none, none, none] ∧ M = [wdR P w K C A ns ys, lstR D (wide.map op3D), drawR a c])
    ⟨_, by kas_types, _, Ent.refl _, ns1, ys1, i1, h1, h2, by omega, h4, rfl, rfl⟩ (fun k e M hk h => ?_) (fun e M h => ?_)
  · obtain ⟨ns, ys, nd, hok, hpre, hln, hnd, rfl, rfl⟩ := h
    have hly := hok.ly
    have hlen := hok.ok.len
    refine l_name ?_
    refine l_seq ?_
    kbe_one
    refine pickc (i := 2) (j := 1) (by decide) rfl rfl (by rw [List.length_map]; exact hw0) (by rw [List.length_map]; omega) (fun i d hd => ?_)
    obtain ⟨o, ho, rfl⟩ := op3_at hd
    obtain ⟨hom, ho0⟩ := hwide o (List.mem_of_getElem? ho)
    obtain ⟨so, ho1, ho2, ho3⟩ := hok.oo.all o hom
    kbe_one
    refine l_seq ?_
    unfold op3D
    kbe_one
    refine lcw_rng (k := o.2.2) rfl (by omega) (fun D2 j M => ∃ ks : List Nat, ks.length = j ∧ (∀ x ∈ ks, x < ns.length) ∧ M = [lstR D2 (ks.map natD), wdR P w K C A ns ys, lstR D (wide.map op3D), drawR a c]) (fun D => ⟨[], rfl, nil_lt, rfl⟩) (fun D2 j M hj h => ?_) (fun D2 M h => ?_)
    · obtain ⟨ks, hkl, hks, rfl⟩ := h
      unfold LElt
      kbe_one
      refine kidc (i := 1) (j := 3) (by decide) rfl rfl hok (by omega) (fun x hx => ?_)
      refine ⟨0, _, rfl, small1000 (by rw [List.length_map]; omega), ks ++ [x], by simp [hkl], natD_lt hks hx, ?_⟩
      rw [List.map_append]; rfl
    · obtain ⟨ks, hkl, hks, rfl⟩ := h
      kbe_one
      refine l_seq ?_
      refine ls_nx (fun e M => ∃ (D2 : Addr) (ks : List Nat) (o10 : Option W), ks.length = o.2.2 ∧ (∀ x ∈ ks, x < ns.length) ∧ e = [some (rf a), some (rf A.wd), some (.int (many : Int)), some (rf D), some (.bool bare), some (rf D2), some (.int (nd : Int)), some (.int (k : Int)), some (op3D o), none, o10] ∧ Ent M [wdR P w K C A ns ys, lstR D2 (ks.map natD), lstR D (wide.map op3D), drawR a c]) ?_ (fun e1 M1 h1 => ?_)
      · refine l_ifs ?_
        refine lt_cut (fun _ M1 => Ent M1 [wdR P w K C A ns ys, lstR D2 (ks.map natD), lstR D (wide.map op3D), drawR a c]) ?_ (fun kb M1 hent => ?_)
        · refine l_or ?_
          kbe_one
          cases bare with
          | true =>
            kbe_one
            exact Ent.perm (.swap _ _ _)
          | false =>
            kbe_one
            rename_i L1
            refine addw_lst (i := 1) (j := 0) rfl rfl (by rw [List.length_map]; simp; omega) (fun L2 => ?_)
            rw [show ks.map natD ++ [PyData.int (nd : Int)] = (ks ++ [nd]).map natD by rw [List.map_append]; rfl]
            kbe_one
            refine lcall_ent (ent_openAt 3 rfl) ?_
            refine waysL (i := 0) (j := 5) (k := 6) (by decide) rfl rfl rfl (by rw [hly]; exact natD_lt hks hnd) (by simp; omega) (fun z => ?_)
            kbe_one
            exact Ent.trans (ent_sel [0, 1, 2, 3, 4, 5, 8, 9, 10] (by decide)) (ent_close (rs := wdRows P w K C A ns ys) (M := [lstR D2 (ks.map natD), lstR D (wide.map op3D), drawR a c]))
        · refine (?_ : if kb = true then _ else _)
          cases kb with
          | false =>
            kbe_one
            exact ⟨D2, ks, _, hkl, hks, rfl, hent⟩
          | true =>
            kbe_one
            refine llcr_ent (hent.trans ent_open) ?_
            unfold wdRows wdF
            refine lcw_rng (k := o.2.2) rfl (by omega) (fun D' j M => ∃ js : List Nat, js.length = j ∧ (∀ x ∈ js, x < ns.length) ∧ M = lstR D' (js.map natD) :: (wdRows P w K C A ns ys ++ [lstR D2 (ks.map natD), lstR D (wide.map op3D), drawR a c])) (fun D => ⟨[], rfl, nil_lt, rfl⟩) (fun D' j M hj h => ?_) (fun D' M h => ?_)
            · obtain ⟨js, hjl, hjs, rfl⟩ := h
              unfold LElt wdRows wdF
              kbe_one
              refine drawc (by kas_ty) (by omega) (by omega) (fun x hx => ?_)
              refine ⟨0, _, rfl, small1000 (by rw [List.length_map]; omega), js ++ [x], by simp [hjl], natD_lt hjs (by omega), ?_⟩
              rw [List.map_append]; rfl
            · obtain ⟨js, hjl, hjs, rfl⟩ := h
              kbe_one
              refine ⟨D', js, _, hjl, hjs, rfl, ?_⟩
              exact Ent.trans (ent_sel [1, 2, 3, 4, 5, 6, 0, 8, 9] (by decide)) (ent_close (rs := wdRows P w K C A ns ys) (M := [lstR D' (js.map natD), lstR D (wide.map op3D), drawR a c]))
      · obtain ⟨D3, js2, o10, hjl2, hjs2, rfl, hent⟩ := h1
        refine ls_ent hent ?_
        unfold op3D
        refine l_seq ?_
        kbe_one
        refine drawc (by kas_ty) (by omega) (by omega) (fun pl hpl => ?_)
        kbe_one
        refine l_seq ?_
        kbe_one
        refine setw_lst (m := 1) (k := pl) rfl (by rw [List.length_map]; omega) ?_
        rw [show (js2.map natD).set pl (.int (nd : Int)) = (js2.set pl nd).map natD by rw [List.map_set]; rfl]
        have hjs3 : ∀ x ∈ js2.set pl nd, x < ns.length := fun x hx => by
          rcases List.mem_or_eq_of_mem_set hx with hx | hx
          · exact hjs2 x hx
          · rw [hx]; exact hnd
        have hjl3 : (js2.set pl nd).length = o.2.2 := by rw [List.length_set]; exact hjl2
        generalize js2.set pl nd = js3 at hjs3 hjl3
        kbe_one
        refine drawc (by kas_ty) (by omega) (by omega) (fun x hx => ?_)
        kbe_one
        refine addc (i := 0) rfl hok so hjs3 (by omega) (by omega) (fun ns' ys' i' h1 h2 h3 h4 h5 => ?_)
        kbe_one
        refine ⟨_, ?ev, _, ent_sel [0, 2, 3] (by decide), ns', ys', i', h1, hpre.trans h2, by omega, h4, rfl, rfl⟩
        case ev => kas_types
  · obtain ⟨ns, ys, nd, hok, hpre, hln, hnd, rfl, rfl⟩ := h
    kaf_pre
    exact drp2 0 2 (by decide) rfl rfl (q ns ys nd hok hpre (by omega) hnd)

theorem ltw_int {B : Bs} {i j : Int} {M : Mem} {R : W → Mem → Prop} (q : R (.bool (decide (i < j))) M) : LR2 B (rLt2 K) (.int i) (.int j) M R := fun vx vy H Q s r1 r2 ko => by
  rw [wr_int_iff.mp r1, wr_int_iff.mp r2]
  exact ltI_q (ko _ _ _ M s (Up.refl _) wr_bl q)
theorem optD_none : isN (optD none) = true := rfl
theorem tab_get {nm : List Str} {ns : List Nd} {i : Nat} : aget (mkv nk optD (idxOf (tabB nm ns))) (nk i) = ((tabB nm ns)[i]?).map optD := by
  rw [aget_mkv nk_inj, idx_get]
theorem new_law_table (T : Top K mg) {C : Addr} : Cal P w K mg base CX0 1 "_law_table" ["wood", "names"] (spM (cTable P w K C)) := by
  refine T.d_law_table.mcal sc_law_table (fun ws M R h => ?_) (fun f cdv A0 outer s H E ws M R B hk hr h => ?_)
  · obtain ⟨A, ns, ys, nm, rfl, _⟩ := h; rfl
  obtain ⟨A, ns, ys, nm, rfl, rfl, hok, hl, hnm, q⟩ := h
  have hu := hu_of hr
  refine ⟨_, (pss_cons (ps_set (i := 2) sc_law_table.nd rfl (Or.inl rfl) pe_dnewK) (pss_cons (ps_for PassesOwn.never rfl (pi_seqK (K := K) rfl (pe_ix (ix_GK (K := K) rfl hu) (pv 0) pe_int (fun _ _ => rfl))) (pg_name (i := 3) sc_law_table.nd rfl (Or.inl rfl)) (pss_cons (ps_set (i := 4) sc_law_table.nd rfl (Or.inl rfl) (pe_ix (ix_GK (K := K) rfl hu) (pe_ix (ix_GK (K := K) rfl hu) (pv 0) pe_int (fun _ _ => rfl)) (pv 3) (fun _ _ => rfl))) (pss_cons (ps_set (i := 5) sc_law_table.nd rfl (Or.inl rfl) pe_non) (pss_cons (ps_if (PW.pt (pw_and (pt_cmpR (op_eqGK (K := K) rfl hr.units) (pe_ix (ix_GK (K := K) rfl hu) (pv 4) pe_int (fun _ _ => rfl)) pe_str (nomark _)) (pw_and1 (pt_cmpR (op_in2K (K := K) rfl hr.u65) (pe_ix (ix_GK (K := K) rfl hu) (pv 4) pe_int (fun _ _ => rfl)) (pv 1) (by rfl))))) (pss_one (ps_set (i := 5) sc_law_table.nd rfl (Or.inl rfl) (pe_tup pa_nil))) (pss_one (ps_if (pt_cmpR (op_eqGK (K := K) rfl hr.units) (pe_ix (ix_GK (K := K) rfl hu) (pv 4) pe_int (fun _ _ => rfl)) pe_str (nomark _)) (pss_one (ps_for PassesOwn.never rfl (pi_range1 (by rfl) T.m_range (pa_cons (pe_callB (call_lenGK (K := K) rfl) (by rfl) T.m_len (by decide +kernel) (pa_cons (pe_ix (ix_GK (K := K) rfl hu) (pv 4) pe_int (fun _ _ => rfl)) pa_nil)) pa_nil)) (pg_name (i := 6) sc_law_table.nd rfl (Or.inl rfl)) (pss_cons (ps_set (i := 7) sc_law_table.nd rfl (Or.inl rfl) (pe_ix (ix_GK (K := K) rfl hu) (pv 2) (pe_ix (ix_GK (K := K) rfl hu) (pe_ix (ix_GK (K := K) rfl hu) (pv 4) pe_int (fun _ _ => rfl)) (pv 6) (fun _ _ => rfl)) (fun _ _ => rfl))) (pss_one (ps_if (PW.pt (pw_and (pt_cmpR op_notN (pv 7) pe_non (nomark _)) (pw_and1 (PW.pt (pw_or (pt_cmpR op_isN (pv 5) pe_non (nomark _)) (pw_or1 (pt_cmpR (op_lt2K (K := K) rfl hr.u65) (pe_op (op_addGK (K := K) rfl) (pe_callB (call_lenGK (K := K) rfl) (by rfl) T.m_len (by decide +kernel) (pa_cons (pv 7) pa_nil)) pe_int) (pe_callB (call_lenGK (K := K) rfl) (by rfl) T.m_len (by decide +kernel) (pa_cons (pv 5) pa_nil)) (nomark _)))))))) (pss_one (ps_set (i := 5) sc_law_table.nd rfl (Or.inl rfl) (pe_op (op_addGK (K := K) rfl) (pe_tup (pa_cons (pv 6) pa_nil)) (pv 7)))) pss_nil))))) pss_nil))) (pss_one (ps_asg (pv 5) (pg_sub (pv 2) (pv 3) (set_G hu)))))))) (pss_one (ps_ret (pv 2))))), ?_⟩
  refine ls_start [none, none, none, none, none, none] rfl ?_
  dsimp only [cxOf, List.map, List.cons_append, List.nil_append]
  unfold LEnd
  refine ls_ent ent_open ?_
  unfold wdRows wdF
  kaf_pre
  rename_i L
  refine l_forL ?_
  kaf_pre
  refine forw_lst (ds := numsD ns.length) (fun i e M => e = [some (rf A.wd), some (namesD nm), some (rf L), none, none, none, none, none] ∧ M = dkR L (mkv nk optD (idxOf (tabB nm (ns.take i)))) :: wdRows P w K C A ns ys)
    ⟨_, by kas_types, _, Ent.refl _, rfl, rfl⟩ (fun i e M h => ?_) (fun i d e M hd h => ?_) (fun e M h => ?_)
  · obtain ⟨_, rfl⟩ := h; exact ⟨4, rfl⟩
  · obtain ⟨rfl, rfl⟩ := h
    obtain ⟨hi, rfl⟩ := numsD_of hd
    have e : ns[i]? = some ns[i] := List.getElem?_eq_getElem hi
    have htk : ns.take (i + 1) = ns.take i ++ [ns[i]] := by rw [List.take_add_one, e]; rfl
    have htl : (tabB nm (ns.take i)).length = i := by rw [tabB_len, List.length_take]; omega
    have hpre : ns.take i <+: ns := List.take_prefix _ _
    have hbl : ∀ (k : Nat) (r : List Nat), k < i → ((tabB nm (ns.take i))[k]?).join = some r → r.length ≤ 900 := fun k r hk hr => by
      have := bst_len hok.ok k (show bst nm ns k = some r by rw [bst_prefix hpre (by rw [List.length_take]; omega)]; exact hr)
      omega
    have hkn : ∀ p a ks, ns[i] = Nd.ask p a ks → ∀ k ∈ ks, k < i := fun p a ks h1 k hk => hok.ok.wf i p a ks (by rw [e, h1]) k hk
    have hst : ∀ p a ks, ns[i] = Nd.ask p a ks → PyData.strOk p = true ∧ ks.length ≤ 4 := fun p a ks h1 => hok.ok.st i p a ks (by rw [e, h1])
    generalize ns[i] = nd at e htk hkn hst
    have hset : aput (mkv nk optD (idxOf (tabB nm (ns.take i)))) (nk i) (optD (rowB nm (fun k : Nat => ((tabB nm (ns.take i))[k]?).join) nd)) = mkv nk optD (idxOf (tabB nm (ns.take (i + 1)))) := by
      rw [aput_mkv nk_inj, idx_put _ _ _ (by omega), if_neg (by omega), htk, tabB_snoc]
    generalize hb : (fun k : Nat => ((tabB nm (ns.take i))[k]?).join) = b at hset
    have hbk : ∀ k : Nat, ((tabB nm (ns.take i))[k]?).join = b k := fun k => by rw [← hb]
    unfold wdRows wdF
    kaf_pre
    refine ixw_dk (m := 3) (k := nk i) (.inl rfl) rfl (by rw [show aget (mkv nk Nd.toD (idxOf ns)) (nk i) = _ from ow_get, e]; rfl) ?_
    kaf_suf
    refine ls_nx (fun e M => ∃ o6 o7 : Option W, e = [some (rf A.wd), some (namesD nm), some (rf L), some (.int (i : Int)), some nd.toD, some (optD (rowB nm b nd)), o6, o7] ∧ M = dkR L (mkv nk optD (idxOf (tabB nm (ns.take i)))) :: wdRows P w K C A ns ys) ?_ (fun e1 M1 h1 => ?_)
    · cases nd with
      | val v =>
        unfold Nd.toD
        kaf_pre
        exact ⟨_, _, rfl, rfl⟩
      | ask p a ks =>
        obtain ⟨hp, hk4⟩ := hst p a ks rfl
        have hkl := hkn p a ks rfl
        unfold Nd.toD namesD
        kaf_pre
        refine inw_tup (okd_str hp) (okds_strs hnm.2) ?_
        rw [in_strs hnm.2 hp]
        kaf_pre
        refine ifD (fun hin => ?_) (fun hin => ?_)
        · have hrow : rowB nm b (.ask p a ks) = some [] := by simp only [rowB, if_pos hin]
          rw [hrow]
          kaf_pre
          exact ⟨_, _, rfl, rfl⟩
        · have hrow : rowB nm b (.ask p a ks) = pickB b ks 0 none := by simp only [rowB, if_neg hin]
          rw [hrow]
          kaf_pre
          refine forw_rng (k := ks.length) (by rw [List.length_map]) (by omega) (fun j e M => e = [some (rf A.wd), some (namesD nm), some (rf L), some (.int (i : Int)), some (Nd.toD (.ask p a ks)), some (optD (pickB b (ks.take j) 0 none)), none, none] ∧ M = dkR L (mkv nk optD (idxOf (tabB nm (ns.take i)))) :: wdRows P w K C A ns ys)
            ⟨_, by kas_types, _, Ent.refl _, rfl, rfl⟩ (fun j e M hj h => ?_) (fun e M h => ?_)
          · obtain ⟨rfl, rfl⟩ := h
            have ej : ks[j]? = some ks[j] := List.getElem?_eq_getElem hj
            have hk1 := hkl _ (List.getElem_mem hj)
            have htk2 : ks.take (j + 1) = ks.take j ++ [ks[j]] := by rw [List.take_add_one, ej]; rfl
            have hpick := pickB_take b (ks.take j) ks[j] 0 none
            rw [List.length_take, Nat.min_eq_left (Nat.le_of_lt hj), Nat.zero_add] at hpick
            rw [htk2, hpick]
            generalize ks[j] = kk at ej hk1
            have ej' : (ks.map natD)[j]? = some (.int (kk : Int)) := by rw [List.getElem?_map, ej]; rfl
            have hg : aget (mkv nk optD (idxOf (tabB nm (ns.take i)))) (nk kk) = some (optD (b kk)) := by
              rw [tab_get]
              have h1 := hbk kk
              rw [List.getElem?_eq_getElem (by omega)] at h1 ⊢
              rw [← h1]; rfl
            have hlen := fun r => hbl kk r hk1
            rw [hbk] at hlen
            generalize pickB b (ks.take j) 0 none = fd
            unfold Nd.toD wdRows
            kaf_pre
            refine ixw_dk (m := 0) (k := nk kk) (.inl rfl) rfl hg ?_
            generalize hX : pickB b [kk] j fd = X
            cases hbk2 : b kk with
            | none =>
              have hX' : X = fd := by rw [← hX]; simp only [pickB, hbk2]
              subst hX'
              unfold optD
              kaf_pre
              exact ⟨_, by kas_types, _, Ent.refl _, rfl, rfl⟩
            | some r =>
              have hr9 := hlen r hbk2
              have hadd : [PyData.int (j : Int)].length + (r.map natD).length ≤ 1000 := by rw [List.length_map]; simp; omega
              cases fd with
              | none =>
                have hX' : X = some (j :: r) := by rw [← hX]; simp only [pickB, hbk2]
                subst hX'
                unfold optD
                kaf_pre
                refine addw_tup hadd ?_
                kaf_pre
                exact ⟨_, by kas_types, _, Ent.refl _, rfl, rfl⟩
              | some g =>
                by_cases hlt' : r.length + 1 < g.length
                · have hX' : X = some (j :: r) := by rw [← hX]; simp only [pickB, hbk2, if_pos hlt']
                  subst hX'
                  unfold optD
                  kaf_pre
                  rw [List.length_map, List.length_map]
                  refine ltw_int ?_
                  kaf_pre
                  refine ifT (by omega) ?_
                  kaf_pre
                  refine addw_tup hadd ?_
                  kaf_pre
                  exact ⟨_, by kas_types, _, Ent.refl _, rfl, rfl⟩
                · have hX' : X = some g := by rw [← hX]; simp only [pickB, hbk2, if_neg hlt']
                  subst hX'
                  unfold optD
                  kaf_pre
                  rw [List.length_map, List.length_map]
                  refine ltw_int ?_
                  kaf_pre
                  refine ifF (by omega) ?_
                  kaf_pre
                  exact ⟨_, by kas_types, _, Ent.refl _, rfl, rfl⟩
          · obtain ⟨rfl, rfl⟩ := h
            rw [List.take_length]
            exact ⟨_, _, rfl, rfl⟩
    · obtain ⟨o6, o7, rfl, rfl⟩ := h1
      unfold wdRows
      kaf_pre
      refine setw_dk (m := 0) (k := nk i) rfl rfl (by unfold mkv; rw [List.length_map, idx_len]; omega) ?_
      rw [hset]
      exact ⟨_, by kas_types, _, Ent.refl _, rfl, rfl⟩
  · obtain ⟨rfl, rfl⟩ := h
    rw [numsD_len, List.take_length]
    kaf_pre
    refine drp_ent ?_ (q L)
    exact Ent.trans (ent_sel [1, 2, 3, 4, 5, 6, 0] (by decide)) (ent_close (rs := wdRows P w K C A ns ys) (M := [dkR L (mkv nk optD (idxOf (tabB nm ns)))]))
theorem tablec {M : Mem} {R : W → Mem → Prop} {C : Addr} {i : Nat} {A : Wd} {ns : List Nd} {ys : List Int} {nm : List Str} (hm : M[i]? = some (wdR P w K C A ns ys)) (ok : WdOk A ns ys) (hl : ns.length ≤ 900) (hn : NmOk nm)
    (q : ∀ L, R (rf L) (dkR L (mkv nk optD (idxOf (tabB nm ns))) :: M)) : LCall (cTable P w K C) [rf A.wd, namesD nm] M R :=
  call1 i hm ⟨A, ns, ys, nm, rfl, rfl, ok, hl, hn, fun L => by dsimp only; rw [puts_one, set_same hm]; exact q L⟩

theorem new_law_below (T : Top K mg) : Cal P w K mg base CX0 1 "_law_below" ["own", "node"] (spM cBelow) := by
  refine T.d_law_below.mcal sc_law_below (fun ws M R h => ?_) (fun f cdv A0 outer s H E ws M R B hk hr h => ?_)
  · obtain ⟨ow, ns, size, node, rfl, _⟩ := h; rfl
  obtain ⟨ow, ns, size, node, rfl, rfl, hok, hn, hl, q⟩ := h
  have hu := hu_of hr
  refine ⟨_, (pss_cons (ps_set (i := 2) sc_law_below.nd rfl (Or.inl rfl) pe_dnewK) (pss_cons (ps_set (i := 3) sc_law_below.nd rfl (Or.inl rfl) (pe_lst (pa_cons (pv 1) pa_nil))) (pss_cons (ps_while PassesOwn.never (pt_cmpR op_gt (pe_callB (call_lenGK (K := K) rfl) (by rfl) T.m_len (by decide +kernel) (pa_cons (pv 3) pa_nil)) pe_int (nomark _)) (pss_cons (ps_set (i := 4) sc_law_below.nd rfl (Or.inl rfl) (pe_bm0 PySem.F.plainAttrs_list PySem.F.slot_list_pop PySem.F.type_list_pop mt_pop (pv 3))) (pss_one (ps_if (pt_cmpR (op_notIn2K (K := K) rfl hr.u65) (pv 4) (pv 2) (by rfl)) (pss_cons (ps_asg pe_bl (pg_sub (pv 2) (pv 4) (set_G hu))) (pss_one (ps_if (pt_cmpR (op_eqGK (K := K) rfl hr.units) (pe_ix (ix_GK (K := K) rfl hu) (pe_ix (ix_GK (K := K) rfl hu) (pv 0) (pv 4) (fun _ _ => rfl)) pe_int (fun _ _ => rfl)) pe_str (nomark _)) (pss_one (ps_expr (pe_bm PySem.F.plainAttrs_list PySem.F.slot_list_extend PySem.F.type_list_extend mt_extend (pv 3) (pa_cons (pe_callTy (call_listGK (K := K) rfl rfl) (by rfl) T.m_list (by decide +kernel) (pa_cons (pe_ix (ix_GK (K := K) rfl hu) (pe_ix (ix_GK (K := K) rfl hu) (pv 0) (pv 4) (fun _ _ => rfl)) pe_int (fun _ _ => rfl)) pa_nil)) pa_nil)))) pss_nil))) pss_nil)))) (pss_one (ps_ret (pe_callTy (call_tupGK (K := K) rfl) (by rfl) T.m_tuple (by decide +kernel) (pa_cons (pe_callB (call_sorted3K (K := K) rfl rfl hr.u65) (by rfl) T.m_sorted (by decide +kernel) (pa_cons (pv 2) pa_nil)) pa_nil))))))), ?_⟩
  refine ls_start [none, none, none] rfl ?_
  dsimp only [cxOf, List.map, List.cons_append, List.nil_append]
  unfold LEnd
  kaf_pre
  rename_i D Wt
  refine l_while (fun m e M => ∃ met wait : List Nat, m = (ns.length - met.length) * 6 + wait.length ∧ e = [some (rf ow), some (.int (node : Int)), some (rf D), some (rf Wt), none] ∧ M = [lstR Wt (wait.map natD), dkR D (metD met), dkR ow (mkv nk Nd.toD (idxOf ns))] ∧ met.Nodup ∧ (∀ x ∈ met ++ wait, Reach ns node x) ∧ (∀ x ∈ met, ∀ k ∈ kidsOf ns x, k ∈ met ++ wait) ∧ node ∈ met ++ wait ∧ wait.length ≤ 1 + 4 * met.length) (ns.length * 6 + 1)
    ⟨_, by kas_types, _, Ent.refl _, [], [node], by simp, rfl, rfl, by simp, fun x hx => by simp at hx; subst hx; exact .refl _, fun x hx => (by cases hx), by simp, by simp⟩ (fun m e M hW => ?_)
  obtain ⟨met, wait, rfl, rfl, rfl, hnd, hre, hcl, hno, hwl⟩ := hW
  have hlt : ∀ x ∈ met ++ wait, x < ns.length := fun x hx => reach_lt hok hn (hre x hx)
  have hml := nodup_lt hnd fun x hx => hlt x (List.mem_append.mpr (.inl hx))
  kaf_pre
  rw [List.length_map]
  refine ifD (fun h0 => ?_) (fun h0 => ?_)
  · obtain ⟨w', x, rfl⟩ : ∃ (w' : List Nat) (x : Nat), wait = w' ++ [x] := by
      refine ⟨wait.dropLast, wait.getLast (fun z => by subst z; simp at h0), (List.dropLast_concat_getLast _).symm⟩
    rw [List.map_append]
    have hx : x < ns.length := hlt x (by simp)
    have e : ns[x]? = some ns[x] := List.getElem?_eq_getElem hx
    have hkids : kidsOf ns x = (ns[x]).kids := by unfold kidsOf; rw [e]; cases ns[x] <;> rfl
    have hxr := hre x (by simp)
    rw [show [x].map natD = [PyData.int (x : Int)] from rfl]
    kaf_pre
    rw [metD_get']
    refine iteN2 (fun hni => ?_) (fun hni => ?_)
    · kaf_pre
      refine setw_dk (k := nk x) (m := 1) rfl rfl (by rw [metD_len]; omega) ?_
      rw [metD_put hni]
      have hnd' : (met ++ [x]).Nodup := by
        rw [List.nodup_append]
        exact ⟨hnd, by simp, fun u hu' v hv z => hni (by rw [List.mem_singleton.mp hv] at z; rw [← z]; exact hu')⟩
      have hml' := nodup_lt hnd' (n := ns.length) fun y hy => by
        rcases List.mem_append.mp hy with hy | hy
        · exact hlt y (List.mem_append.mpr (.inl hy))
        · rw [List.mem_singleton.mp hy]; exact hx
      rw [List.length_append, List.length_cons, List.length_nil] at hml'
      have hk4 : (ns[x]).kids.length ≤ 4 := by
        cases hnx : ns[x] with
        | val v => simp [Nd.kids]
        | ask p a ks => rw [hnx] at e; exact (hok.st x p a ks e).2
      have fin : ∀ ks : List Nat, kidsOf ns x = ks → ks.length ≤ 4 → ∀ M0 : Mem, Ent M0 [lstR Wt ((w' ++ ks).map natD), dkR D (metD (met ++ [x])), dkR ow (mkv nk Nd.toD (idxOf ns))] → ∀ o : Option W,
          Nxt (fun e M => ∃ m', m' < (ns.length - met.length) * 6 + (w' ++ [x]).length ∧ ∃ met wait : List Nat, m' = (ns.length - met.length) * 6 + wait.length ∧ e = [some (rf ow), some (.int (node : Int)), some (rf D), some (rf Wt), none] ∧ M = [lstR Wt (wait.map natD), dkR D (metD met), dkR ow (mkv nk Nd.toD (idxOf ns))] ∧ met.Nodup ∧ (∀ x ∈ met ++ wait, Reach ns node x) ∧ (∀ x ∈ met, ∀ k ∈ kidsOf ns x, k ∈ met ++ wait) ∧ node ∈ met ++ wait ∧ wait.length ≤ 1 + 4 * met.length) [some (rf ow), some (.int (node : Int)), some (rf D), some (rf Wt), o] M0 := fun ks hks hl4 M0 en o => by
        refine ⟨_, by kas_types, _, en, _, ?_, met ++ [x], w' ++ ks, rfl, rfl, rfl, hnd', fun y hy => ?_, fun y hy k hk => ?_, ?_, ?_⟩
        · simp only [List.length_append, List.length_cons, List.length_nil]; omega
        · simp only [List.mem_append, List.mem_singleton] at hy
          rcases hy with (hy | hy) | hy | hy
          · exact hre y (by simp [hy])
          · rw [hy]; exact hxr
          · exact hre y (by simp [hy])
          · exact .step hxr (by rw [hks]; exact hy)
        · simp only [List.mem_append, List.mem_singleton] at hy ⊢
          rcases hy with hy | hy
          · have := hcl y hy k hk
            simp only [List.mem_append, List.mem_singleton] at this
            rcases this with h | h | h
            · exact .inl (.inl h)
            · exact .inr (.inl h)
            · exact .inl (.inr h)
          · rw [hy, hks] at hk; exact .inr (.inr hk)
        · simp only [List.mem_append, List.mem_singleton] at hno ⊢
          rcases hno with h | h | h
          · exact .inl (.inl h)
          · exact .inr (.inl h)
          · exact .inl (.inr h)
        · simp only [List.length_append, List.length_cons, List.length_nil] at hwl ⊢; omega
      kaf_pre
      refine ixw_dk (m := 2) (k := nk x) (.inl rfl) rfl (by rw [show aget (mkv nk Nd.toD (idxOf ns)) (nk x) = _ from ow_get, e]; rfl) ?_
      cases hnx : ns[x] with
      | val v =>
        unfold Nd.toD
        kaf_pre
        refine fin [] (by rw [hkids, hnx]; rfl) (by simp) _ ?_ _
        rw [List.append_nil]; exact Ent.refl _
      | ask p a ks =>
        rw [hnx] at hk4
        have hg : aget (mkv nk Nd.toD (idxOf ns)) (nk x) = some (Nd.toD (.ask p a ks)) := by rw [show aget (mkv nk Nd.toD (idxOf ns)) (nk x) = _ from ow_get, e, hnx]; rfl
        generalize hX : Nd.toD (.ask p a ks) = X at hg
        have hX2 : X = .tuple [.str "ask", .str p, .int (a : Int), .tuple (ks.map natD)] := by rw [← hX]; rfl
        rw [hX2]
        kaf_pre
        refine ixw_dk (m := 2) (k := nk x) (.inl rfl) rfl hg ?_
        rw [hX2]
        kaf_pre
        refine extendw (m := 1) (i := 0) rfl rfl (Nat.le_trans (m := 10000) ?_ (by decide)) ?_
        · rw [List.length_map, List.length_map]
          simp only [List.length_append, List.length_cons, List.length_nil] at hwl
          have : ks.length ≤ 4 := hk4
          omega
        · refine fin ks (by rw [hkids, hnx]; rfl) hk4 _ ?_ _
          rw [List.map_append]
          exact Ent.sub (List.sublist_cons_self _ _)
    · have hni : x ∈ met := hni
      kaf_pre
      refine ⟨_, ?ev, _, Ent.refl _, _, ?_, met, w', rfl, rfl, rfl, hnd, fun y hy => hre y ?_, fun y hy k hk => ?_, ?_, ?_⟩
      case ev => kas_types
      · simp only [List.length_append, List.length_cons, List.length_nil]; omega
      · rcases List.mem_append.mp hy with h | h <;> simp [h]
      · have := hcl y hy k hk
        simp only [List.mem_append, List.mem_singleton] at this ⊢
        rcases this with h | h | h
        · exact .inl h
        · exact .inr h
        · rw [h]; exact .inl hni
      · simp only [List.mem_append, List.mem_singleton] at hno ⊢
        rcases hno with h | h | h
        · exact .inl h
        · exact .inr h
        · rw [h]; exact .inl hni
      · simp only [List.length_append, List.length_cons, List.length_nil] at hwl; omega
  · have hw0 : wait = [] := by
      cases wait with
      | nil => rfl
      | cons _ _ => exact absurd (by simp) h0
    subst hw0
    rw [List.append_nil] at hno
    kaf_pre
    refine sortw_dkD (m := 1) (.inl rfl) ?_ ?_ (by rw [metD_len]; omega) (fun es hp ha S => ?_)
    · rw [metD_keys]; exact ints_alike _
    · rw [metD_keys]; exact ints_sortable _
    kaf_pre
    refine drp1 3 rfl (q met es hnd (clo_reach hno (fun x hx => hre x (by simpa using hx)) fun x hx k hk => by simpa using hcl x hx k hk) ?_ ha)
    rw [metD_keys, List.map_map] at hp
    exact hp

theorem leastc {M : Mem} {R : W → Mem → Prop} {C : Addr} {i : Nat} {g nl kn : Addr} {size node : Nat} {ns : List Nd} {nm : List Str} (hm : M[i]? = some (gvR P w K C g nl kn size ns)) (ok : NsOk size ns) (hn : node < ns.length) (hl : ns.length ≤ 900) (hnm : NmOk nm)
    (q1 : ∀ (wy : List Nat) (x : Nat), bst nm ns node = some wy → Way ns node wy x → tgt nm ns x = true → R (.tuple [.tuple (wy.map natD), .int (x : Int)]) M)
    (q2 : ∀ (met : List Nat) es, bst nm ns node = none → met.Nodup → (∀ x, x ∈ met ↔ Reach ns node x) → es.Perm (met.map natD) → Asc es → R (.tuple [.str "closed", .tuple es]) M) : LCall (cLeast P w K C) [rf g, .int (node : Int), namesD nm] M R :=
  call1 i hm ⟨g, nl, kn, size, ns, node, nm, rfl, rfl, ok, hn, hl, hnm, fun wy x h1 h2 h3 => by dsimp only; rw [puts_same hm]; exact q1 wy x h1 h2 h3, fun met es h1 h2 h3 h4 h5 => by dsimp only; rw [puts_same hm]; exact q2 met es h1 h2 h3 h4 h5⟩
theorem belowc {M : Mem} {R : W → Mem → Prop} {i : Nat} {ow : Addr} {size node : Nat} {ns : List Nd} (hm : M[i]? = some (dkR ow (mkv nk Nd.toD (idxOf ns)))) (ok : NsOk size ns) (hn : node < ns.length) (hl : ns.length ≤ 900)
    (q : ∀ (met : List Nat) es, met.Nodup → (∀ x, x ∈ met ↔ Reach ns node x) → es.Perm (met.map natD) → Asc es → R (.tuple es) M) : LCall cBelow [rf ow, .int (node : Int)] M R :=
  call1 i hm ⟨ow, ns, size, node, rfl, rfl, ok, hn, hl, fun met es h1 h2 h3 h4 => by dsimp only; rw [puts_same hm]; exact q met es h1 h2 h3 h4⟩
theorem tracec {M : Mem} {R : W → Mem → Prop} {C : Addr} {i : Nat} {g nl kn : Addr} {size k : Nat} {ns : List Nd} {wl : List Int} (hm : M[i]? = some (gvR P w K C g nl kn size ns)) (ok : NsOk size ns) (hk : k < ns.length) (hl : wl.length ≤ 900) (q : R (tellD (down ns wl k)) M) : LCall (cTrace P w K C) [rf g, .int (k : Int), .tuple (wl.map .int)] M R :=
  call1 i hm ⟨g, nl, kn, size, ns, k, wl, rfl, rfl, ok, hk, hl, by dsimp only; rw [puts_same hm]; exact q⟩
theorem okd_ints (js : List Int) : Okd (.tuple (js.map .int)) := by
  refine Okds.tup ⟨pls_all.mpr fun d hd => ?_, depthAll_le.mpr fun d hd => ?_⟩
  · obtain ⟨n, hn, rfl⟩ := List.mem_map.mp hd; rfl
  · obtain ⟨n, hn, rfl⟩ := List.mem_map.mp hd; simp [PyData.depth]
theorem okd_int (j : Int) : Okd (.int j) := ⟨rfl, by simp [PyData.depth]⟩
theorem dep_ints (js : List Int) : (PyData.tuple (js.map .int)).depth ≤ 1 := by
  have : PyData.depthAll (js.map PyData.int) ≤ 0 := depthAll_le.mpr fun d hd => by
    obtain ⟨n, hn, rfl⟩ := List.mem_map.mp hd; simp [PyData.depth]
  simp only [PyData.depth]; omega
theorem okd_two {d e : W} (h1 : Okd d) (h2 : Okd e) (d1 : d.depth ≤ 5) (d2 : e.depth ≤ 5) : Okd (.tuple [d, e]) := by
  refine Okds.tup ⟨by simp [pls, h1.1, h2.1], ?_⟩
  simp only [PyData.depthAll]; omega
theorem natD_ints (wy : List Nat) : wy.map natD = (wy.map fun (a : Nat) => (a : Int)).map .int := by rw [List.map_map]; rfl
theorem eqv_same {d : W} (h : Okd d) : PyData.eqv d d = true := (eqv_pl d d h.1 h.1).mpr rfl
theorem new_law_is_least (T : Top K mg) {C : Addr} (G : G_Grove K mg C) : Cal P w K mg base CX0 3 "_law_is_least" ["wood", "node", "names"] (spM (cIsLeast P w K C)) := by
  refine T.d_law_is_least.mcal sc_law_is_least (fun ws M R h => ?_) (fun f cdv A0 outer s H E ws M R B hk hr h => ?_)
  · obtain ⟨A, ns, ys, node, nm, rfl, _⟩ := h; rfl
  obtain ⟨A, ns, ys, node, nm, rfl, rfl, hok, hn, hl, hnm, q⟩ := h
  have hu := hu_of hr
  have C_law_table := new_law_table (P := P) (w := w) (base := base) T (C := C)
  have C_law_below := new_law_below (P := P) (w := w) (base := base) T
  have C_law_is_ints := new_law_is_ints (P := P) (w := w) (base := base) T
  have C_law_is_int := new_law_is_int (P := P) (w := w) (base := base) T
  have C_least_world := new_least_world (P := P) (w := w) (base := base) T G
  have C_trace := new_trace (P := P) (w := w) (base := base) T G
  refine ⟨_, (pss_cons (ps_par (i := 3) (j := 4) (by rfl) sc_law_is_least.nd rfl rfl (by decide) rfl rfl (pa_cons (pe_ix (ix_GK (K := K) rfl hu) (pv 0) pe_int (fun _ _ => rfl)) (pa_cons (pe_ix (ix_GK (K := K) rfl hu) (pv 0) pe_int (fun _ _ => rfl)) pa_nil)) (by rfl)) (pss_cons (ps_set (i := 5) sc_law_is_least.nd rfl (Or.inl rfl) (pe_ix (ix_GK (K := K) rfl hu) (pe_cal C_law_table (hr.mono (by omega)) (by rfl) pass0 (pa_cons (pv 0) (pa_cons (pv 2) pa_nil))) (pv 1) (fun _ _ => rfl))) (pss_cons (ps_set (i := 6) sc_law_is_least.nd rfl (Or.inl rfl) (pe_cal C_least_world (hr.mono (by omega)) (by rfl) pass0 (pa_cons (pv 3) (pa_cons (pv 1) (pa_cons (pv 2) pa_nil))))) (pss_cons (ps_if (pt_cmpR op_isN (pv 5) pe_non (nomark _)) (pss_one (ps_ret (pe_and (pe_cmpR (op_eqGK (K := K) rfl hr.units) (pv 6) (pe_tup (pa_cons pe_str (pa_cons (pe_cal C_law_below (hr.mono (by omega)) (by rfl) pass0 (pa_cons (pv 4) (pa_cons (pv 1) pa_nil))) pa_nil))) (nomark _)) (pe_one (pe_cal C_law_is_ints (hr.mono (by omega)) (by rfl) pass0 (pa_cons (pe_ix (ix_GK (K := K) rfl hu) (pv 6) pe_int (fun _ _ => rfl)) pa_nil)))))) pss_nil) (pss_cons (ps_set (i := 7) sc_law_is_least.nd rfl (Or.inl rfl) (pv 1)) (pss_cons (ps_for PassesOwn.never rfl (pi_seqK (K := K) rfl (pv 5)) (pg_name (i := 8) sc_law_is_least.nd rfl (Or.inl rfl)) (pss_one (ps_set (i := 7) sc_law_is_least.nd rfl (Or.inl rfl) (pe_ix (ix_GK (K := K) rfl hu) (pe_ix (ix_GK (K := K) rfl hu) (pe_ix (ix_GK (K := K) rfl hu) (pv 4) (pv 7) (fun _ _ => rfl)) pe_int (fun _ _ => rfl)) (pv 8) (fun _ _ => rfl))))) (pss_cons (ps_if (PW.pt (pw_or (pt_cmpR (op_neGK (K := K) rfl hr.units) (pv 6) (pe_tup (pa_cons (pv 5) (pa_cons (pv 7) pa_nil))) (nomark _)) (pw_or (pt_not (pt_val (pe_cal C_law_is_ints (hr.mono (by omega)) (by rfl) pass0 (pa_cons (pe_ix (ix_GK (K := K) rfl hu) (pv 6) pe_int (fun _ _ => rfl)) pa_nil)))) (pw_or1 (pt_not (pt_val (pe_cal C_law_is_int (hr.mono (by omega)) (by rfl) pass0 (pa_cons (pe_ix (ix_GK (K := K) rfl hu) (pv 6) pe_int (fun _ _ => rfl)) pa_nil)))))))) (pss_one (ps_ret pe_bl)) pss_nil) (pss_cons (ps_set (i := 9) sc_law_is_least.nd rfl (Or.inl rfl) (pe_ifExp (pt_cmpR (op_eqGK (K := K) rfl hr.units) (pe_callB (call_lenGK (K := K) rfl) (by rfl) T.m_len (by decide +kernel) (pa_cons (pe_ix (ix_GK (K := K) rfl hu) (pe_ix (ix_GK (K := K) rfl hu) (pv 4) (pv 7) (fun _ _ => rfl)) pe_int (fun _ _ => rfl)) pa_nil)) pe_int (nomark _)) pe_str pe_str)) (pss_one (ps_ret (pe_and (pe_cmpR (op_eqGK (K := K) rfl hr.units) (pe_ix (ix_GK (K := K) rfl hu) (pe_cal C_trace (hr.mono (by omega)) (by rfl) pass0 (pa_cons (pv 3) (pa_cons (pv 1) (pa_cons (pe_ix (ix_GK (K := K) rfl hu) (pv 6) pe_int (fun _ _ => rfl)) pa_nil)))) pe_int (fun _ _ => rfl)) (pe_tup (pa_cons (pv 9) (pa_cons (pe_ix (ix_GK (K := K) rfl hu) (pe_ix (ix_GK (K := K) rfl hu) (pv 4) (pv 7) (fun _ _ => rfl)) pe_int (fun _ _ => rfl)) (pa_cons (pe_ix (ix_GK (K := K) rfl hu) (pe_ix (ix_GK (K := K) rfl hu) (pv 4) (pv 7) (fun _ _ => rfl)) pe_int (fun _ _ => rfl)) pa_nil)))) (nomark _)) (pe_one (pe_cmpR (op_in2K (K := K) rfl hr.u65) (pe_ix (ix_GK (K := K) rfl hu) (pe_ix (ix_GK (K := K) rfl hu) (pv 4) (pv 7) (fun _ _ => rfl)) pe_int (fun _ _ => rfl)) (pv 2) (by rfl)))))))))))))), ?_⟩
  refine ls_start [none, none, none, none, none, none, none] rfl ?_
  dsimp only [cxOf, List.map, List.cons_append, List.nil_append]
  unfold LEnd
  refine ls_ent ent_open ?_
  unfold wdRows wdF
  refine l_seq ?_
  refine l_par (xs := []) ?_
  kbe_one
  refine ⟨_, _, rfl, ?_⟩
  kbe_one
  refine ls_ent (ent_grp (rs := wdRows P w K C A ns ys)) ?_
  refine l_seq ?_
  kbe_one
  refine tablec (i := 0) rfl hok hl hnm (fun L => ?_)
  kbe_one
  have hbst : aget (mkv nk optD (idxOf (tabB nm ns))) (nk node) = some (optD (bst nm ns node)) := by
    rw [tab_get]
    unfold bst
    rw [List.getElem?_eq_getElem (by rw [tabB_len]; exact hn)]
    rfl
  refine ixw_dk (m := 0) (k := nk node) (.inl rfl) rfl hbst ?_
  kbe_one
  refine ls_ent (ent_openAt 1 rfl) ?_
  unfold wdRows wdF
  refine l_seq ?_
  kbe_one
  refine leastc (i := 1) rfl hok.ok hn hl hnm (fun wy x hb hway htg => ?_) (fun met es hb hnd hmem hp ha => ?_)
  · have hwl : wy.length ≤ 900 := by have := bst_len hok.ok node hb; omega
    rw [hb]
    obtain ⟨p, a, ks, e, hin⟩ : ∃ p a ks, ns[x]? = some (.ask p a ks) ∧ p ∈ nm := by
      unfold tgt at htg
      split at htg
      · rename_i p a ks e; exact ⟨p, a, ks, e, by simpa using htg⟩
      · cases htg
    have hp := (hok.ok.st x p a ks e).1
    have hgx : aget (mkv nk Nd.toD (idxOf ns)) (nk x) = some (.tuple [.str "ask", .str p, .int (a : Int), .tuple (ks.map natD)]) := by rw [show aget (mkv nk Nd.toD (idxOf ns)) (nk x) = _ from ow_get, e]; rfl
    have hdn : (down ns (wy.map fun (a : Nat) => (a : Int)) node).2 = (down ns [] x).2 := way_down hway
    unfold optD
    kbe_one
    refine l_seq ?_
    kbe_one
    refine l_seq ?_
    kbe_one
    refine l_seq ?_
    refine l_forT ?_
    kbe_one
    refine forw_tup (fun j e M => ∃ y : Nat, Way ns node (wy.take j) y ∧ e = [some (rf A.wd), some (.int (node : Int)), some (namesD nm), some (rf A.g), some (rf A.ow), some (.tuple (wy.map natD)), some (.tuple [.tuple (wy.map natD), .int (x : Int)]), some (.int (y : Int)), none, none] ∧ M = wdRows P w K C A ns ys ++ [dkR L (mkv nk optD (idxOf (tabB nm ns)))])
      ⟨_, by kas_types, _, Ent.refl _, node, .nil _, rfl, rfl⟩ (fun j d e1 M hd h => ?_) (fun e1 M h => ?_)
    · obtain ⟨y, hy, rfl, rfl⟩ := h
      rw [List.getElem?_map] at hd
      obtain ⟨b, eb, rfl⟩ := Option.map_eq_some_iff.mp hd
      obtain ⟨y', b', k, h1, h2, h3, h4⟩ := hway.take j (List.getElem?_eq_some_iff.mp eb).1
      rw [eb] at h2
      cases h2
      cases hy.det h1
      obtain ⟨p', a', ks', e2, e3⟩ := kids_at h3
      have hgy : aget (mkv nk Nd.toD (idxOf ns)) (nk y) = some (.tuple [.str "ask", .str p', .int (a' : Int), .tuple (ks'.map natD)]) := by rw [show aget (mkv nk Nd.toD (idxOf ns)) (nk y) = _ from ow_get, e2]; rfl
      have e3' : (ks'.map natD)[b]? = some (.int (k : Int)) := by rw [List.getElem?_map, e3]; rfl
      unfold wdRows natD
      kaf_pre
      refine ixw_dk (m := 2) (k := nk y) (.inl rfl) rfl hgy ?_
      kaf_pre
      exact ⟨_, by kas_types, _, Ent.refl _, k, h4, rfl, rfl⟩
    · obtain ⟨y, hy, rfl, rfl⟩ := h
      rw [List.length_map, List.take_length] at hy
      have hyx : x = y := (hy.det hway).symm
      subst hyx
      have hwi := natD_ints wy
      have ok1 : Okd (.tuple (wy.map natD)) := by rw [hwi]; exact okd_ints _
      have ok2 : Okd (.tuple [.tuple (wy.map natD), .int (x : Int)]) := okd_two ok1 (okd_int _) (by rw [hwi]; have := dep_ints (wy.map fun (a : Nat) => (a : Int)); omega) (by simp [PyData.depth])
      unfold wdRows
      kaf_pre
      refine new_dat ok2 ok2 ?_
      rw [eqv_same ok2]
      kaf_pre
      rw [hwi]
      refine intsc (by rw [List.length_map]; omega) ?_
      kaf_pre
      refine intc ?_
      kaf_pre
      have fin : ∀ word : Str, (down ns [] x).2.toD = .tuple [.str word, .str p, .int (a : Int)] → PyData.strOk word = true → Okd (.tuple [.str word, .str p, .int (a : Int)]) := fun word _ hw => Okds.tup ⟨by simp [pls, pl, hw, hp], by simp [PyData.depthAll, PyData.depth]⟩
      refine ixw_dk (m := 2) (k := nk x) (.inl rfl) rfl hgx ?_
      kaf_pre
      rw [List.length_map]
      have tail : ∀ (word : Str) (o8 : Option W), (down ns [] x).2.toD = .tuple [.str word, .str p, .int (a : Int)] → PyData.strOk word = true → True := fun _ _ _ _ => trivial
      refine ifD (fun w0 => ?_) (fun w0 => ?_)
      · have hks : ks = [] := by
          cases ks with
          | nil => rfl
          | cons _ _ => exact absurd w0 (by simp; omega)
        subst hks
        have htell : (down ns [] x).2.toD = .tuple [.str "stops", .str p, .int (a : Int)] := by rw [down_stop e]; rfl
        have okf := fin "stops" htell (by decide +kernel)
        kaf_pre
        refine tracec (i := 1) rfl hok.ok hn (by rw [List.length_map]; exact hwl) ?_
        unfold tellD
        kaf_pre
        refine ixw_dk (m := 2) (k := nk x) (.inl rfl) rfl hgx ?_
        kaf_pre
        refine ixw_dk (m := 2) (k := nk x) (.inl rfl) rfl hgx ?_
        kaf_pre
        rw [hdn, htell]
        refine eqw_dat okf okf ?_
        rw [eqv_same okf]
        kaf_pre
        refine ixw_dk (m := 2) (k := nk x) (.inl rfl) rfl hgx ?_
        unfold namesD
        kaf_pre
        refine inw_tup (okd_str hp) (okds_strs hnm.2) ?_
        rw [in_strs hnm.2 hp, decide_eq_true hin]
        exact drp_ent (Ent.trans (ent_sel [0, 1, 2, 3, 4, 5] (by decide)) (ent_grp (rs := wdRows P w K C A ns ys))) q
      · have hks : 0 < ks.length := by
          cases ks with
          | nil => exact absurd rfl w0
          | cons _ _ => simp
        have htell : (down ns [] x).2.toD = .tuple [.str "waits", .str p, .int (a : Int)] := by rw [down_wait e hks]; rfl
        have okf := fin "waits" htell (by decide +kernel)
        kaf_pre
        refine tracec (i := 1) rfl hok.ok hn (by rw [List.length_map]; exact hwl) ?_
        unfold tellD
        kaf_pre
        refine ixw_dk (m := 2) (k := nk x) (.inl rfl) rfl hgx ?_
        kaf_pre
        refine ixw_dk (m := 2) (k := nk x) (.inl rfl) rfl hgx ?_
        kaf_pre
        rw [hdn, htell]
        refine eqw_dat okf okf ?_
        rw [eqv_same okf]
        kaf_pre
        refine ixw_dk (m := 2) (k := nk x) (.inl rfl) rfl hgx ?_
        unfold namesD
        kaf_pre
        refine inw_tup (okd_str hp) (okds_strs hnm.2) ?_
        rw [in_strs hnm.2 hp, decide_eq_true hin]
        exact drp_ent (Ent.trans (ent_sel [0, 1, 2, 3, 4, 5] (by decide)) (ent_grp (rs := wdRows P w K C A ns ys))) q
  · rw [hb]
    unfold optD
    kaf_pre
    refine belowc (i := 2) rfl hok.ok hn hl (fun met2 es2 hnd2 hmem2 hp2 ha2 => ?_)
    obtain ⟨he, js, hjs⟩ := same_sorted hnd hnd2 (fun x => (hmem x).trans (hmem2 x).symm) hp ha hp2 ha2
    subst he
    subst hjs
    have hjl : js.length ≤ 1000 := by
      have h1 := hp.length_eq
      rw [List.length_map, List.length_map] at h1
      have h2 := nodup_lt hnd (n := ns.length) fun x hx => reach_lt hok.ok hn ((hmem x).mp hx)
      omega
    have ok1 : Okd (.tuple [.str "closed", .tuple (js.map .int)]) := okd_two (okd_str (by decide +kernel)) (okd_ints _) (by simp [PyData.depth]) (by have := dep_ints js; omega)
    kaf_pre
    refine eqw_dat ok1 ok1 ?_
    rw [eqv_same ok1]
    kaf_pre
    refine intsc hjl ?_
    exact drp_ent (Ent.trans (ent_sel [0, 1, 2, 3, 4, 5] (by decide)) (ent_grp (rs := wdRows P w K C A ns ys))) q

theorem envr_nil {H : Hp} : EnvR H [] [] := ⟨rfl, fun i w h => by simp at h⟩
theorem envr_none {H : Hp} {e : Ev} {s : L2.St} (x : Option V) (h : EnvR H e s) : EnvR H (none :: e) (x :: s) := ⟨by simp [h.len], fun i w q => by
  cases i with
  | zero => simp at q
  | succ i => simpa using h.get i w (by simpa using q)⟩
theorem envr_some {H : Hp} {e : Ev} {s : L2.St} {x : W} {v : V} (r : WR H x v) (h : EnvR H e s) : EnvR H (some x :: e) (some v :: s) := ⟨by simp [h.len], fun i w q => by
  cases i with
  | zero => simp at q; subst q; exact ⟨v, rfl, r⟩
  | succ i => simpa using h.get i w (by simpa using q)⟩
theorem isleastc {M : Mem} {R : W → Mem → Prop} {C : Addr} {i : Nat} {A : Wd} {ns : List Nd} {ys : List Int} {node : Nat} {nm : List Str} (hm : M[i]? = some (wdR P w K C A ns ys)) (ok : WdOk A ns ys) (hn : node < ns.length) (hl : ns.length ≤ 900) (hnm : NmOk nm) (q : R (.bool true) M) : LCall (cIsLeast P w K C) [rf A.wd, .int (node : Int), namesD nm] M R :=
  call1 i hm ⟨A, ns, ys, node, nm, rfl, rfl, ok, hn, hl, hnm, by dsimp only; rw [puts_same hm]; exact q⟩
theorem chainc {M : Mem} {R : W → Mem → Prop} {C : Addr} {i j : Nat} {a c : Addr} {A : Wd} {ns : List Nd} {ys : List Int} {many : Nat} {z : Int} (ij : i ≠ j) (hm : M[i]? = some (wdR P w K C A ns ys)) (hm' : M[j]? = some (drawR a c)) (hz : z = (many : Int)) (ok : WdOk A ns ys) (hl : ns.length + many + 1 ≤ 900)
    (q : ∀ ns' ys' (x : Nat), WdOk A ns' ys' → ns <+: ns' → ns'.length ≤ ns.length + many + 1 → x < ns'.length → R (.int (x : Int)) (M.set i (wdR P w K C A ns' ys'))) : LCall (cChain P w K C) [rf a, rf A.wd, .int z] M R := by
  subst hz
  exact call2 i j ij hm hm' ⟨a, c, A, ns, ys, many, rfl, rfl, ok, hl, fun ns' ys' x h1 h2 h3 h4 => by dsimp only; rw [puts_two ij, List.nil_append, List.set_comm _ _ ij, set_same hm']; exact q ns' ys' x h1 h2 h3 h4⟩
/-- a wood's parts, read while it stands as one -/
theorem ixw_wd {B : Bs} {M : Mem} {R : W → Mem → Prop} {C : Addr} {i j : Nat} {A : Wd} {ns : List Nd} {ys : List Int} {z : Int} {x : W} (hm : M[i]? = some (wdR P w K C A ns ys)) (hz : z = (j : Nat)) (hj : (wdF A)[j]? = some x) (q : R x M) : LR2 B (rIxG K) (rf A.wd) (.int z) M R := fun vx vy H Q s r1 r2 k => by
  subst hz
  rw [wr_rf_iff.mp r1, wr_int_iff.mp r2]
  obtain ⟨vs, ha, rs⟩ := (show MemOk H _ from s.at hm).ok (lstR A.wd (wdF A)) (List.mem_cons_self ..)
  obtain ⟨v, ev, rv⟩ := rs.get hj
  exact .inr (.inl ⟨A.wd, vs, (j : Nat), v, rfl, rfl, .inl (.inl ha), atI_nat ev, k _ _ _ M s (Up.refl _) rv q⟩)
theorem ixw_nu {B : Bs} {M : Mem} {R : W → Mem → Prop} {C : Addr} {i : Nat} {A : Wd} {ns : List Nd} {ys : List Int} (hm : M[i]? = some (wdR P w K C A ns ys)) (h0 : 0 < ns.length) (q : R (.int ((ns.length - 1 : Nat) : Int)) M) : LR2 B (rIxG K) (rf A.nu) (.int (-1)) M R := fun vx vy H Q s r1 r2 k => by
  rw [wr_rf_iff.mp r1, wr_int_iff.mp r2]
  obtain ⟨vs, ha, rs⟩ := (show MemOk H _ from s.at hm).ok (lstR A.nu (numsD ns.length)) (by simp [wdRows])
  obtain ⟨v, ev, rv⟩ := rs.get (numsD_at (n := ns.length) (k := ns.length - 1) (by omega))
  have hl : vs.length = ns.length := by rw [rs.length, numsD_len]
  refine .inr (.inl ⟨A.nu, vs, -1, v, rfl, rfl, .inl (.inl ha), ?_, k _ _ _ M s (Up.refl _) rv q⟩)
  unfold atI ixN
  rw [if_neg (by decide), if_pos (by omega), hl]
  simp only [Option.bind_some]
  rw [show ((-1 : Int) + (ns.length : Int)).toNat = ns.length - 1 by omega]
  exact ev
theorem slw_to {B : Bs} {M : Mem} {R : W → Mem → Prop} {m k : Nat} {a : Addr} {ds : List W} {z : Int} (hm : M[m]? = some (lstR a ds)) (hz : z = (k : Nat)) (q : ∀ p, R (rf p) (lstR p (ds.take k) :: M)) : LSl B (rSlG K) (rf a) none (some z) M R := fun vx H Q s r1 ko => by
  subst hz
  rw [wr_rf_iff.mp r1]
  obtain ⟨vs, ha, rs⟩ := s.at hm
  refine .inr (.inl ⟨a, vs, rfl, .inl (.inl ha), fun p hp => ?_⟩)
  rw [cutV_to]
  exact ko _ _ _ _ (sm_lst s (rs.take k) hp) (Fr.new hp : AN.Fr [] _ _).toUp wr_rf (q p)
theorem bool_of {k : Nat} (h : k < 2) : ∃ b : Bool, k = if b then 1 else 0 := by
  by_cases e : k = 0
  · exact ⟨false, e⟩
  · exact ⟨true, by simp; omega⟩
def ixb (b : Bool) : Nat := if b then 2 else 1
def lawM (P : Program) (w : World) (K : PySem.W.Frag) (C : Addr) (a c Wo As : Addr) (A : Bool → Wd) (ns : Bool → List Nd) (ys : Bool → List Int) (ws : List W) : Mem :=
  [drawR a c, wdR P w K C (A false) (ns false) (ys false), wdR P w K C (A true) (ns true) (ys true), lstR Wo [rf (A false).wd, rf (A true).wd], lstR As ws]
theorem law_at {C a c Wo As : Addr} {A : Bool → Wd} {ns : Bool → List Nd} {ys : Bool → List Int} {ws : List W} (b : Bool) : (lawM P w K C a c Wo As A ns ys ws)[ixb b]? = some (wdR P w K C (A b) (ns b) (ys b)) := by cases b <;> rfl
theorem ixb_ne (b : Bool) (j : Nat) (h : j = 0 ∨ 3 ≤ j) : ixb b ≠ j := by cases b <;> simp [ixb] <;> omega
def updb {α : Type} (f : Bool → α) (b : Bool) (x : α) : Bool → α := fun b' => if b' = b then x else f b'
theorem law_set {C a c Wo As : Addr} {A : Bool → Wd} {ns : Bool → List Nd} {ys : Bool → List Int} {ws : List W} (b : Bool) (ns' : List Nd) (ys' : List Int) : (lawM P w K C a c Wo As A ns ys ws).set (ixb b) (wdR P w K C (A b) ns' ys') = lawM P w K C a c Wo As A (updb ns b ns') (updb ys b ys') ws := by cases b <;> rfl
theorem wo_at {A : Bool → Wd} (b : Bool) : [rf (A false).wd, rf (A true).wd][if b then 1 else 0]? = some (rf (A b).wd) := by cases b <;> rfl
def AskW (A : Bool → Wd) (ns : Bool → List Nd) (x : W) : Prop := ∃ (b : Bool) (i : Nat) (nm : List Str), x = .tuple [rf (A b).wd, .int (i : Int), namesD nm] ∧ i < (ns b).length ∧ NmOk nm
theorem AskW.mono {A : Bool → Wd} {ns ns' : Bool → List Nd} {x : W} (h : AskW A ns x) (hp : ∀ b, ns b <+: ns' b) : AskW A ns' x := by
  obtain ⟨b, i, nm, e, hi, hn⟩ := h
  exact ⟨b, i, nm, e, Nat.lt_of_lt_of_le hi (hp b).length_le, hn⟩
structure LSt (A : Bool → Wd) (ns : Bool → List Nd) (ys : Bool → List Int) (ws : List W) (n m : Nat) : Prop where
  ok : ∀ b, WdOk (A b) (ns b) (ys b)
  le : ∀ b, (ns b).length ≤ m
  wl : ws.length ≤ n
  wk : ∀ x ∈ ws, AskW A ns x
theorem LSt.grow {A : Bool → Wd} {ns : Bool → List Nd} {ys : Bool → List Int} {ws : List W} {n m k : Nat} (h : LSt A ns ys ws n m) (b : Bool) {ns' : List Nd} {ys' : List Int} (h1 : WdOk (A b) ns' ys') (h2 : ns b <+: ns') (h3 : ns'.length ≤ (ns b).length + k) : LSt A (updb ns b ns') (updb ys b ys') ws n (m + k) := by
  refine ⟨fun b' => ?_, fun b' => ?_, h.wl, fun x hx => (h.wk x hx).mono fun b' => ?_⟩
  · unfold updb
    by_cases e : b' = b
    · subst e; simpa using h1
    · simpa [e] using h.ok b'
  · unfold updb
    by_cases e : b' = b
    · subst e; have := h.le b'; simp; omega
    · have := h.le b'; simp [e]; omega
  · unfold updb
    by_cases e : b' = b
    · subst e; simpa using h2
    · simp [e]
def spLaw (K : PySem.W.Frag) : Sp := fun vs H Q _ => ∃ (s : Addr) (ns : List Int), vs = [.ref s] ∧ SqL K H s (ns.map V.int) ∧ ns.length ≤ 63 ∧ ∀ H', Q (.bl true) H'
theorem ok_law (T : Top K mg) {fl : Addr} {fdl : FuncData} (F : Fun K "law" "law" s_law fl fdl) : FnOk P w K mg base CX0 40 fl fdl ["script"] (spLaw K) := by
  refine fun_ok F sc_law [none, none, none, none, none, none, none] rfl (fun vs H Q E h => ?_) (fun f cdv A0 outer s H vs Q E hk hr h => ?_)
  · obtain ⟨s, ns, rfl, _⟩ := h; rfl
  obtain ⟨sa, ns0, rfl, hsq, hlen, q⟩ := h
  have hu := hu_of hr
  obtain ⟨C, G⟩ := T.c_Grove
  have C_law_begin := ok_law_begin (P := P) (w := w) (base := base) T
  have C_law_draw := draw_bridge (ok_law_draw (P := P) (w := w) (base := base) T)
  have C_law_wood := new_law_wood (P := P) (w := w) (base := base) T G
  have C_law_kid := new_law_kid (P := P) (w := w) (base := base) T (C := C)
  have C_law_some := new_law_some (P := P) (w := w) (base := base) T (C := C)
  have C_law_grow := new_law_grow (P := P) (w := w) (base := base) T G
  have C_law_chain := new_law_chain (P := P) (w := w) (base := base) T G
  have C_law_is_least := new_law_is_least (P := P) (w := w) (base := base) T G
  refine ⟨_, (pss_cons (ps_set (i := 1) sc_law.nd rfl (Or.inl rfl) (pe_cal C_law_begin (hr.mono (by omega)) (by rfl) pass0 (pa_cons (pv 0) pa_nil))) (pss_cons (ps_set (i := 2) sc_law.nd rfl (Or.inl rfl) (pe_lst (pa_cons (pe_cal C_law_wood (hr.mono (by omega)) (by rfl) pass0 (pa_cons (pv 1) (pa_cons (pe_op (op_addGK (K := K) rfl) pe_int (pe_cal C_law_draw (hr.mono (by omega)) (by rfl) pass0 (pa_cons (pv 1) (pa_cons pe_int pa_nil)))) pa_nil))) (pa_cons (pe_cal C_law_wood (hr.mono (by omega)) (by rfl) pass0 (pa_cons (pv 1) (pa_cons (pe_op (op_addGK (K := K) rfl) pe_int (pe_cal C_law_draw (hr.mono (by omega)) (by rfl) pass0 (pa_cons (pv 1) (pa_cons pe_int pa_nil)))) pa_nil))) pa_nil)))) (pss_cons (ps_set (i := 3) sc_law.nd rfl (Or.inl rfl) (pe_lst pa_nil)) (pss_cons (ps_if (pt_cmpR (op_eqGK (K := K) rfl hr.units) (pe_cal C_law_draw (hr.mono (by omega)) (by rfl) pass0 (pa_cons (pv 1) (pa_cons pe_int pa_nil))) pe_int (nomark _)) (pss_cons (ps_set (i := 4) sc_law.nd rfl (Or.inl rfl) (pe_ix (ix_GK (K := K) rfl hu) (pv 2) (pe_cal C_law_draw (hr.mono (by omega)) (by rfl) pass0 (pa_cons (pv 1) (pa_cons pe_int pa_nil))) (fun _ _ => rfl))) (pss_cons (ps_set (i := 5) sc_law.nd rfl (Or.inl rfl) (pe_cal C_law_chain (hr.mono (by omega)) (by rfl) pass0 (pa_cons (pv 1) (pa_cons (pv 4) (pa_cons (pe_op (op_addGK (K := K) rfl) pe_int (pe_cal C_law_draw (hr.mono (by omega)) (by rfl) pass0 (pa_cons (pv 1) (pa_cons pe_int pa_nil)))) pa_nil))))) (pss_one (ps_expr (pe_bm PySem.F.plainAttrs_list PySem.F.slot_list_extend PySem.F.type_list_extend mt_extend (pv 3) (pa_cons (pe_lst (pa_cons (pe_tup (pa_cons (pv 4) (pa_cons (pv 5) (pa_cons (pe_tup (pa_cons (pe_ix (ix_GK (K := K) rfl hu) (pv 4) pe_int (fun _ _ => rfl)) pa_nil)) pa_nil)))) (pa_cons (pe_tup (pa_cons (pv 4) (pa_cons (pv 5) (pa_cons (pe_cal C_law_some (hr.mono (by omega)) (by rfl) pass0 (pa_cons (pv 1) (pa_cons (pv 4) pa_nil))) pa_nil)))) pa_nil))) pa_nil)))))) pss_nil) (pss_cons (ps_for PassesOwn.never rfl (pi_range1 (by rfl) T.m_range (pa_cons pe_int pa_nil)) (pg_name (i := 6) sc_law.nd rfl (Or.inl rfl)) (pss_cons (ps_set (i := 4) sc_law.nd rfl (Or.inl rfl) (pe_ix (ix_GK (K := K) rfl hu) (pv 2) (pe_op op_mod (pv 6) pe_int) (fun _ _ => rfl))) (pss_one (ps_expr (pe_bm PySem.F.plainAttrs_list PySem.F.slot_list_append PySem.F.type_list_append mt_append (pv 3) (pa_cons (pe_tup (pa_cons (pv 4) (pa_cons (pe_cal C_law_kid (hr.mono (by omega)) (by rfl) pass0 (pa_cons (pv 1) (pa_cons (pv 4) pa_nil))) (pa_cons (pe_cal C_law_some (hr.mono (by omega)) (by rfl) pass0 (pa_cons (pv 1) (pa_cons (pv 4) pa_nil))) pa_nil)))) pa_nil)))))) (pss_cons (ps_for PassesOwn.never rfl (pi_seqK (K := K) rfl (pv 3)) (pg_tupK (K := K) (n := 3) rfl rfl (pgs_cons (pg_name (i := 4) sc_law.nd rfl (Or.inl rfl)) (pgs_cons (pg_name (i := 5) sc_law.nd rfl (Or.inl rfl)) (pgs_cons (pg_name (i := 7) sc_law.nd rfl (Or.inl rfl)) pgs_nil)))) (pss_one (ps_if (pt_not (pt_val (pe_cal C_law_is_least (hr.mono (by omega)) (by rfl) pass0 (pa_cons (pv 4) (pa_cons (pv 5) (pa_cons (pv 7) pa_nil)))))) (pss_one (ps_ret pe_bl)) pss_nil))) (pss_cons (ps_for PassesOwn.never rfl (pi_seqK (K := K) rfl (pv 2)) (pg_name (i := 4) sc_law.nd rfl (Or.inl rfl)) (pss_one (ps_expr (pe_cal C_law_grow (hr.mono (by omega)) (by rfl) pass0 (pa_cons (pv 1) (pa_cons (pv 4) (pa_cons pe_int pa_nil))))))) (pss_cons (ps_for PassesOwn.never rfl (pi_seqK (K := K) rfl (pe_slice (sl_GK (K := K) rfl) (pv 3) po_none (po_some pe_int))) (pg_tupK (K := K) (n := 3) rfl rfl (pgs_cons (pg_name (i := 4) sc_law.nd rfl (Or.inl rfl)) (pgs_cons (pg_name (i := 5) sc_law.nd rfl (Or.inl rfl)) (pgs_cons (pg_name (i := 7) sc_law.nd rfl (Or.inl rfl)) pgs_nil)))) (pss_one (ps_if (PW.pt (pw_or (pt_not (pt_val (pe_cal C_law_is_least (hr.mono (by omega)) (by rfl) pass0 (pa_cons (pv 4) (pa_cons (pv 5) (pa_cons (pv 7) pa_nil)))))) (pw_or1 (pt_not (pt_val (pe_cal C_law_is_least (hr.mono (by omega)) (by rfl) pass0 (pa_cons (pv 4) (pa_cons (pe_ix (ix_GK (K := K) rfl hu) (pe_ix (ix_GK (K := K) rfl hu) (pv 4) pe_int (fun _ _ => rfl)) (pe_un un_neg pe_int) (fun _ _ => rfl)) (pa_cons (pv 7) pa_nil))))))))) (pss_one (ps_ret pe_bl)) pss_nil))) (pss_one (ps_ret pe_bl)))))))))), ?_⟩
  kpt_turns
  regloopunroll_open
  refine ⟨sa, ns0, rfl, hsq, hlen, fun H1 a c f1 na nc hd1 => ?_⟩
  refine g_name ?_
  dsimp only [List.set]
  refine law_enter (K := K) hd1 (env := [none, some (rf a), none, none, none, none, none, none]) (envr_none _ (envr_some wr_rf (envr_none _ (envr_none _ (envr_none _ (envr_none _ (envr_none _ (envr_none _ envr_nil)))))))) q (fun B => ?_)
  refine l_seq ?_
  kbe_one
  refine drawc (by kas_ty) (by omega) (by omega) (fun k1 hk1 => ?_)
  kbe_one
  refine woodc (i := 0) (many := 4 + k1) rfl (by omega) (by omega) (fun A1 ns1 ys1 ok1 hl1 => ?_)
  kbe_one
  refine drawc (by kas_ty) (by omega) (by omega) (fun k2 hk2 => ?_)
  kbe_one
  refine woodc (i := 0) (many := 4 + k2) rfl (by omega) (by omega) (fun A2 ns2 ys2 ok2 hl2 => ?_)
  kbe_one
  refine l_seq ?_
  kbe_one
  rename_i Wo As
  obtain ⟨A, hA⟩ : ∃ A : Bool → Wd, A = fun b => cond b A2 A1 := ⟨_, rfl⟩
  have hw1 : A1 = A false := by rw [hA]; rfl
  have hw2 : A2 = A true := by rw [hA]; rfl
  have st0 : LSt A (fun b => cond b ns2 ns1) (fun b => cond b ys2 ys1) [] 0 37 := by
    refine ⟨fun b => ?_, fun b => ?_, Nat.le_refl _, fun x hx => by cases hx⟩
    · cases b
      · rw [← hw1]; exact ok1
      · rw [← hw2]; exact ok2
    · cases b
      · show ns1.length ≤ 37; omega
      · show ns2.length ≤ 37; omega
  refine ls_ent (N := lawM P w K C a c Wo As A (fun b => cond b ns2 ns1) (fun b => cond b ys2 ys1) []) ?_ ?_
  · unfold lawM
    rw [← hw1, ← hw2]
    exact ent_sel [2, 4, 3, 1, 0] (by decide)
  generalize (fun b => cond b ns2 ns1) = ns at st0
  generalize (fun b => cond b ys2 ys1) = ys at st0
  clear hA
  refine l_seq ?_
  refine ls_nx (fun e M => ∃ ns ys ws, LSt A ns ys ws 2 300 ∧ (∃ o4 o5 : Option W, e = [none, some (rf a), some (rf Wo), some (rf As), o4, o5, none, none]) ∧ Ent M (lawM P w K C a c Wo As A ns ys ws)) ?_ (fun e1 M1 h1 => ?_)
  · kbe_one
    refine drawc (i := 0) rfl (by omega) (by omega) (fun k3 hk3 => ?_)
    kbe_one
    refine ifD (fun h3 => ?_) (fun h3 => ?_)
    · refine l_seq ?_
      kbe_one
      refine drawc (i := 0) rfl (by omega) (by omega) (fun k4 hk4 => ?_)
      obtain ⟨b, hb⟩ := bool_of (k := k4) (by omega)
      refine ixw_lst (m := 3) rfl (at_nat (by rw [hb]) (wo_at b)) ?_
      kbe_one
      refine l_seq ?_
      kbe_one
      refine drawc (i := 0) rfl (by omega) (by omega) (fun k5 hk5 => ?_)
      have hlb := st0.le b
      kbe_one
      refine chainc (i := ixb b) (j := 0) (many := 1 + k5) (ixb_ne b 0 (.inl rfl)) (law_at b) rfl (by omega) (st0.ok b) (by omega) (fun ns' ys' x g1 g2 g3 g4 => ?_)
      rw [law_set]
      have st1 := st0.grow b g1 g2 (k := 201) (by omega)
      have hlx : x < (updb ns b ns' b).length := by unfold updb; simpa using g4
      have hokb := st1.ok b
      kbe_one
      refine ⟨tyw_lst (m := 4) rfl, ?_⟩
      kbe_one
      refine ixw_wd (law_at b) (j := 4) rfl rfl ?_
      kbe_one
      refine somec (i := ixb b) (j := 0) (ixb_ne b 0 (.inl rfl)) (law_at b) rfl hokb (fun nm hnm => ?_)
      kbe_one
      refine extendw (m := 5) (i := 0) rfl rfl (by simp [sizeLine]) ?_
      refine ⟨updb ns b ns', updb ys b ys', [] ++ [.tuple [rf (A b).wd, .int (x : Int), namesD [(A b).far]], .tuple [rf (A b).wd, .int (x : Int), namesD nm]], ⟨st1.ok, fun b' => Nat.le_trans (st1.le b') (by omega), by simp, fun z hz => ?_⟩, ⟨_, _, rfl⟩, Ent.sub (List.sublist_cons_self _ _)⟩
      simp only [List.nil_append, List.mem_cons, List.not_mem_nil, or_false] at hz
      rcases hz with rfl | rfl
      · exact ⟨b, x, [(A b).far], rfl, hlx, by simp, fun n hn => by rw [List.mem_singleton.mp hn]; exact hokb.far⟩
      · exact ⟨b, x, nm, rfl, hlx, hnm⟩
    · kbe_one
      exact ⟨ns, ys, [], ⟨st0.ok, fun b' => Nat.le_trans (st0.le b') (by omega), by simp, st0.wk⟩, ⟨_, _, rfl⟩, Ent.refl _⟩
  clear st0 ns ys
  obtain ⟨ns, ys, ws, st, ⟨o4, o5, rfl⟩, hent⟩ := h1
  refine ls_ent hent ?_
  refine l_seq ?_
  kbe_one
  refine forw_rng (k := 12) rfl (by omega) (fun k e M => ∃ ws, LSt A ns ys ws (2 + k) 300 ∧ e = [none, some (rf a), some (rf Wo), some (rf As), none, none, none, none] ∧ M = lawM P w K C a c Wo As A ns ys ws)
    ⟨_, by kas_types, _, Ent.refl _, ws, st, rfl, rfl⟩ (fun k e M hk h => ?_) (fun e M h => ?_)
  · obtain ⟨ws, st, rfl, rfl⟩ := h
    obtain ⟨b, hb⟩ := bool_of (k := k % 2) (by omega)
    have hlb := st.le b
    refine l_name ?_
    refine l_seq ?_
    kbe_one
    refine ixw_lst (m := 3) rfl (at_nat (k := if b then 1 else 0) (by omega) (wo_at b)) ?_
    kbe_one
    refine ⟨tyw_lst (m := 4) rfl, ?_⟩
    kbe_one
    refine kidc (i := ixb b) (j := 0) (ixb_ne b 0 (.inl rfl)) (law_at b) rfl (st.ok b) (by omega) (fun x hx => ?_)
    kbe_one
    refine somec (i := ixb b) (j := 0) (ixb_ne b 0 (.inl rfl)) (law_at b) rfl (st.ok b) (fun nm hnm => ?_)
    kbe_one
    refine appendw (m := 4) rfl (small1000 (by have := st.wl; omega)) ?_
    refine ⟨_, ?ev, _, Ent.refl _, ws ++ [.tuple [rf (A b).wd, .int (x : Int), namesD nm]], ⟨st.ok, st.le, by have := st.wl; simp; omega, fun z hz => ?_⟩, rfl, rfl⟩
    case ev => kas_types
    rcases List.mem_append.mp hz with hz | hz
    · exact st.wk z hz
    · rw [List.mem_singleton.mp hz]
      exact ⟨b, x, nm, rfl, hx, hnm⟩
  clear st hent ws
  obtain ⟨ws, st, rfl, rfl⟩ := h
  refine l_seq ?_
  refine l_forL ?_
  kbe_one
  refine forw_lst (ds := ws) (fun k e M => e = [none, some (rf a), some (rf Wo), some (rf As), none, none, none, none] ∧ M = lawM P w K C a c Wo As A ns ys ws)
    ⟨_, by kas_types, _, Ent.refl _, rfl, rfl⟩ (fun i e M h => ?_) (fun i d e M hd h => ?_) (fun e M h => ?_)
  · obtain ⟨_, rfl⟩ := h; exact ⟨4, rfl⟩
  · obtain ⟨rfl, rfl⟩ := h
    obtain ⟨b, x, nm, rfl, hx, hnm⟩ := st.wk d (List.mem_of_getElem? hd)
    have hlb := st.le b
    kbe_one
    refine isleastc (i := ixb b) (law_at b) (st.ok b) hx (by omega) hnm ?_
    kbe_one
    exact ⟨_, by kas_types, _, Ent.refl _, rfl, rfl⟩
  obtain ⟨rfl, rfl⟩ := h
  refine l_seq ?_
  refine l_forL ?_
  kbe_one
  refine forw_lst (ds := [rf (A false).wd, rf (A true).wd]) (fun i e M => ∃ ns ys, LSt A ns ys ws 14 (300 + 5 * i) ∧ e = [none, some (rf a), some (rf Wo), some (rf As), none, none, none, none] ∧ M = lawM P w K C a c Wo As A ns ys ws)
    ⟨_, by kas_types, _, Ent.refl _, ns, ys, st, rfl, rfl⟩ (fun i e M h => ?_) (fun i d e M hd h => ?_) (fun e M h => ?_)
  · obtain ⟨_, _, _, _, rfl⟩ := h; exact ⟨3, rfl⟩
  · obtain ⟨ns, ys, st, rfl, rfl⟩ := h
    obtain ⟨b, rfl, hi⟩ : ∃ b, d = rf (A b).wd ∧ i < 2 := by
      match i, hd with
      | 0, hd => exact ⟨false, (Option.some.inj hd).symm, by omega⟩
      | 1, hd => exact ⟨true, (Option.some.inj hd).symm, by omega⟩
    have hlb := st.le b
    kbe_one
    refine growc (i := ixb b) (j := 0) (many := 5) (ixb_ne b 0 (.inl rfl)) (law_at b) rfl (st.ok b) (by omega) (fun ns' ys' g1 g2 g3 => ?_)
    rw [law_set]
    have st1 := st.grow b g1 g2 g3
    exact ⟨_, by kas_types, _, Ent.refl _, _, _, st1, rfl, rfl⟩
  clear st
  obtain ⟨ns, ys, st, rfl, rfl⟩ := h
  refine l_seq ?_
  refine l_forL ?_
  kbe_one
  refine slw_to (m := 4) (k := 6) rfl rfl (fun S => ?_)
  refine forw_lst (ds := ws.take 6) (fun k e M => e = [none, some (rf a), some (rf Wo), some (rf As), none, none, none, none] ∧ M = lstR S (ws.take 6) :: lawM P w K C a c Wo As A ns ys ws)
    ⟨_, by kas_types, _, Ent.refl _, rfl, rfl⟩ (fun i e M h => ?_) (fun i d e M hd h => ?_) (fun e M h => ?_)
  · obtain ⟨_, rfl⟩ := h; exact ⟨0, rfl⟩
  · obtain ⟨rfl, rfl⟩ := h
    obtain ⟨b, x, nm, rfl, hx, hnm⟩ := st.wk d (List.take_subset _ _ (List.mem_of_getElem? hd))
    have hlb := st.le b
    have hat : (lstR S (ws.take 6) :: lawM P w K C a c Wo As A ns ys ws)[ixb b + 1]? = some (wdR P w K C (A b) (ns b) (ys b)) := by rw [List.getElem?_cons_succ]; exact law_at b
    simp only [List.length_cons, List.length_nil] at hlb
    kbe_one
    refine isleastc hat (st.ok b) hx (by omega) hnm ?_
    kbe_one
    refine ixw_wd hat (j := 2) rfl rfl ?_
    kbe_one
    refine ixw_nu hat (by omega) ?_
    kbe_one
    refine isleastc hat (st.ok b) (by omega) (by omega) hnm ?_
    kbe_one
    exact ⟨_, by kas_types, _, Ent.refl _, rfl, rfl⟩
  obtain ⟨rfl, rfl⟩ := h
  kbe_one

end
theorem top_mk {K : PySem.W.Frag} {h : Heap} {mg : Str → Option Value} (X : K.In h) (G : h.Ns mainGlobals mg)
    {f0 : Addr} {od0 an0 : Option Addr} {sl0 : Array (Option Value)} {oc0 kV0 dc0 pm0 cd0 ct0 : Value}
    {f1 : Addr} {od1 an1 : Option Addr} {sl1 : Array (Option Value)} {oc1 kV1 dc1 pm1 cd1 ct1 : Value}
    {f2 : Addr} {od2 an2 : Option Addr} {sl2 : Array (Option Value)} {oc2 kV2 dc2 pm2 cd2 ct2 : Value}
    {f3 : Addr} {od3 an3 : Option Addr} {sl3 : Array (Option Value)} {oc3 kV3 dc3 pm3 cd3 ct3 : Value}
    {f4 : Addr} {od4 an4 : Option Addr} {sl4 : Array (Option Value)} {oc4 kV4 dc4 pm4 cd4 ct4 : Value}
    {f5 : Addr} {od5 an5 : Option Addr} {sl5 : Array (Option Value)} {oc5 kV5 dc5 pm5 cd5 ct5 : Value}
    {f6 : Addr} {od6 an6 : Option Addr} {sl6 : Array (Option Value)} {oc6 kV6 dc6 pm6 cd6 ct6 : Value}
    {f7 : Addr} {od7 an7 : Option Addr} {sl7 : Array (Option Value)} {oc7 kV7 dc7 pm7 cd7 ct7 : Value}
    {f8 : Addr} {od8 an8 : Option Addr} {sl8 : Array (Option Value)} {oc8 kV8 dc8 pm8 cd8 ct8 : Value}
    {f9 : Addr} {od9 an9 : Option Addr} {sl9 : Array (Option Value)} {oc9 kV9 dc9 pm9 cd9 ct9 : Value}
    {f10 : Addr} {od10 an10 : Option Addr} {sl10 : Array (Option Value)} {oc10 kV10 dc10 pm10 cd10 ct10 : Value}
    {f11 : Addr} {od11 an11 : Option Addr} {sl11 : Array (Option Value)} {oc11 kV11 dc11 pm11 cd11 ct11 : Value}
    {f12 : Addr} {od12 an12 : Option Addr} {sl12 : Array (Option Value)} {oc12 kV12 dc12 pm12 cd12 ct12 : Value}
    {f13 : Addr} {od13 an13 : Option Addr} {sl13 : Array (Option Value)} {oc13 kV13 dc13 pm13 cd13 ct13 : Value}
    {f14 : Addr} {od14 an14 : Option Addr} {sl14 : Array (Option Value)} {oc14 kV14 dc14 pm14 cd14 ct14 : Value}
    {f15 : Addr} {od15 an15 : Option Addr} {sl15 : Array (Option Value)} {oc15 kV15 dc15 pm15 cd15 ct15 : Value}
    {f16 : Addr} {od16 an16 : Option Addr} {sl16 : Array (Option Value)} {oc16 kV16 dc16 pm16 cd16 ct16 : Value}
    {f17 : Addr} {od17 an17 : Option Addr} {sl17 : Array (Option Value)} {oc17 kV17 dc17 pm17 cd17 ct17 : Value}
    {f18 : Addr} {od18 an18 : Option Addr} {sl18 : Array (Option Value)} {oc18 kV18 dc18 pm18 cd18 ct18 : Value}
    {f19 : Addr} {od19 an19 : Option Addr} {sl19 : Array (Option Value)} {oc19 kV19 dc19 pm19 cd19 ct19 : Value}
    {f20 : Addr} {od20 an20 : Option Addr} {sl20 : Array (Option Value)} {oc20 kV20 dc20 pm20 cd20 ct20 : Value}
    {f21 : Addr} {od21 an21 : Option Addr} {sl21 : Array (Option Value)} {oc21 kV21 dc21 pm21 cd21 ct21 : Value}
    (a0 : PySem.W.nsIn K mainGlobals "trace" = some (some (.ref f0))) (l0 : K.lookup f0 = some ⟨oc0, od0, .func (PySem.W.fnOf "trace" "trace" (defArgs s_trace) (defBody s_trace) (defScope s_trace) .none kV0 dc0 pm0 an0 cd0 ct0), sl0⟩) (c0 : PySem.W.codeIn K cd0 "trace" = true) (k0 : PySem.W.keepIn K (.ref f0) = true)
    (a1 : PySem.W.nsIn K mainGlobals "least_world" = some (some (.ref f1))) (l1 : K.lookup f1 = some ⟨oc1, od1, .func (PySem.W.fnOf "least_world" "least_world" (defArgs s_least_world) (defBody s_least_world) (defScope s_least_world) .none kV1 dc1 pm1 an1 cd1 ct1), sl1⟩) (c1 : PySem.W.codeIn K cd1 "least_world" = true) (k1 : PySem.W.keepIn K (.ref f1) = true)
    (a2 : PySem.W.nsIn K mainGlobals "_law_begin" = some (some (.ref f2))) (l2 : K.lookup f2 = some ⟨oc2, od2, .func (PySem.W.fnOf "_law_begin" "_law_begin" (defArgs s_law_begin) (defBody s_law_begin) (defScope s_law_begin) .none kV2 dc2 pm2 an2 cd2 ct2), sl2⟩) (c2 : PySem.W.codeIn K cd2 "_law_begin" = true) (k2 : PySem.W.keepIn K (.ref f2) = true)
    (a3 : PySem.W.nsIn K mainGlobals "_law_draw" = some (some (.ref f3))) (l3 : K.lookup f3 = some ⟨oc3, od3, .func (PySem.W.fnOf "_law_draw" "_law_draw" (defArgs s_law_draw) (defBody s_law_draw) (defScope s_law_draw) .none kV3 dc3 pm3 an3 cd3 ct3), sl3⟩) (c3 : PySem.W.codeIn K cd3 "_law_draw" = true) (k3 : PySem.W.keepIn K (.ref f3) = true)
    (a4 : PySem.W.nsIn K mainGlobals "_law_pick" = some (some (.ref f4))) (l4 : K.lookup f4 = some ⟨oc4, od4, .func (PySem.W.fnOf "_law_pick" "_law_pick" (defArgs s_law_pick) (defBody s_law_pick) (defScope s_law_pick) .none kV4 dc4 pm4 an4 cd4 ct4), sl4⟩) (c4 : PySem.W.codeIn K cd4 "_law_pick" = true) (k4 : PySem.W.keepIn K (.ref f4) = true)
    (a5 : PySem.W.nsIn K mainGlobals "_law_pop" = some (some (.ref f5))) (l5 : K.lookup f5 = some ⟨oc5, od5, .func (PySem.W.fnOf "_law_pop" "_law_pop" (defArgs s_law_pop) (defBody s_law_pop) (defScope s_law_pop) .none kV5 dc5 pm5 an5 cd5 ct5), sl5⟩) (c5 : PySem.W.codeIn K cd5 "_law_pop" = true) (k5 : PySem.W.keepIn K (.ref f5) = true)
    (a6 : PySem.W.nsIn K mainGlobals "_law_shuffled" = some (some (.ref f6))) (l6 : K.lookup f6 = some ⟨oc6, od6, .func (PySem.W.fnOf "_law_shuffled" "_law_shuffled" (defArgs s_law_shuffled) (defBody s_law_shuffled) (defScope s_law_shuffled) .none kV6 dc6 pm6 an6 cd6 ct6), sl6⟩) (c6 : PySem.W.codeIn K cd6 "_law_shuffled" = true) (k6 : PySem.W.keepIn K (.ref f6) = true)
    (a7 : PySem.W.nsIn K mainGlobals "_law_pool" = some (some (.ref f7))) (l7 : K.lookup f7 = some ⟨oc7, od7, .func (PySem.W.fnOf "_law_pool" "_law_pool" (defArgs s_law_pool) (defBody s_law_pool) (defScope s_law_pool) .none kV7 dc7 pm7 an7 cd7 ct7), sl7⟩) (c7 : PySem.W.codeIn K cd7 "_law_pool" = true) (k7 : PySem.W.keepIn K (.ref f7) = true)
    (a8 : PySem.W.nsIn K mainGlobals "_law_is_int" = some (some (.ref f8))) (l8 : K.lookup f8 = some ⟨oc8, od8, .func (PySem.W.fnOf "_law_is_int" "_law_is_int" (defArgs s_law_is_int) (defBody s_law_is_int) (defScope s_law_is_int) .none kV8 dc8 pm8 an8 cd8 ct8), sl8⟩) (c8 : PySem.W.codeIn K cd8 "_law_is_int" = true) (k8 : PySem.W.keepIn K (.ref f8) = true)
    (a9 : PySem.W.nsIn K mainGlobals "_law_is_ints" = some (some (.ref f9))) (l9 : K.lookup f9 = some ⟨oc9, od9, .func (PySem.W.fnOf "_law_is_ints" "_law_is_ints" (defArgs s_law_is_ints) (defBody s_law_is_ints) (defScope s_law_is_ints) .none kV9 dc9 pm9 an9 cd9 ct9), sl9⟩) (c9 : PySem.W.codeIn K cd9 "_law_is_ints" = true) (k9 : PySem.W.keepIn K (.ref f9) = true)
    (a10 : PySem.W.nsIn K mainGlobals "_law_operations" = some (some (.ref f10))) (l10 : K.lookup f10 = some ⟨oc10, od10, .func (PySem.W.fnOf "_law_operations" "_law_operations" (defArgs s_law_operations) (defBody s_law_operations) (defScope s_law_operations) .none kV10 dc10 pm10 an10 cd10 ct10), sl10⟩) (c10 : PySem.W.codeIn K cd10 "_law_operations" = true) (k10 : PySem.W.keepIn K (.ref f10) = true)
    (a11 : PySem.W.nsIn K mainGlobals "_law_wood" = some (some (.ref f11))) (l11 : K.lookup f11 = some ⟨oc11, od11, .func (PySem.W.fnOf "_law_wood" "_law_wood" (defArgs s_law_wood) (defBody s_law_wood) (defScope s_law_wood) .none kV11 dc11 pm11 an11 cd11 ct11), sl11⟩) (c11 : PySem.W.codeIn K cd11 "_law_wood" = true) (k11 : PySem.W.keepIn K (.ref f11) = true)
    (a12 : PySem.W.nsIn K mainGlobals "_law_kid" = some (some (.ref f12))) (l12 : K.lookup f12 = some ⟨oc12, od12, .func (PySem.W.fnOf "_law_kid" "_law_kid" (defArgs s_law_kid) (defBody s_law_kid) (defScope s_law_kid) .none kV12 dc12 pm12 an12 cd12 ct12), sl12⟩) (c12 : PySem.W.codeIn K cd12 "_law_kid" = true) (k12 : PySem.W.keepIn K (.ref f12) = true)
    (a13 : PySem.W.nsIn K mainGlobals "_law_add" = some (some (.ref f13))) (l13 : K.lookup f13 = some ⟨oc13, od13, .func (PySem.W.fnOf "_law_add" "_law_add" (defArgs s_law_add) (defBody s_law_add) (defScope s_law_add) .none kV13 dc13 pm13 an13 cd13 ct13), sl13⟩) (c13 : PySem.W.codeIn K cd13 "_law_add" = true) (k13 : PySem.W.keepIn K (.ref f13) = true)
    (a14 : PySem.W.nsIn K mainGlobals "_law_ways" = some (some (.ref f14))) (l14 : K.lookup f14 = some ⟨oc14, od14, .func (PySem.W.fnOf "_law_ways" "_law_ways" (defArgs s_law_ways) (defBody s_law_ways) (defScope s_law_ways) .none kV14 dc14 pm14 an14 cd14 ct14), sl14⟩) (c14 : PySem.W.codeIn K cd14 "_law_ways" = true) (k14 : PySem.W.keepIn K (.ref f14) = true)
    (a15 : PySem.W.nsIn K mainGlobals "_law_grow" = some (some (.ref f15))) (l15 : K.lookup f15 = some ⟨oc15, od15, .func (PySem.W.fnOf "_law_grow" "_law_grow" (defArgs s_law_grow) (defBody s_law_grow) (defScope s_law_grow) .none kV15 dc15 pm15 an15 cd15 ct15), sl15⟩) (c15 : PySem.W.codeIn K cd15 "_law_grow" = true) (k15 : PySem.W.keepIn K (.ref f15) = true)
    (a16 : PySem.W.nsIn K mainGlobals "_law_chain" = some (some (.ref f16))) (l16 : K.lookup f16 = some ⟨oc16, od16, .func (PySem.W.fnOf "_law_chain" "_law_chain" (defArgs s_law_chain) (defBody s_law_chain) (defScope s_law_chain) .none kV16 dc16 pm16 an16 cd16 ct16), sl16⟩) (c16 : PySem.W.codeIn K cd16 "_law_chain" = true) (k16 : PySem.W.keepIn K (.ref f16) = true)
    (a17 : PySem.W.nsIn K mainGlobals "_law_some" = some (some (.ref f17))) (l17 : K.lookup f17 = some ⟨oc17, od17, .func (PySem.W.fnOf "_law_some" "_law_some" (defArgs s_law_some) (defBody s_law_some) (defScope s_law_some) .none kV17 dc17 pm17 an17 cd17 ct17), sl17⟩) (c17 : PySem.W.codeIn K cd17 "_law_some" = true) (k17 : PySem.W.keepIn K (.ref f17) = true)
    (a18 : PySem.W.nsIn K mainGlobals "_law_table" = some (some (.ref f18))) (l18 : K.lookup f18 = some ⟨oc18, od18, .func (PySem.W.fnOf "_law_table" "_law_table" (defArgs s_law_table) (defBody s_law_table) (defScope s_law_table) .none kV18 dc18 pm18 an18 cd18 ct18), sl18⟩) (c18 : PySem.W.codeIn K cd18 "_law_table" = true) (k18 : PySem.W.keepIn K (.ref f18) = true)
    (a19 : PySem.W.nsIn K mainGlobals "_law_below" = some (some (.ref f19))) (l19 : K.lookup f19 = some ⟨oc19, od19, .func (PySem.W.fnOf "_law_below" "_law_below" (defArgs s_law_below) (defBody s_law_below) (defScope s_law_below) .none kV19 dc19 pm19 an19 cd19 ct19), sl19⟩) (c19 : PySem.W.codeIn K cd19 "_law_below" = true) (k19 : PySem.W.keepIn K (.ref f19) = true)
    (a20 : PySem.W.nsIn K mainGlobals "_law_is_least" = some (some (.ref f20))) (l20 : K.lookup f20 = some ⟨oc20, od20, .func (PySem.W.fnOf "_law_is_least" "_law_is_least" (defArgs s_law_is_least) (defBody s_law_is_least) (defScope s_law_is_least) .none kV20 dc20 pm20 an20 cd20 ct20), sl20⟩) (c20 : PySem.W.codeIn K cd20 "_law_is_least" = true) (k20 : PySem.W.keepIn K (.ref f20) = true)
    (a21 : PySem.W.nsIn K mainGlobals "law" = some (some (.ref f21))) (l21 : K.lookup f21 = some ⟨oc21, od21, .func (PySem.W.fnOf "law" "law" (defArgs s_law) (defBody s_law) (defScope s_law) .none kV21 dc21 pm21 an21 cd21 ct21), sl21⟩) (c21 : PySem.W.codeIn K cd21 "law" = true) (k21 : PySem.W.keepIn K (.ref f21) = true)
    (z0 : PySem.W.nsIn K mainGlobals "abs" = some none)
    (z1 : PySem.W.nsIn K mainGlobals "all" = some none)
    (z2 : PySem.W.nsIn K mainGlobals "bool" = some none)
    (z3 : PySem.W.nsIn K mainGlobals "int" = some none)
    (z4 : PySem.W.nsIn K mainGlobals "isinstance" = some none)
    (z5 : PySem.W.nsIn K mainGlobals "len" = some none)
    (z6 : PySem.W.nsIn K mainGlobals "list" = some none)
    (z7 : PySem.W.nsIn K mainGlobals "max" = some none)
    (z8 : PySem.W.nsIn K mainGlobals "min" = some none)
    (z9 : PySem.W.nsIn K mainGlobals "range" = some none)
    (z10 : PySem.W.nsIn K mainGlobals "sorted" = some none)
    (z11 : PySem.W.nsIn K mainGlobals "sum" = some none)
    (z12 : PySem.W.nsIn K mainGlobals "tuple" = some none)
    {ti0 : Tok} (y0 : PySem.W.nsIn K mainGlobals "GROVE_NODES" = some (some (.int 20000 ti0)))
    {C0 : Addr} (xC0 : PySem.W.nsIn K mainGlobals "Grove" = some (some (.ref C0)))
    (pg0 : PySem.W.plainGet K C0 Str.empty = true) (hd0 : PySem.W.hasDictIn K C0 = true) (po0 : PySem.W.plainOver K C0 = true) (sa0 : PySem.W.findIn K (.ref C0) "__setattr__" = some (some (.builtin "object.__setattr__"))) (mk0 : PySem.W.makesIn K C0 = true) (kc0 : PySem.W.keepIn K (.ref C0) = true)
    (nf0_0 : PySem.W.findIn K (.ref C0) "size" = some none)
    (nf0_1 : PySem.W.findIn K (.ref C0) "nodes" = some none)
    (nf0_2 : PySem.W.findIn K (.ref C0) "known" = some none)
    {f22 : Addr} {od22 an22 : Option Addr} {sl22 : Array (Option Value)} {oc22 kV22 dc22 pm22 cd22 ct22 : Value}
    (m22 : PySem.W.findIn K (.ref C0) "__init__" = some (some (.ref f22))) (w22 : PySem.W.isFn K (.ref f22) = true)
    (l22 : K.lookup f22 = some ⟨oc22, od22, .func (PySem.W.fnOf "__init__" "Grove.__init__" (defArgs s_Grove___init__) (defBody s_Grove___init__) (defScope s_Grove___init__) .none kV22 dc22 pm22 an22 cd22 ct22), sl22⟩) (c22 : PySem.W.codeIn K cd22 "Grove.__init__" = true) (k22 : PySem.W.keepIn K (.ref f22) = true)
    {f23 : Addr} {od23 an23 : Option Addr} {sl23 : Array (Option Value)} {oc23 kV23 dc23 pm23 cd23 ct23 : Value}
    (m23 : PySem.W.findIn K (.ref C0) "ask" = some (some (.ref f23))) (w23 : PySem.W.isFn K (.ref f23) = true)
    (l23 : K.lookup f23 = some ⟨oc23, od23, .func (PySem.W.fnOf "ask" "Grove.ask" (defArgs s_Grove_ask) (defBody s_Grove_ask) (defScope s_Grove_ask) .none kV23 dc23 pm23 an23 cd23 ct23), sl23⟩) (c23 : PySem.W.codeIn K cd23 "Grove.ask" = true) (k23 : PySem.W.keepIn K (.ref f23) = true)
    {f24 : Addr} {od24 an24 : Option Addr} {sl24 : Array (Option Value)} {oc24 kV24 dc24 pm24 cd24 ct24 : Value}
    (m24 : PySem.W.findIn K (.ref C0) "node" = some (some (.ref f24))) (w24 : PySem.W.isFn K (.ref f24) = true)
    (l24 : K.lookup f24 = some ⟨oc24, od24, .func (PySem.W.fnOf "node" "Grove.node" (defArgs s_Grove_node) (defBody s_Grove_node) (defScope s_Grove_node) .none kV24 dc24 pm24 an24 cd24 ct24), sl24⟩) (c24 : PySem.W.codeIn K cd24 "Grove.node" = true) (k24 : PySem.W.keepIn K (.ref f24) = true)
    {f25 : Addr} {od25 an25 : Option Addr} {sl25 : Array (Option Value)} {oc25 kV25 dc25 pm25 cd25 ct25 : Value}
    (m25 : PySem.W.findIn K (.ref C0) "children" = some (some (.ref f25))) (w25 : PySem.W.isFn K (.ref f25) = true)
    (l25 : K.lookup f25 = some ⟨oc25, od25, .func (PySem.W.fnOf "children" "Grove.children" (defArgs s_Grove_children) (defBody s_Grove_children) (defScope s_Grove_children) .none kV25 dc25 pm25 an25 cd25 ct25), sl25⟩) (c25 : PySem.W.codeIn K cd25 "Grove.children" = true) (k25 : PySem.W.keepIn K (.ref f25) = true)
    : Top K mg := {
    g_GROVE_NODES := ⟨_, PySem.W.mg_of X G y0⟩
    c_Grove := ⟨C0, ⟨⟨⟨pg0, hd0, po0, sa0⟩, (fun f hf => by
      simp only [List.mem_cons, List.not_mem_nil, or_false] at hf
      rcases hf with rfl | rfl | rfl
      · exact nf0_0
      · exact nf0_1
      · exact nf0_2), PySem.W.mg_of X G xC0⟩,
            ⟨f22, _, fun_mk l22 c22 k22, ⟨mk0, m22, w22, kc0⟩, fun us hl => match us, hl with | [_, _], _ => rfl⟩,
            ⟨f23, _, fun_mk l23 c23 k23, ⟨m23, w23, k23⟩, fun us hl => match us, hl with | [_, _, _, _], _ => rfl⟩,
            ⟨f24, _, fun_mk l24 c24 k24, ⟨m24, w24, k24⟩, fun us hl => match us, hl with | [_, _], _ => rfl⟩,
            ⟨f25, _, fun_mk l25 c25 k25, ⟨m25, w25, k25⟩, fun us hl => match us, hl with | [_, _], _ => rfl⟩⟩⟩
    m_abs := PySem.W.mg_none_of X G z0
    m_all := PySem.W.mg_none_of X G z1
    m_bool := PySem.W.mg_none_of X G z2
    m_int := PySem.W.mg_none_of X G z3
    m_isinstance := PySem.W.mg_none_of X G z4
    m_len := PySem.W.mg_none_of X G z5
    m_list := PySem.W.mg_none_of X G z6
    m_max := PySem.W.mg_none_of X G z7
    m_min := PySem.W.mg_none_of X G z8
    m_range := PySem.W.mg_none_of X G z9
    m_sorted := PySem.W.mg_none_of X G z10
    m_sum := PySem.W.mg_none_of X G z11
    m_tuple := PySem.W.mg_none_of X G z12
    d_trace := ⟨f0, _, fun_mk l0 c0 k0, PySem.W.mg_of X G a0, fun us hl => match us, hl with | [_, _, _], _ => rfl⟩
    d_least_world := ⟨f1, _, fun_mk l1 c1 k1, PySem.W.mg_of X G a1, fun us hl => match us, hl with | [_, _, _], _ => rfl⟩
    d_law_begin := ⟨f2, _, fun_mk l2 c2 k2, PySem.W.mg_of X G a2, fun us hl => match us, hl with | [_], _ => rfl⟩
    d_law_draw := ⟨f3, _, fun_mk l3 c3 k3, PySem.W.mg_of X G a3, fun us hl => match us, hl with | [_, _], _ => rfl⟩
    d_law_pick := ⟨f4, _, fun_mk l4 c4 k4, PySem.W.mg_of X G a4, fun us hl => match us, hl with | [_, _], _ => rfl⟩
    d_law_pop := ⟨f5, _, fun_mk l5 c5 k5, PySem.W.mg_of X G a5, fun us hl => match us, hl with | [_, _], _ => rfl⟩
    d_law_shuffled := ⟨f6, _, fun_mk l6 c6 k6, PySem.W.mg_of X G a6, fun us hl => match us, hl with | [_, _], _ => rfl⟩
    d_law_pool := ⟨f7, _, fun_mk l7 c7 k7, PySem.W.mg_of X G a7, fun us hl => match us, hl with | [], _ => rfl⟩
    d_law_is_int := ⟨f8, _, fun_mk l8 c8 k8, PySem.W.mg_of X G a8, fun us hl => match us, hl with | [_], _ => rfl⟩
    d_law_is_ints := ⟨f9, _, fun_mk l9 c9 k9, PySem.W.mg_of X G a9, fun us hl => match us, hl with | [_], _ => rfl⟩
    d_law_operations := ⟨f10, _, fun_mk l10 c10 k10, PySem.W.mg_of X G a10, fun us hl => match us, hl with | [_, _, _, _], _ => rfl⟩
    d_law_wood := ⟨f11, _, fun_mk l11 c11 k11, PySem.W.mg_of X G a11, fun us hl => match us, hl with | [_, _], _ => rfl⟩
    d_law_kid := ⟨f12, _, fun_mk l12 c12 k12, PySem.W.mg_of X G a12, fun us hl => match us, hl with | [_, _], _ => rfl⟩
    d_law_add := ⟨f13, _, fun_mk l13 c13 k13, PySem.W.mg_of X G a13, fun us hl => match us, hl with | [_, _, _, _], _ => rfl⟩
    d_law_ways := ⟨f14, _, fun_mk l14 c14 k14, PySem.W.mg_of X G a14, fun us hl => match us, hl with | [_, _], _ => rfl⟩
    d_law_grow := ⟨f15, _, fun_mk l15 c15 k15, PySem.W.mg_of X G a15, fun us hl => match us, hl with | [_, _, _], _ => rfl⟩
    d_law_chain := ⟨f16, _, fun_mk l16 c16 k16, PySem.W.mg_of X G a16, fun us hl => match us, hl with | [_, _, _], _ => rfl⟩
    d_law_some := ⟨f17, _, fun_mk l17 c17 k17, PySem.W.mg_of X G a17, fun us hl => match us, hl with | [_, _], _ => rfl⟩
    d_law_table := ⟨f18, _, fun_mk l18 c18 k18, PySem.W.mg_of X G a18, fun us hl => match us, hl with | [_, _], _ => rfl⟩
    d_law_below := ⟨f19, _, fun_mk l19 c19 k19, PySem.W.mg_of X G a19, fun us hl => match us, hl with | [_, _], _ => rfl⟩
    d_law_is_least := ⟨f20, _, fun_mk l20 c20 k20, PySem.W.mg_of X G a20, fun us hl => match us, hl with | [_, _, _], _ => rfl⟩
    d_law := ⟨f21, _, fun_mk l21 c21 k21, PySem.W.mg_of X G a21, fun us hl => match us, hl with | [_], _ => rfl⟩
  }
theorem law_fn {l : PySem.W.OpenLaw} {w : World} {K : PySem.W.Frag} {mg : Str → Option Value} {fa : Addr} (T : Top K mg) (hfa : mg "law" = some (.ref fa)) :
    ∃ fd : FuncData, (∀ (s : Shared) (v : Value), BindsTo s fd ⟨[v], []⟩ [("script", v)]) ∧ ∀ base : Heap, K.In base → base.Ns mainGlobals mg → FnOk l.prog w K mg base CX0 40 fa fd ["script"] (spLaw K) := by
  obtain ⟨f, fd, F, m, b⟩ := T.d_law
  have e := hfa.symm.trans m
  cases e
  exact ⟨fd, fun s v => .of_eq (b [v] rfl), fun base _ _ => ok_law T F⟩
end K27
open PySem PySem.W PyProof.Rows
set_option maxRecDepth 100000 in
set_option maxHeartbeats 0 in
theorem PySem.Challenge.cw_asknest_k27_least_world_holds : PySem.Challenge.rw_asknest_k27_least_world.Holds := by
  w_on; o_law; k_head; (case hw => w_witness2)
  k_fill
  refine L2.walk_of (l := PySem.Challenge.rw_asknest_k27_least_world) (n := 63) (k := 40) (x := "script") (CX := fun _ => L2.CX0) (sp := fun w => K27.spLaw _) rfl (by decide) rfl ⟨rfl, by decide, by decide⟩ (fun w h Y => PySem.W.kIn_of Y) ?F (fun _ _ a ns hl _ hS => ⟨a, ns, rfl, hS, hl, fun _ => rfl⟩) (fun _ _ _ _ _ h => h)
  case F =>
    intro w mg fa h KX G hmg
    refine' K27.law_fn (K27.top_mk KX G ?a0 ?l0 ?c0 ?k0 ?a1 ?l1 ?c1 ?k1 ?a2 ?l2 ?c2 ?k2 ?a3 ?l3 ?c3 ?k3 ?a4 ?l4 ?c4 ?k4 ?a5 ?l5 ?c5 ?k5 ?a6 ?l6 ?c6 ?k6 ?a7 ?l7 ?c7 ?k7 ?a8 ?l8 ?c8 ?k8 ?a9 ?l9 ?c9 ?k9 ?a10 ?l10 ?c10 ?k10 ?a11 ?l11 ?c11 ?k11 ?a12 ?l12 ?c12 ?k12 ?a13 ?l13 ?c13 ?k13 ?a14 ?l14 ?c14 ?k14 ?a15 ?l15 ?c15 ?k15 ?a16 ?l16 ?c16 ?k16 ?a17 ?l17 ?c17 ?k17 ?a18 ?l18 ?c18 ?k18 ?a19 ?l19 ?c19 ?k19 ?a20 ?l20 ?c20 ?k20 ?a21 ?l21 ?c21 ?k21 ?z0 ?z1 ?z2 ?z3 ?z4 ?z5 ?z6 ?z7 ?z8 ?z9 ?z10 ?z11 ?z12 ?y0 ?xC0 ?pg0 ?hd0 ?po0 ?sa0 ?mk0 ?kc0 ?nf0_0 ?nf0_1 ?nf0_2 ?m22 ?w22 ?l22 ?c22 ?k22 ?m23 ?w23 ?l23 ?c23 ?k23 ?m24 ?w24 ?l24 ?c24 ?k24 ?m25 ?w25 ?l25 ?c25 ?k25) hmg
    (case a0 => k_is)
    (case l0 => k_is)
    (case c0 => k_is)
    (case k0 => k_is)
    (case a1 => k_is)
    (case l1 => k_is)
    (case c1 => k_is)
    (case k1 => k_is)
    (case a2 => k_is)
    (case l2 => k_is)
    (case c2 => k_is)
    (case k2 => k_is)
    (case a3 => k_is)
    (case l3 => k_is)
    (case c3 => k_is)
    (case k3 => k_is)
    (case a4 => k_is)
    (case l4 => k_is)
    (case c4 => k_is)
    (case k4 => k_is)
    (case a5 => k_is)
    (case l5 => k_is)
    (case c5 => k_is)
    (case k5 => k_is)
    (case a6 => k_is)
    (case l6 => k_is)
    (case c6 => k_is)
    (case k6 => k_is)
    (case a7 => k_is)
    (case l7 => k_is)
    (case c7 => k_is)
    (case k7 => k_is)
    (case a8 => k_is)
    (case l8 => k_is)
    (case c8 => k_is)
    (case k8 => k_is)
    (case a9 => k_is)
    (case l9 => k_is)
    (case c9 => k_is)
    (case k9 => k_is)
    (case a10 => k_is)
    (case l10 => k_is)
    (case c10 => k_is)
    (case k10 => k_is)
    (case a11 => k_is)
    (case l11 => k_is)
    (case c11 => k_is)
    (case k11 => k_is)
    (case a12 => k_is)
    (case l12 => k_is)
    (case c12 => k_is)
    (case k12 => k_is)
    (case a13 => k_is)
    (case l13 => k_is)
    (case c13 => k_is)
    (case k13 => k_is)
    (case a14 => k_is)
    (case l14 => k_is)
    (case c14 => k_is)
    (case k14 => k_is)
    (case a15 => k_is)
    (case l15 => k_is)
    (case c15 => k_is)
    (case k15 => k_is)
    (case a16 => k_is)
    (case l16 => k_is)
    (case c16 => k_is)
    (case k16 => k_is)
    (case a17 => k_is)
    (case l17 => k_is)
    (case c17 => k_is)
    (case k17 => k_is)
    (case a18 => k_is)
    (case l18 => k_is)
    (case c18 => k_is)
    (case k18 => k_is)
    (case a19 => k_is)
    (case l19 => k_is)
    (case c19 => k_is)
    (case k19 => k_is)
    (case a20 => k_is)
    (case l20 => k_is)
    (case c20 => k_is)
    (case k20 => k_is)
    (case a21 => k_is)
    (case l21 => k_is)
    (case c21 => k_is)
    (case k21 => k_is)
    (case z0 => k_is)
    (case z1 => k_is)
    (case z2 => k_is)
    (case z3 => k_is)
    (case z4 => k_is)
    (case z5 => k_is)
    (case z6 => k_is)
    (case z7 => k_is)
    (case z8 => k_is)
    (case z9 => k_is)
    (case z10 => k_is)
    (case z11 => k_is)
    (case z12 => k_is)
    (case y0 => k_is)
    (case xC0 => k_is)
    (case pg0 => k_is)
    (case hd0 => k_is)
    (case po0 => k_is)
    (case sa0 => k_is)
    (case mk0 => k_is)
    (case kc0 => k_is)
    (case nf0_0 => k_is)
    (case nf0_1 => k_is)
    (case nf0_2 => k_is)
    (case m22 => k_is)
    (case w22 => k_is)
    (case l22 => k_is)
    (case c22 => k_is)
    (case k22 => k_is)
    (case m23 => k_is)
    (case w23 => k_is)
    (case l23 => k_is)
    (case c23 => k_is)
    (case k23 => k_is)
    (case m24 => k_is)
    (case w24 => k_is)
    (case l24 => k_is)
    (case c24 => k_is)
    (case k24 => k_is)
    (case m25 => k_is)
    (case w25 => k_is)
    (case l25 => k_is)
    (case c25 => k_is)
    (case k25 => k_is)
