import PyProof.Rows.All
import Wide.All
import OpenK.AllK
import Wide.FinOn
import HandS.ForMost
import HandS.ForExc
import HandS.TupAny
import KE.KIndexOf
import HandS.IsInst
import HandS.Deep
import HandS.Wide
import HandS.WideBits
import HandS.Style
import HandS.Conv
import HandS.Flow
import KE.GoesMore
import KE.GoesEnum
import HandS.Zip
import HandS.TupSets
import HandS.SetFor
import KE.KDictZip
import KE.KTurns
import PySem.Challenge.RW_pilepass_k04_whole_meanings_of_changed_w
set_option Elab.async false
set_option linter.all false
set_option maxRecDepth 100000
set_option maxHeartbeats 4000000
set_option autoImplicit false
/-! Tuples that are made here, with their own objects known (they have no dict of their own). -/
namespace PL
open PySem PySem.Spec PyProof.Rows HT L2
def TObj (o : Obj) : Prop := o.cls = .type "tuple" ∧ o.dict = none
/-- a new tuple of xs, wherever it stands -/
def newT (xs : List V) (H : Hp) (Q : VK) : Prop := ∀ p o, H p = none → TObj o → Q (.ref p) (upd H p (.frz o (.tup xs)))
section
variable {X : Cx} {pins : List (Addr × Obj)} {σ : L2.St} {H : Hp} {s : Shared} {xs : List V} {us : List Value}
theorem laidT {Q : VK} {h' : Heap} {t' : Nat} (I : L2.Inv X pins σ H s) (r : Vals xs us) (z : xs.length ≤ sizeLine) (k : ∀ b u, s.heap.get? b = some u → h'.get? b = some u) (hs : s.heap.objs.size = h'.objs.size)
    (q : newT xs H Q) : EP X pins σ Q (.ref h'.objs.size) { s with heap := h'.push { cls := .type "tuple", data := .seq us.toArray }, toks := t' } := by
  refine ⟨.ref h'.objs.size, _, I.laid (t' := t') (o := .frz { cls := .type "tuple", data := .seq us.toArray } (.tup xs)) (fun b u e => Heap.get?_push_of_some _ (k b u e)) (Nat.le_of_eq hs) ?_, rfl, q h'.objs.size _ (I.hok.fresh (Nat.le_of_eq hs)) ⟨rfl, rfl⟩⟩
  exact ⟨Heap.get?_push_size _ rfl, z, us, r, IsTup.new _ _⟩
end
section
variable {X : Cx} {e : Expr} {es : List Expr} {te : TE} {t : TA} {pos : Pos}
def tTupF (t : TA) : TE := fun σ H Q => t σ H fun xs H1 => xs.length ≤ sizeLine ∧ newT xs H1 Q
theorem pe_tupF {x1} (h : PA X es t) : PE X (.Tuple es x1 pos) (tTupF t) := by
  refine ⟨fun pins s σ H Q I hq => ?_⟩
  refine wpAny_Tuple_spliced (thn (h.run pos pins s σ H _ I hq) fun us s1 ⟨xs, H1, I1, r, z, q⟩ => ⟨by rw [← r.length]; exact z, ?_⟩)
  exact laidT (t' := s1.toks) I1 r z (fun _ _ e => e) rfl q
def rSlF (K : PySem.W.Frag) : V → Option Int → Option Int → Hp → VK → Prop := fun x lo hi H Q => ∃ a xs, x = .ref a ∧ SqT K H a xs ∧
  (HT.sIx xs.length 0 lo = 0 ∧ HT.sIx xs.length xs.length hi = xs.length → Q (.ref a) H) ∧ (¬ (HT.sIx xs.length 0 lo = 0 ∧ HT.sIx xs.length xs.length hi = xs.length) → newT (cutV xs lo hi) H Q)
theorem sl_tupF : L2.SlR X (rSlF X.K) := by
  intro pins s σ H x v vl vu lo hi sl Q I rx hs pl pu h
  obtain ⟨a, xs, rfl, hx, q1, q⟩ := h
  cases rx
  obtain ⟨its, r, ht, hz⟩ := I.tuple hx
  have hlen : its.toArray.size = xs.length := by rw [List.size_toArray]; exact r.length.symm
  refine ⟨"tuple", _, PyProof.Rows.slot_tuple_getitem.lookup, ht.typeIs, ?_⟩
  by_cases hw : HT.sIx xs.length 0 lo = 0 ∧ HT.sIx xs.length xs.length hi = xs.length
  · exact getItem_tuple_whole ht hs pl pu (by rw [hlen]; exact hw) ⟨.ref a, H, I, rfl, q1 hw⟩
  · refine HT.getItem_tuple_cut ht hs pl pu (by rw [hlen]; exact hw) ?_ (by rw [hlen]; exact hz)
    rw [hlen]
    exact laidT (t' := s.toks) I ((r.drop _).take _) (Nat.le_trans (cutV_length xs lo hi) hz) (fun _ _ e => e) rfl (q hw)
def rCatF (K : PySem.W.Frag) : R2 := fun x y H Q => ∃ a b xs ys, x = .ref a ∧ y = .ref b ∧ SqT K H a xs ∧ SqT K H b ys ∧ xs.length + ys.length ≤ sizeLine ∧
  (xs = [] → Q (.ref b) H) ∧ (xs ≠ [] → ys = [] → Q (.ref a) H) ∧ (xs ≠ [] → ys ≠ [] → newT (xs ++ ys) H Q)
theorem op_catF : OpR X (binaryOp .Add) (rCatF X.K) := by
  intro pins s σ H x y v u Q I rx ry h
  obtain ⟨a, b, xs, ys, rfl, rfl, ha, hb, hz, q0, q1, q2⟩ := h
  cases rx
  cases ry
  obtain ⟨its, r1, p1, _⟩ := I.tuple ha
  obtain ⟨its2, r2, p2, _⟩ := I.tuple hb
  by_cases hx : xs = []
  · subst hx
    cases r1
    exact cat_tup0 p1 p2 ⟨.ref b, H, I, rfl, q0 rfl⟩
  · refine HT.cat_tup p1 p2 (fun z => hx (r1.nil_iff.mp z)) (fun z => ⟨.ref a, H, I, rfl, q1 hx (r2.nil_iff.mp z)⟩) (fun z => ?_) (by rw [← r1.length, ← r2.length]; exact hz)
    exact laidT (t' := s.toks) I (r1.append r2) (by rw [List.length_append]; exact hz) (fun _ _ e => e) rfl (q2 hx fun w => z (r2.nil_iff.mpr w))
theorem call_tupleF : CallR X (.type "tuple") (fun xs H Q => ∃ p ys, xs = [.ref p] ∧ ((SqL X.K H p ys ∧ newT ys H Q) ∨ (SqT X.K H p ys ∧ Q (.ref p) H))) := by
  intro pins s σ H xs us Q I r h
  obtain ⟨p, ys, rfl, h⟩ := h
  obtain ⟨u, rfl, rx⟩ := vals1 r
  cases rx
  rcases h with ⟨hq, q⟩ | ⟨hq, q⟩
  · obtain ⟨its, r', pl, hz⟩ := I.list hq
    have hlen := r'.length
    refine call_tuple_list pl.isList (fun h' kp => ?_) (by simp only [List.size_toArray] <;> omega)
    have I1 : L2.Inv X pins σ H { s with heap := h' } := I.kept (t' := s.toks) kp
    exact laidT (s := { s with heap := h' }) (h' := h') (t' := s.toks) I1 r' hz (fun _ _ e => e) rfl q
  · obtain ⟨its, r', pl, hz⟩ := I.tuple hq
    exact call_tuple_same pl ⟨.ref p, H, I, rfl, q⟩
end
/-! t.index(k) of ints, l.index(k) of ints -/
section
variable {X : Cx}
/-- where a tuple without a dict of its own stands -/
def TupR (K : PySem.W.Frag) (H : Hp) (a : Addr) (xs : List V) : Prop :=
  (∃ o, H a = some (.frz o (.tup xs)) ∧ TObj o) ∨
    ∃ (o : Obj) (its : Array Value) (n : Nat), K.lookup a = some o ∧ o.cls = .type "tuple" ∧ o.dict = none ∧ o.data = .seq its n ∧ its.size ≤ sizeLine ∧ Vals xs its.toList
theorem TupR.sqt {K : PySem.W.Frag} {H : Hp} {a : Addr} {xs : List V} (h : TupR K H a xs) : SqT K H a xs := by
  rcases h with ⟨o, h, _⟩ | ⟨o, its, n, h1, h2, h3, h4, h5, h6⟩
  · exact .inl (.inr ⟨o, h⟩)
  · exact .inr ⟨o, its, n, h1, h2, h4, h5, h6⟩
theorem TupR.obj {K : PySem.W.Frag} {H : Hp} {a : Addr} {xs : List V} {X : Cx} {pins : List (Addr × Obj)} {σ : L2.St} {s : Shared} (I : L2.Inv X pins σ H s) (h : TupR X.K H a xs) : ∃ o, s.heap.get? a = some o ∧ o.cls = .type "tuple" ∧ o.dict = none := by
  rcases h with ⟨o, h, ho⟩ | ⟨o, its, n, h1, h2, h3, h4, h5, h6⟩
  · exact ⟨o, (I.hok a _ h).1, ho⟩
  · exact ⟨o, I.kIn a o h1, h2, h3⟩
def rTIdx (K : PySem.W.Frag) : V → List V → Hp → VK → Prop := fun x xs H Q => ∃ (a : Addr) (ns : List Int) (k : Int), x = .ref a ∧ xs = [.int k] ∧ TupR K H a (ns.map V.int) ∧ k ∈ ns ∧ Q (.int (ns.idxOf k : Nat)) H
def tTM (K : PySem.W.Frag) (r : V → List V → Hp → VK → Prop) (to : TE) (t : TA) : TE := fun σ H Q => to σ H fun x H1 => (∃ a xs, x = .ref a ∧ TupR K H1 a xs) ∧ t σ H1 fun xs H2 => r x xs H2 Q
theorem intsAre_vals {ns : List Int} : ∀ {us : List Value}, Vals (ns.map V.int) us → IntsAre us ns := intsAre_of
theorem mt_tidx : MtR X "tuple.index" (rTIdx X.K) := by
  intro pins s σ H x xs v us Q I rx rxs ⟨a, ns, k, ex, exs, ha, hk, q⟩
  subst ex exs
  cases rx
  obtain ⟨u, rfl, t, rfl⟩ := Vals.one rxs
  obtain ⟨its, r, p, hz⟩ := I.tuple ha.sqt
  exact SeqAt.tuple_index_ints p (intsAre_of r) hk ⟨.int _, H, I.tok _, ⟨_, rfl⟩, q⟩
/-- t.m(e, ..), t a tuple -/
theorem pe_tm {o e : Expr} {es : List Expr} {to : TE} {t : TA} {name : Str} {apos cpos : Pos} {id : String} {r : V → List V → Hp → VK → Prop} (slot : Slot "tuple" name id) (hty : typeOf (.builtin id) = pure (.type "method_descriptor")) (hm : MtR X id r) (ho : PE X o to) (ha : PA X (e :: es) t)
    (hbase : attributeBase o name X.env (eval o X.env) = eval o X.env := by rfl)
    (hfew : ((backTo cpos (starEach (e :: es) X.env)).all (fun x => !x.1) && (backToKw cpos (keywordEach [] X.env)).all (fun x => x.1.isSome)
      && decide ((e :: es).length + ([] : List Keyword).length + (if ([] : List Keyword).isEmpty then 0 else 1) < 30)) = true := by rfl)
    (hline : (apos.endLine == cpos.line) = true := by rfl) (hs : starEach (e :: es) X.env = (false, eval e X.env) :: starEach es X.env := by rfl) (hplain : (backTo cpos (starEach es X.env)).any (·.1) = false := by rfl) :
    PE X (.Call (.Attribute o name apos) (e :: es) [] cpos) (tTM X.K r to t) := by
  refine ⟨fun pins s σ H Q I h => ?_⟩
  refine wpAny_Call_method_late hbase hfew hline rfl (thn (ho.run pins s σ H _ I h) fun v s1 ⟨x, H1, I1, r1, ⟨a, xs, ex, ty⟩, q1⟩ => ?_)
  subst ex
  cases r1
  obtain ⟨ob, h1, h2, h3⟩ := TupR.obj (K := X.K) I1 ty
  refine ⟨"tuple", id, PySem.F.plainAttrs_tuple, slot, hty, ⟨ob, h1, h2⟩, fun b hb => (by cases hb; exact ⟨ob, h1, h3⟩), ?_⟩
  have hA := ha.run cpos pins s1 σ H1 _ I1 q1
  rw [hs] at hA ⊢
  refine Calls.callWith_builtin (by show (false || (backTo cpos (starEach es X.env)).any (·.1)) = false; rw [hplain] <;> rfl) (Calls.evalArgs_plain ?_)
  exact thn hA fun us s2 ⟨vs, H2, I2, r2, q2⟩ => hm pins s2 σ H2 (.ref a) vs (.ref a) us Q I2 rfl r2 q2
end
end PL

/-! A pure layer over HandS: values as data, frozen and owned parts of the heap. -/
namespace PL
open PySem L2

abbrev D := PyData
def Ex (F H : Hp) : Prop := ∀ a o, F a = some o → H a = some o
theorem Ex.refl (H : Hp) : Ex H H := fun _ _ h => h
theorem Ex.trans {F G H : Hp} (a : Ex F G) (b : Ex G H) : Ex F H := fun x o h => b x o (a x o h)
theorem Ex.rd {F H : Hp} {a : Addr} {u : HO} (e : Ex F H) (h : Rd F a u) : Rd H a u := by
  rcases h with h | ⟨o, h⟩
  · exact .inl (e a _ h)
  · exact .inr ⟨o, e a _ h⟩
theorem Ex.sqt {K : PySem.W.Frag} {F H : Hp} {a : Addr} {xs : List V} (e : Ex F H) (h : SqT K F a xs) : SqT K H a xs := by
  rcases h with h | h
  · exact .inl (e.rd h)
  · exact .inr h
theorem Ex.tup {K : PySem.W.Frag} {F H : Hp} {a : Addr} {xs : List V} (e : Ex F H) (h : TupR K F a xs) : TupR K H a xs := by
  rcases h with ⟨o, h, ho⟩ | h
  · exact .inl ⟨o, e _ _ h, ho⟩
  · exact .inr h

mutual
inductive RD (K : PySem.W.Frag) (F : Hp) : V → D → Prop
  | non : RD K F .non .none
  | bl (b : Bool) : RD K F (.bl b) (.bool b)
  | int (i : Int) : RD K F (.int i) (.int i)
  | str (x : Str) : RD K F (.str x) (.str x)
  | lst {a : Addr} {xs : List V} {ds : List D} : F a = some (.lst xs) → RDs K F xs ds → RD K F (.ref a) (.list ds)
  | tup {a : Addr} {xs : List V} {ds : List D} : TupR K F a xs → RDs K F xs ds → RD K F (.ref a) (.tuple ds)
inductive RDs (K : PySem.W.Frag) (F : Hp) : List V → List D → Prop
  | nil : RDs K F [] []
  | cons {v : V} {vs : List V} {d : D} {ds : List D} : RD K F v d → RDs K F vs ds → RDs K F (v :: vs) (d :: ds)
end
section
variable {K : PySem.W.Frag} {F H : Hp}
mutual
theorem RD.ext (e : Ex F H) : ∀ {v : V} {d : D}, RD K F v d → RD K H v d
  | _, _, .non => .non
  | _, _, .bl b => .bl b
  | _, _, .int i => .int i
  | _, _, .str x => .str x
  | _, _, .lst h t => .lst (e _ _ h) (RDs.ext e t)
  | _, _, .tup h t => .tup (e.tup h) (RDs.ext e t)
theorem RDs.ext (e : Ex F H) : ∀ {vs : List V} {ds : List D}, RDs K F vs ds → RDs K H vs ds
  | _, _, .nil => .nil
  | _, _, .cons h t => .cons (RD.ext e h) (RDs.ext e t)
end
mutual
theorem RD.dp : ∀ {v : V} {d : D}, RD K F v d → Dp K F v d
  | _, _, .non => .non
  | _, _, .bl b => .bl b
  | _, _, .int i => .int i
  | _, _, .str x => .str x
  | _, _, .lst h t => .lst (SqL.of h) (RDs.dp t)
  | _, _, .tup h t => .tup h.sqt (RDs.dp t)
theorem RDs.dp : ∀ {vs : List V} {ds : List D}, RDs K F vs ds → DpAll K F vs ds
  | _, _, .nil => .nil
  | _, _, .cons h t => .cons (RD.dp h) (RDs.dp t)
end
theorem RDs.length {vs : List V} {ds : List D} (h : RDs K F vs ds) : vs.length = ds.length := by
  induction ds generalizing vs with
  | nil => cases h; rfl
  | cons d ds ih => cases h with | cons h t => simp [ih t]
theorem RDs.get {vs : List V} {ds : List D} (h : RDs K F vs ds) {i : Nat} {d : D} (e : ds[i]? = some d) : ∃ v, vs[i]? = some v ∧ RD K F v d := by
  induction ds generalizing vs i with
  | nil => simp at e
  | cons d' ds ih =>
    cases h with
    | cons h t =>
      cases i with
      | zero => simp at e; subst e; exact ⟨_, rfl, h⟩
      | succ i => simp at e; simpa using ih t e
theorem RDs.getV {vs : List V} {ds : List D} (h : RDs K F vs ds) {i : Nat} {v : V} (e : vs[i]? = some v) : ∃ d, ds[i]? = some d ∧ RD K F v d := by
  induction ds generalizing vs i with
  | nil => cases h; simp at e
  | cons d' ds ih =>
    cases h with
    | cons h t =>
      cases i with
      | zero => simp at e; subst e; exact ⟨_, rfl, h⟩
      | succ i => simp at e; simpa using ih t e
theorem RDs.append {vs ws : List V} {ds es : List D} (h : RDs K F vs ds) (k : RDs K F ws es) : RDs K F (vs ++ ws) (ds ++ es) := by
  induction ds generalizing vs with
  | nil => cases h; exact k
  | cons d ds ih => cases h with | cons h t => exact .cons h (ih t)
theorem RDs.take {vs : List V} {ds : List D} (h : RDs K F vs ds) (n : Nat) : RDs K F (vs.take n) (ds.take n) := by
  induction ds generalizing vs n with
  | nil => cases h; simp; exact .nil
  | cons d ds ih =>
    cases h with
    | cons h t =>
      cases n with
      | zero => exact .nil
      | succ n => exact .cons h (ih t n)
theorem RDs.drop {vs : List V} {ds : List D} (h : RDs K F vs ds) (n : Nat) : RDs K F (vs.drop n) (ds.drop n) := by
  induction ds generalizing vs n with
  | nil => cases h; simp; exact .nil
  | cons d ds ih =>
    cases h with
    | cons h t =>
      cases n with
      | zero => exact .cons h t
      | succ n => exact ih t n
theorem RDs.set {vs : List V} {ds : List D} {v : V} {d : D} (h : RDs K F vs ds) (k : RD K F v d) (n : Nat) : RDs K F (vs.set n v) (ds.set n d) := by
  induction ds generalizing vs n with
  | nil => cases h; simp; exact .nil
  | cons d ds ih =>
    cases h with
    | cons h t =>
      cases n with
      | zero => exact .cons k t
      | succ n => exact .cons h (ih t n)
theorem RDs.reverse {vs : List V} {ds : List D} (h : RDs K F vs ds) : RDs K F vs.reverse ds.reverse := by
  induction ds generalizing vs with
  | nil => cases h; exact .nil
  | cons d ds ih => cases h with | cons h t => simp; exact (ih t).append (.cons h .nil)
theorem RDs.ints : ∀ {vs : List V} {is : List Int}, RDs K F vs (is.map PyData.int) → vs = is.map V.int
  | _, [], .nil => rfl
  | _, i :: is, .cons (.int _) t => by rw [RDs.ints t]; rfl
theorem RDs.of_ints : ∀ (is : List Int), RDs K F (is.map V.int) (is.map PyData.int)
  | [] => .nil
  | i :: is => .cons (.int i) (RDs.of_ints is)
theorem RDs.bls : ∀ {vs : List V} {bs : List Bool}, RDs K F vs (bs.map PyData.bool) → vs = bs.map V.bl
  | _, [], .nil => rfl
  | _, b :: bs, .cons (.bl _) t => by rw [RDs.bls t]; rfl
end

/-- pairs of a dict -/
def KvR (K : PySem.W.Frag) (F : Hp) : List (Key × V) → List (Key × D) → Prop := Paired fun a b => a.1 = b.1 ∧ RD K F a.2 b.2
theorem KvR.ext {K : PySem.W.Frag} {F H : Hp} (e : Ex F H) {vs : List (Key × V)} {ds : List (Key × D)} (h : KvR K F vs ds) : KvR K H vs ds := Paired.mapP h fun _ _ z => ⟨z.1, z.2.ext e⟩

inductive Av where
  | dat (d : D)
  | dic (kvs : List (Key × D))
  | raw (v : V)
inductive Ow where
  | lst (ds : List D)
  | dic (kvs : List (Key × D))
inductive Sl where
  | un
  | im (a : Av)
  | ow (o : Ow)
structure En where
  sl : List Sl
  n : Nat
inductive Rs where
  | val (a : Av)
  | new (o : Ow)
  | loan (i : Nat) (o : Ow)
def Ow.av : Ow → Av
  | .lst ds => .dat (.list ds)
  | .dic kvs => .dic kvs
def Rs.av : Rs → Av
  | .val a => a
  | .new o => o.av
  | .loan _ o => o.av

structure Amb where
  rs : List Addr
  RI : Nat → Hp → Prop
  st : ∀ n H H', (∀ a ∈ rs, H' a = H a) → RI n H → RI n H'
  hs : ∀ n H, RI n H → ∀ a ∈ rs, H a ≠ none

section
variable (K : PySem.W.Frag)
def RelA (F : Hp) (v : V) : Av → Prop
  | .dat d => RD K F v d
  | .dic kvs => ∃ p vs, v = .ref p ∧ F p = some (.dK vs) ∧ KvR K F vs kvs
  | .raw u => v = u
def OwR (F : Hp) : HO → Ow → Prop
  | o, .lst ds => ∃ vs, o = .lst vs ∧ RDs K F vs ds
  | o, .dic kvs => ∃ vs, o = .dK vs ∧ KvR K F vs kvs
def SlotR (F H : Hp) (x : Option (Option V)) : Sl → Prop
  | .un => True
  | .im a => ∃ v, x = some (some v) ∧ RelA K F v a
  | .ow o => ∃ p ho, x = some (some (.ref p)) ∧ F p = none ∧ H p = some ho ∧ OwR K F ho o
end
def Owns (e : En) (σ : St) (i : Nat) (p : Addr) : Prop := (∃ o, e.sl[i]? = some (.ow o)) ∧ σ[i]? = some (some (.ref p))

structure Sta (A : Amb) (K : PySem.W.Frag) (σ : St) (F H : Hp) (e : En) : Prop where
  len : e.sl.length = σ.length
  ex : Ex F H
  at_ : ∀ (i : Nat) (s : Sl), e.sl[i]? = some s → SlotR K F H σ[i]? s
  sep : ∀ i j p, Owns e σ i p → Owns e σ j p → i = j
  ri : A.RI e.n H
  rsF : ∀ a ∈ A.rs, F a = none
  rsO : ∀ i p, Owns e σ i p → p ∉ A.rs

structure Stp (A : Amb) (σ : St) (F H : Hp) (e : En) (F' H' : Hp) (e' : En) : Prop where
  ex : Ex F F'
  keep : ∀ a o, H a = some o → a ∉ A.rs → (∀ i, ¬ Owns e σ i a) → H' a = some o ∧ F' a = F a
  own : ∀ i p, Owns e' σ i p → Owns e σ i p
  liv : ∀ a, H a ≠ none → H' a ≠ none

section
variable {A : Amb} {K : PySem.W.Frag} {σ : St} {F F' F1 F2 H H' H0 H1 H2 : Hp} {e e' e1 e2 : En} {v u : V} {a b : Av} {o : Ow} {r : Rs}
theorem Stp.refl : Stp A σ F H e F H e := ⟨Ex.refl _, fun _ _ h _ _ => ⟨h, rfl⟩, fun _ _ h => h, fun _ h => h⟩
theorem Stp.trans (x : Stp A σ F H e F1 H1 e1) (y : Stp A σ F1 H1 e1 F2 H2 e2) : Stp A σ F H e F2 H2 e2 where
  ex := x.ex.trans y.ex
  keep := fun a o h hr ho => by
    obtain ⟨h1, g1⟩ := x.keep a o h hr ho
    obtain ⟨h2, g2⟩ := y.keep a o h1 hr fun i q => ho i (x.own i a q)
    exact ⟨h2, g2.trans g1⟩
  own := fun i p h => x.own i p (y.own i p h)
  liv := fun a h => y.liv a (x.liv a h)
theorem RelA.ext (x : Ex F H) : ∀ {a : Av}, RelA K F v a → RelA K H v a
  | .dat d, h => RD.ext x h
  | .dic kvs, ⟨p, vs, e, h, q⟩ => ⟨p, vs, e, x _ _ h, q.ext x⟩
  | .raw u, h => h
theorem OwR.ext (x : Ex F H) : ∀ {o : Ow} {ho : HO}, OwR K F ho o → OwR K H ho o
  | .lst ds, _, ⟨vs, e, h⟩ => ⟨vs, e, h.ext x⟩
  | .dic kvs, _, ⟨vs, e, h⟩ => ⟨vs, e, h.ext x⟩
/-- what a result is -/
def RsR (K : PySem.W.Frag) (A : Amb) (σ : St) (H0 F H : Hp) (e : En) (v : V) : Rs → Prop
  | .val a => RelA K F v a
  | .new o => ∃ p ho, v = .ref p ∧ H0 p = none ∧ F p = none ∧ H p = some ho ∧ OwR K F ho o ∧ p ∉ A.rs ∧ ∀ i, ¬ Owns e σ i p
  | .loan i o => e.sl[i]? = some (.ow o) ∧ σ[i]? = some (some v)
/-- what is needed for a result to be the same behind a further step -/
def Rs.kept (r : Rs) (e : En) : Prop := match r with
  | .loan i o => e.sl[i]? = some (.ow o)
  | _ => True
/-- k, and what is needed for r to be the same in e -/
def Rs.keepIn (r : Rs) (e : En) (k : Prop) : Prop := match r with
  | .loan i o => e.sl[i]? = some (.ow o) ∧ k
  | _ => k
theorem Rs.keepIn_iff {r : Rs} {e : En} {k : Prop} : r.keepIn e k ↔ r.kept e ∧ k := by cases r <;> simp [Rs.keepIn, Rs.kept]
theorem RsR.step (h : RsR K A σ H0 F1 H1 e1 v r) (t : Stp A σ F1 H1 e1 F2 H2 e2) (k : r.kept e2) : RsR K A σ H0 F2 H2 e2 v r := by
  cases r with
  | val a => exact RelA.ext t.ex h
  | new o =>
    obtain ⟨p, ho, e, h0, f, g, q, nr, no⟩ := h
    obtain ⟨g2, f2⟩ := t.keep p ho g nr no
    exact ⟨p, ho, e, h0, f2.trans f, g2, q.ext t.ex, nr, fun i z => no i (t.own i p z)⟩
  | loan i o => exact ⟨k, h.2⟩
theorem RsR.early (h : RsR K A σ H1 F2 H2 e2 v r) (t : Stp A σ F H e F1 H1 e1) : RsR K A σ H F2 H2 e2 v r := by
  cases r with
  | val a => exact h
  | new o =>
    obtain ⟨p, ho, e, h0, q⟩ := h
    refine ⟨p, ho, e, ?_, q⟩
    cases z : H p with
    | none => rfl
    | some w => exact absurd h0 (t.liv p (by rw [z]; simp))
  | loan i o => exact h
/-- a value at the top: a list or dict as it stands now, all else frozen -/
def TopR (K : PySem.W.Frag) (F H : Hp) (v : V) : Av → Prop
  | .dat (.list ds) => ∃ p vs, v = .ref p ∧ H p = some (.lst vs) ∧ RDs K F vs ds
  | .dat d => RD K F v d
  | .dic kvs => ∃ p vs, v = .ref p ∧ H p = some (.dK vs) ∧ KvR K F vs kvs
  | .raw u => v = u
theorem TopR.of (x : Ex F H) : ∀ {a : Av}, RelA K F v a → TopR K F H v a
  | .dat .none, h => h
  | .dat (.bool b), h => h
  | .dat (.int i), h => h
  | .dat (.str i), h => h
  | .dat (.tuple i), h => h
  | .dat (.dict i), h => h
  | .dat (.list ds), h => by
    cases h with
    | lst h t => exact ⟨_, _, rfl, x _ _ h, t⟩
  | .dic kvs, ⟨p, vs, e, h, q⟩ => ⟨p, vs, e, x _ _ h, q⟩
  | .raw u, h => h
theorem RsR.top (h : RsR K A σ H0 F H e v r) (S : Sta A K σ F H e) : TopR K F H v r.av := by
  cases r with
  | val a => exact TopR.of S.ex h
  | new o =>
    obtain ⟨p, ho, e, _, f, g, q, _⟩ := h
    cases o with
    | lst ds => obtain ⟨vs, e2, q⟩ := q; subst e2; exact ⟨p, vs, e, g, q⟩
    | dic ds => obtain ⟨vs, e2, q⟩ := q; subst e2; exact ⟨p, vs, e, g, q⟩
  | loan i o =>
    obtain ⟨h1, h2⟩ := h
    obtain ⟨p, ho, e, f, g, q⟩ := S.at_ i _ h1
    rw [h2] at e
    have e' : v = .ref p := by simpa using e
    cases o with
    | lst ds => obtain ⟨vs, e2, q⟩ := q; subst e2; exact ⟨p, vs, e', g, q⟩
    | dic ds => obtain ⟨vs, e2, q⟩ := q; subst e2; exact ⟨p, vs, e', g, q⟩
end

/-! ### the judgement of an expression -/
abbrev WE := En → (Rs → En → Prop) → Prop
def ER (A : Amb) (K : PySem.W.Frag) (te : TE) (w : WE) : Prop :=
  ∀ (σ : St) (F H : Hp) (e : En) (post : Rs → En → Prop), Sta A K σ F H e → w e post → ∀ Q : VK,
    (∀ v r F' H' e', Stp A σ F H e F' H' e' → Sta A K σ F' H' e' → RsR K A σ H F' H' e' v r → post r e' → Q v H') → te σ H Q
structure PD (X : Cx) (A : Amb) (ex : Expr) (te : TE) (w : WE) : Prop where
  pe : PE X ex te
  er : ER A X.K te w

section
variable {A : Amb} {K : PySem.W.Frag} {σ : St} {F H : Hp} {e : En} {v : V} {a : Av}
theorem Sta.rsr {H0 : Hp} (h : RelA K F v a) : RsR K A σ H0 F H e v (.val a) := h
end

/-- what a rule may hand back: a value that is frozen already, a new list or dict, a new tuple -/
structure Okr (K : PySem.W.Frag) (F H : Hp) (post : Rs → Prop) (Q : VK) : Prop where
  val : ∀ v a, RelA K F v a → post (.val a) → Q v H
  new : ∀ p ho o, H p = none → OwR K F ho o → post (.new o) → Q (.ref p) (upd H p ho)
  tup : ∀ vs ds, RDs K F vs ds → post (.val (.dat (.tuple ds))) → newT vs H Q

section
variable {A : Amb} {K : PySem.W.Frag} {σ : St} {F F' F1 F2 H H' H0 H1 H2 : Hp} {e e' e1 e2 : En} {v u : V} {a b : Av} {o : Ow} {r : Rs}
theorem upd_old {p : Addr} {ho : HO} (h : H p = none) : Ex H (upd H p ho) := fun a o q => by rw [upd_ne (ne_of_none q h)]; exact q
theorem Sta.rsA (S : Sta A K σ F H e) {p : Addr} (h : H p = none) : p ∉ A.rs := fun z => A.hs _ _ S.ri p z h
theorem Sta.noO (S : Sta A K σ F H e) {p : Addr} (h : H p = none) (i : Nat) : ¬ Owns e σ i p := fun ⟨⟨o, h1⟩, h2⟩ => by
  obtain ⟨p', ho, e', _, g, _⟩ := S.at_ i _ h1
  rw [h2] at e'
  have : p = p' := by simpa using e'
  subst this
  rw [h] at g; cases g
theorem SlotR.ext {x : Option (Option V)} {s : Sl} (h : SlotR K F H x s) (f : Ex F F') (g : ∀ p, x = some (some (.ref p)) → (∃ o, s = .ow o) → F p = none → H p ≠ none → F' p = none ∧ H' p = H p) : SlotR K F' H' x s := by
  cases s with
  | un => trivial
  | im a => obtain ⟨v, e, q⟩ := h; exact ⟨v, e, RelA.ext f q⟩
  | ow o =>
    obtain ⟨p, ho, e, f0, g0, q⟩ := h
    obtain ⟨h1, h2⟩ := g p e ⟨o, rfl⟩ f0 (by rw [g0]; simp)
    exact ⟨p, ho, e, h1, h2.trans g0, q.ext f⟩
/-- a new object that stays with the evaluation -/
theorem Sta.push (S : Sta A K σ F H e) {p : Addr} {ho : HO} (h : H p = none) : Sta A K σ F (upd H p ho) e ∧ Stp A σ F H e F (upd H p ho) e := by
  have hr := S.rsA h
  refine ⟨⟨S.len, S.ex.trans (upd_old h), fun i s hs => (S.at_ i s hs).ext (Ex.refl _) fun q _ _ f g => ⟨f, upd_ne fun z => by subst z; exact g h⟩, S.sep, A.st _ _ _ (fun a ha => upd_ne fun z => by subst z; exact hr ha) S.ri, S.rsF, S.rsO⟩, ⟨Ex.refl _, fun a o q _ _ => ⟨upd_old h a o q, rfl⟩, fun _ _ q => q, fun a q z => q (by
    by_cases c : a = p
    · subst c; rw [upd_same] at z; cases z
    · rw [upd_ne c] at z; exact z)⟩⟩
/-- a new object that is frozen at once -/
theorem Sta.pushF (S : Sta A K σ F H e) {p : Addr} {ho : HO} (h : H p = none) : Sta A K σ (upd F p ho) (upd H p ho) e ∧ Stp A σ F H e (upd F p ho) (upd H p ho) e := by
  have hF : F p = none := by
    cases z : F p with
    | none => rfl
    | some w => rw [S.ex p w z] at h; cases h
  have hr := S.rsA h
  refine ⟨⟨S.len, fun a o q => ?_, fun i s hs => (S.at_ i s hs).ext (upd_old hF) fun q _ _ f g => ?_, S.sep, A.st _ _ _ (fun a ha => upd_ne fun z => by subst z; exact hr ha) S.ri, fun a ha => ?_, S.rsO⟩, ⟨upd_old hF, fun a o q _ _ => ⟨upd_old h a o q, upd_ne (ne_of_none q h)⟩, fun _ _ q => q, fun a q z => q (by
    by_cases c : a = p
    · subst c; rw [upd_same] at z; cases z
    · rw [upd_ne c] at z; exact z)⟩⟩
  · by_cases c : a = p
    · subst c; rw [upd_same] at q ⊢; exact q
    · rw [upd_ne c] at q ⊢; exact S.ex a o q
  · have c : q ≠ p := fun z => by subst z; exact g h
    exact ⟨by rw [upd_ne c]; exact f, upd_ne c⟩
  · rw [upd_ne fun z => by subst z; exact hr ha]; exact S.rsF a ha
theorem Sta.okr (S : Sta A K σ F H e) {post : Rs → Prop} {Q : VK} (q : ∀ v r F' H', Stp A σ F H e F' H' e → Sta A K σ F' H' e → RsR K A σ H F' H' e v r → post r → Q v H') : Okr K F H post Q where
  val := fun v a h p => q v (.val a) F H Stp.refl S h p
  new := fun p ho o h r k => by
    obtain ⟨S', T⟩ := S.push (ho := ho) h
    refine q _ (.new o) F _ T S' ⟨p, ho, rfl, h, ?_, upd_same, r, S.rsA h, S.noO h⟩ k
    cases z : F p with
    | none => rfl
    | some w => rw [S.ex p w z] at h; cases h
  tup := fun vs ds r k p o h ho => by
    obtain ⟨S', T⟩ := S.pushF (ho := .frz o (.tup vs)) h
    exact q _ (.val (.dat (.tuple ds))) _ _ T S' (RD.tup (.inl ⟨o, upd_same, ho⟩) (r.ext T.ex)) k
end
end PL

namespace PL
open PySem L2

/-! ### names and constants -/
def wVar (i : Nat) : WE := fun e post => match e.sl[i]? with
  | some (.im a) => post (.val a) e
  | some (.ow o) => post (.loan i o) e
  | _ => False
def wC (d : D) : WE := fun e post => post (.val (.dat d)) e
def wRaw (v : V) : WE := fun e post => post (.val (.raw v)) e
section
variable {X : Cx} {A : Amb} {a b c : Expr} {ta tb tc : TE} {wa wb wc : WE} {pos : Pos}
theorem er_var {K : PySem.W.Frag} {i : Nat} : ER A K (tVar i) (wVar i) := by
  intro σ F H e post S h Q q
  unfold wVar at h
  split at h
  · rename_i a ha
    obtain ⟨v, e1, r⟩ := S.at_ i _ ha
    exact ⟨v, e1, q v (.val a) F H e Stp.refl S r h⟩
  · rename_i o ho
    obtain ⟨p, _, e1, _⟩ := S.at_ i _ ho
    exact ⟨.ref p, e1, q _ (.loan i o) F H e Stp.refl S ⟨ho, e1⟩ h⟩
  · exact h.elim
theorem pd_var (i : Nat) {x : Str} {pos : Pos} (hN : X.N[i]? = some x := by rfl) (hv : Vis X.env.scope x := by first | exact Or.inl rfl | exact Or.inr (Or.inl rfl) | exact Or.inr (Or.inr rfl)) (hd : (x == ("__debug__" : Str)) = false := by decide)
    (hcd : (x == ("__classdict__" : Str)) = false := by decide) : PD X A (.Name x pos) (tVar i) (wVar i) := ⟨pe_var hN hv hd hcd, er_var⟩
theorem er_c {K : PySem.W.Frag} {v : V} {d : D} (r : ∀ F : Hp, RD K F v d) : ER A K (tC v) (wC d) := by
  intro σ F H e post S h Q q
  exact q v (.val (.dat d)) F H e Stp.refl S (r F) h
theorem pd_int {i j pos} : PD X A (.Constant (.int i) j pos) (tC (.int i)) (wC (.int i)) := ⟨pe_int, er_c fun _ => .int i⟩
theorem pd_bl {b j pos} : PD X A (.Constant (.bool b) j pos) (tC (.bl b)) (wC (.bool b)) := ⟨pe_bl, er_c fun _ => .bl b⟩
theorem pd_non {j pos} : PD X A (.Constant .none j pos) (tC .non) (wC .none) := ⟨pe_non, er_c fun _ => .non⟩
theorem pd_str {x j pos} : PD X A (.Constant (.str x) j pos) (tC (.str x)) (wC (.str x)) := ⟨pe_str, er_c fun _ => .str x⟩
/-- a module's constant -/
theorem pd_glob {x : Str} {v : V} {d : D} {u : Value} {pos : Pos} (hg : Gl X x) (hm : X.mg x = some u) (r : RelV v u) (rd : ∀ F : Hp, RD X.K F v d) (hd : (x == ("__debug__" : Str)) = false := by decide) : PD X A (.Name x pos) (tC v) (wC d) := ⟨pe_glob hg hm r hd, er_c rd⟩
theorem er_raw {K : PySem.W.Frag} {v : V} : ER A K (tC v) (wRaw v) := by
  intro σ F H e post S h Q q
  exact q v (.val (.raw v)) F H e Stp.refl S rfl h
theorem pd_globR {x : Str} {v : V} {u : Value} {pos : Pos} (hg : Gl X x) (hm : X.mg x = some u) (r : RelV v u) (hd : (x == ("__debug__" : Str)) = false := by decide) : PD X A (.Name x pos) (tC v) (wRaw v) := ⟨pe_glob hg hm r hd, er_raw⟩
theorem pd_bltn {x : Str} {v : V} {u : Value} {pos : Pos} (hg : Gl X x) (hm : X.mg x = none) (hv : bootBuiltins x = some u) (r : RelV v u) (hn : x ≠ "__name__" := by decide) (hd : (x == ("__debug__" : Str)) = false := by decide) : PD X A (.Name x pos) (tC v) (wRaw v) := ⟨pe_bltn hg hm hv r hn hd, er_raw⟩
end

/-! ### operators by data -/
abbrev F1 := Av → (Rs → Prop) → Prop
abbrev F2 := Av → Av → (Rs → Prop) → Prop
abbrev FL := List Av → (Rs → Prop) → Prop
def R2D (K : PySem.W.Frag) (f : F2) : R2 := fun x y H Q => ∃ (F : Hp) (a b : Av) (post : Rs → Prop), Ex F H ∧ TopR K F H x a ∧ TopR K F H y b ∧ f a b post ∧ Okr K F H post Q
def R1D (K : PySem.W.Frag) (f : F1) : V → Hp → VK → Prop := fun x H Q => ∃ (F : Hp) (a : Av) (post : Rs → Prop), Ex F H ∧ TopR K F H x a ∧ f a post ∧ Okr K F H post Q
def TopRs (K : PySem.W.Frag) (F H : Hp) : List V → List Av → Prop := Paired (TopR K F H)
def RLD (K : PySem.W.Frag) (f : FL) : List V → Hp → VK → Prop := fun xs H Q => ∃ (F : Hp) (as : List Av) (post : Rs → Prop), Ex F H ∧ TopRs K F H xs as ∧ f as post ∧ Okr K F H post Q
def RMD (K : PySem.W.Frag) (f : Av → FL) : V → List V → Hp → VK → Prop := fun x xs H Q => ∃ (F : Hp) (a : Av) (as : List Av) (post : Rs → Prop), Ex F H ∧ TopR K F H x a ∧ TopRs K F H xs as ∧ f a as post ∧ Okr K F H post Q

def wOp (f : F2) (wa wb : WE) : WE := fun e post => wa e fun r e1 => wb e1 fun s e2 => r.keepIn e2 (f r.av s.av fun t => post t e2)
def wUn (f : F1) (wa : WE) : WE := fun e post => wa e fun r e1 => f r.av fun t => post t e1
section
variable {X : Cx} {A : Amb} {K : PySem.W.Frag} {a b c : Expr} {ta tb tc : TE} {wa wb wc : WE} {pos : Pos} {f : F2} {g : F1}
theorem er_op (ha : ER A K ta wa) (hb : ER A K tb wb) : ER A K (tOp (R2D K f) ta tb) (wOp f wa wb) := by
  intro σ F H e post S h Q q
  refine ha σ F H e _ S h _ fun v r F1 H1 e1 T1 S1 R1 h1 => ?_
  refine hb σ F1 H1 e1 _ S1 h1 _ fun u t F2 H2 e2 T2 S2 R2 h2 => ?_
  obtain ⟨hk, h3⟩ := Rs.keepIn_iff.mp h2
  have R1' := R1.step T2 hk
  refine ⟨F2, r.av, t.av, _, S2.ex, R1'.top S2, R2.top S2, h3, S2.okr fun v' r' F' H' T3 S3 R3 p3 => ?_⟩
  exact q v' r' F' H' e2 ((T1.trans T2).trans T3) S3 (R3.early (T1.trans T2)) p3
theorem er_un (ha : ER A K ta wa) : ER A K (tUn (R1D K g) ta) (wUn g wa) := by
  intro σ F H e post S h Q q
  refine ha σ F H e _ S h _ fun v r F1 H1 e1 T1 S1 R1 h1 => ?_
  refine ⟨F1, r.av, _, S1.ex, R1.top S1, h1, S1.okr fun v' r' F' H' T3 S3 R3 p3 => ?_⟩
  exact q v' r' F' H' e1 (T1.trans T3) S3 (R3.early T1) p3
theorem pd_op {op : Operator} (ho : OpR X (binaryOp op) (R2D X.K f)) (ha : PD X A a ta wa) (hb : PD X A b tb wb) : PD X A (.BinOp a op b pos) (tOp (R2D X.K f) ta tb) (wOp f wa wb) := ⟨pe_op ho ha.pe hb.pe, er_op ha.er hb.er⟩
theorem pd_un {op : UnaryOp} (ho : UnR X (unaryOp op) (R1D X.K g)) (ha : PD X A a ta wa) : PD X A (.UnaryOp op a pos) (tUn (R1D X.K g) ta) (wUn g wa) := ⟨pe_un ho ha.pe, er_un ha.er⟩
theorem pd_cmp {op : CmpOp} (ho : OpR X (compareOp op) (R2D X.K f)) (ha : PD X A a ta wa) (hb : PD X A b tb wb) (hm : behindInMarks op b = false) : PD X A (.Compare a [op] [b] pos) (tOp (R2D X.K f) ta tb) (wOp f wa wb) := ⟨pe_cmpR ho ha.pe hb.pe hm, er_op ha.er hb.er⟩
theorem pd_ix (ho : IxR X (R2D X.K f)) (ha : PD X A a ta wa) (hb : PD X A b tb wb) (hs : PlainIx b) : PD X A (.Subscript a b pos) (tOp (R2D X.K f) ta tb) (wOp f wa wb) := ⟨pe_ix ho ha.pe hb.pe hs, er_op ha.er hb.er⟩
end

/-! ### what the operators do to data -/
def vInt (i : Int) : Rs := .val (.dat (.int i))
def vBl (b : Bool) : Rs := .val (.dat (.bool b))
section
variable {X : Cx} {K : PySem.W.Frag} {F H : Hp} {v : V} {d : D} {ds : List D}
theorem Okr.int {post : Rs → Prop} {Q : VK} (o : Okr K F H post Q) {i : Int} (h : post (vInt i)) : Q (.int i) H := o.val _ (.dat (.int i)) (.int i) h
theorem Okr.bl {post : Rs → Prop} {Q : VK} (o : Okr K F H post Q) {i : Bool} (h : post (vBl i)) : Q (.bl i) H := o.val _ (.dat (.bool i)) (.bl i) h
theorem TopR.dp (e : Ex F H) : ∀ {d : D}, TopR K F H v (.dat d) → Dp K H v d
  | .none, h => (RD.ext e h).dp
  | .bool b, h => (RD.ext e h).dp
  | .int i, h => (RD.ext e h).dp
  | .str i, h => (RD.ext e h).dp
  | .tuple i, h => (RD.ext e h).dp
  | .dict i, h => (RD.ext e h).dp
  | .list ds, ⟨p, vs, e1, h, t⟩ => by subst e1; exact .lst (SqL.of h) (RDs.dp (t.ext e))
theorem TopR.vint {i : Int} (h : TopR K F H v (.dat (.int i))) : v = .int i := by cases h; rfl
theorem TopR.vbl {i : Bool} (h : TopR K F H v (.dat (.bool i))) : v = .bl i := by cases h; rfl
theorem TopR.vstr {i : Str} (h : TopR K F H v (.dat (.str i))) : v = .str i := by cases h; rfl
theorem TopR.vnon (h : TopR K F H v (.dat .none)) : v = .non := by cases h; rfl
theorem TopR.vlst (h : TopR K F H v (.dat (.list ds))) : ∃ p vs, v = .ref p ∧ H p = some (.lst vs) ∧ RDs K F vs ds := h
theorem TopR.vtup (e : Ex F H) (h : TopR K F H v (.dat (.tuple ds))) : ∃ p vs, v = .ref p ∧ TupR K F p vs ∧ SqT K H p vs ∧ RDs K F vs ds := by
  have h' : RD K F v (.tuple ds) := h
  cases h' with
  | tup h1 t => exact ⟨_, _, rfl, h1, e.sqt h1.sqt, t⟩
theorem line5 : (100000 : Nat) ≤ sizeLine := by decide

def ii (g : Int → Int → Int) : F2 := fun a b k => match a, b with
  | .dat (.int i), .dat (.int j) => k (vInt (g i j))
  | _, _ => False
def iC (C : Int → Int → Prop) (g : Int → Int → Int) : F2 := fun a b k => match a, b with
  | .dat (.int i), .dat (.int j) => C i j ∧ k (vInt (g i j))
  | _, _ => False
def iB (g : Int → Int → Bool) : F2 := fun a b k => match a, b with
  | .dat (.int i), .dat (.int j) => k (vBl (g i j))
  | _, _ => False
theorem opd_i {f : Value → Value → Sem Value} {g : Int → Int → Int} (h : OpR X f (rI0 fun i j => .int (g i j))) : OpR X f (R2D X.K (ii g)) := by
  intro pins s σ H x y v u Q I rx ry ⟨F, a, b, post, ex, ta, tb, q, ok⟩
  unfold ii at q
  split at q
  · exact h pins s σ H x y v u Q I rx ry ⟨_, _, ta.vint, tb.vint, ok.int q⟩
  · exact q.elim
theorem opd_iC {f : Value → Value → Sem Value} {C : Int → Int → Prop} {g : Int → Int → Int} (h : OpR X f (rI C fun i j => .int (g i j))) : OpR X f (R2D X.K (iC C g)) := by
  intro pins s σ H x y v u Q I rx ry ⟨F, a, b, post, ex, ta, tb, q, ok⟩
  unfold iC at q
  split at q
  · exact h pins s σ H x y v u Q I rx ry ⟨_, _, ta.vint, tb.vint, q.1, ok.int q.2⟩
  · exact q.elim
theorem opd_iB {f : Value → Value → Sem Value} {g : Int → Int → Bool} (h : OpR X f (rI0 fun i j => .bl (g i j))) : OpR X f (R2D X.K (iB g)) := by
  intro pins s σ H x y v u Q I rx ry ⟨F, a, b, post, ex, ta, tb, q, ok⟩
  unfold iB at q
  split at q
  · exact h pins s σ H x y v u Q I rx ry ⟨_, _, ta.vint, tb.vint, ok.bl q⟩
  · exact q.elim
def oAdd : F2 := fun a b k => match a, b with
  | .dat (.int i), .dat (.int j) => k (vInt (i + j))
  | .dat (.list xs), .dat (.list ys) => xs.length + ys.length ≤ 100000 ∧ k (.new (.lst (xs ++ ys)))
  | .dat (.tuple xs), .dat (.tuple ys) => xs.length + ys.length ≤ 100000 ∧ k (.val (.dat (.tuple (xs ++ ys))))
  | _, _ => False
theorem op_add' : OpR X (binaryOp .Add) (R2D X.K oAdd) := by
  intro pins s σ H x y v u Q I rx ry ⟨F, a, b, post, ex, ta, tb, q, ok⟩
  unfold oAdd at q
  split at q
  · exact op_add pins s σ H x y v u Q I rx ry ⟨_, _, ta.vint, tb.vint, ok.int q⟩
  · obtain ⟨p, vs, e1, h1, r1⟩ := ta.vlst
    obtain ⟨p', vs', e1', h1', r1'⟩ := tb.vlst
    have l1 := r1.length
    have l2 := r1'.length
    exact op_cat pins s σ H x y v u Q I rx ry ⟨p, p', vs, vs', e1, e1', h1, h1', Nat.le_trans (by omega) line5, fun p np => ok.new p _ (.lst _) np ⟨_, rfl, r1.append r1'⟩ q.2⟩
  · obtain ⟨p, vs, e1, f1, h1, r1⟩ := ta.vtup ex
    obtain ⟨p', vs', e1', f1', h1', r1'⟩ := tb.vtup ex
    have l1 := r1.length
    have l2 := r1'.length
    refine op_catF pins s σ H x y v u Q I rx ry ⟨p, p', vs, vs', e1, e1', h1, h1', Nat.le_trans (by omega) line5, fun z => ?_, fun z1 z2 => ?_, fun z1 z2 => ok.tup _ _ (r1.append r1') q.2⟩
    · subst z
      cases r1
      exact ok.val _ (.dat (.tuple _)) (.tup f1' r1') q.2
    · subst z2
      cases r1'
      rename_i q
      simp only [List.append_nil] at q
      exact ok.val _ (.dat (.tuple _)) (.tup f1 r1) q.2
  · exact q.elim
def oSub : F2 := ii fun i j => i - j
theorem op_sub' : OpR X (binaryOp .Sub) (R2D X.K oSub) := opd_i op_sub
/-- * of ints (one factor below 2^64), of a list and an int -/
def oMul : F2 := fun a b k => match a, b with
  | .dat (.int i), .dat (.int j) => CMul i j ∧ k (vInt (i * j))
  | .dat (.list xs), .dat (.int j) => -(2 ^ 63) ≤ j ∧ j < 2 ^ 63 ∧ xs.length * j.toNat ≤ 100000 ∧ k (.new (.lst (List.replicate j.toNat xs).flatten))
  | _, _ => False
theorem RDs.flat {vs : List V} {ds : List D} (h : RDs K F vs ds) : ∀ n : Nat, RDs K F (List.replicate n vs).flatten (List.replicate n ds).flatten
  | 0 => .nil
  | n + 1 => by
    rw [List.replicate_succ, List.replicate_succ, List.flatten_cons, List.flatten_cons]
    exact h.append (RDs.flat h n)
theorem op_mul' : OpR X (binaryOp .Mult) (R2D X.K oMul) := by
  intro pins s σ H x y v u Q I rx ry ⟨F, a, b, post, ex, ta, tb, q, ok⟩
  unfold oMul at q
  split at q
  · exact op_mul pins s σ H x y v u Q I rx ry ⟨_, _, ta.vint, tb.vint, q.1, ok.int q.2⟩
  · obtain ⟨p, vs, e1, h1, r1⟩ := ta.vlst
    have l1 := r1.length
    exact op_rep pins s σ H x y v u Q I rx ry ⟨p, _, vs, e1, tb.vint, h1, q.1, q.2.1, Nat.le_trans (by rw [l1]; exact q.2.2.1) line5, fun p np => ok.new p _ (.lst _) np ⟨_, rfl, r1.flat _⟩ q.2.2.2⟩
  · exact q.elim
/-- * of great ints: both together below a million bits -/
def oMulW : F2 := iC CMulW fun i j => i * j
theorem op_mulW' : OpR X (binaryOp .Mult) (R2D X.K oMulW) := opd_iC op_mulW
def oFdiv : F2 := iC CDivN fun i j => i.fdiv j
theorem op_fdiv' : OpR X (binaryOp .FloorDiv) (R2D X.K oFdiv) := opd_iC op_fdivN
def oFdivW : F2 := iC CDivW fun i j => i / j
theorem op_fdivW' : OpR X (binaryOp .FloorDiv) (R2D X.K oFdivW) := opd_iC op_fdivW
def oMod : F2 := iC (fun _ j => 0 < j) fun i j => i % j
theorem op_mod' : OpR X (binaryOp .Mod) (R2D X.K oMod) := opd_iC op_mod
def oPow : F2 := iC CPow fun i j => i ^ j.toNat
theorem op_pow' : OpR X (binaryOp .Pow) (R2D X.K oPow) := opd_iC op_pow
def oShl : F2 := iC CPow fun i j => i * 2 ^ j.toNat
theorem op_shl' : OpR X (binaryOp .LShift) (R2D X.K oShl) := opd_iC op_shl
def oShr : F2 := iC (fun _ j => 0 ≤ j) fun i j => i / 2 ^ j.toNat
theorem op_shr' : OpR X (binaryOp .RShift) (R2D X.K oShr) := opd_iC op_shr
def oAnd : F2 := ii Builtin.bitAnd
theorem op_and' : OpR X (binaryOp .BitAnd) (R2D X.K oAnd) := opd_i op_and
def oOr : F2 := ii Builtin.bitOr
theorem op_or' : OpR X (binaryOp .BitOr) (R2D X.K oOr) := opd_i op_or
def oLt : F2 := iB fun i j => decide (i < j)
theorem op_lt' : OpR X (compareOp .Lt) (R2D X.K oLt) := opd_iB op_lt
def oLe : F2 := iB fun i j => decide (i ≤ j)
theorem op_le' : OpR X (compareOp .LtE) (R2D X.K oLe) := opd_iB op_le
def oGt : F2 := iB fun i j => decide (j < i)
theorem op_gt' : OpR X (compareOp .Gt) (R2D X.K oGt) := opd_iB op_gt
def oGe : F2 := iB fun i j => decide (j ≤ i)
theorem op_ge' : OpR X (compareOp .GtE) (R2D X.K oGe) := opd_iB op_ge
/-- == and != of data -/
def oEq : F2 := fun a b k => match a, b with
  | .dat d, .dat e => SeqAt.shaped d = true ∧ SeqAt.shaped e = true ∧ k (vBl (PyData.eqv d e))
  | _, _ => False
def oNe : F2 := fun a b k => match a, b with
  | .dat d, .dat e => SeqAt.shaped d = true ∧ SeqAt.shaped e = true ∧ k (vBl (!PyData.eqv d e))
  | _, _ => False
theorem op_eq' (hu : X.A.units + 64 < cLine) : OpR X (compareOp .Eq) (R2D X.K oEq) := by
  intro pins s σ H x y v u Q I rx ry ⟨F, a, b, post, ex, ta, tb, q, ok⟩
  unfold oEq at q
  split at q
  · exact op_eqD hu pins s σ H x y v u Q I rx ry ⟨_, _, ta.dp ex, tb.dp ex, q.1, q.2.1, ok.bl q.2.2⟩
  · exact q.elim
theorem op_ne' (hu : X.A.units + 64 < cLine) : OpR X (compareOp .NotEq) (R2D X.K oNe) := by
  intro pins s σ H x y v u Q I rx ry ⟨F, a, b, post, ex, ta, tb, q, ok⟩
  unfold oNe at q
  split at q
  · exact op_neD hu pins s σ H x y v u Q I rx ry ⟨_, _, ta.dp ex, tb.dp ex, q.1, q.2.1, ok.bl q.2.2⟩
  · exact q.elim
/-- is None -/
def isNon : D → Bool
  | .none => true
  | _ => false
def oIsN : F2 := fun a b k => match a, b with
  | .dat d, .dat .none => k (vBl (isNon d))
  | _, _ => False
def oNotN : F2 := fun a b k => match a, b with
  | .dat d, .dat .none => k (vBl (!isNon d))
  | _, _ => False
theorem TopR.isN (h : TopR K F H v (.dat d)) : decide (v = .non) = isNon d := by
  cases d with
  | none => rw [h.vnon]; rfl
  | bool b => rw [h.vbl]; rfl
  | int b => rw [h.vint]; rfl
  | str b => rw [h.vstr]; rfl
  | list b => obtain ⟨p, vs, e1, _⟩ := h.vlst; rw [e1]; rfl
  | tuple b =>
    have h' : RD K F v (.tuple b) := h
    cases h'; rfl
  | dict b =>
    have h' : RD K F v (.dict b) := h
    cases h'
theorem op_isN' : OpR X (compareOp .Is) (R2D X.K oIsN) := by
  intro pins s σ H x y v u Q I rx ry ⟨F, a, b, post, ex, ta, tb, q, ok⟩
  unfold oIsN at q
  split at q
  · exact op_isN pins s σ H x y v u Q I rx ry ⟨tb.vnon, ok.bl (by rw [ta.isN]; exact q)⟩
  · exact q.elim
theorem op_notN' : OpR X (compareOp .IsNot) (R2D X.K oNotN) := by
  intro pins s σ H x y v u Q I rx ry ⟨F, a, b, post, ex, ta, tb, q, ok⟩
  unfold oNotN at q
  split at q
  · exact op_notN pins s σ H x y v u Q I rx ry ⟨tb.vnon, ok.bl (by rw [ta.isN]; exact q)⟩
  · exact q.elim
/-- in: lists, tuples, dicts -/
def keyOf? : D → Option Key
  | .int i => some (.inl i)
  | .str x => some (.inr x)
  | _ => none
def lookD (kvs : List (Key × D)) (k : Key) : Option D := (kvs.find? fun kv => decide (kv.1 = k)).map (·.2)
def oIn : F2 := fun a b k => match a, b with
  | .dat d, .dat (.list ds) => SeqAt.shaped d = true ∧ SeqAt.shaped (.list ds) = true ∧ k (vBl (ds.any fun z => PyData.eqv z d))
  | .dat d, .dat (.tuple ds) => SeqAt.shaped d = true ∧ SeqAt.shaped (.tuple ds) = true ∧ k (vBl (ds.any fun z => PyData.eqv z d))
  | .dat d, .dic kvs => ∃ y, keyOf? d = some y ∧ k (vBl (lookD kvs y).isSome)
  | _, _ => False
def oNotIn : F2 := fun a b k => match a, b with
  | .dat d, .dat (.list ds) => SeqAt.shaped d = true ∧ SeqAt.shaped (.list ds) = true ∧ k (vBl (!ds.any fun z => PyData.eqv z d))
  | .dat d, .dat (.tuple ds) => SeqAt.shaped d = true ∧ SeqAt.shaped (.tuple ds) = true ∧ k (vBl (!ds.any fun z => PyData.eqv z d))
  | .dat d, .dic kvs => ∃ y, keyOf? d = some y ∧ k (vBl (!(lookD kvs y).isSome))
  | _, _ => False
theorem keyOf_kV {y : Key} (h : TopR K F H v (.dat d)) (e : keyOf? d = some y) : v = kV y := by
  cases d with
  | int i => simp [keyOf?] at e; subst e; exact h.vint
  | str i => simp [keyOf?] at e; subst e; exact h.vstr
  | _ => simp [keyOf?] at e
theorem KvR.look : ∀ {vs : List (Key × V)} {kvs : List (Key × D)} {y : Key}, KvR K F vs kvs → (∀ d, lookD kvs y = some d → ∃ v, valV vs y = some v ∧ RD K F v d) ∧ (lookD kvs y = none → valV vs y = none)
  | _, _, y, .nil => ⟨fun d h => by simp [lookD] at h, fun _ => rfl⟩
  | (k1, v1) :: vs, (k2, d2) :: kvs, y, .cons ⟨e, r⟩ t => by
    have e' : k1 = k2 := e
    subst e'
    by_cases c : k1 = y
    · subst c
      refine ⟨fun d h => ⟨v1, ?_, ?_⟩, fun h => ?_⟩
      · simp [valV]
      · simp [lookD] at h; subst h; exact r
      · simp [lookD] at h
    · obtain ⟨h1, h2⟩ := KvR.look (y := y) t
      have a1 : lookD ((k1, d2) :: kvs) y = lookD kvs y := by simp [lookD, c]
      have a2 : valV ((k1, v1) :: vs) y = valV vs y := by simp [valV, c]
      rw [a1, a2]
      exact ⟨h1, h2⟩
theorem KvR.isSome {vs : List (Key × V)} {kvs : List (Key × D)} (h : KvR K F vs kvs) (y : Key) : (valV vs y).isSome = (lookD kvs y).isSome := by
  obtain ⟨h1, h2⟩ := h.look (y := y)
  cases e : lookD kvs y with
  | none => rw [h2 e]; rfl
  | some d => obtain ⟨w, ew, _⟩ := h1 d e; rw [ew]; rfl
theorem op_in' (hu : X.A.units + 65 < cLine) : OpR X (compareOp .In) (R2D X.K oIn) := by
  intro pins s σ H x y v u Q I rx ry ⟨F, a, b, post, ex, ta, tb, q, ok⟩
  unfold oIn at q
  split at q
  · exact op_inD hu pins s σ H x y v u Q I rx ry ⟨_, _, ta.dp ex, tb.dp ex, q.1, q.2.1, ok.bl q.2.2⟩
  · obtain ⟨sd, se, q⟩ := q
    obtain ⟨as, r1⟩ := Dp.reads I _ x v (ta.dp ex) rx
    obtain ⟨bs, r2⟩ := Dp.reads I _ y u (tb.dp ex) ry
    exact SeqAt.in_tuple_reads r2 r1 (SeqAt.canLay_of_shaped se) (SeqAt.canLay_of_shaped sd) (PyProof.Rows.room_in_shaped sd hu) ⟨.bl _, H, I, rfl, ok.bl q⟩
  · obtain ⟨y', ky, q⟩ := q
    obtain ⟨p, vs, e1, h1, r1⟩ := tb
    subst e1
    cases ry
    have e2 := keyOf_kV ta ky
    subst e2
    exact d_in (by omega) I (DGet.k h1) rx fun s3 I3 => ⟨.bl _, H, I3, rfl, ok.bl (by rw [r1.isSome]; exact q)⟩
  · exact q.elim
theorem op_notIn' (hu : X.A.units + 65 < cLine) : OpR X (compareOp .NotIn) (R2D X.K oNotIn) := by
  intro pins s σ H x y v u Q I rx ry ⟨F, a, b, post, ex, ta, tb, q, ok⟩
  unfold oNotIn at q
  split at q
  · exact op_notInD hu pins s σ H x y v u Q I rx ry ⟨_, _, ta.dp ex, tb.dp ex, q.1, q.2.1, ok.bl q.2.2⟩
  · obtain ⟨sd, se, q⟩ := q
    obtain ⟨as, r1⟩ := Dp.reads I _ x v (ta.dp ex) rx
    obtain ⟨bs, r2⟩ := Dp.reads I _ y u (tb.dp ex) ry
    exact SeqAt.notIn_tuple_reads r2 r1 (SeqAt.canLay_of_shaped se) (SeqAt.canLay_of_shaped sd) (PyProof.Rows.room_in_shaped sd hu) ⟨.bl _, H, I, rfl, ok.bl q⟩
  · obtain ⟨y', ky, q⟩ := q
    obtain ⟨p, vs, e1, h1, r1⟩ := tb
    subst e1
    cases ry
    have e2 := keyOf_kV ta ky
    subst e2
    exact d_notIn (by omega) I (DGet.k h1) rx fun s3 I3 => ⟨.bl _, H, I3, rfl, ok.bl (by rw [r1.isSome]; exact q)⟩
  · exact q.elim
/-- an index, of any sign -/
def oIx : F2 := fun a b k => match a, b with
  | .dat (.list ds), .dat (.int i) => ∃ d, atI ds i = some d ∧ k (.val (.dat d))
  | .dat (.tuple ds), .dat (.int i) => ∃ d, atI ds i = some d ∧ k (.val (.dat d))
  | .dic kvs, .dat d => ∃ y e, keyOf? d = some y ∧ lookD kvs y = some e ∧ k (.val (.dat e))
  | _, _ => False
theorem RDs.atI {vs : List V} {ds : List D} (h : RDs K F vs ds) {i : Int} {d : D} (e : L2.atI ds i = some d) : ∃ v, L2.atI vs i = some v ∧ RD K F v d := by
  unfold L2.atI at e ⊢
  rw [h.length]
  obtain ⟨j, hj, e⟩ := Option.bind_eq_some_iff.mp e
  obtain ⟨v, hv, r⟩ := h.get e
  exact ⟨v, by rw [hj]; exact hv, r⟩
theorem ix' (hu : X.A.units + 1 < cLine) : IxR X (R2D X.K oIx) := by
  intro value slice pins s σ H x y v u Q I rx ry ⟨F, a, b, post, ex, ta, tb, q, ok⟩ hs
  unfold oIx at q
  split at q
  · obtain ⟨d, hd, q⟩ := q
    obtain ⟨p, vs, e1, h1, r1⟩ := ta.vlst
    obtain ⟨w, hw, rw'⟩ := r1.atI hd
    exact ix_list value slice pins s σ H x y v u Q I rx ry ⟨p, vs, _, w, e1, tb.vint, SqL.of h1, hw, ok.val w (.dat d) rw' q⟩ hs
  · obtain ⟨d, hd, q⟩ := q
    obtain ⟨p, vs, e1, f1, h1, r1⟩ := ta.vtup ex
    obtain ⟨w, hw, rw'⟩ := r1.atI hd
    exact ix_tup value slice pins s σ H x y v u Q I rx ry ⟨p, vs, _, w, e1, tb.vint, h1, hw, ok.val w (.dat d) rw' q⟩ hs
  · obtain ⟨y', d, ky, hd, q⟩ := q
    obtain ⟨p, vs, e1, h1, r1⟩ := ta
    subst e1
    cases rx
    have e2 := keyOf_kV tb ky
    subst e2
    obtain ⟨w, hw, rw'⟩ := r1.look.1 d hd
    have g : DGet H p (kV y') (some w) := by rw [← hw]; exact DGet.k h1
    exact PyProof.Rows.tail_any (dict_typeIs I g) PySem.F.slot_dict_getitem.lookup (d_getItem hu I g ry fun w' s3 I3 rw2 => ⟨w, H, I3, rw2, ok.val w (.dat d) rw' q⟩) hs
  · exact q.elim
def oNeg : F1 := fun a k => match a with
  | .dat (.int i) => k (vInt (-i))
  | _ => False
theorem un_neg' : UnR X (unaryOp .USub) (R1D X.K oNeg) := by
  intro pins s σ H x v Q I rx ⟨F, a, post, ex, ta, q, ok⟩
  unfold oNeg at q
  split at q
  · exact un_neg pins s σ H x v Q I rx ⟨_, ta.vint, ok.int q⟩
  · exact q.elim
end
end PL

namespace PL
open PySem L2

/-! ### tests -/
abbrev WT := En → (Bool → En → Prop) → Prop
def ETR (A : Amb) (K : PySem.W.Frag) (tt : TT) (w : WT) : Prop :=
  ∀ (σ : St) (F H : Hp) (e : En) (post : Bool → En → Prop), Sta A K σ F H e → w e post → ∀ Q : Bool → Hp → Prop,
    (∀ b F' H' e', Stp A σ F H e F' H' e' → Sta A K σ F' H' e' → post b e' → Q b H') → tt σ H Q
structure PDT (X : Cx) (A : Amb) (ex : Expr) (tt : TT) (w : WT) : Prop where
  pt : PT X ex tt
  er : ETR A X.K tt w
structure PDW (X : Cx) (A : Amb) (ex : Expr) (tt : TT) (w : WT) : Prop where
  pw : PW X ex tt
  er : ETR A X.K tt w
theorem PDW.pdt {X : Cx} {A : Amb} {ex : Expr} {tt : TT} {w : WT} (h : PDW X A ex tt w) : PDT X A ex tt w := ⟨h.pw.pt, h.er⟩
def wTest (we : WE) : WT := fun e post => we e fun r e1 => match r.av with
  | .dat (.bool b) => post b e1
  | _ => False
def wAnd (wa wb : WT) : WT := fun e post => wa e fun b e1 => if b = true then wb e1 post else post false e1
def wOr (wa wb : WT) : WT := fun e post => wa e fun b e1 => if b = true then post true e1 else wb e1 post
def wNot (wa : WT) : WT := fun e post => wa e fun b e1 => post (!b) e1
section
variable {X : Cx} {A : Amb} {K : PySem.W.Frag} {a b c : Expr} {rest : List Expr} {ta tb tc : TE} {wa wb wc : WE} {sa sb : TT} {va vb : WT} {pos : Pos} {f f' : F2}
theorem RsR.vbool {σ : St} {F H0 H : Hp} {e : En} {v : V} {r : Rs} {k : Bool} (h : RsR K A σ H0 F H e v r) (S : Sta A K σ F H e) (q : r.av = .dat (.bool k)) : v = .bl k := by
  have t := h.top S
  rw [q] at t
  exact t.vbl
theorem er_test (h : ER A K ta wa) : ETR A K (tTest ta) (wTest wa) := by
  intro σ F H e post S q Q k
  refine h σ F H e _ S q _ fun v r F1 H1 e1 T1 S1 R1 h1 => ?_
  revert h1
  cases ha : r.av with
  | dat d =>
    cases d with
    | bool b => exact fun h1 => ⟨b, R1.vbool S1 ha, k b F1 H1 e1 T1 S1 h1⟩
    | _ => exact fun h1 => h1.elim
  | _ => exact fun h1 => h1.elim
theorem er_B (h : ER A K ta wa) : ETR A K (tB ta) (wTest wa) := er_test h
theorem pdt_val (h : PD X A a ta wa) (he : ∀ whole, isTrue a X.env whole = (do let v ← whole; standAt a.pos; holding [v] (truthy v)) := by intro _; rfl) : PDT X A a (tB ta) (wTest wa) := ⟨pt_val h.pe he, er_B h.er⟩
theorem pdt_cmp {op : CmpOp} (ho : OpR X (compareOp op) (R2D X.K f)) (ha : PD X A a ta wa) (hb : PD X A b tb wb) (hm : behindInMarks op b = false) : PDT X A (.Compare a [op] [b] pos) (tTest (tOp (R2D X.K f) ta tb)) (wTest (wOp f wa wb)) := ⟨pt_cmpR ho ha.pe hb.pe hm, er_test (er_op ha.er hb.er)⟩
theorem er_not (h : ETR A K sa va) : ETR A K (tNot sa) (wNot va) := by
  intro σ F H e post S q Q k
  exact h σ F H e _ S q _ fun b F1 H1 e1 T1 S1 h1 => k _ F1 H1 e1 T1 S1 h1
theorem pdt_not (h : PDT X A a sa va) : PDT X A (.UnaryOp .Not a pos) (tNot sa) (wNot va) := ⟨pt_not h.pt, er_not h.er⟩
theorem er_and (ha : ETR A K sa va) (hb : ETR A K sb vb) : ETR A K (tAnd sa sb) (wAnd va vb) := by
  intro σ F H e post S q Q k
  refine ha σ F H e _ S q _ fun b F1 H1 e1 T1 S1 h1 => ?_
  cases b with
  | true => exact hb σ F1 H1 e1 _ S1 h1 _ fun b F2 H2 e2 T2 S2 h2 => k b F2 H2 e2 (T1.trans T2) S2 h2
  | false => exact k false F1 H1 e1 T1 S1 h1
theorem er_or (ha : ETR A K sa va) (hb : ETR A K sb vb) : ETR A K (tOr sa sb) (wOr va vb) := by
  intro σ F H e post S q Q k
  refine ha σ F H e _ S q _ fun b F1 H1 e1 T1 S1 h1 => ?_
  cases b with
  | false => exact hb σ F1 H1 e1 _ S1 h1 _ fun b F2 H2 e2 T2 S2 h2 => k b F2 H2 e2 (T1.trans T2) S2 h2
  | true => exact k true F1 H1 e1 T1 S1 h1
theorem pdw_and1 (h : PDT X A a sa va) : PDW X A (.BoolOp .And [a] pos) sa va := ⟨pw_and1 h.pt, h.er⟩
theorem pdw_or1 (h : PDT X A a sa va) : PDW X A (.BoolOp .Or [a] pos) sa va := ⟨pw_or1 h.pt, h.er⟩
theorem pdw_and (ha : PDT X A a sa va) (hb : PDW X A (.BoolOp .And (b :: rest) pos) sb vb) : PDW X A (.BoolOp .And (a :: b :: rest) pos) (tAnd sa sb) (wAnd va vb) := ⟨pw_and ha.pt hb.pw, er_and ha.er hb.er⟩
theorem pdw_or (ha : PDT X A a sa va) (hb : PDW X A (.BoolOp .Or (b :: rest) pos) sb vb) : PDW X A (.BoolOp .Or (a :: b :: rest) pos) (tOr sa sb) (wOr va vb) := ⟨pw_or ha.pt hb.pw, er_or ha.er hb.er⟩
/-! as values -/
def wAndV (wa wb : WE) : WE := fun e post => wa e fun r e1 => match r.av with
  | .dat (.bool b) => if b = true then wb e1 post else post (vBl false) e1
  | _ => False
def wOrV (wa wb : WE) : WE := fun e post => wa e fun r e1 => match r.av with
  | .dat (.bool b) => if b = true then post (vBl true) e1 else wb e1 post
  | _ => False
def wNotV (wa : WE) : WE := fun e post => wa e fun r e1 => match r.av with
  | .dat (.bool b) => post (vBl (!b)) e1
  | _ => False
theorem pd_one {op} (h : PD X A a ta wa) : PD X A (.BoolOp op [a] pos) ta wa := ⟨pe_one h.pe, h.er⟩
theorem er_andV (ha : ER A K ta wa) (hb : ER A K tb wb) : ER A K (tAndV ta tb) (wAndV wa wb) := by
  intro σ F H e post S q Q k
  refine ha σ F H e _ S q _ fun v r F1 H1 e1 T1 S1 R1 h1 => ?_
  revert h1
  cases hr : r.av with
  | dat d =>
    cases d with
    | bool b =>
      intro h1
      refine ⟨b, R1.vbool S1 hr, ?_⟩
      cases b with
      | true => exact hb σ F1 H1 e1 _ S1 h1 _ fun v r F2 H2 e2 T2 S2 R2 h2 => k v r F2 H2 e2 (T1.trans T2) S2 (R2.early T1) h2
      | false => exact k _ (vBl false) F1 H1 e1 T1 S1 (.bl false) h1
    | _ => exact fun h1 => h1.elim
  | _ => exact fun h1 => h1.elim
theorem er_orV (ha : ER A K ta wa) (hb : ER A K tb wb) : ER A K (tOrV ta tb) (wOrV wa wb) := by
  intro σ F H e post S q Q k
  refine ha σ F H e _ S q _ fun v r F1 H1 e1 T1 S1 R1 h1 => ?_
  revert h1
  cases hr : r.av with
  | dat d =>
    cases d with
    | bool b =>
      intro h1
      refine ⟨b, R1.vbool S1 hr, ?_⟩
      cases b with
      | false => exact hb σ F1 H1 e1 _ S1 h1 _ fun v r F2 H2 e2 T2 S2 R2 h2 => k v r F2 H2 e2 (T1.trans T2) S2 (R2.early T1) h2
      | true => exact k _ (vBl true) F1 H1 e1 T1 S1 (.bl true) h1
    | _ => exact fun h1 => h1.elim
  | _ => exact fun h1 => h1.elim
theorem er_notV (ha : ER A K ta wa) : ER A K (tNotV ta) (wNotV wa) := by
  intro σ F H e post S q Q k
  refine ha σ F H e _ S q _ fun v r F1 H1 e1 T1 S1 R1 h1 => ?_
  revert h1
  cases hr : r.av with
  | dat d =>
    cases d with
    | bool b => exact fun h1 => ⟨b, R1.vbool S1 hr, k _ (vBl (!b)) F1 H1 e1 T1 S1 (.bl _) h1⟩
    | _ => exact fun h1 => h1.elim
  | _ => exact fun h1 => h1.elim
theorem pd_and (ha : PD X A a ta wa) (hb : PD X A (.BoolOp .And (b :: rest) pos) tb wb) : PD X A (.BoolOp .And (a :: b :: rest) pos) (tAndV ta tb) (wAndV wa wb) := ⟨pe_and ha.pe hb.pe, er_andV ha.er hb.er⟩
theorem pd_or (ha : PD X A a ta wa) (hb : PD X A (.BoolOp .Or (b :: rest) pos) tb wb) : PD X A (.BoolOp .Or (a :: b :: rest) pos) (tOrV ta tb) (wOrV wa wb) := ⟨pe_or ha.pe hb.pe, er_orV ha.er hb.er⟩
theorem pd_not (ha : PD X A a ta wa) : PD X A (.UnaryOp .Not a pos) (tNotV ta) (wNotV wa) := ⟨pe_not ha.pe, er_notV ha.er⟩
/-! a if t else b -/
def wIf (t : WT) (wa wb : WE) : WE := fun e post => t e fun b e1 => if b = true then wa e1 post else wb e1 post
theorem er_if (ht : ETR A K sa va) (ha : ER A K ta wa) (hb : ER A K tb wb) : ER A K (tIf sa ta tb) (wIf va wa wb) := by
  intro σ F H e post S q Q k
  refine ht σ F H e _ S q _ fun b F1 H1 e1 T1 S1 h1 => ?_
  cases b with
  | true => exact ha σ F1 H1 e1 _ S1 h1 _ fun v r F2 H2 e2 T2 S2 R2 h2 => k v r F2 H2 e2 (T1.trans T2) S2 (R2.early T1) h2
  | false => exact hb σ F1 H1 e1 _ S1 h1 _ fun v r F2 H2 e2 T2 S2 R2 h2 => k v r F2 H2 e2 (T1.trans T2) S2 (R2.early T1) h2
theorem pd_ifExp (hc : PDT X A c sa va) (ha : PD X A a ta wa) (hb : PD X A b tb wb) : PD X A (.IfExp c a b pos) (tIf sa ta tb) (wIf va wa wb) := ⟨pe_ifExp hc.pt ha.pe hb.pe, er_if hc.er ha.er hb.er⟩
/-! a < b < c -/
def wChain (f f' : F2) (wa wb wc : WE) : WE := fun e post => wa e fun r e1 => wb e1 fun s e2 => r.keepIn e2 (f r.av s.av fun t => match t with
  | .val (.dat (.bool k)) => if k = true then wc e2 fun u e3 => s.keepIn e3 (f' s.av u.av fun t => post t e3) else post (vBl false) e2
  | _ => False)
theorem er_chain (ha : ER A K ta wa) (hb : ER A K tb wb) (hc : ER A K tc wc) : ER A K (tChain (R2D K f) (R2D K f') ta tb tc) (wChain f f' wa wb wc) := by
  intro σ F H e post S q Q k
  refine ha σ F H e _ S q _ fun x r F1 H1 e1 T1 S1 R1 h1 => ?_
  refine hb σ F1 H1 e1 _ S1 h1 _ fun y s F2 H2 e2 T2 S2 R2 h2 => ?_
  obtain ⟨hk, h3⟩ := Rs.keepIn_iff.mp h2
  have R1' := R1.step T2 hk
  refine ⟨F2, r.av, s.av, _, S2.ex, R1'.top S2, R2.top S2, h3, S2.okr fun v' r' F3 H3 T3 S3 R3 p3 => ?_⟩
  match r', R3, p3 with
  | .val (.dat (.bool b)), R3, p3 =>
    refine ⟨b, R3.vbool S3 rfl, ?_⟩
    cases b with
    | false => exact k _ (vBl false) F3 H3 e2 ((T1.trans T2).trans T3) S3 (.bl false) p3
    | true =>
      have R2' := R2.step T3 (by cases s with
        | loan i o => exact R2.1
        | _ => trivial)
      refine hc σ F3 H3 e2 _ S3 p3 _ fun z u F4 H4 e4 T4 S4 R4 h4 => ?_
      obtain ⟨hk4, h4⟩ := Rs.keepIn_iff.mp h4
      have R2'' := R2'.step T4 hk4
      refine ⟨F4, s.av, u.av, _, S4.ex, R2''.top S4, R4.top S4, h4, S4.okr fun v' r' F' H' T5 S5 R5 p5 => ?_⟩
      exact k v' r' F' H' e4 ((((T1.trans T2).trans T3).trans T4).trans T5) S5 (R5.early (((T1.trans T2).trans T3).trans T4)) p5
theorem pd_chain {op op' : CmpOp} (ho : OpR X (compareOp op) (R2D X.K f)) (ho' : OpR X (compareOp op') (R2D X.K f')) (ha : PD X A a ta wa) (hb : PD X A b tb wb) (hc : PD X A c tc wc)
    (hm : lastMarks [op, op'] [b, c] = false := by with_unfolding_all rfl) : PD X A (.Compare a [op, op'] [b, c] pos) (tChain (R2D X.K f) (R2D X.K f') ta tb tc) (wChain f f' wa wb wc) := ⟨pe_chain ho ho' ha.pe hb.pe hc.pe hm, er_chain ha.er hb.er hc.er⟩
theorem pdt_chain {op op' : CmpOp} (ho : OpR X (compareOp op) (R2D X.K f)) (ho' : OpR X (compareOp op') (R2D X.K f')) (ha : PD X A a ta wa) (hb : PD X A b tb wb) (hc : PD X A c tc wc)
    (hm : lastMarks [op, op'] [b, c] = false := by with_unfolding_all rfl) : PDT X A (.Compare a [op, op'] [b, c] pos) (tTest (tChain (R2D X.K f) (R2D X.K f') ta tb tc)) (wTest (wChain f f' wa wb wc)) := ⟨pt_chain ho ho' ha.pe hb.pe hc.pe hm, er_test (er_chain ha.er hb.er hc.er)⟩
end

/-! ### argument lists -/
abbrev WA := En → (List Rs → En → Prop) → Prop
def RsRs (K : PySem.W.Frag) (A : Amb) (σ : St) (H0 F H : Hp) (e : En) : List V → List Rs → Prop := Paired (RsR K A σ H0 F H e)
def AER (A : Amb) (K : PySem.W.Frag) (ta : TA) (w : WA) : Prop :=
  ∀ (σ : St) (F H : Hp) (e : En) (post : List Rs → En → Prop), Sta A K σ F H e → w e post → ∀ Q : List V → Hp → Prop,
    (∀ vs rs F' H' e', Stp A σ F H e F' H' e' → Sta A K σ F' H' e' → RsRs K A σ H F' H' e' vs rs → post rs e' → Q vs H') → ta σ H Q
structure PAD (X : Cx) (A : Amb) (es : List Expr) (ta : TA) (w : WA) : Prop where
  pa : PA X es ta
  er : AER A X.K ta w
def wNil : WA := fun e post => post [] e
def wCons (we : WE) (wa : WA) : WA := fun e post => we e fun r e1 => wa e1 fun rs e2 => r.keepIn e2 (post (r :: rs) e2)
section
variable {X : Cx} {A : Amb} {K : PySem.W.Frag} {a : Expr} {es : List Expr} {te : TE} {ta : TA} {we : WE} {wa : WA} {pos : Pos} {σ : St} {F F0 F' H H0 H' : Hp} {e e0 e' : En}
theorem aer_nil : AER A K tNil wNil := fun σ F H e post S h Q q => q [] [] F H e Stp.refl S .nil h
theorem aer_cons (h1 : ER A K te we) (h2 : AER A K ta wa) : AER A K (tCons te ta) (wCons we wa) := by
  intro σ F H e post S h Q q
  refine h1 σ F H e _ S h _ fun v r F1 H1 e1 T1 S1 R1 k1 => ?_
  refine h2 σ F1 H1 e1 _ S1 k1 _ fun vs rs F2 H2 e2 T2 S2 R2 k2 => ?_
  obtain ⟨hk, k3⟩ := Rs.keepIn_iff.mp k2
  exact q (v :: vs) (r :: rs) F2 H2 e2 (T1.trans T2) S2 (.cons (R1.step T2 hk) (Paired.mapP R2 fun _ _ z => z.early T1)) k3
theorem pad_nil : PAD X A [] tNil wNil := ⟨pa_nil, aer_nil⟩
theorem pad_cons (h1 : PD X A a te we) (h2 : PAD X A es ta wa) (hs : starEach (a :: es) X.env = (false, eval a X.env) :: starEach es X.env := by rfl) : PAD X A (a :: es) (tCons te ta) (wCons we wa) := ⟨pa_cons h1.pe h2.pa hs, aer_cons h1.er h2.er⟩
theorem RsRs.top {vs : List V} {rs : List Rs} (h : RsRs K A σ H0 F H e vs rs) (S : Sta A K σ F H e) : TopRs K F H vs (rs.map Rs.av) := by
  induction rs generalizing vs with
  | nil => cases h; exact .nil
  | cons r rs ih => cases h with | cons h t => exact .cons (h.top S) (ih t)

/-! ### freezing -/
def En.set (e : En) (i : Nat) (s : Sl) : En := ⟨e.sl.set i s, e.n⟩
def frz1 (e : En) : Rs → En
  | .loan i o => (match e.sl[i]? with
    | some (.ow _) => e.set i (.im o.av)
    | _ => e)
  | _ => e
def frz (e : En) : List Rs → En
  | [] => e
  | r :: rs => frz (frz1 e r) rs
/-- a result, or what it has become -/
def Rs.settled (e : En) : Rs → Prop
  | .loan i _ => ∀ o', e.sl[i]? ≠ some (.ow o')
  | _ => True
def RsX (K : PySem.W.Frag) (A : Amb) (σ : St) (H0 F H : Hp) (e : En) (v : V) (r : Rs) : Prop := (RelA K F v r.av ∧ r.settled e) ∨ RsR K A σ H0 F H e v r
theorem OwR.av {ho : HO} {o : Ow} {p : Addr} (h : OwR K F ho o) (e : F p = some ho) : RelA K F (.ref p) o.av := by
  cases o with
  | lst ds => obtain ⟨vs, e1, r⟩ := h; subst e1; exact .lst e r
  | dic kvs => obtain ⟨vs, e1, r⟩ := h; subst e1; exact ⟨p, vs, rfl, e, r⟩
theorem freeze1 {v : V} {r : Rs} (B : Stp A σ F0 H0 e0 F H e) (S : Sta A K σ F H e) (h : RsX K A σ H0 F H e v r) :
    ∃ F', Stp A σ F0 H0 e0 F' H (frz1 e r) ∧ Sta A K σ F' H (frz1 e r) ∧ Ex F F' ∧ RelA K F' v r.av ∧ ∀ u s, RsX K A σ H0 F H e u s → RsX K A σ H0 F' H (frz1 e r) u s := by
  have frzLoan : ∀ (i : Nat) (o : Ow), e.sl[i]? = some (Sl.ow o) → ∃ p ho, σ[i]? = some (some (V.ref p)) ∧ F p = none ∧ H p = some ho ∧ OwR K F ho o := fun i o hi => S.at_ i _ hi
  match r, h with
  | .val a, h =>
    refine ⟨F, B, S, Ex.refl _, ?_, fun u s z => z⟩
    rcases h with h | h
    · exact h.1
    · exact h
  | .new o, .inl h => exact ⟨F, B, S, Ex.refl _, h.1, fun u s z => z⟩
  | .new o, .inr ⟨p, ho, ev, h0, f, g, q, nr, no⟩ =>
    subst ev
    have ex : Ex F (upd F p ho) := upd_old f
    have B' : Stp A σ F0 H0 e0 (upd F p ho) H e := ⟨B.ex.trans ex, fun a o' x y z => by
      obtain ⟨b1, b2⟩ := B.keep a o' x y z
      exact ⟨b1, by rw [upd_ne (ne_of_none x h0)]; exact b2⟩, B.own, B.liv⟩
    have S' : Sta A K σ (upd F p ho) H e := ⟨S.len, fun a o' z => by
      by_cases c : a = p
      · subst c; rw [upd_same] at z; cases z; exact g
      · rw [upd_ne c] at z; exact S.ex a o' z, fun i s hs => (S.at_ i s hs).ext ex fun q' e' ⟨o', hw⟩ f' g' => ⟨by
        rw [upd_ne]
        · exact f'
        · intro z; subst z; exact no i ⟨⟨o', by rw [hs, hw]⟩, e'⟩, rfl⟩, S.sep, S.ri, fun a ha => by rw [upd_ne fun z => by subst z; exact nr ha]; exact S.rsF a ha, S.rsO⟩
    have rel : RelA K (upd F p ho) (.ref p) o.av := (q.ext ex).av upd_same
    refine ⟨_, B', S', ex, rel, fun u s z => ?_⟩
    rcases z with z | z
    · exact .inl ⟨z.1.ext ex, z.2⟩
    · match s, z with
      | .val a, z => exact .inl ⟨RelA.ext ex z, trivial⟩
      | .new o', ⟨p', ho', ev', h0', f', g', q', nr', no'⟩ =>
        by_cases c : p' = p
        · subst c
          rw [g] at g'; cases g'
          subst ev'
          exact .inl ⟨(q'.ext ex).av upd_same, trivial⟩
        · exact .inr ⟨p', ho', ev', h0', by rw [upd_ne c]; exact f', g', q'.ext ex, nr', no'⟩
      | .loan j o', z => exact .inr z
  | .loan i o, .inl ⟨h, hs⟩ =>
    have e1 : frz1 e (.loan i o) = e := by
      show (match e.sl[i]? with | some (.ow _) => e.set i (.im o.av) | _ => e) = e
      split
      · rename_i o' ho'; exact absurd ho' (hs o')
      · rfl
    rw [e1]
    exact ⟨F, B, S, Ex.refl _, h, fun u s z => z⟩
  | .loan i o, .inr ⟨h1, h2⟩ =>
    have e1 : frz1 e (.loan i o) = e.set i (.im o.av) := by
      show (match e.sl[i]? with | some (.ow _) => e.set i (.im o.av) | _ => e) = _
      rw [h1]
    rw [e1]
    obtain ⟨p, ho, e1, f, g, q⟩ := frzLoan i o h1
    rw [h2] at e1
    have ev : v = .ref p := by simpa using e1
    subst ev
    have own : Owns e σ i p := ⟨⟨o, h1⟩, h2⟩
    have own0 := B.own i p own
    have nr := S.rsO i p own
    have ex : Ex F (upd F p ho) := upd_old f
    have li : i < e.sl.length := (List.getElem?_eq_some_iff.mp h1).1
    have gs : ∀ (j : Nat) (s : Sl), (e.set i (.im o.av)).sl[j]? = some s → (j = i ∧ s = .im o.av) ∨ (j ≠ i ∧ e.sl[j]? = some s) := fun j s z => by
      have z' : (e.sl.set i (.im o.av))[j]? = some s := z
      by_cases c : j = i
      · subst c
        rw [List.getElem?_set_self li] at z'
        exact .inl ⟨rfl, (Option.some.inj z').symm⟩
      · rw [List.getElem?_set_ne (Ne.symm c)] at z'
        exact .inr ⟨c, z'⟩
    have gn : ∀ (j : Nat), j ≠ i → (e.set i (.im o.av)).sl[j]? = e.sl[j]? := fun j c => by
      show (e.sl.set i _)[j]? = _
      rw [List.getElem?_set_ne (Ne.symm c)]
    have owns' : ∀ j q', Owns (e.set i (.im o.av)) σ j q' → Owns e σ j q' ∧ j ≠ i := fun j q' ⟨⟨o', z⟩, z2⟩ => by
      rcases gs j _ z with ⟨_, z3⟩ | ⟨c, z3⟩
      · cases z3
      · exact ⟨⟨⟨o', z3⟩, z2⟩, c⟩
    have rel : RelA K (upd F p ho) (.ref p) o.av := (q.ext ex).av upd_same
    refine ⟨upd F p ho, ⟨B.ex.trans ex, fun a o' x y z => ?_, fun j q' z => B.own j q' (owns' j q' z).1, B.liv⟩, ⟨?_, fun a o' z => ?_, fun j s z => ?_, fun j k q' z1 z2 => S.sep j k q' (owns' j q' z1).1 (owns' k q' z2).1, S.ri, fun a ha => by rw [upd_ne fun z => by subst z; exact nr ha]; exact S.rsF a ha, fun j q' z => S.rsO j q' (owns' j q' z).1⟩, ex, rel, fun u s z => ?_⟩
    · obtain ⟨b1, b2⟩ := B.keep a o' x y z
      refine ⟨b1, ?_⟩
      rw [upd_ne fun c => z i (by subst c; exact own0)]
      exact b2
    · show (e.sl.set i _).length = _
      rw [List.length_set]; exact S.len
    · by_cases c : a = p
      · subst c; rw [upd_same] at z; cases z; exact g
      · rw [upd_ne c] at z; exact S.ex a o' z
    · rcases gs j s z with ⟨c, z3⟩ | ⟨c, z3⟩
      · subst c z3; exact ⟨.ref p, h2, rel⟩
      · refine (S.at_ j s z3).ext ex fun q' e' ⟨o', hw⟩ f' g' => ⟨?_, rfl⟩
        rw [upd_ne]
        · exact f'
        · intro z4; subst z4; exact c (S.sep j i q' ⟨⟨o', by rw [z3, hw]⟩, e'⟩ own)
    · rcases z with ⟨z, zs⟩ | z
      · refine .inl ⟨z.ext ex, ?_⟩
        match s, zs with
        | .val a, _ => trivial
        | .new a, _ => trivial
        | .loan j o', zs =>
          intro o2 z2
          rcases gs j _ z2 with ⟨_, z3⟩ | ⟨_, z3⟩
          · cases z3
          · exact zs o2 z3
      · match s, z with
        | .val a, z => exact .inl ⟨RelA.ext ex z, trivial⟩
        | .new o', ⟨p', ho', ev', h0', f', g', q', nr', no'⟩ =>
          have c : p' ≠ p := fun z => by subst z; exact no' i own
          exact .inr ⟨p', ho', ev', h0', by rw [upd_ne c]; exact f', g', q'.ext ex, nr', fun j z => no' j (owns' j p' z).1⟩
        | .loan j o', ⟨z1, z2⟩ =>
          by_cases c : j = i
          · subst c
            rw [h1] at z1; cases z1
            rw [h2] at z2
            have eu : u = .ref p := by simpa using z2.symm
            subst eu
            refine .inl ⟨rel, fun o2 z3 => ?_⟩
            rcases gs j _ z3 with ⟨_, z4⟩ | ⟨z4, _⟩
            · cases z4
            · exact z4 rfl
          · exact .inr ⟨by rw [gn j c]; exact z1, z2⟩
theorem freeze : ∀ {rs : List Rs} {vs : List V} {F : Hp} {e : En}, Stp A σ F0 H0 e0 F H e → Sta A K σ F H e → Paired (RsX K A σ H0 F H e) vs rs →
    ∃ F', Stp A σ F0 H0 e0 F' H (frz e rs) ∧ Sta A K σ F' H (frz e rs) ∧ Ex F F' ∧ Paired (RelA K F') vs (rs.map Rs.av)
  | [], _, F, e, B, S, .nil => ⟨F, B, S, Ex.refl _, .nil⟩
  | r :: rs, _, F, e, B, S, .cons h t => by
    obtain ⟨F1, B1, S1, x1, r1, m1⟩ := freeze1 B S h
    obtain ⟨F2, B2, S2, x2, r2⟩ := freeze B1 S1 (Paired.mapP t fun u s z => m1 u s z)
    exact ⟨F2, B2, S2, x1.trans x2, .cons (r1.ext x2) r2⟩
theorem freezeR {rs : List Rs} {vs : List V} (B : Stp A σ F0 H0 e0 F H e) (S : Sta A K σ F H e) (h : RsRs K A σ H0 F H e vs rs) :
    ∃ F', Stp A σ F0 H0 e0 F' H (frz e rs) ∧ Sta A K σ F' H (frz e rs) ∧ Ex F F' ∧ Paired (RelA K F') vs (rs.map Rs.av) := freeze B S (Paired.mapP h fun _ _ z => .inr z)
end
end PL

namespace PL
open PySem L2

/-! ### displays -/
def dats : List Av → Option (List D)
  | [] => some []
  | .dat d :: r => (dats r).map (d :: ·)
  | _ => none
def wTup (wa : WA) : WE := fun e post => wa e fun rs e1 => ∃ ds, dats (rs.map Rs.av) = some ds ∧ ds.length ≤ 100000 ∧ post (.val (.dat (.tuple ds))) (frz e1 rs)
def wLst (wa : WA) : WE := fun e post => wa e fun rs e1 => ∃ ds, dats (rs.map Rs.av) = some ds ∧ ds.length ≤ 100000 ∧ post (.new (.lst ds)) (frz e1 rs)
section
variable {X : Cx} {A : Amb} {K : PySem.W.Frag} {a : Expr} {es : List Expr} {te : TE} {ta : TA} {we : WE} {wa : WA} {pos : Pos} {σ : St} {F F0 F' H H0 H' : Hp} {e e0 e' : En}
theorem dats_rds : ∀ {as : List Av} {vs : List V} {ds : List D}, Paired (RelA K F) vs as → dats as = some ds → RDs K F vs ds
  | [], _, _, .nil, h => by cases h; exact .nil
  | .dat d :: r, _, ds, .cons h t, e => by
    unfold dats at e
    cases z : dats r with
    | none => rw [z] at e; cases e
    | some es =>
      rw [z] at e
      cases e
      exact .cons h (dats_rds t z)
theorem er_tup (h : AER A K ta wa) : ER A K (tTupF ta) (wTup wa) := by
  intro σ F H e post S q Q k
  refine h σ F H e _ S q _ fun vs rs F1 H1 e1 T1 S1 R1 ⟨ds, hd, hl, hp⟩ => ?_
  obtain ⟨F2, B2, S2, x2, r2⟩ := freezeR T1 S1 R1
  have rd := dats_rds r2 hd
  refine ⟨Nat.le_trans (by rw [rd.length]; exact hl) line5, ?_⟩
  exact (S2.okr (post := fun r => post r (frz e1 rs)) fun v r F3 H3 T3 S3 R3 p3 => k v r F3 H3 _ (B2.trans T3) S3 (R3.early B2) p3).tup vs ds rd hp
theorem er_lst (h : AER A K ta wa) : ER A K (tLst ta) (wLst wa) := by
  intro σ F H e post S q Q k
  refine h σ F H e _ S q _ fun vs rs F1 H1 e1 T1 S1 R1 ⟨ds, hd, hl, hp⟩ => ?_
  obtain ⟨F2, B2, S2, x2, r2⟩ := freezeR T1 S1 R1
  have rd := dats_rds r2 hd
  refine ⟨Nat.le_trans (by rw [rd.length]; exact hl) line5, fun p np => ?_⟩
  exact (S2.okr (post := fun r => post r (frz e1 rs)) fun v r F3 H3 T3 S3 R3 p3 => k v r F3 H3 _ (B2.trans T3) S3 (R3.early B2) p3).new p (.lst vs) (.lst ds) np ⟨vs, rfl, rd⟩ hp
theorem pd_tup {x1} (h : PAD X A es ta wa) : PD X A (.Tuple es x1 pos) (tTupF ta) (wTup wa) := ⟨pe_tupF h.pa, er_tup h.er⟩
theorem pd_lst (h : PAD X A es ta wa) : PD X A (.List es pos) (tLst ta) (wLst wa) := ⟨pe_lst h.pa, er_lst h.er⟩
end

/-! ### slices -/
abbrev WO := En → (Option Int → En → Prop) → Prop
def OER (A : Amb) (K : PySem.W.Frag) (to : TO) (w : WO) : Prop :=
  ∀ (σ : St) (F H : Hp) (e : En) (post : Option Int → En → Prop), Sta A K σ F H e → w e post → ∀ Q : Option Int → Hp → Prop,
    (∀ o F' H' e', Stp A σ F H e F' H' e' → Sta A K σ F' H' e' → post o e' → Q o H') → to σ H Q
structure POD (X : Cx) (A : Amb) (ex : Option Expr) (to : TO) (w : WO) : Prop where
  po : PO X ex to
  er : OER A X.K to w
def wNoPart : WO := fun e post => post none e
def wPart (we : WE) : WO := fun e post => we e fun r e1 => match r.av with
  | .dat (.int i) => post (some i) e1
  | _ => False
def cutD (xs : List D) (lo hi : Option Int) : List D := (xs.drop (HT.sIx xs.length 0 lo)).take (HT.sIx xs.length xs.length hi - HT.sIx xs.length 0 lo)
def oSl (a : Av) (lo hi : Option Int) (k : Rs → Prop) : Prop := match a with
  | .dat (.list ds) => k (.new (.lst (cutD ds lo hi)))
  | .dat (.tuple ds) => k (.val (.dat (.tuple (cutD ds lo hi))))
  | _ => False
def wSl (we : WE) (wl wh : WO) : WE := fun e post => we e fun r e1 => wl e1 fun lo e2 => wh e2 fun hi e3 => r.keepIn e2 (r.keepIn e3 (oSl r.av lo hi fun t => post t e3))
def RSl (K : PySem.W.Frag) : V → Option Int → Option Int → Hp → VK → Prop := fun x lo hi H Q => ∃ (F : Hp) (a : Av) (post : Rs → Prop), Ex F H ∧ TopR K F H x a ∧ oSl a lo hi post ∧ Okr K F H post Q
section
variable {X : Cx} {A : Amb} {K : PySem.W.Frag} {a b c : Expr} {ea eb : Option Expr} {te : TE} {ta tb : TO} {we : WE} {wa wb : WO} {pos p2 : Pos} {F H : Hp}
theorem pod_none : POD X A none tNoPart wNoPart := ⟨po_none, fun σ F H e post S h Q q => q none F H e Stp.refl S h⟩
theorem er_part (h : ER A K te we) : OER A K (tPart te) (wPart we) := by
  intro σ F H e post S q Q k
  refine h σ F H e _ S q _ fun v r F1 H1 e1 T1 S1 R1 h1 => ?_
  revert h1
  cases hr : r.av with
  | dat d =>
    cases d with
    | int i => exact fun h1 => ⟨i, by have t := R1.top S1; rw [hr] at t; exact t.vint, k _ F1 H1 e1 T1 S1 h1⟩
    | _ => exact fun h1 => h1.elim
  | _ => exact fun h1 => h1.elim
theorem pod_some (h : PD X A a te we) : POD X A (some a) (tPart te) (wPart we) := ⟨po_some h.pe, er_part h.er⟩
theorem RDs.cut {vs : List V} {ds : List D} (h : RDs K F vs ds) (lo hi : Option Int) : RDs K F (cutV vs lo hi) (cutD ds lo hi) := by
  unfold cutV cutD
  rw [h.length]
  exact (h.drop _).take _
theorem sl' : SlR X (RSl X.K) := by
  intro pins s σ H x v vl vu lo hi sl Q I rx hs pl pu ⟨F, a, post, ex, ta, q, ok⟩
  unfold oSl at q
  split at q
  · obtain ⟨p, vs, e1, h1, r1⟩ := ta.vlst
    exact sl_list pins s σ H x v vl vu lo hi sl Q I rx hs pl pu ⟨p, vs, e1, SqL.of h1, fun p' np => ok.new p' _ (.lst _) np ⟨_, rfl, r1.cut lo hi⟩ q⟩
  · rename_i ds
    obtain ⟨p, vs, e1, f1, h1, r1⟩ := ta.vtup ex
    refine sl_tupF pins s σ H x v vl vu lo hi sl Q I rx hs pl pu ⟨p, vs, e1, h1, fun hw => ?_, fun hw => ok.tup _ _ (r1.cut lo hi) q⟩
    have e2 : cutD ds lo hi = ds := by
      unfold cutD
      rw [← r1.length, hw.1, hw.2, List.drop_zero, Nat.sub_zero, r1.length, List.take_length]
    rw [e2] at q
    exact ok.val _ (.dat (.tuple _)) (.tup f1 r1) q
  · exact q.elim
theorem er_sl (h : ER A K te we) (ha : OER A K ta wa) (hb : OER A K tb wb) : ER A K (tSl (RSl K) te ta tb) (wSl we wa wb) := by
  intro σ F H e post S q Q k
  refine h σ F H e _ S q _ fun v r F1 H1 e1 T1 S1 R1 h1 => ?_
  refine ha σ F1 H1 e1 _ S1 h1 _ fun lo F2 H2 e2 T2 S2 h2 => ?_
  refine hb σ F2 H2 e2 _ S2 h2 _ fun hi F3 H3 e3 T3 S3 h3 => ?_
  obtain ⟨k1, h4⟩ := Rs.keepIn_iff.mp h3
  obtain ⟨k2, h5⟩ := Rs.keepIn_iff.mp h4
  have R3 := (R1.step T2 k1).step T3 k2
  exact ⟨F3, r.av, _, S3.ex, R3.top S3, h5, S3.okr fun v' r' F' H' T4 S4 R4 p4 => k v' r' F' H' e3 (((T1.trans T2).trans T3).trans T4) S4 (R4.early ((T1.trans T2).trans T3)) p4⟩
theorem pd_slice (h : PD X A a te we) (ha : POD X A ea ta wa) (hb : POD X A eb tb wb) : PD X A (.Subscript a (.Slice ea eb none p2) pos) (tSl (RSl X.K) te ta tb) (wSl we wa wb) := ⟨pe_slice sl' h.pe ha.po hb.po, er_sl h.er ha.er hb.er⟩
end

/-! ### calls of what is built in -/
def wCB (f : FL) (wa : WA) : WE := fun e post => wa e fun rs e1 => f (rs.map Rs.av) fun t => post t e1
section
variable {X : Cx} {A : Amb} {K : PySem.W.Frag} {x : Str} {p pos : Pos} {a : Expr} {es : List Expr} {ta : TA} {wa : WA} {f : FL} {id T : String}
theorem er_cb (h : AER A K ta wa) : ER A K (tCB (RLD K f) ta) (wCB f wa) := by
  intro σ F H e post S q Q k
  refine h σ F H e _ S q _ fun vs rs F1 H1 e1 T1 S1 R1 h1 => ?_
  exact ⟨F1, _, _, S1.ex, R1.top S1, h1, S1.okr fun v' r' F' H' T4 S4 R4 p4 => k v' r' F' H' e1 (T1.trans T4) S4 (R4.early T1) p4⟩
theorem pd_callB (hc : CallR X (.builtin id) (RLD X.K f)) (hg : Gl X x) (hm : X.mg x = none) (hv : bootBuiltins x = some (.builtin id)) (ha : PAD X A (a :: es) ta wa) (hn : x ≠ "__name__" := by decide) (hdb : (x == ("__debug__" : Str)) = false := by decide)
    (he : starEach (a :: es) X.env = (false, eval a X.env) :: starEach es X.env := by rfl) (hpl : (backTo pos (starEach es X.env)).any (·.1) = false := by rfl) : PD X A (.Call (.Name x p) (a :: es) [] pos) (tCB (RLD X.K f) ta) (wCB f wa) :=
  ⟨pe_callB hc hg hm hv ha.pa hn hdb he hpl, er_cb ha.er⟩
theorem pd_callTy (hc : CallR X (.type T) (RLD X.K f)) (hg : Gl X x) (hm : X.mg x = none) (hv : bootBuiltins x = some (.type T)) (ha : PAD X A (a :: es) ta wa) (hn : x ≠ "__name__" := by decide) (hdb : (x == ("__debug__" : Str)) = false := by decide)
    (he : starEach (a :: es) X.env = (false, eval a X.env) :: starEach es X.env := by rfl) (hpl : (backTo pos (starEach es X.env)).any (·.1) = false := by rfl) : PD X A (.Call (.Name x p) (a :: es) [] pos) (tCB (RLD X.K f) ta) (wCB f wa) :=
  ⟨pe_callTy hc hg hm hv ha.pa hn hdb he hpl, er_cb ha.er⟩
end
/-- methods of built-in types that change nothing -/
def wBM (f : Av → FL) (we : WE) (wa : WA) : WE := fun e post => we e fun r e1 => wa e1 fun rs e2 => r.keepIn e2 (f r.av (rs.map Rs.av) fun t => post t e2)

/-! ### what the built-in functions do to data -/
def fLen : FL := fun as k => match as with
  | [.dat (.list ds)] => k (vInt ds.length)
  | [.dat (.tuple ds)] => k (vInt ds.length)
  | [.dat (.str x)] => x.length ≤ 100000 ∧ k (vInt x.length)
  | [.dic kvs] => k (vInt kvs.length)
  | _ => False
def f1I (g : Int → Int) : FL := fun as k => match as with
  | [.dat (.int i)] => k (vInt (g i))
  | _ => False
def f2I (g : Int → Int → Int) : FL := fun as k => match as with
  | [.dat (.int i), .dat (.int j)] => k (vInt (g i j))
  | _ => False
def fInt : FL := fun as k => match as with
  | [.dat (.int i)] => k (vInt i)
  | [.dat (.bool b)] => k (vInt (if b then 1 else 0))
  | _ => False
def ints? : List D → Option (List Int)
  | [] => some []
  | .int i :: r => (ints? r).map (i :: ·)
  | _ => none
def bls? : List D → Option (List Bool)
  | [] => some []
  | .bool i :: r => (bls? r).map (i :: ·)
  | _ => none
theorem ints?_eq : ∀ {ds : List D} {is : List Int}, ints? ds = some is → ds = is.map PyData.int
  | [], is, h => by cases h; rfl
  | d :: r, is, h => by
    cases d with
    | int i =>
      simp only [ints?] at h
      cases z : ints? r with
      | none => rw [z] at h; cases h
      | some js => rw [z] at h; cases h; rw [ints?_eq z]; rfl
    | _ => simp [ints?] at h
theorem ints?_map : ∀ (is : List Int), ints? (is.map PyData.int) = some is
  | [] => rfl
  | i :: is => by simp [ints?, ints?_map is]
theorem bls?_eq : ∀ {ds : List D} {is : List Bool}, bls? ds = some is → ds = is.map PyData.bool
  | [], is, h => by cases h; rfl
  | d :: r, is, h => by
    cases d with
    | bool i =>
      simp only [bls?] at h
      cases z : bls? r with
      | none => rw [z] at h; cases h
      | some js => rw [z] at h; cases h; rw [bls?_eq z]; rfl
    | _ => simp [bls?] at h
theorem bls?_map : ∀ (is : List Bool), bls? (is.map PyData.bool) = some is
  | [] => rfl
  | i :: is => by simp [bls?, bls?_map is]
def fSum : FL := fun as k => match as with
  | [.dat (.list ds)] => ∃ is, ints? ds = some is ∧ k (vInt is.sum)
  | _ => False
def fAny : FL := fun as k => match as with
  | [.dat (.list ds)] => ∃ is, bls? ds = some is ∧ k (vBl (is.any id))
  | _ => False
def fAll : FL := fun as k => match as with
  | [.dat (.list ds)] => ∃ is, bls? ds = some is ∧ k (vBl (is.all id))
  | _ => False
def fMinMax (less : Int → Int → Prop) : FL := fun as k => match as with
  | [.dat (.int i), .dat (.int j)] => ∀ m, (m = i ∨ m = j) → ¬ less i m → ¬ less j m → k (vInt m)
  | [.dat (.list ds)] => ∃ is, ints? ds = some is ∧ is ≠ [] ∧ ∀ m, m ∈ is → (∀ y ∈ is, ¬ less y m) → k (vInt m)
  | _ => False
def fMin : FL := fMinMax fun i j => i < j
def fMax : FL := fMinMax fun i j => j < i
def fTuple : FL := fun as k => match as with
  | [.dat (.list ds)] => k (.val (.dat (.tuple ds)))
  | [.dat (.tuple ds)] => k (.val (.dat (.tuple ds)))
  | _ => False
def fList : FL := fun as k => match as with
  | [.dat (.list ds)] => k (.new (.lst ds))
  | [.dat (.tuple ds)] => k (.new (.lst ds))
  | _ => False
/-- sorted of ints -/
def fSortedI : FL := fun as k => match as with
  | [.dat (.list ds)] => ∃ is, ints? ds = some is ∧ is.length < 64 ∧ ∀ js : List Int, js.Perm is → js.Pairwise (· ≤ ·) → k (.new (.lst (js.map PyData.int)))
  | _ => False
/-- isinstance of data and a built-in class -/
def tyD : D → Value
  | .none => .type "NoneType"
  | .bool _ => .type "bool"
  | .int _ => .type "int"
  | .str _ => .type "str"
  | .list _ => .type "list"
  | .tuple _ => .type "tuple"
  | .dict _ => .type "dict"
def isD (T : String) : D → Bool
  | .none => T == "NoneType"
  | .bool _ => T == "bool" || T == "int"
  | .int _ => T == "int"
  | .str _ => T == "str"
  | .list _ => T == "list"
  | .tuple _ => T == "tuple"
  | .dict _ => T == "dict"
def dInt : D → Bool
  | .int _ => true
  | .bool _ => true
  | _ => false
def dBool : D → Bool
  | .bool _ => true
  | _ => false
def dStr : D → Bool
  | .str _ => true
  | _ => false
def dTup : D → Bool
  | .tuple _ => true
  | _ => false
def fIsi (T : String) (g : D → Bool) : FL := fun as k => match as with
  | [.dat d, .raw (.ty T')] => T' = T ∧ k (vBl (g d))
  | _ => False
section
variable {X : Cx} {K : PySem.W.Frag} {F H : Hp} {v : V}
theorem call_len' : CallR X (.builtin "len") (RLD X.K fLen) := by
  intro pins s σ H xs us Q I r ⟨F, as, post, ex, ta, q, ok⟩
  unfold fLen at q
  split at q
  · cases ta with | cons ta tn => cases tn; obtain ⟨p, vs, e1, h1, r1⟩ := ta.vlst; exact call_len_seq pins s σ H _ us Q I r ⟨p, vs, by rw [e1], .inl (SqL.of h1), by rw [r1.length]; exact ok.int q⟩
  · cases ta with | cons ta tn => cases tn; obtain ⟨p, vs, e1, f1, h1, r1⟩ := ta.vtup ex; exact call_len_seq pins s σ H _ us Q I r ⟨p, vs, by rw [e1], .inr h1, by rw [r1.length]; exact ok.int q⟩
  · cases ta with | cons ta tn => cases tn; exact call_len_str pins s σ H _ us Q I r ⟨_, by rw [ta.vstr], Nat.le_trans q.1 line5, ok.int q.2⟩
  · cases ta with
    | cons ta tn =>
      cases tn
      obtain ⟨p, vs, e1, h1, r1⟩ := ta
      have l : vs.length = _ := Paired.length r1
      exact call_lenD pins s σ H _ us Q I r ⟨p, vs, by rw [e1], h1, by rw [l]; exact ok.int q⟩
  · exact q.elim
theorem call_abs' : CallR X (.builtin "abs") (RLD X.K (f1I fun i => if i < 0 then -i else i)) := by
  intro pins s σ H xs us Q I r ⟨F, as, post, ex, ta, q, ok⟩
  unfold f1I at q
  split at q
  · cases ta with | cons ta tn => cases tn; exact call_abs pins s σ H _ us Q I r ⟨_, by rw [ta.vint], ok.int q⟩
  · exact q.elim
theorem call_int' : CallR X (.type "int") (RLD X.K fInt) := by
  intro pins s σ H xs us Q I r ⟨F, as, post, ex, ta, q, ok⟩
  unfold fInt at q
  split at q
  · cases ta with | cons ta tn => cases tn; exact call_int1 pins s σ H _ us Q I r (.inl ⟨_, by rw [ta.vint], ok.int q⟩)
  · cases ta with | cons ta tn => cases tn; exact call_int1 pins s σ H _ us Q I r (.inr ⟨_, by rw [ta.vbl], ok.int q⟩)
  · exact q.elim
theorem TopR.ints {ds : List D} {is : List Int} (h : TopR K F H v (.dat (.list ds))) (e : ints? ds = some is) : ∃ p, v = .ref p ∧ H p = some (.lst (is.map V.int)) := by
  obtain ⟨p, vs, e1, h1, r1⟩ := h.vlst
  have e2 := ints?_eq e
  subst e2
  exact ⟨p, e1, by rw [← r1.ints]; exact h1⟩
theorem TopR.bls {ds : List D} {is : List Bool} (h : TopR K F H v (.dat (.list ds))) (e : bls? ds = some is) : ∃ p, v = .ref p ∧ H p = some (.lst (is.map V.bl)) := by
  obtain ⟨p, vs, e1, h1, r1⟩ := h.vlst
  have e2 := bls?_eq e
  subst e2
  exact ⟨p, e1, by rw [← r1.bls]; exact h1⟩
theorem call_sum' (hc : X.calm = true) : CallR X (.builtin "sum") (RLD X.K fSum) := by
  intro pins s σ H xs us Q I r ⟨F, as, post, ex, ta, q, ok⟩
  unfold fSum at q
  split at q
  · cases ta with
    | cons ta tn =>
      cases tn
      obtain ⟨is, hi, q⟩ := q
      obtain ⟨p, e1, h1⟩ := ta.ints hi
      exact cr_sum hc pins s σ H _ us Q I r ⟨p, is, by rw [e1], SqL.of h1, ok.int q⟩
  · exact q.elim
theorem call_any' (hc : X.calm = true) : CallR X (.builtin "any") (RLD X.K fAny) := by
  intro pins s σ H xs us Q I r ⟨F, as, post, ex, ta, q, ok⟩
  unfold fAny at q
  split at q
  · cases ta with
    | cons ta tn =>
      cases tn
      obtain ⟨is, hi, q⟩ := q
      obtain ⟨p, e1, h1⟩ := ta.bls hi
      exact cr_any hc pins s σ H _ us Q I r ⟨p, is, by rw [e1], SqL.of h1, ok.bl q⟩
  · exact q.elim
theorem call_all' (hc : X.calm = true) : CallR X (.builtin "all") (RLD X.K fAll) := by
  intro pins s σ H xs us Q I r ⟨F, as, post, ex, ta, q, ok⟩
  unfold fAll at q
  split at q
  · cases ta with
    | cons ta tn =>
      cases tn
      obtain ⟨is, hi, q⟩ := q
      obtain ⟨p, e1, h1⟩ := ta.bls hi
      exact cr_all hc pins s σ H _ us Q I r ⟨p, is, by rw [e1], SqL.of h1, ok.bl q⟩
  · exact q.elim
theorem call_max' (hc : X.calm = true) : CallR X (.builtin "max") (RLD X.K fMax) := by
  intro pins s σ H xs us Q I r ⟨F, as, post, ex, ta, q, ok⟩
  unfold fMax fMinMax at q
  split at q
  · cases ta with
    | cons ta tn =>
      cases tn with
      | cons tb tn =>
        cases tn
        refine call_max2 hc pins s σ H _ us Q I r ⟨_, _, by rw [ta.vint, tb.vint], ok.int (q _ ?_ ?_ ?_)⟩
        all_goals (split <;> first | omega | simp)
  · cases ta with
    | cons ta tn =>
      cases tn
      obtain ⟨is, hi, hne, q⟩ := q
      obtain ⟨p, e1, h1⟩ := ta.ints hi
      exact cr_max hc pins s σ H _ us Q I r ⟨p, is, by rw [e1], SqL.of h1, List.length_pos_iff.mpr hne, fun m hm hy => ok.int (q m hm fun y z => Int.not_lt.mpr (hy y z))⟩
  · exact q.elim
theorem call_min' (hc : X.calm = true) : CallR X (.builtin "min") (RLD X.K fMin) := by
  intro pins s σ H xs us Q I r ⟨F, as, post, ex, ta, q, ok⟩
  unfold fMin fMinMax at q
  split at q
  · cases ta with
    | cons ta tn =>
      cases tn with
      | cons tb tn =>
        cases tn
        refine call_min2 hc pins s σ H _ us Q I r ⟨_, _, by rw [ta.vint, tb.vint], ok.int (q _ ?_ ?_ ?_)⟩
        all_goals (split <;> first | omega | simp)
  · cases ta with
    | cons ta tn =>
      cases tn
      obtain ⟨is, hi, hne, q⟩ := q
      obtain ⟨p, e1, h1⟩ := ta.ints hi
      exact cr_min hc pins s σ H _ us Q I r ⟨p, is, by rw [e1], SqL.of h1, List.length_pos_iff.mpr hne, fun m hm hy => ok.int (q m hm fun y z => Int.not_lt.mpr (hy y z))⟩
  · exact q.elim
theorem call_tuple' : CallR X (.type "tuple") (RLD X.K fTuple) := by
  intro pins s σ H xs us Q I r ⟨F, as, post, ex, ta, q, ok⟩
  unfold fTuple at q
  split at q
  · cases ta with | cons ta tn => cases tn; obtain ⟨p, vs, e1, h1, r1⟩ := ta.vlst; exact call_tupleF pins s σ H _ us Q I r ⟨p, vs, by rw [e1], .inl ⟨SqL.of h1, ok.tup vs _ r1 q⟩⟩
  · cases ta with | cons ta tn => cases tn; obtain ⟨p, vs, e1, f1, h1, r1⟩ := ta.vtup ex; exact call_tupleF pins s σ H _ us Q I r ⟨p, vs, by rw [e1], .inr ⟨h1, ok.val _ (.dat (.tuple _)) (.tup f1 r1) q⟩⟩
  · exact q.elim
theorem call_list' : CallR X (.type "list") (RLD X.K fList) := by
  intro pins s σ H xs us Q I r ⟨F, as, post, ex, ta, q, ok⟩
  unfold fList at q
  split at q
  · cases ta with | cons ta tn => cases tn; obtain ⟨p, vs, e1, h1, r1⟩ := ta.vlst; exact call_list_of pins s σ H _ us Q I r ⟨p, vs, by rw [e1], .inl (SqL.of h1), fun l nl => ok.new l _ (.lst _) nl ⟨vs, rfl, r1⟩ q⟩
  · cases ta with | cons ta tn => cases tn; obtain ⟨p, vs, e1, f1, h1, r1⟩ := ta.vtup ex; exact call_list_of pins s σ H _ us Q I r ⟨p, vs, by rw [e1], .inr h1, fun l nl => ok.new l _ (.lst _) nl ⟨vs, rfl, r1⟩ q⟩
  · exact q.elim
theorem call_sortedI' : CallR X (.builtin "sorted") (RLD X.K fSortedI) := by
  intro pins s σ H xs us Q I r ⟨F, as, post, ex, ta, q, ok⟩
  unfold fSortedI at q
  split at q
  · cases ta with
    | cons ta tn =>
      cases tn
      obtain ⟨is, hi, hl, q⟩ := q
      obtain ⟨p, e1, h1⟩ := ta.ints hi
      exact cr_sorted pins s σ H _ us Q I r ⟨p, is, by rw [e1], SqL.of h1, hl, fun js l h1 h2 nl => ok.new l _ (.lst _) nl ⟨_, rfl, RDs.of_ints js⟩ (q js h1 h2)⟩
  · exact q.elim
/-- the built-in class of data -/
theorem TopR.tyx (ex : Ex F H) : ∀ {d : D}, TopR K F H v (.dat d) → TyX K H v (tyD d)
  | .none, h => by rw [h.vnon]; exact .base .non
  | .bool b, h => by rw [h.vbl]; exact .base (.bl _)
  | .int b, h => by rw [h.vint]; exact .base (.int _)
  | .str b, h => by rw [h.vstr]; exact .base (.str _)
  | .list b, h => by obtain ⟨p, vs, e1, h1, _⟩ := h.vlst; rw [e1]; exact .base (.lst h1)
  | .tuple b, h => by
    obtain ⟨p, vs, e1, _, h1, _⟩ := h.vtup ex
    rw [e1]
    rcases h1 with (h1 | ⟨o, h1⟩) | ⟨o, its, n, hk, hc, _⟩
    · exact .base (.tup h1)
    · exact .fTuple h1
    · exact .kTuple hk hc
  | .dict b, h => by
    have h' : RD K F v (.dict b) := h
    cases h'
theorem kit_none (K : PySem.W.Frag) : (∀ b : D, PySem.W.kitOne K (tyD b) (.type "int") = some (isD "int" b)) ∧ (∀ b : D, PySem.W.kitOne K (tyD b) (.type "bool") = some (isD "bool" b)) ∧ (∀ b : D, PySem.W.kitOne K (tyD b) (.type "str") = some (isD "str" b)) ∧ ∀ b : D, PySem.W.kitOne K (tyD b) (.type "tuple") = some (isD "tuple" b) := by
  refine ⟨fun b => ?_, fun b => ?_, fun b => ?_, fun b => ?_⟩ <;> cases b <;> first | rfl | exact PySem.W.kit_ty (by decide +kernel) | skip
end
end PL

namespace PL
open PySem L2 PyProof.Rows
open AutoSeq1 (wpAny_loadPart')

theorem meets_enumT (l : Addr) (items : Array Value) :
    Meets (Builtin.«enumerate.__new__» ⟨[.type "enumerate", .ref l], []⟩) (fun _ R s => s.heap.IsTuple l items ∧
      R (.ok (.ret (.ref (s.heap.push { cls := .type "tuple_iterator", data := .fields #[.ref l, .int 0 0] }).objs.size)))
        { s with heap := (s.heap.push { cls := .type "tuple_iterator", data := .fields #[.ref l, .int 0 0] }).push { cls := .type "enumerate", data := .fields #[.none, .bool false, .ref s.heap.objs.size, rawInt 0, .none, .none] } }) :=
  .of_wp fun prog w A R s h => by
    obtain ⟨hp, g, d, tk, os⟩ := s; obtain ⟨hl, h⟩ := h
    have hsub := sub_enumerate
    have q1 : ∀ {A' : Around} {E : Value → Shared → Prop} {Q : Value → Shared → Prop}, Q (.ref hp.objs.size) ⟨hp.push { cls := .type "tuple_iterator", data := .fields #[.ref l, .int 0 0] }, g, d, tk, os⟩ → wpAny (model prog w) A' (pyIter (.ref l)) Q E ⟨hp, g, d, tk, os⟩ :=
      fun q => (begins_tuple l items).iter prog w _ _ ⟨hp, g, d, tk, os⟩ _ hl q
    wp_walk using q1
    refine wpAny_stack_any fun st => wpAny_pure ?_
    split
    · rename_i c _ _ _ _ _
      cases (c == Value.type "enumerate")
      · wp_walk using q1
        exact ⟨_, rfl, h⟩
      · wp_walk using q1
        exact ⟨_, rfl, h⟩
    · wp_walk using q1
      exact ⟨_, rfl, h⟩
section
variable {prog : Program} {w : World} {A : Around} {E : Value → Shared → Prop} {s : Shared}
theorem call_enumT {l : Addr} {items : Array Value} {Q : Value → Shared → Prop} (hL : s.heap.IsTuple l items)
    (h : ∀ h', IsEnum h' (s.heap.objs.size + 1) s.heap.objs.size 0 .none → h'.IsTupleIter s.heap.objs.size l 0 → h'.objs.size = s.heap.objs.size + 2 →
      (∀ b o, s.heap.get? b = some o → h'.get? b = some o) → Q (.ref (s.heap.objs.size + 1)) { s with heap := h' }) :
    wpAny (model prog w) A (call (.type "enumerate") [.ref l]) Q E s := by
  refine callType_new F.called_enumerate (by decide) (F.typeCall_enumerate_1 _) (F.newCall_enumerate_1 _) (fun obj => F.args_object_init_2 obj _) F.entry_enumerate_new
    (meets_enumT l items) ⟨hL, ?_⟩
  have hz : (s.heap.push { cls := .type "tuple_iterator", data := .fields #[.ref l, .int 0 0] }).objs.size = s.heap.objs.size + 1 := Heap.size_push ..
  show _ ∧ _
  rw [hz]
  have he : IsEnum ((s.heap.push { cls := .type "tuple_iterator", data := .fields #[.ref l, .int 0 0] }).push
      { cls := .type "enumerate", data := .fields #[.none, .bool false, .ref s.heap.objs.size, rawInt 0, .none, .none] }) (s.heap.objs.size + 1) s.heap.objs.size 0 .none := by
    have := Heap.get?_push_size (s.heap.push { cls := .type "tuple_iterator", data := .fields #[.ref l, .int 0 0] })
      (o := { cls := .type "enumerate", data := .fields #[.none, .bool false, .ref s.heap.objs.size, rawInt 0, .none, .none] }) rfl
    rw [hz] at this; exact this
  refine ⟨⟨_, he, rfl⟩, h _ he ⟨_, Heap.get?_push_of_some _ (Heap.get?_push_size _ rfl), rfl, rfl⟩ (by rw [Heap.size_push, hz]) fun b o x => Heap.get?_push_of_some _ (Heap.get?_push_of_some _ x)⟩
end
/-- the tuple at a, each item in a new pair -/
def IteT (K : PySem.W.Frag) (a : Addr) : It :=
  ⟨fun i H => ∃ (xs : List V) (x : V), SqT K H a xs ∧ xs[i]? = some x, fun i H v H' => ∃ T x, v = .ref T ∧ H T = none ∧ H' = upd H T (.tup [.int (i : Nat), x]) ∧ ∀ xs, SqT K H a xs → xs[i]? = some x, fun i H => ∃ xs : List V, SqT K H a xs ∧ xs.length ≤ i⟩
theorem turn_enumT {P : Program} {w : World} {K : PySem.W.Frag} {elts : List Expr} {kk : Nat} {tpos : Pos} (a e it : Addr) :
    Turn P w K (.Tuple elts kk tpos) (IteT K a) [e, it] e (fun i h => (∃ old, IsEnum h e it ((i : Nat) : Int) old) ∧ h.IsTupleIter it a i ∧ e ≠ it) where
  mem := by simp
  obj := fun i h st b hb => by
    obtain ⟨⟨old, he⟩, ⟨o, ho, hc, hd⟩, _⟩ := st
    have e' : b = e ∨ b = it := by simpa using hb
    rcases e' with z | z
    · rw [z]; exact ⟨_, he, fun v q => nomatch q⟩
    · rw [z]; exact ⟨o, ho, fun v q => by rw [hd] at q; cases q⟩
  keep := fun i h h' st k => let ⟨⟨old, he⟩, hi, hne⟩ := st; ⟨⟨old, k e (by simp) _ he⟩, hi.at fun o q => k it (by simp) o q, hne⟩
  item := by
    intro X hP hw hK hc i pins s σ H E I hf st hg
    subst hP hw hK
    obtain ⟨⟨old, he⟩, hit, hne⟩ := st
    obtain ⟨xs, x, hq, hx⟩ := hg
    obtain ⟨its, rv, p, hz⟩ := I.tuple hq
    obtain ⟨u, hu, ru⟩ := rv.get hx
    have hel : e < s.heap.objs.size := Heap.lt_size he
    have hil : it < s.heap.objs.size := by obtain ⟨_, q, _⟩ := hit; exact Heap.lt_size q
    have hai : a ≠ it := by
      rintro rfl
      obtain ⟨o, h1, h2, _⟩ := p
      obtain ⟨o', h1', h2', _⟩ := hit
      rw [h1] at h1'; cases h1'
      rw [h2] at h2'; exact absurd h2' (by decide)
    have hea : e ∉ [it, a] := by
      intro z
      have z' : e = it ∨ e = a := by simpa using z
      rcases z' with z' | z'
      · exact hne z'
      · subst z'
        obtain ⟨o, h1, h2, _⟩ := p
        have h3 : s.heap.get? e = _ := he
        rw [h1] at h3; cases h3
        exact absurd (Value.type.inj h2) (by decide)
    have hh : X.A.in1.handled = none := I.ok.hd hc
    have hlt : i < its.toArray.size := by
      have := (List.getElem?_eq_some_iff.mp hu).1
      simpa using this
    refine wpAny_pyNext_enum_itemD (Draws.tuple hh it a hai its.toArray) he ⟨hit, p⟩ hlt hne hea fun y h' tk hy ho hst hT hsz hk => ?_
    have ey : u = y := by
      have h1 : its.toArray[i]? = some u := by simpa using hu
      rw [h1] at hy
      exact Option.some.inj hy
    subst ey
    refine ⟨_, rfl, wpAny_letOwnedTupleGo_enum (s := { s with heap := h', toks := tk + 1 }) ho fun h'' he' sb => ?_⟩
    have hT2 : h''.get? s.heap.objs.size = some { cls := .type "tuple", data := .seq #[.int i tk, u] } := (sb.2 _ (Nat.ne_of_gt hel)).trans hT
    have new : ObjOk X.prog X.w (upd H s.heap.objs.size (.tup [.int (i : Nat), x])) h'' s.heap.objs.size (.tup [.int (i : Nat), x]) :=
      ⟨by show 2 ≤ sizeLine; decide, [.int i tk, u], .cons ⟨_, rfl⟩ (.cons ru .nil), ⟨_, hT2, rfl, _, rfl⟩⟩
    have I1 : L2.Inv X pins σ (upd H s.heap.objs.size (.tup [.int (i : Nat), x])) { s with heap := h'', toks := tk + 1 } :=
      I.turnedNew (ch := [e, it]) (fun b ob hb q => (sb.2 b (fun z => hb (by simp [z]))).trans (hk b ob (fun z => hb (by simp [z])) (fun z => hb (by simp [z])) q)) hf (Nat.le_refl _) new
    refine ⟨.ref s.heap.objs.size, _, I1, rfl, ⟨_, x, rfl, I.hok.fresh (Nat.le_refl _), rfl, fun ys hy => by rw [I.tuple_inj hy hq]; exact hx⟩, ⟨⟨u, ?_⟩, hst.1.at fun o q => (sb.2 it (Ne.symm hne)).trans q, hne⟩, fun b hb => ?_⟩
    · have e1 : ((i + 1 : Nat) : Int) = (i : Int) + 1 := by omega
      rw [e1]; exact he'
    · have hb' : b < s.heap.objs.size := by
        have e' : b = e ∨ b = it := by simpa using hb
        rcases e' with z | z
        · rw [z]; exact hel
        · rw [z]; exact hil
      rw [upd_ne (Nat.ne_of_lt hb')]
      exact (hf b hb).1
  done := by
    intro X hP hw hK hc i pins s σ H E I hf st hg
    subst hP hw hK
    obtain ⟨⟨old, he⟩, hit, hne⟩ := st
    obtain ⟨xs, hq, hx⟩ := hg
    obtain ⟨its, rv, p, hz⟩ := I.tuple hq
    obtain ⟨f0, f1, f2, f3, f4, f5⟩ := hf it (by simp)
    have hl := rv.length
    have hh : X.A.in1.handled = none := I.ok.hd hc
    have hT : s.TypeIs (.ref e) "enumerate" := ⟨_, he, rfl⟩
    unfold pyNext
    refine wpAny_bind (wpAny_attempt (wpAny_callSpecial?_slot (name := Str.ofString "__next__") hT F.slot_enumerate_next
      (wpAny_call_entry F.slot_enumerate_next hT F.entry_enumerate_next ?_ (F.args_enumerate_next_1 _))))
    show wpAny _ _ (field (.ref e) 2 >>= _) _ _ _
    refine wpAny_bind (wpAny_field he rfl (x := .ref it) rfl ?_)
    refine wpAny_bind (wpAny_nextOf_tuple_end hh hit p (by simp; omega) fun h' x he' hx' => ?_)
    obtain ⟨o, ho, hc⟩ := hx'
    refine wpAny_bind (wpAny_isInstance (T := "StopIteration") (b := true) ⟨o, ho, hc⟩ isSubtype_stop ?_)
    exact wpAny_pure ⟨rfl, I.turned (t' := s.toks) (fun b o hb q => he' b o hb q) f0 f1 f3 f4 f5⟩
  self := fun A i s Q E st h => let ⟨⟨_, he⟩, _⟩ := st; wpAny_pyIter_enum he h
def iEnumT (K : PySem.W.Frag) (ta : TA) : TI := fun σ H R => ta σ H fun vs H1 => ∃ a xs, vs = [.ref a] ∧ SqT K H1 a xs ∧ R (IteT K a) H1
theorem pi_enumT {X : Cx} {e : Expr} {ta : TA} {p pos tpos : Pos} {elts : List Expr} {kk : Nat} (hg : Gl X "enumerate") (hm : X.mg "enumerate" = none) (ha : PA X [e] ta) (hs : starEach [e] X.env = [(false, eval e X.env)] := by rfl) :
    PI X (.Tuple elts kk tpos) (.Call (.Name "enumerate" p) [e] [] pos) (iEnumT X.K ta) := by
  refine ⟨fun pins s σ H R I h => ?_⟩
  refine Call_ (ld_blt I hg hm boot_enumerate (PyProof.Rows.callWith_type1 (thn (ha.run pos pins s σ H _ I h) fun us s1 ⟨vs, H1, I1, r1, q1⟩ => ?_) hs rfl))
  obtain ⟨a, xs, ex, hq, q⟩ := q1
  subst ex
  cases r1 with
  | cons r rr =>
    cases rr
    cases r
    obtain ⟨its, rv, p', hz⟩ := I1.tuple hq
    refine call_enumT p' fun h' he hit hsz hk => wpAny_pyIter_enum he ?_
    have I2 : L2.Inv X pins σ H1 { s1 with heap := h' } := I1.kept (t' := s1.toks) hk
    refine ⟨s1.heap.objs.size + 1, [s1.heap.objs.size + 1, s1.heap.objs.size], _, _, H1, rfl, I2, turn_enumT a (s1.heap.objs.size + 1) s1.heap.objs.size, ⟨⟨.none, he⟩, hit, Nat.succ_ne_self _⟩, fun b hb => ?_, q⟩
    have e' : b = s1.heap.objs.size + 1 ∨ b = s1.heap.objs.size := by simpa using hb
    have hle : s1.heap.objs.size ≤ b := by
      rcases e' with z | z
      · rw [z]; exact Nat.le_add_right _ _
      · rw [z]; exact Nat.le_refl _
    exact I1.fpOk hle (I1.hok.fresh hle)
end PL

namespace PL
open PySem L2

/-! ### targets -/
/-- what a store to names leaves: slots ks may differ, all else is as it was -/
structure GS (ks : List Nat) (σ : St) (e : En) (σ' : St) (e' : En) : Prop where
  own : ∀ i p, Owns e' σ' i p → Owns e σ i p
  same : ∀ j, j ∉ ks → σ'[j]? = σ[j]? ∧ e'.sl[j]? = e.sl[j]?
  len : σ'.length = σ.length
  n : e'.n = e.n
  none : ∀ j p, j ∈ ks → ¬ Owns e' σ' j p
theorem GS.refl {ks : List Nat} {σ : St} {e : En} (h : ∀ j p, j ∈ ks → ¬ Owns e σ j p) : GS ks σ e σ e := ⟨fun _ _ h => h, fun _ _ => ⟨rfl, rfl⟩, rfl, rfl, h⟩
abbrev WG := D → En → (En → Prop) → Prop
abbrev WGs := List D → En → (En → Prop) → Prop
/-- a pair that is only taken apart -/
def RDu (K : PySem.W.Frag) (F : Hp) (u : Bool) (v : V) (d : D) : Prop := match u with
  | false => RD K F v d
  | true => ∃ a vs ds, v = .ref a ∧ SqT K F a vs ∧ RDs K F vs ds ∧ d = .tuple ds
def GER (A : Amb) (K : PySem.W.Frag) (ks : List Nat) (u : Bool) (g : TG) (w : WG) : Prop :=
  ∀ (σ : St) (F H : Hp) (e : En) (d : D) (v : V) (post : En → Prop), Sta A K σ F H e → RDu K F u v d → (∀ j p, j ∈ ks → ¬ Owns e σ j p) → w d e post → ∀ Q : St → Hp → Prop,
    (∀ σ' e', GS ks σ e σ' e' → Sta A K σ' F H e' → post e' → Q σ' H) → g v σ H Q
def GERs (A : Amb) (K : PySem.W.Frag) (ks : List Nat) (g : TGs) (w : WGs) : Prop :=
  ∀ (σ : St) (F H : Hp) (e : En) (ds : List D) (vs : List V) (post : En → Prop), Sta A K σ F H e → RDs K F vs ds → (∀ j p, j ∈ ks → ¬ Owns e σ j p) → w ds e post → ∀ Q : St → Hp → Prop,
    (∀ σ' e', GS ks σ e σ' e' → Sta A K σ' F H e' → post e' → Q σ' H) → g vs σ H Q
structure PGD (X : Cx) (A : Amb) (tg : Expr) (ks : List Nat) (u : Bool) (g : TG) (w : WG) : Prop where
  pg : PG X tg g
  er : GER A X.K ks u g w
structure PGDs (X : Cx) (A : Amb) (tg : List Expr) (ks : List Nat) (g : TGs) (w : WGs) : Prop where
  pg : PGs X tg g
  er : GERs A X.K ks g w
def wgName (i : Nat) : WG := fun d e post => post (e.set i (.im (.dat d)))
def wgNil : WGs := fun ds e post => ds = [] ∧ post e
def wgCons (w : WG) (ws : WGs) : WGs := fun ds e post => match ds with
  | d :: ds => w d e fun e1 => ws ds e1 post
  | [] => False
def wgTup (n : Nat) (ws : WGs) : WG := fun d e post => match d with
  | .tuple ds => ds.length = n ∧ ws ds e post
  | _ => False
section
variable {X : Cx} {A : Amb} {K : PySem.W.Frag} {σ σ' : St} {F F' H H' F0 H0 : Hp} {e e' : En} {v : V} {a : Av} {ks : List Nat} {g : TG} {gs : TGs} {w : WG} {ws : WGs}
theorem set_get {α : Type} {l : List α} {i j : Nat} {x y : α} (h : (l.set i x)[j]? = some y) : (j = i ∧ y = x) ∨ (j ≠ i ∧ l[j]? = some y) := by
  by_cases c : j = i
  · subst c
    have hl : j < l.length := by
      have := (List.getElem?_eq_some_iff.mp h).1
      simpa using this
    rw [List.getElem?_set_self hl] at h
    exact .inl ⟨rfl, (Option.some.inj h).symm⟩
  · rw [List.getElem?_set_ne (Ne.symm c)] at h
    exact .inr ⟨c, h⟩
/-- a slot gets a frozen value -/
theorem Sta.setIm (S : Sta A K σ F H e) (i : Nat) (h : RelA K F v a) : Sta A K (σ.set i (some v)) F H (e.set i (.im a)) ∧ (∀ j p, Owns (e.set i (.im a)) (σ.set i (some v)) j p → Owns e σ j p ∧ j ≠ i) := by
  have ow : ∀ j p, Owns (e.set i (.im a)) (σ.set i (some v)) j p → Owns e σ j p ∧ j ≠ i := fun j p ⟨⟨o, h1⟩, h2⟩ => by
    have h1' : (e.sl.set i (.im a))[j]? = some (Sl.ow o) := h1
    rcases set_get h1' with ⟨_, z⟩ | ⟨c, z⟩
    · cases z
    · rw [List.getElem?_set_ne (Ne.symm c)] at h2
      exact ⟨⟨⟨o, z⟩, h2⟩, c⟩
  refine ⟨⟨?_, S.ex, fun j s hs => ?_, fun j k p h1 h2 => S.sep j k p (ow j p h1).1 (ow k p h2).1, S.ri, S.rsF, fun j p h => S.rsO j p (ow j p h).1⟩, ow⟩
  · show (e.sl.set i _).length = (σ.set i _).length
    rw [List.length_set, List.length_set]; exact S.len
  · have hs' : (e.sl.set i (.im a))[j]? = some s := hs
    rcases set_get hs' with ⟨c, z⟩ | ⟨c, z⟩
    · subst c z
      have hl : j < σ.length := by
        have := (List.getElem?_eq_some_iff.mp hs').1
        rw [List.length_set, S.len] at this
        exact this
      exact ⟨v, by rw [List.getElem?_set_self hl], h⟩
    · rw [List.getElem?_set_ne (Ne.symm c)]
      exact S.at_ j s z
/-- a slot gets a new object that it owns -/
theorem Sta.setOw (S : Sta A K σ F H e) (i : Nat) {p : Addr} {ho : HO} {o : Ow} (f : F p = none) (g : H p = some ho) (q : OwR K F ho o) (nr : p ∉ A.rs) (no : ∀ i, ¬ Owns e σ i p) :
    Sta A K (σ.set i (some (.ref p))) F H (e.set i (.ow o)) ∧ (∀ j p', Owns (e.set i (.ow o)) (σ.set i (some (.ref p))) j p' → (j = i ∧ p' = p) ∨ (Owns e σ j p' ∧ j ≠ i)) := by
  have ow : ∀ j p', Owns (e.set i (.ow o)) (σ.set i (some (.ref p))) j p' → (j = i ∧ p' = p) ∨ (Owns e σ j p' ∧ j ≠ i) := fun j p' ⟨⟨o', h1⟩, h2⟩ => by
    have h1' : (e.sl.set i (.ow o))[j]? = some (Sl.ow o') := h1
    rcases set_get h1' with ⟨c, z⟩ | ⟨c, z⟩
    · subst c
      rcases set_get h2 with ⟨_, z2⟩ | ⟨c, _⟩
      · refine .inl ⟨rfl, ?_⟩
        have := Option.some.inj z2
        exact V.ref.inj this
      · exact absurd rfl c
    · rw [List.getElem?_set_ne (Ne.symm c)] at h2
      exact .inr ⟨⟨⟨o', z⟩, h2⟩, c⟩
  refine ⟨⟨?_, S.ex, fun j s hs => ?_, fun j k p' h1 h2 => ?_, S.ri, S.rsF, fun j p' h => ?_⟩, ow⟩
  · show (e.sl.set i _).length = (σ.set i _).length
    rw [List.length_set, List.length_set]; exact S.len
  · have hs' : (e.sl.set i (.ow o))[j]? = some s := hs
    rcases set_get hs' with ⟨c, z⟩ | ⟨c, z⟩
    · subst c z
      have hl : j < σ.length := by
        have := (List.getElem?_eq_some_iff.mp hs').1
        rw [List.length_set, S.len] at this
        exact this
      exact ⟨p, ho, by rw [List.getElem?_set_self hl], f, g, q⟩
    · rw [List.getElem?_set_ne (Ne.symm c)]
      exact S.at_ j s z
  · rcases ow j p' h1 with ⟨c1, z1⟩ | ⟨z1, c1⟩
    · subst z1
      rcases ow k _ h2 with ⟨c2, z2⟩ | ⟨z2, c2⟩
      · rw [c1, c2]
      · exact absurd z2 (no k)
    · rcases ow k p' h2 with ⟨c2, z2⟩ | ⟨z2, c2⟩
      · subst z2; exact absurd z1 (no j)
      · exact S.sep j k p' z1 z2
  · rcases ow j p' h with ⟨c1, z1⟩ | ⟨z1, c1⟩
    · subst z1; exact nr
    · exact S.rsO j p' z1
theorem ger_name {i : Nat} (hi : i ∈ ks) : GER A K ks false (gName i) (wgName i) := by
  intro σ F H e d v post S h hn hp Q k
  obtain ⟨S', ow⟩ := S.setIm i (a := .dat d) h
  exact k _ _ ⟨fun j p z => (ow j p z).1, fun j hj => by
    have c : i ≠ j := fun z => hj (by subst z; exact hi)
    exact ⟨List.getElem?_set_ne c, List.getElem?_set_ne c⟩, List.length_set, rfl, fun j p hj z => hn j p hj (ow j p z).1⟩ S' hp
theorem ger_nil : GERs A K ks gNil wgNil := by
  intro σ F H e ds vs post S h hn hp Q k
  obtain ⟨rfl, hp⟩ := hp
  cases h
  exact ⟨rfl, k σ e (GS.refl hn) S hp⟩
theorem ger_cons (h1 : GER A K ks false g w) (h2 : GERs A K ks gs ws) : GERs A K ks (gCons g gs) (wgCons w ws) := by
  intro σ F H e ds vs post S h hn hp Q k
  cases h with
  | nil => exact hp.elim
  | cons h t =>
    refine ⟨_, _, rfl, h1 σ F H e _ _ _ S h hn hp _ fun σ1 e1 G1 S1 p1 => ?_⟩
    refine h2 σ1 F H e1 _ _ _ S1 t (fun j p hj => G1.none j p hj) p1 _ fun σ2 e2 G2 S2 p2 => ?_
    exact k σ2 e2 ⟨fun i p z => G1.own i p (G2.own i p z), fun j hj => ⟨(G2.same j hj).1.trans (G1.same j hj).1, (G2.same j hj).2.trans (G1.same j hj).2⟩, G2.len.trans G1.len, G2.n.trans G1.n, G2.none⟩ S2 p2
theorem RDu.of_tup {u : Bool} {ds : List D} (h : RDu K F u v (.tuple ds)) : ∃ a vs, v = .ref a ∧ SqT K F a vs ∧ RDs K F vs ds := by
  cases u with
  | true => obtain ⟨a, vs, ds', h1, h2, h3, h4⟩ := h; cases h4; exact ⟨a, vs, h1, h2, h3⟩
  | false =>
    have h' : RD K F v (.tuple ds) := h
    cases h' with
    | tup h1 t => exact ⟨_, _, rfl, h1.sqt, t⟩
theorem ger_tup {n : Nat} {u : Bool} (h : GERs A K ks gs ws) : GER A K ks u (gTup K n gs) (wgTup n ws) := by
  intro σ F H e d v post S hd hn hp Q k
  match d, hp with
  | .tuple ds, ⟨hl, hp⟩ =>
    obtain ⟨a, vs, e1, h1, t⟩ := hd.of_tup
    exact ⟨a, vs, e1, S.ex.sqt h1, t.length.trans hl, h σ F H e ds _ post S t hn hp Q k⟩
theorem pgd_name {i : Nat} {x : Str} {pos : Pos} (hi' : i ∈ ks) (hN : X.N.Nodup) (hi : X.N[i]? = some x) (hx : Loc X.env.scope x) (hf : X.fn x = true ∨ X.env.scope.names.lookup x = some .local := by first | exact .inl rfl | exact .inr rfl | assumption) : PGD X A (.Name x pos) ks false (gName i) (wgName i) := ⟨pg_name hN hi hx hf, ger_name hi'⟩
theorem pgds_nil : PGDs X A [] ks gNil wgNil := ⟨pgs_nil, ger_nil⟩
theorem pgds_cons {e : Expr} {es : List Expr} (h1 : PGD X A e ks false g w) (h2 : PGDs X A es ks gs ws) (hs : (assignEach (e :: es) X.env).map (·.2) = assign e X.env :: (assignEach es X.env).map (·.2) := by rfl) : PGDs X A (e :: es) ks (gCons g gs) (wgCons w ws) := ⟨pgs_cons h1.pg h2.pg hs, ger_cons h1.er h2.er⟩
theorem pgd_tup {es : List Expr} {k : Nat} {n : Nat} {u : Bool} {pos : Pos} (hc : X.calm = true) (h : PGDs X A es ks gs ws) (hn : (assignEach es X.env).length = n := by rfl) (hst : (assignEach es X.env).findIdx? (·.1) = none := by rfl) : PGD X A (.Tuple es k pos) ks u (gTup X.K n gs) (wgTup n ws) := ⟨pg_tup hc h.pg hn hst, ger_tup h.er⟩
end

/-! ### statements -/
structure Fin (A : Amb) (F0 H0 F H : Hp) : Prop where
  ex : Ex F0 F
  keep : ∀ a o, H0 a = some o → a ∉ A.rs → H a = some o ∧ F a = F0 a
  liv : ∀ a, H0 a ≠ none → H a ≠ none
structure SSt (A : Amb) (K : PySem.W.Frag) (F0 H0 : Hp) (σ : St) (F H : Hp) (e : En) : Prop where
  sta : Sta A K σ F H e
  fin : Fin A F0 H0 F H
  fr : ∀ i p, Owns e σ i p → H0 p = none
structure EndsP where
  nx : En → Prop
  rt : Rs → Nat → Prop
  bk : En → Prop := fun _ => False
  ct : En → Prop := fun _ => False
abbrev WS := EndsP → En → Prop
def RvR (K : PySem.W.Frag) (A : Amb) (H0 F H : Hp) (v : V) : Rs → Prop
  | .val a => RelA K F v a
  | .new o => ∃ p ho, v = .ref p ∧ H0 p = none ∧ F p = none ∧ H p = some ho ∧ OwR K F ho o ∧ p ∉ A.rs
  | .loan _ _ => False
def Rs.out : Rs → Rs
  | .loan _ o => .new o
  | r => r
/-- what the ends of the caller owe to the ends of the data -/
structure EndsR (A : Amb) (K : PySem.W.Frag) (F0 H0 Fn : Hp) (E : EndsP) (D : Ends) : Prop where
  nx : ∀ σ F H e, SSt A K F0 H0 σ F H e → Ex Fn F → E.nx e → D.nx σ H
  rt : ∀ v r F H n, Fin A F0 H0 F H → Ex F H → A.RI n H → (∀ a ∈ A.rs, F a = none) → RvR K A H0 F H v r → E.rt r n → D.rt v H
  bk : ∀ σ F H e, SSt A K F0 H0 σ F H e → Ex Fn F → E.bk e → D.bk σ H
  ct : ∀ σ F H e, SSt A K F0 H0 σ F H e → Ex Fn F → E.ct e → D.ct σ H
def SR (A : Amb) (K : PySem.W.Frag) (ts : TS) (w : WS) : Prop :=
  ∀ (F0 H0 : Hp) (σ : St) (F H : Hp) (e : En) (E : EndsP) (D : Ends), SSt A K F0 H0 σ F H e → w E e → EndsR A K F0 H0 F E D → ts D σ H
structure PSD (X : Cx) (A : Amb) (st : Stmt) (ts : TS) (w : WS) : Prop where
  ps : PS X st ts
  sr : SR A X.K ts w
structure PSDs (X : Cx) (A : Amb) (st : List Stmt) (ts : TS) (w : WS) : Prop where
  ps : PSs X st ts
  sr : SR A X.K ts w
section
variable {X : Cx} {A : Amb} {K : PySem.W.Frag} {σ σ' : St} {F F' F1 H H' H1 F0 H0 Fn : Hp} {e e' : En} {v : V} {a : Av} {st : Stmt} {sts : List Stmt} {t u : TS} {w z : WS} {ex : Expr} {te : TE} {we : WE} {tt : TT} {wt : WT} {pos : Pos} {E : EndsP} {D : Ends}
theorem SSt.step (S : SSt A K F0 H0 σ F H e) (T : Stp A σ F H e F' H' e') (S' : Sta A K σ F' H' e') : SSt A K F0 H0 σ F' H' e' :=
  ⟨S', ⟨S.fin.ex.trans T.ex, fun a o h hr => by
    obtain ⟨h1, g1⟩ := S.fin.keep a o h hr
    obtain ⟨h2, g2⟩ := T.keep a o h1 hr fun i z => by
      have := S.fr i a z
      rw [h] at this; cases this
    exact ⟨h2, g2.trans g1⟩, fun a h => T.liv a (S.fin.liv a h)⟩, fun i p h => S.fr i p (T.own i p h)⟩
theorem SSt.nil0 (S : SSt A K F0 H0 σ F H e) {p : Addr} (h : H p = none) : H0 p = none := by
  cases z : H0 p with
  | none => rfl
  | some w => exact absurd h (S.fin.liv p (by rw [z]; simp))
theorem EndsR.mono (R : EndsR A K F0 H0 Fn E D) (x : Ex Fn F) : EndsR A K F0 H0 F E D := ⟨fun σ F1 H e S y => R.nx σ F1 H e S (x.trans y), R.rt, fun σ F1 H e S y => R.bk σ F1 H e S (x.trans y), fun σ F1 H e S y => R.ct σ F1 H e S (x.trans y)⟩
/-! a block -/
def wSkip : WS := fun E e => E.nx e
def wSeq (w z : WS) : WS := fun E e => w { E with nx := fun e' => z E e' } e
theorem sr_next : SR A K tNext wSkip := fun F0 H0 σ F H e E D S h R => R.nx σ F H e S (Ex.refl _) h
theorem sr_seq (h1 : SR A K t w) (h2 : SR A K u z) : SR A K (tSeq t u) (wSeq w z) := fun F0 H0 σ F H e E D S h R =>
  h1 F0 H0 σ F H e _ _ S h ⟨fun σ1 F1 H1 e1 S1 x1 q => h2 F0 H0 σ1 F1 H1 e1 E D S1 q (R.mono x1), R.rt, R.bk, R.ct⟩
theorem psds_nil : PSDs X A [] tNext wSkip := ⟨pss_nil, sr_next⟩
theorem psds_cons (h1 : PSD X A st t w) (h2 : PSDs X A sts u z) : PSDs X A (st :: sts) (tSeq t u) (wSeq w z) := ⟨pss_cons h1.ps h2.ps, sr_seq h1.sr h2.sr⟩
theorem psds_one (h1 : PSD X A st t w) : PSDs X A [st] t w := ⟨pss_one h1.ps, h1.sr⟩
theorem psd_pass : PSD X A (.Pass pos) tNext wSkip := ⟨ps_pass, sr_next⟩
/-! e -/
def wDrop (we : WE) : WS := fun E e => we e fun _ e1 => E.nx e1
theorem sr_drop (h : ER A K te we) : SR A K (tDrop te) (wDrop we) := fun F0 H0 σ F H e E D S q R =>
  h σ F H e _ S.sta q _ fun v r F1 H1 e1 T1 S1 R1 p1 => R.nx σ F1 H1 e1 (S.step T1 S1) T1.ex p1
theorem psd_expr (h : PD X A ex te we) (hs : swapsWith ex none pos.line X.env = pure false := by rfl) : PSD X A (.Expr ex pos) (tDrop te) (wDrop we) := ⟨ps_expr h.pe hs, sr_drop h.er⟩
/-! return -/
def wRet (we : WE) : WS := fun E e => we e fun r e1 => E.rt r.out e1.n
theorem RsR.out {r : Rs} (S : SSt A K F0 H0 σ F H e) (h : RsR K A σ H1 F H e v r) (hn : ∀ p, H1 p = none → H0 p = none) : RvR K A H0 F H v r.out := by
  cases r with
  | val a => exact h
  | new o => obtain ⟨p, ho, e1, h0, f, g, q, nr, _⟩ := h; exact ⟨p, ho, e1, hn p h0, f, g, q, nr⟩
  | loan i o =>
    obtain ⟨h1, h2⟩ := h
    obtain ⟨p, ho, e1, f, g, q⟩ := S.sta.at_ i _ h1
    rw [h2] at e1
    have ev : v = .ref p := by simpa using e1
    subst ev
    have own : Owns e σ i p := ⟨⟨o, h1⟩, h2⟩
    exact ⟨p, ho, rfl, S.fr i p own, f, g, q, S.sta.rsO i p own⟩
theorem sr_ret (h : ER A K te we) : SR A K (tRet te) (wRet we) := fun F0 H0 σ F H e E D S q R =>
  h σ F H e _ S.sta q _ fun v r F1 H1 e1 T1 S1 R1 p1 =>
    have S' := S.step T1 S1
    R.rt v r.out F1 H1 e1.n S'.fin S1.ex S1.ri S1.rsF (R1.out S' fun p hp => S.nil0 hp) p1
theorem psd_ret (h : PD X A ex te we) : PSD X A (.Return (some ex) pos) (tRet te) (wRet we) := ⟨ps_ret h.pe, sr_ret h.er⟩
def wRetN : WS := fun E e => E.rt (.val (.dat .none)) e.n
theorem sr_retN : SR A K tRetN wRetN := fun F0 H0 σ F H e E D S q R => R.rt .non (.val (.dat .none)) F H e.n S.fin S.sta.ex S.sta.ri S.sta.rsF .non q
theorem psd_retN : PSD X A (.Return none pos) tRetN wRetN := ⟨ps_retN, sr_retN⟩
/-! break, continue -/
def wBrk : WS := fun E e => E.bk e
def wCnt : WS := fun E e => E.ct e
theorem psd_break : PSD X A (.Break pos) tBreak wBrk := ⟨ps_break, fun F0 H0 σ F H e E D S q R => R.bk σ F H e S (Ex.refl _) q⟩
theorem psd_continue : PSD X A (.Continue pos) tCont wCnt := ⟨ps_continue, fun F0 H0 σ F H e E D S q R => R.ct σ F H e S (Ex.refl _) q⟩
/-! a statement that is never reached -/
def wNever : WS := fun _ _ => False
theorem psd_never : PSD X A st tNever wNever := ⟨ps_never, fun F0 H0 σ F H e E D S q R => q.elim⟩
/-! if -/
def wIfS (c : WT) (w z : WS) : WS := fun E e => c e fun b e1 => if b = true then w E e1 else z E e1
theorem sr_if (hc : ETR A K tt wt) (h1 : SR A K t w) (h2 : SR A K u z) : SR A K (tIfS tt t u) (wIfS wt w z) := fun F0 H0 σ F H e E D S q R =>
  hc σ F H e _ S.sta q _ fun b F1 H1 e1 T1 S1 p1 => by
    cases b with
    | true => exact h1 F0 H0 σ F1 H1 e1 E D (S.step T1 S1) p1 (R.mono T1.ex)
    | false => exact h2 F0 H0 σ F1 H1 e1 E D (S.step T1 S1) p1 (R.mono T1.ex)
theorem psd_if {c : Expr} {s1 s2 : List Stmt} (hc : PDT X A c tt wt) (h1 : PSDs X A s1 t w) (h2 : PSDs X A s2 u z) : PSD X A (.If c s1 s2 pos) (tIfS tt t u) (wIfS wt w z) := ⟨ps_if hc.pt h1.ps h2.ps, sr_if hc.er h1.sr h2.sr⟩
/-! x = e -/
def wSet (i : Nat) (we : WE) : WS := fun E e => we e fun r e1 => match r with
  | .val a => E.nx (e1.set i (.im a))
  | .new o => E.nx (e1.set i (.ow o))
  | .loan _ _ => False
theorem SSt.setIm (S : SSt A K F0 H0 σ F H e) (i : Nat) (h : RelA K F v a) : SSt A K F0 H0 (σ.set i (some v)) F H (e.set i (.im a)) :=
  let ⟨S', ow⟩ := S.sta.setIm i h
  ⟨S', S.fin, fun j p z => S.fr j p (ow j p z).1⟩
theorem sr_set {i : Nat} (h : ER A K te we) : SR A K (tAsg te (gName i)) (wSet i we) := fun F0 H0 σ F H e E D S q R =>
  h σ F H e _ S.sta q _ fun v r F1 H1 e1 T1 S1 R1 p1 => by
    have S' := S.step T1 S1
    match r, R1, p1 with
    | .val a, R1, p1 => exact R.nx _ F1 H1 _ (S'.setIm i R1) T1.ex p1
    | .new o, ⟨p, ho, ev, h0, f, g, q, nr, no⟩, p1 =>
      subst ev
      obtain ⟨S2, ow⟩ := S1.setOw i f g q nr no
      exact R.nx _ F1 H1 _ ⟨S2, S'.fin, fun j p' z => by
        rcases ow j p' z with ⟨_, z2⟩ | ⟨z2, _⟩
        · subst z2; exact S.nil0 h0
        · exact S'.fr j p' z2⟩ T1.ex p1
theorem psd_set {i : Nat} {x : Str} {px : Pos} (hN : X.N.Nodup) (hi : X.N[i]? = some x) (hx : Loc X.env.scope x) (h : PD X A ex te we) (hs : swapsWith ex (some (.Name x px)) pos.line X.env = pure false := by rfl)
    (hf : X.fn x = true ∨ X.env.scope.names.lookup x = some .local := by first | exact .inl rfl | exact .inr rfl | assumption) : PSD X A (.Assign [.Name x px] ex pos) (tAsg te (gName i)) (wSet i we) := ⟨ps_set hN hi hx h.pe hs hf, sr_set h.er⟩
end
end PL

namespace PL
open PySem L2

/-! ### stores to several names -/
/-- no slot of its own -/
def nOw : Sl → Prop
  | .ow _ => False
  | _ => True
def noOw (e : En) : List Nat → Prop
  | [] => True
  | k :: ks => (match e.sl[k]? with
    | some s => nOw s
    | none => True) ∧ noOw e ks
theorem noOw.owns {A : Amb} {K : PySem.W.Frag} {σ : St} {e : En} : ∀ {ks : List Nat}, noOw e ks → ∀ j p, j ∈ ks → ¬ Owns e σ j p
  | [], _, j, p, h => by cases h
  | k :: ks, ⟨h1, h2⟩, j, p, h => by
    rcases List.mem_cons.mp h with rfl | h
    · rintro ⟨⟨o, z⟩, _⟩
      rw [z] at h1
      exact h1
    · exact noOw.owns (A := A) (K := K) h2 j p h
def wAsg (ks : List Nat) (wg : WG) (we : WE) : WS := fun E e => we e fun r e1 => match r with
  | .val (.dat d) => noOw e1 ks ∧ wg d e1 E.nx
  | _ => False
section
variable {X : Cx} {A : Amb} {K : PySem.W.Frag} {σ σ' : St} {F F' F1 H H' H1 F0 H0 Fn : Hp} {e e' : En} {v : V} {a : Av} {t u : TS} {w z : WS} {ex : Expr} {te : TE} {we : WE} {tt : TT} {wt : WT} {pos : Pos} {g : TG} {wg : WG} {ks : List Nat} {ta : TA} {wa : WA} {tb : TS} {wb : WS}
theorem SSt.gs (S : SSt A K F0 H0 σ F H e) (G : GS ks σ e σ' e') (S' : Sta A K σ' F H e') : SSt A K F0 H0 σ' F H e' := ⟨S', S.fin, fun i p h => S.fr i p (G.own i p h)⟩
theorem sr_asg (h : ER A K te we) (hg : GER A K ks false g wg) : SR A K (tAsg te g) (wAsg ks wg we) := fun F0 H0 σ F H e E D S q R =>
  h σ F H e _ S.sta q _ fun v r F1 H1 e1 T1 S1 R1 p1 => by
    have S' := S.step T1 S1
    match r, R1, p1 with
    | .val (.dat d), R1, ⟨hn, p1⟩ =>
      exact hg σ F1 H1 e1 d v _ S1 R1 (hn.owns (A := A) (K := K)) p1 _ fun σ2 e2 G2 S2 p2 => R.nx σ2 F1 H1 e2 (S'.gs G2 S2) T1.ex p2
theorem psd_asg {tg : Expr} (h : PD X A ex te we) (hg : PGD X A tg ks false g wg) (hs : swapsWithSole [tg] ex pos.line X.env = pure false := by rfl) (hw : swappedStores [tg] ex X.env = pure none := by rfl)
    (h1 : (assignEach [tg] X.env).map (·.2) = [assign tg X.env] := by rfl) : PSD X A (.Assign [tg] ex pos) (tAsg te g) (wAsg ks wg we) := ⟨ps_asg h.pe hg.pg hs hw h1, sr_asg h.er hg.er⟩
/-! a, b = x, y -/
def Rs.sl : Rs → Option Sl
  | .val a => some (.im a)
  | .new o => some (.ow o)
  | .loan _ _ => none
/-- a result is put into a slot; other results stay what they are -/
theorem SSt.put {r : Rs} {x : Sl} {i : Nat} (S : SSt A K F0 H0 σ F H e) (h : RsR K A σ H1 F H e v r) (hn : ∀ p, H1 p = none → H0 p = none) (hx : r.sl = some x) : SSt A K F0 H0 (σ.set i (some v)) F H (e.set i x) ∧
    (∀ p, (∀ j, ¬ Owns e σ j p) → (∀ o, r = .new o → v ≠ .ref p) → ∀ j, ¬ Owns (e.set i x) (σ.set i (some v)) j p) := by
  match r, h, hx with
  | .val a, h, hx =>
    cases hx
    obtain ⟨S', ow⟩ := S.sta.setIm i h
    exact ⟨S.setIm i h, fun p hp _ j z => hp j (ow j p z).1⟩
  | .new o, ⟨p, ho, ev, h0, f, g, q, nr, no⟩, hx =>
    cases hx
    subst ev
    obtain ⟨S2, ow⟩ := S.sta.setOw i f g q nr no
    refine ⟨⟨S2, S.fin, fun j p' z => ?_⟩, fun p' hp hne j z => ?_⟩
    · rcases ow j p' z with ⟨_, z2⟩ | ⟨z2, _⟩
      · subst z2; exact hn _ h0
      · exact S.fr j p' z2
    · rcases ow j p' z with ⟨_, z2⟩ | ⟨z2, _⟩
      · subst z2; exact hne o rfl rfl
      · exact hp j z2
/-- two results are not the same new object: at most one is new, or the second was made later (told by the values) -/
def wPar (i j : Nat) (we wf : WE) : WS := fun E e => we e fun r e1 => wf e1 fun s e2 => match r.sl, s.sl with
  | some x, some y => E.nx ((e2.set i x).set j y)
  | _, _ => False
theorem RsR.ne {r s : Rs} {H2 : Hp} {e1 e2 : En} {x y : V} {F2 : Hp} {o o' : Ow} (h1 : RsR K A σ H0 F1 H1 e1 x (.new o)) (h2 : RsR K A σ H1 F2 H2 e2 y (.new o')) (p : Addr) (hx : x = .ref p) : y ≠ .ref p := by
  obtain ⟨p1, ho1, ev1, h01, f1, g1, _⟩ := h1
  obtain ⟨p2, ho2, ev2, h02, _⟩ := h2
  intro z
  rw [hx] at ev1
  rw [z] at ev2
  cases ev1; cases ev2
  rw [g1] at h02; cases h02
theorem sr_par {i j : Nat} {tf : TE} {wf : WE} (h1 : ER A K te we) (h2 : ER A K tf wf) : SR A K (tPar i j (tCons te (tCons tf tNil))) (wPar i j we wf) := fun F0 H0 σ F H e E D S q R =>
  h1 σ F H e _ S.sta q _ fun x r F1 H1 e1 T1 S1 R1 p1 => h2 σ F1 H1 e1 _ S1 p1 _ fun y s F2 H2 e2 T2 S2 R2 p2 => by
    have S' := (S.step T1 S1).step T2 S2
    refine ⟨x, y, rfl, ?_⟩
    revert p2
    cases hr : r.sl with
    | none => exact fun p2 => p2.elim
    | some sx =>
      cases hs : s.sl with
      | none => exact fun p2 => p2.elim
      | some sy =>
        intro p2
        have hn1 : ∀ p, H1 p = none → H p = none := fun p hp => by
          cases z : H p with
          | none => rfl
          | some w => exact absurd hp (T1.liv p (by rw [z]; simp))
        have R1' : RsR K A σ H F2 H2 e2 x r := R1.step T2 (by cases r with
          | loan i o => cases hr
          | _ => trivial)
        obtain ⟨S3, no3⟩ := S'.put (i := i) R1' (fun p hp => S.nil0 hp) hr
        have R2' : RsR K A (σ.set i (some x)) H1 F2 H2 (e2.set i sx) y s := by
          match s, R2, hs with
          | .val a, R2, _ => exact R2
          | .new o, R2, _ =>
            obtain ⟨p, ho, ev, h0, f, g, q, nr, no⟩ := id R2
            refine ⟨p, ho, ev, h0, f, g, q, nr, no3 p no fun o' e' z => ?_⟩
            subst e'
            exact RsR.ne (r := .new o') (s := .new o) R1 R2 p z ev
        obtain ⟨S4, _⟩ := S3.put (i := j) R2' (fun p hp => S.nil0 (hn1 p hp)) hs
        exact R.nx _ F2 H2 _ S4 (T1.ex.trans T2.ex) p2
theorem psd_par {i j : Nat} {x y : Str} {a b : Expr} {tf : TE} {wf : WE} {px py pt : Pos} {kt k2 pt2} (hc : X.calm = true) (hN : X.N.Nodup) (hi : X.N[i]? = some x) (hj : X.N[j]? = some y) (hij : i ≠ j)
    (hx : X.env.scope.names.lookup x = some .local) (hy : X.env.scope.names.lookup y = some .local) (ha : PD X A a te we) (hb : PD X A b tf wf)
    (hw : swappedStores [.Tuple [.Name x px, .Name y py] kt pt] (.Tuple [a, b] k2 pt2) X.env = pure (some [x, y]))
    (hs1 : starEach [a, b] X.env = (false, eval a X.env) :: starEach [b] X.env := by rfl) (hs2 : starEach [b] X.env = (false, eval b X.env) :: starEach [] X.env := by rfl)
    (hs : swapsWithSole [.Tuple [.Name x px, .Name y py] kt pt] (.Tuple [a, b] k2 pt2) pos.line X.env = pure false := by rfl) :
    PSD X A (.Assign [.Tuple [.Name x px, .Name y py] kt pt] (.Tuple [a, b] k2 pt2) pos) (tPar i j (tCons te (tCons tf tNil))) (wPar i j we wf) :=
  ⟨ps_par hc hN hi hj hij hx hy (pa_cons ha.pe (pa_cons hb.pe pa_nil hs2) hs1) hw hs, sr_par ha.er hb.er⟩
def wPar3 (i j l : Nat) (we wf wh : WE) : WS := fun E e => we e fun r e1 => wf e1 fun s e2 => wh e2 fun t e3 => match r.sl, s.sl, t.sl with
  | some x, some y, some z => E.nx (((e3.set i x).set j y).set l z)
  | _, _, _ => False
theorem sr_par3 {i j l : Nat} {tf th : TE} {wf wh : WE} (h1 : ER A K te we) (h2 : ER A K tf wf) (h3 : ER A K th wh) : SR A K (tPar3 i j l (tCons te (tCons tf (tCons th tNil)))) (wPar3 i j l we wf wh) := fun F0 H0 σ F H e E D S q R =>
  h1 σ F H e _ S.sta q _ fun x r F1 H1 e1 T1 S1 R1 p1 => h2 σ F1 H1 e1 _ S1 p1 _ fun y s F2 H2 e2 T2 S2 R2 p2 => h3 σ F2 H2 e2 _ S2 p2 _ fun z t F3 H3 e3 T3 S3 R3 p3 => by
    have S' := ((S.step T1 S1).step T2 S2).step T3 S3
    refine ⟨x, y, z, rfl, ?_⟩
    revert p3
    cases hr : r.sl with
    | none => exact fun p2 => p2.elim
    | some sx =>
      cases hs : s.sl with
      | none => exact fun p2 => p2.elim
      | some sy =>
        cases ht : t.sl with
        | none => exact fun p2 => p2.elim
        | some sz =>
          intro p3
          have back : ∀ {H H1 : Hp}, (∀ a, H a ≠ none → H1 a ≠ none) → ∀ p, H1 p = none → H p = none := fun {H H1} h p hp => by
            cases z : H p with
            | none => rfl
            | some w => exact absurd hp (h p (by rw [z]; simp))
          have kp : ∀ {r : Rs} {s : Sl} {e : En}, r.sl = some s → r.kept e := fun {r s e} h => by
            cases r with
            | loan i o => cases h
            | _ => trivial
          have R1' := (R1.step T2 (kp hr)).step T3 (kp hr)
          have R2' := R2.step T3 (kp hs)
          obtain ⟨S4, no4⟩ := S'.put (i := i) R1' (fun p hp => S.nil0 hp) hr
          have R2a : RsR K A (σ.set i (some x)) H1 F3 H3 (e3.set i sx) y s := by
            match s, R2, R2', hs with
            | .val a, _, R2', _ => exact R2'
            | .new o, R2, R2', _ =>
              obtain ⟨p, ho, ev, h0, f, g, q, nr, no⟩ := id R2'
              refine ⟨p, ho, ev, h0, f, g, q, nr, no4 p no fun o' e' z => ?_⟩
              subst e'
              exact RsR.ne (r := .new o') (s := .new o) R1 R2 p z ev
          obtain ⟨S5, no5⟩ := S4.put (i := j) R2a (fun p hp => S.nil0 (back T1.liv p hp)) hs
          have R3a : RsR K A ((σ.set i (some x)).set j (some y)) H2 F3 H3 ((e3.set i sx).set j sy) z t := by
            match t, R3, ht with
            | .val a, R3, _ => exact R3
            | .new o, R3, _ =>
              obtain ⟨p, ho, ev, h0, f, g, q, nr, no⟩ := id R3
              refine ⟨p, ho, ev, h0, f, g, q, nr, no5 p (no4 p no fun o' e' z => ?_) fun o' e' z => ?_⟩
              · subst e'
                exact RsR.ne (r := .new o') (s := .new o) (R1.step T2 trivial) R3 p z ev
              · subst e'
                exact RsR.ne (r := .new o') (s := .new o) R2 R3 p z ev
          obtain ⟨S6, _⟩ := S5.put (i := l) R3a (fun p hp => S.nil0 (back T1.liv p (back T2.liv p hp))) ht
          exact R.nx _ F3 H3 _ S6 ((T1.ex.trans T2.ex).trans T3.ex) p3
theorem psd_par3 {i j l : Nat} {x y z : Str} {a b c : Expr} {tf th : TE} {wf wh : WE} {px py pz pt : Pos} {kt k2 pt2} (hc : X.calm = true) (hN : X.N.Nodup) (hi : X.N[i]? = some x) (hj : X.N[j]? = some y) (hl : X.N[l]? = some z) (hij : i ≠ j) (hil : i ≠ l) (hjl : j ≠ l)
    (hx : X.env.scope.names.lookup x = some .local) (hy : X.env.scope.names.lookup y = some .local) (hz : X.env.scope.names.lookup z = some .local) (ha : PD X A a te we) (hb : PD X A b tf wf) (hd : PD X A c th wh)
    (hw : swappedStores [.Tuple [.Name x px, .Name y py, .Name z pz] kt pt] (.Tuple [a, b, c] k2 pt2) X.env = pure (some [x, y, z]))
    (hs1 : starEach [a, b, c] X.env = (false, eval a X.env) :: starEach [b, c] X.env := by rfl) (hs2 : starEach [b, c] X.env = (false, eval b X.env) :: starEach [c] X.env := by rfl) (hs3 : starEach [c] X.env = (false, eval c X.env) :: starEach [] X.env := by rfl)
    (hs : swapsWithSole [.Tuple [.Name x px, .Name y py, .Name z pz] kt pt] (.Tuple [a, b, c] k2 pt2) pos.line X.env = pure false := by rfl) :
    PSD X A (.Assign [.Tuple [.Name x px, .Name y py, .Name z pz] kt pt] (.Tuple [a, b, c] k2 pt2) pos) (tPar3 i j l (tCons te (tCons tf (tCons th tNil)))) (wPar3 i j l we wf wh) :=
  ⟨ps_par3 hc hN hi hj hl hij hil hjl hx hy hz (pa_cons ha.pe (pa_cons hb.pe (pa_cons hd.pe pa_nil hs3) hs2) hs1) hw hs, sr_par3 ha.er hb.er hd.er⟩

/-! ### while -/
def wWhile (c : WT) (wb : WS) : WS := fun E e => ∃ I : Nat → En → Prop, (∃ m, I m e) ∧ ∀ m e, I m e → c e fun b e1 =>
  if b = true then wb { nx := fun e' => ∃ m', m' < m ∧ I m' e', ct := fun e' => ∃ m', m' < m ∧ I m' e', bk := E.nx, rt := E.rt } e1 else E.nx e1
theorem sr_while (hc : ETR A K tt wt) (hb : SR A K tb wb) : SR A K (tWhile tt tb) (wWhile wt wb) := fun F0 H0 σ F H e E D S ⟨I, ⟨m0, i0⟩, turn⟩ R => by
  refine ⟨fun m σ H => ∃ F' e, SSt A K F0 H0 σ F' H e ∧ Ex F F' ∧ I m e, ⟨m0, F, e, S, Ex.refl _, i0⟩, ?_⟩
  rintro m σ H ⟨F', e, S, x, hi⟩
  refine hc σ F' H e _ S.sta (turn m e hi) _ fun b F1 H1 e1 T1 S1 p1 => ?_
  have S' := S.step T1 S1
  cases b with
  | false => exact R.nx σ F1 H1 e1 S' (x.trans T1.ex) p1
  | true =>
    refine ⟨fun σ' H' => ∃ m', m' < m ∧ ∃ F' e, SSt A K F0 H0 σ' F' H' e ∧ Ex F F' ∧ I m' e, fun σ' H' z => z, ?_⟩
    refine hb F0 H0 σ F1 H1 e1 _ _ S' p1 ⟨fun σ2 F2 H2 e2 S2 x2 ⟨m', h1, h2⟩ => ⟨m', h1, F2, e2, S2, (x.trans T1.ex).trans x2, h2⟩, R.rt, fun σ2 F2 H2 e2 S2 x2 h2 => R.nx σ2 F2 H2 e2 S2 ((x.trans T1.ex).trans x2) h2, fun σ2 F2 H2 e2 S2 x2 ⟨m', h1, h2⟩ => ⟨m', h1, F2, e2, S2, (x.trans T1.ex).trans x2, h2⟩⟩
theorem psd_while {c : Expr} {body : List Stmt} (hp : PassesOwn (model X.prog X.w) X.A X.env X.xe) (hc : PDT X A c tt wt) (hb : PSDs X A body tb wb) : PSD X A (.While c body [] pos) (tWhile tt tb) (wWhile wt wb) := ⟨ps_while hp hc.pt hb.ps, sr_while hc.er hb.sr⟩

/-! ### what a loop walks -/
structure ItR (K : PySem.W.Frag) (u : Bool) (J : It) (F : Hp) (ds : List D) : Prop where
  go : ∀ i F1 H1, Ex F F1 → Ex F1 H1 → i < ds.length → J.go i H1
  yld : ∀ i F1 H1 x H2 d, Ex F F1 → Ex F1 H1 → J.yld i H1 x H2 → ds[i]? = some d → (H2 = H1 ∧ RDu K F1 u x d) ∨ ∃ p ho, H1 p = none ∧ H2 = upd H1 p ho ∧ RDu K (upd F1 p ho) u x d
  stop : ∀ F1 H1, Ex F F1 → Ex F1 H1 → J.stop ds.length H1
abbrev WI := En → (List D → En → Prop) → Prop
def IER (A : Amb) (K : PySem.W.Frag) (u : Bool) (wi : TI) (w : WI) : Prop :=
  ∀ (σ : St) (F H : Hp) (e : En) (post : List D → En → Prop), Sta A K σ F H e → w e post → ∀ R : It → Hp → Prop,
    (∀ J ds F' H' e', Stp A σ F H e F' H' e' → Sta A K σ F' H' e' → ItR K u J F' ds → post ds e' → R J H') → wi σ H R
structure PID (X : Cx) (A : Amb) (tg iter : Expr) (u : Bool) (wi : TI) (w : WI) : Prop where
  pi : PI X tg iter wi
  er : IER A X.K u wi w
/-- over a list or a tuple -/
def iSeq (K : PySem.W.Frag) (tl : TE) : TI := fun σ H R => tl σ H fun x H1 => ∃ a, x = .ref a ∧ (((∃ xs, SqL K H1 a xs) ∧ R (Itl K a) H1) ∨ ((∃ xs, SqT K H1 a xs) ∧ R (Itt K a) H1))
theorem pi_seq {tg l : Expr} {tl : TE} (hl : PE X l tl) : PI X tg l (iSeq X.K tl) := by
  refine ⟨fun pins s σ H R I h => ?_⟩
  refine thn (hl.run pins s σ H _ I h) fun v s1 ⟨x, H1, I1, r1, a, e, q1⟩ => ?_
  subst e
  cases r1
  rcases q1 with ⟨⟨xs, hq⟩, q⟩ | ⟨⟨xs, hq⟩, q⟩
  · obtain ⟨its, rv, p, hz⟩ := I1.list hq
    refine wpAny_pyIter_list p.isList ?_
    refine ⟨s1.heap.objs.size, [s1.heap.objs.size], _, _, H1, rfl, I1.kept (t' := s1.toks) fun b o e => Heap.get?_push_of_some _ e, turn_list a _, ⟨_, Heap.get?_push_size _ rfl, rfl, rfl⟩, fun b hb => ?_, q⟩
    have e : b = s1.heap.objs.size := by simpa using hb
    subst e
    exact I1.fpOk (Nat.le_refl _) (I1.hok.fresh (Nat.le_refl _))
  · obtain ⟨its, rv, p, hz⟩ := I1.tuple hq
    refine wpAny_pyIter_tuple (show s1.heap.IsTuple a its.toArray from p) ?_
    refine ⟨s1.heap.objs.size, [s1.heap.objs.size], _, _, H1, rfl, I1.kept (t' := s1.toks) fun b o e => Heap.get?_push_of_some _ e, turn_tuple a _, ⟨_, Heap.get?_push_size _ rfl, rfl, rfl⟩, fun b hb => ?_, q⟩
    have e : b = s1.heap.objs.size := by simpa using hb
    subst e
    exact I1.fpOk (Nat.le_refl _) (I1.hok.fresh (Nat.le_refl _))
def wiSeq (we : WE) : WI := fun e post => we e fun r e1 => match r.av with
  | .dat (.list ds) => post ds (frz1 e1 r)
  | .dat (.tuple ds) => post ds (frz1 e1 r)
  | _ => False
theorem itr_list {a : Addr} {vs : List V} {ds : List D} (h : F a = some (.lst vs)) (r : RDs K F vs ds) : ItR K false (Itl K a) F ds := by
  have l := r.length
  refine ⟨fun i F1 H1 x y hi => ?_, fun i F1 H1 v H2 d x y ⟨hH, hv⟩ hd => .inl ⟨hH, ?_⟩, fun F1 H1 x y => ⟨vs, SqL.of (y _ _ (x _ _ h)), Nat.le_of_eq l⟩⟩
  · exact ⟨vs, vs[i], SqL.of (y _ _ (x _ _ h)), by simp [l, hi]⟩
  · obtain ⟨v', hv', rd⟩ := r.get hd
    have := hv vs (SqL.of (y _ _ (x _ _ h)))
    rw [hv'] at this; cases this
    exact rd.ext x
theorem itr_tup {a : Addr} {vs : List V} {ds : List D} (h : TupR K F a vs) (r : RDs K F vs ds) : ItR K false (Itt K a) F ds := by
  have l := r.length
  refine ⟨fun i F1 H1 x y hi => ?_, fun i F1 H1 v H2 d x y ⟨hH, hv⟩ hd => .inl ⟨hH, ?_⟩, fun F1 H1 x y => ⟨vs, y.sqt (x.sqt h.sqt), Nat.le_of_eq l⟩⟩
  · exact ⟨vs, vs[i], y.sqt (x.sqt h.sqt), by simp [l, hi]⟩
  · obtain ⟨v', hv', rd⟩ := r.get hd
    have := hv vs (y.sqt (x.sqt h.sqt))
    rw [hv'] at this; cases this
    exact rd.ext x
/-- a list or a tuple, frozen -/
theorem frzSeq {r : Rs} {e0 : En} (B : Stp A σ F0 H0 e0 F H e) (S : Sta A K σ F H e) (h : RsR K A σ H0 F H e v r) {ds : List D} (hr : r.av = .dat (.list ds) ∨ r.av = .dat (.tuple ds)) :
    ∃ F', Stp A σ F0 H0 e0 F' H (frz1 e r) ∧ Sta A K σ F' H (frz1 e r) ∧ ∃ a vs, v = .ref a ∧ RDs K F' vs ds ∧ ((r.av = .dat (.list ds) ∧ F' a = some (.lst vs)) ∨ (r.av = .dat (.tuple ds) ∧ TupR K F' a vs)) := by
  obtain ⟨F', B', S', x, rel, _⟩ := freeze1 B S (.inr h)
  refine ⟨F', B', S', ?_⟩
  rcases hr with hr | hr
  · rw [hr] at rel
    have rel : RD K F' v (.list ds) := rel
    cases rel with
    | lst h1 h2 => exact ⟨_, _, rfl, h2, .inl ⟨hr, h1⟩⟩
  · rw [hr] at rel
    have rel : RD K F' v (.tuple ds) := rel
    cases rel with
    | tup h1 h2 => exact ⟨_, _, rfl, h2, .inr ⟨hr, h1⟩⟩
theorem ier_seq (h : ER A K te we) : IER A K false (iSeq K te) (wiSeq we) := by
  intro σ F H e post S q R k
  refine h σ F H e _ S q _ fun v r F1 H1 e1 T1 S1 R1 h1 => ?_
  have go : ∀ ds, (r.av = .dat (.list ds) ∨ r.av = .dat (.tuple ds)) → post ds (frz1 e1 r) → ∃ a, v = .ref a ∧ (((∃ xs, SqL K H1 a xs) ∧ R (Itl K a) H1) ∨ ((∃ xs, SqT K H1 a xs) ∧ R (Itt K a) H1)) := fun ds hr hp => by
    obtain ⟨F2, B2, S2, a, vs, ev, rd, q⟩ := frzSeq T1 S1 R1 hr
    refine ⟨a, ev, ?_⟩
    rcases q with ⟨_, q⟩ | ⟨_, q⟩
    · exact .inl ⟨⟨vs, SqL.of (S2.ex _ _ q)⟩, k _ ds F2 H1 _ B2 S2 (itr_list q rd) hp⟩
    · exact .inr ⟨⟨vs, S2.ex.sqt q.sqt⟩, k _ ds F2 H1 _ B2 S2 (itr_tup q rd) hp⟩
  revert h1
  cases hr : r.av with
  | dat d =>
    cases d with
    | list ds => exact fun h1 => go ds (.inl hr) h1
    | tuple ds => exact fun h1 => go ds (.inr hr) h1
    | _ => exact fun h1 => h1.elim
  | _ => exact fun h1 => h1.elim
theorem pid_seq {tg l : Expr} (h : PD X A l te we) : PID X A tg l false (iSeq X.K te) (wiSeq we) := ⟨pi_seq h.pe, ier_seq h.er⟩
/-! range -/
def rngD (lo : Int) (n : Nat) : List D := (List.range n).map fun (i : Nat) => PyData.int (lo + (i : Int))
def wiRng1 (we : WE) : WI := fun e post => we e fun r e1 => match r.av with
  | .dat (.int j) => -(2 ^ 62) ≤ j ∧ j < 2 ^ 62 ∧ post (rngD 0 j.toNat) e1
  | _ => False
def wiRng2 (we wf : WE) : WI := fun e post => we e fun r e1 => wf e1 fun s e2 => match r, s.av with
  | .val (.dat (.int i)), .dat (.int j) => -(2 ^ 62) ≤ i ∧ i < 2 ^ 62 ∧ -(2 ^ 62) ≤ j ∧ j < 2 ^ 62 ∧ post (rngD i (j - i).toNat) e2
  | _, _ => False
theorem itr_rng (lo : Int) (n : Nat) : ItR K false (Itr lo n) F (rngD lo n) := by
  have l : (rngD lo n).length = n := by simp [rngD]
  refine ⟨fun i F1 H1 x y hi => by rw [l] at hi; exact hi, fun i F1 H1 v H2 d x y ⟨hH, hv⟩ hd => .inl ⟨hH, ?_⟩, fun F1 H1 x y => Nat.le_of_eq l.symm⟩
  have hi : i < n := by
    have := (List.getElem?_eq_some_iff.mp hd).1
    rw [l] at this; exact this
  have e1 : d = .int (lo + (i : Int)) := by
    have h2 : (rngD lo n)[i]? = some (PyData.int (lo + (i : Int))) := by simp [rngD, hi]
    rw [h2] at hd; exact (Option.some.inj hd).symm
  rw [hv, e1]
  exact .int _
theorem RsR.vint {r : Rs} {i : Int} (h : RsR K A σ H0 F H e v r) (S : Sta A K σ F H e) (q : r.av = .dat (.int i)) : v = .int i := by
  have t := h.top S
  rw [q] at t
  exact t.vint
theorem ier_rng1 (h : ER A K te we) : IER A K false (iRng1 (tCons te tNil)) (wiRng1 we) := by
  intro σ F H e post S q R k
  refine h σ F H e _ S q _ fun v r F1 H1 e1 T1 S1 R1 h1 => ?_
  revert h1
  cases hr : r.av with
  | dat d =>
    cases d with
    | int j => exact fun ⟨h1, h2, h3⟩ => ⟨j, by rw [R1.vint S1 hr], h1, h2, k _ _ F1 H1 e1 T1 S1 (itr_rng 0 j.toNat) h3⟩
    | _ => exact fun h1 => h1.elim
  | _ => exact fun h1 => h1.elim
theorem ier_rng2 {tf : TE} {wf : WE} (h : ER A K te we) (h2 : ER A K tf wf) : IER A K false (iRng2 (tCons te (tCons tf tNil))) (wiRng2 we wf) := by
  intro σ F H e post S q R k
  refine h σ F H e _ S q _ fun v r F1 H1 e1 T1 S1 R1 h1 => ?_
  refine h2 σ F1 H1 e1 _ S1 h1 _ fun u s F2 H2 e2 T2 S2 R2 h2 => ?_
  match r, R1, h2 with
  | .val (.dat (.int i)), R1, h2 =>
    revert h2
    cases hs : s.av with
    | dat d =>
      cases d with
      | int j => exact fun ⟨a1, a2, a3, a4, h3⟩ => ⟨i, j, by rw [R1.vint S1 rfl, R2.vint S2 hs], ⟨a1, a2, a3, a4⟩, k _ _ F2 H2 e2 (T1.trans T2) S2 (itr_rng i (j - i).toNat) h3⟩
      | _ => exact fun h1 => h1.elim
    | _ => exact fun h1 => h1.elim
theorem pid_rng1 {tg x : Expr} {p : Pos} (hg : Gl X "range") (hm : X.mg "range" = none) (h : PD X A x te we) (hs : starEach [x] X.env = [(false, eval x X.env)] := by rfl) : PID X A tg (.Call (.Name "range" p) [x] [] pos) false (iRng1 (tCons te tNil)) (wiRng1 we) := ⟨pi_range1 hg hm (pa_cons h.pe pa_nil hs) hs, ier_rng1 h.er⟩
theorem pid_rng2 {tg x y : Expr} {tf : TE} {wf : WE} {p : Pos} (hg : Gl X "range") (hm : X.mg "range" = none) (h : PD X A x te we) (h2 : PD X A y tf wf) (hs : starEach [x, y] X.env = [(false, eval x X.env), (false, eval y X.env)] := by rfl) (hs2 : starEach [y] X.env = [(false, eval y X.env)] := by rfl) : PID X A tg (.Call (.Name "range" p) [x, y] [] pos) false (iRng2 (tCons te (tCons tf tNil))) (wiRng2 we wf) :=
  ⟨pi_range2 hg hm (pa_cons h.pe (pa_cons h2.pe pa_nil hs2) (by rw [hs, hs2])) hs hs2, ier_rng2 h.er h2.er⟩
/-! enumerate -/
def iEnumA (K : PySem.W.Frag) (ta : TA) : TI := fun σ H R => ta σ H fun vs H1 => ∃ a xs, vs = [.ref a] ∧ ((SqL K H1 a xs ∧ R (Ite K a) H1) ∨ (SqT K H1 a xs ∧ R (IteT K a) H1))
theorem pi_enumA {x : Expr} {p tpos : Pos} {elts : List Expr} {kk : Nat} (hg : Gl X "enumerate") (hm : X.mg "enumerate" = none) (ha : PA X [x] ta) (hs : starEach [x] X.env = [(false, eval x X.env)] := by rfl) :
    PI X (.Tuple elts kk tpos) (.Call (.Name "enumerate" p) [x] [] pos) (iEnumA X.K ta) := by
  refine ⟨fun pins s σ H R I h => ?_⟩
  refine PyProof.Rows.Call_ (ld_blt I hg hm PyProof.Rows.boot_enumerate (PyProof.Rows.callWith_type1 (thn (ha.run pos pins s σ H _ I h) fun us s1 ⟨vs, H1, I1, r1, q1⟩ => ?_) hs rfl))
  obtain ⟨a, xs, ex, q⟩ := q1
  subst ex
  cases r1 with
  | cons r rr =>
    cases rr
    cases r
    have fresh2 : ∀ b, b ∈ [s1.heap.objs.size + 1, s1.heap.objs.size] → FpOk X pins H1 b := fun b hb => by
      have e' : b = s1.heap.objs.size + 1 ∨ b = s1.heap.objs.size := by simpa using hb
      have hle : s1.heap.objs.size ≤ b := by
        rcases e' with z | z
        · rw [z]; exact Nat.le_add_right _ _
        · rw [z]; exact Nat.le_refl _
      exact I1.fpOk hle (I1.hok.fresh hle)
    rcases q with ⟨hq, q⟩ | ⟨hq, q⟩
    · obtain ⟨its, rv, p', hz⟩ := I1.list hq
      refine call_enumerate_list p'.isList fun h' he hit hsz hk => wpAny_pyIter_enum he ?_
      have I2 : L2.Inv X pins σ H1 { s1 with heap := h' } := I1.kept (t' := s1.toks) hk
      exact ⟨s1.heap.objs.size + 1, [s1.heap.objs.size + 1, s1.heap.objs.size], _, _, H1, rfl, I2, turn_enum a (s1.heap.objs.size + 1) s1.heap.objs.size, ⟨⟨.none, he⟩, hit, Nat.succ_ne_self _⟩, fresh2, q⟩
    · obtain ⟨its, rv, p', hz⟩ := I1.tuple hq
      refine call_enumT p' fun h' he hit hsz hk => wpAny_pyIter_enum he ?_
      have I2 : L2.Inv X pins σ H1 { s1 with heap := h' } := I1.kept (t' := s1.toks) hk
      exact ⟨s1.heap.objs.size + 1, [s1.heap.objs.size + 1, s1.heap.objs.size], _, _, H1, rfl, I2, turn_enumT a (s1.heap.objs.size + 1) s1.heap.objs.size, ⟨⟨.none, he⟩, hit, Nat.succ_ne_self _⟩, fresh2, q⟩
def enumD (ds : List D) : List D := ds.mapIdx fun i d => .tuple [.int (i : Nat), d]
def wiEnum (we : WE) : WI := fun e post => we e fun r e1 => match r.av with
  | .dat (.list ds) => post (enumD ds) (frz1 e1 r)
  | .dat (.tuple ds) => post (enumD ds) (frz1 e1 r)
  | _ => False
theorem enumD_get {ds : List D} {i : Nat} {d : D} (h : (enumD ds)[i]? = some d) : ∃ x, ds[i]? = some x ∧ d = .tuple [.int (i : Nat), x] := by
  unfold enumD at h
  rw [List.getElem?_mapIdx] at h
  obtain ⟨x, hx, e⟩ := Option.map_eq_some_iff.mp h
  exact ⟨x, hx, e.symm⟩
theorem enumD_len (ds : List D) : (enumD ds).length = ds.length := List.length_mapIdx
theorem rdu_pair {p : Addr} {i : Int} {x : V} {d : D} (r : RD K F x d) (h : F p = some (.tup [.int i, x])) : RDu K F true (.ref p) (.tuple [.int i, d]) :=
  ⟨p, _, _, rfl, .inl (.inl h), .cons (.int i) (.cons r .nil), rfl⟩
theorem itr_enumL {a : Addr} {vs : List V} {ds : List D} (h : F a = some (.lst vs)) (r : RDs K F vs ds) : ItR K true (Ite K a) F (enumD ds) := by
  have l := r.length
  refine ⟨fun i F1 H1 x y hi => ?_, fun i F1 H1 v H2 d x y ⟨T, w, ev, hT, hH, hv⟩ hd => .inr ⟨T, _, hT, hH, ?_⟩, fun F1 H1 x y => ⟨vs, SqL.of (y _ _ (x _ _ h)), by rw [enumD_len]; exact Nat.le_of_eq l⟩⟩
  · rw [enumD_len] at hi
    exact ⟨vs, vs[i], SqL.of (y _ _ (x _ _ h)), by simp [l, hi]⟩
  · obtain ⟨d', hd', e1⟩ := enumD_get hd
    obtain ⟨v', hv', rd⟩ := r.get hd'
    have := hv vs (SqL.of (y _ _ (x _ _ h)))
    rw [hv'] at this; cases this
    rw [ev, e1]
    have hF : F1 T = none := by
      cases z : F1 T with
      | none => rfl
      | some w => rw [y T w z] at hT; cases hT
    exact rdu_pair (rd.ext (x.trans (upd_old hF))) upd_same
theorem itr_enumT {a : Addr} {vs : List V} {ds : List D} (h : TupR K F a vs) (r : RDs K F vs ds) : ItR K true (IteT K a) F (enumD ds) := by
  have l := r.length
  refine ⟨fun i F1 H1 x y hi => ?_, fun i F1 H1 v H2 d x y ⟨T, w, ev, hT, hH, hv⟩ hd => .inr ⟨T, _, hT, hH, ?_⟩, fun F1 H1 x y => ⟨vs, y.sqt (x.sqt h.sqt), by rw [enumD_len]; exact Nat.le_of_eq l⟩⟩
  · rw [enumD_len] at hi
    exact ⟨vs, vs[i], y.sqt (x.sqt h.sqt), by simp [l, hi]⟩
  · obtain ⟨d', hd', e1⟩ := enumD_get hd
    obtain ⟨v', hv', rd⟩ := r.get hd'
    have := hv vs (y.sqt (x.sqt h.sqt))
    rw [hv'] at this; cases this
    rw [ev, e1]
    have hF : F1 T = none := by
      cases z : F1 T with
      | none => rfl
      | some w => rw [y T w z] at hT; cases hT
    exact rdu_pair (rd.ext (x.trans (upd_old hF))) upd_same
theorem ier_enum (h : ER A K te we) : IER A K true (iEnumA K (tCons te tNil)) (wiEnum we) := by
  intro σ F H e post S q R k
  refine h σ F H e _ S q _ fun v r F1 H1 e1 T1 S1 R1 h1 => ?_
  have go : ∀ ds, (r.av = .dat (.list ds) ∨ r.av = .dat (.tuple ds)) → post (enumD ds) (frz1 e1 r) → ∃ a xs, [v] = [.ref a] ∧ ((SqL K H1 a xs ∧ R (Ite K a) H1) ∨ (SqT K H1 a xs ∧ R (IteT K a) H1)) := fun ds hr hp => by
    obtain ⟨F2, B2, S2, a, vs, ev, rd, q⟩ := frzSeq T1 S1 R1 hr
    refine ⟨a, vs, by rw [ev], ?_⟩
    rcases q with ⟨_, q⟩ | ⟨_, q⟩
    · exact .inl ⟨SqL.of (S2.ex _ _ q), k _ _ F2 H1 _ B2 S2 (itr_enumL q rd) hp⟩
    · exact .inr ⟨S2.ex.sqt q.sqt, k _ _ F2 H1 _ B2 S2 (itr_enumT q rd) hp⟩
  revert h1
  cases hr : r.av with
  | dat d =>
    cases d with
    | list ds => exact fun h1 => go ds (.inl hr) h1
    | tuple ds => exact fun h1 => go ds (.inr hr) h1
    | _ => exact fun h1 => h1.elim
  | _ => exact fun h1 => h1.elim
theorem pid_enum {x : Expr} {p tpos : Pos} {elts : List Expr} {kk : Nat} (hg : Gl X "enumerate") (hm : X.mg "enumerate" = none) (h : PD X A x te we) (hs : starEach [x] X.env = [(false, eval x X.env)] := by rfl) :
    PID X A (.Tuple elts kk tpos) (.Call (.Name "enumerate" p) [x] [] pos) true (iEnumA X.K (tCons te tNil)) (wiEnum we) := ⟨pi_enumA hg hm (pa_cons h.pe pa_nil hs) hs, ier_enum h.er⟩
end
end PL

namespace PL
open PySem L2

/-! ### changing what a slot owns -/
section
variable {X : Cx} {A : Amb} {K : PySem.W.Frag} {σ σ' : St} {F F' F1 H H' H1 F0 H0 Fn : Hp} {e e' e0 : En} {v : V} {a : Av} {t u : TS} {w z : WS} {ex : Expr} {te : TE} {we : WE} {tt : TT} {wt : WT} {pos cpos apos : Pos} {ta : TA} {wa : WA} {o o' : Ow}
theorem Sta.owAt (S : Sta A K σ F H e) {i : Nat} (hi : e.sl[i]? = some (.ow o)) : ∃ p ho, σ[i]? = some (some (.ref p)) ∧ F p = none ∧ H p = some ho ∧ OwR K F ho o ∧ Owns e σ i p :=
  let ⟨p, ho, h1, h2, h3, h4⟩ := S.at_ i _ hi
  ⟨p, ho, h1, h2, h3, h4, ⟨o, hi⟩, h1⟩
theorem Sta.mut (S : Sta A K σ F H e) {i : Nat} {p : Addr} {ho' : HO} (own : Owns e σ i p) (hH : H p ≠ none) (q : OwR K F ho' o') : Sta A K σ F (upd H p ho') (e.set i (.ow o')) ∧ Stp A σ F H e F (upd H p ho') (e.set i (.ow o')) := by
  have nr := S.rsO i p own
  have fp : F p = none := by
    obtain ⟨⟨o, h1⟩, h2⟩ := own
    obtain ⟨p', ho, e1, f, _⟩ := S.at_ i _ h1
    rw [h2] at e1
    have : p = p' := by simpa using e1
    subst this
    exact f
  have ow : ∀ j p', Owns (e.set i (.ow o')) σ j p' → Owns e σ j p' := fun j p' ⟨⟨o2, h1⟩, h2⟩ => by
    have h1' : (e.sl.set i (.ow o'))[j]? = some (Sl.ow o2) := h1
    rcases set_get h1' with ⟨c, _⟩ | ⟨c, z⟩
    · subst c
      exact ⟨own.1, h2⟩
    · exact ⟨⟨o2, z⟩, h2⟩
  refine ⟨⟨?_, fun a o q => ?_, fun j s hs => ?_, fun j k p' h1 h2 => S.sep j k p' (ow j p' h1) (ow k p' h2), A.st _ _ _ (fun a ha => upd_ne fun z => by subst z; exact nr ha) S.ri, S.rsF, fun j p' h => S.rsO j p' (ow j p' h)⟩,
    ⟨Ex.refl _, fun a o q hr hn => ⟨?_, rfl⟩, ow, fun a h => ?_⟩⟩
  · show (e.sl.set i _).length = _
    rw [List.length_set]; exact S.len
  · rw [upd_ne (ne_of_none q fp)]; exact S.ex a o q
  · have hs' : (e.sl.set i (.ow o'))[j]? = some s := hs
    rcases set_get hs' with ⟨c, z⟩ | ⟨c, z⟩
    · subst c z
      exact ⟨p, ho', own.2, fp, upd_same, q⟩
    · refine (S.at_ j s z).ext (Ex.refl _) fun q' e1 ⟨o2, h2⟩ f g => ⟨f, upd_ne ?_⟩
      intro z2
      subst z2
      exact c (S.sep j i q' ⟨⟨o2, by rw [z, h2]⟩, e1⟩ own)
  · rw [upd_ne fun z => by subst z; exact hn i own]; exact q
  · by_cases c : a = p
    · subst c; rw [upd_same]; simp
    · rw [upd_ne c]; exact h
end

/-! ### methods of an owned list -/
def wAppend (i : Nat) (we : WE) : WE := fun e post => match e.sl[i]? with
  | some (.ow (.lst _)) => we e fun r e1 => match r.av, (frz1 e1 r).sl[i]? with
    | .dat d, some (.ow (.lst ds)) => ds.length < 100000 ∧ post (.val (.dat .none)) ((frz1 e1 r).set i (.ow (.lst (ds ++ [d]))))
    | _, _ => False
  | _ => False
def wExtend (i : Nat) (we : WE) : WE := fun e post => match e.sl[i]? with
  | some (.ow (.lst _)) => we e fun r e1 => match r.av, e1.sl[i]? with
    | .dat (.list zs), some (.ow (.lst ds)) => ds.length + zs.length ≤ 100000 ∧ post (.val (.dat .none)) (e1.set i (.ow (.lst (ds ++ zs))))
    | _, _ => False
  | _ => False
def wPop (i : Nat) : WE := fun e post => match e.sl[i]? with
  | some (.ow (.lst ds)) => ∃ d, ds.getLast? = some d ∧ post (.val (.dat d)) (e.set i (.ow (.lst ds.dropLast)))
  | _ => False
def wPopAt (i : Nat) (we : WE) : WE := fun e post => match e.sl[i]? with
  | some (.ow (.lst _)) => we e fun r e1 => match r.av, e1.sl[i]? with
    | .dat (.int j), some (.ow (.lst ds)) => ∃ d, 0 ≤ j ∧ j < 2 ^ 63 ∧ ds[j.toNat]? = some d ∧ post (.val (.dat d)) (e1.set i (.ow (.lst (ds.eraseIdx j.toNat))))
    | _, _ => False
  | _ => False
section
variable {X : Cx} {A : Amb} {K : PySem.W.Frag} {σ σ' : St} {F F' F1 H H' H1 F0 H0 Fn : Hp} {e e' e0 : En} {v : V} {a : Av} {ex : Expr} {te : TE} {we : WE} {pos cpos apos npos : Pos} {x : Str}
theorem tyV_lst {p : Addr} {vs : List V} (h : H p = some (.lst vs)) : tyV K "list" (.ref p) H := .inl ⟨rfl, vs, SqL.of h⟩
theorem OwR.lst {ho : HO} {ds : List D} (h : OwR K F ho (.lst ds)) : ∃ vs, ho = .lst vs ∧ RDs K F vs ds := h
theorem er_append {i : Nat} (h : ER A K te we) : ER A K (tBM K "list" rAppend (tVar i) (tCons te tNil)) (wAppend i we) := by
  intro σ F H e post S q Q k
  unfold wAppend at q
  split at q
  · rename_i ds0 hi
    obtain ⟨p, ho, h1, h2, h3, h4, own⟩ := S.owAt hi
    obtain ⟨vs, ev, rd⟩ := h4.lst
    subst ev
    refine ⟨.ref p, h1, tyV_lst h3, h σ F H e _ S q _ fun y r F1 H1 e1 T1 S1 R1 q1 => ?_⟩
    split at q1
    · rename_i d ds hr hi2
      obtain ⟨q1, q2⟩ := q1
      obtain ⟨F2, B2, S2, x2, rel, _⟩ := freeze1 T1 S1 (.inr R1)
      obtain ⟨p', ho', g1, g2, g3, g4, own'⟩ := S2.owAt hi2
      rw [h1] at g1
      have ep : p = p' := by simpa using g1
      subst ep
      obtain ⟨vs', ev', rd'⟩ := g4.lst
      subst ev'
      rw [hr] at rel
      have o' : OwR K F2 (.lst (vs' ++ [y])) (.lst (ds ++ [d])) := ⟨_, rfl, rd'.append (.cons rel .nil)⟩
      obtain ⟨S3, T3⟩ := S2.mut own' (by rw [g3]; simp) o'
      refine ⟨p, vs', y, rfl, rfl, g3, Nat.lt_of_lt_of_le (by rw [rd'.length]; exact q1) line5, ?_⟩
      exact k .non (.val (.dat .none)) F2 _ _ (B2.trans T3) S3 .non q2
    · exact q1.elim
  · exact q.elim
theorem er_extend {i : Nat} (h : ER A K te we) : ER A K (tBM K "list" rExtend (tVar i) (tCons te tNil)) (wExtend i we) := by
  intro σ F H e post S q Q k
  unfold wExtend at q
  split at q
  · rename_i ds0 hi
    obtain ⟨p, ho, h1, h2, h3, h4, own⟩ := S.owAt hi
    obtain ⟨vs, ev, rd⟩ := h4.lst
    subst ev
    refine ⟨.ref p, h1, tyV_lst h3, h σ F H e _ S q _ fun y r F1 H1 e1 T1 S1 R1 q1 => ?_⟩
    split at q1
    · rename_i zs ds hr hi2
      obtain ⟨q1, q2⟩ := q1
      obtain ⟨p', ho', g1, g2, g3, g4, own'⟩ := S1.owAt hi2
      rw [h1] at g1
      have ep : p = p' := by simpa using g1
      subst ep
      obtain ⟨vs', ev', rd'⟩ := g4.lst
      subst ev'
      have tp := R1.top S1
      rw [hr] at tp
      obtain ⟨b, ws, eb, hb, rb⟩ := tp.vlst
      have o' : OwR K F1 (.lst (vs' ++ ws)) (.lst (ds ++ zs)) := ⟨_, rfl, rd'.append rb⟩
      obtain ⟨S3, T3⟩ := S1.mut own' (by rw [g3]; simp) o'
      refine ⟨p, b, vs', ws, rfl, by rw [eb], g3, hb, Nat.le_trans (by rw [rd'.length, rb.length]; exact q1) line5, ?_⟩
      exact k .non (.val (.dat .none)) F1 _ _ (T1.trans T3) S3 .non q2
    · exact q1.elim
  · exact q.elim
theorem RDs.dropLast {vs : List V} {ds : List D} (h : RDs K F vs ds) : RDs K F vs.dropLast ds.dropLast := by
  rw [List.dropLast_eq_take, List.dropLast_eq_take, h.length]
  exact h.take _
theorem RDs.eraseIdx {vs : List V} {ds : List D} (h : RDs K F vs ds) (n : Nat) : RDs K F (vs.eraseIdx n) (ds.eraseIdx n) := by
  rw [List.eraseIdx_eq_take_drop_succ, List.eraseIdx_eq_take_drop_succ]
  exact (h.take _).append (h.drop _)
theorem er_pop {i : Nat} : ER A K (tBM0 K "list" rPop (tVar i)) (wPop i) := by
  intro σ F H e post S q Q k
  unfold wPop at q
  split at q
  · rename_i ds hi
    obtain ⟨d, hd, q⟩ := q
    obtain ⟨p, ho, h1, h2, h3, h4, own⟩ := S.owAt hi
    obtain ⟨vs, ev, rd⟩ := h4.lst
    subst ev
    rw [List.getLast?_eq_getElem?] at hd
    obtain ⟨v, hv, rv⟩ := rd.get hd
    have o' : OwR K F (.lst vs.dropLast) (.lst ds.dropLast) := ⟨_, rfl, rd.dropLast⟩
    obtain ⟨S3, T3⟩ := S.mut own (by rw [h3]; simp) o'
    exact ⟨.ref p, h1, tyV_lst h3, p, vs, v, rfl, rfl, h3, by rw [rd.length]; exact hv, k v (.val (.dat d)) F _ _ T3 S3 rv q⟩
  · exact q.elim
theorem seqIndex_nat {j : Int} {n : Nat} (h0 : 0 ≤ j) (h : j.toNat < n) : seqIndex? j n = some j.toNat := by
  unfold seqIndex?
  have e : (if j < 0 then j + (n : Int) else j) = j := if_neg (by omega)
  show (if (decide (0 ≤ (if j < 0 then j + (n : Int) else j)) && decide ((if j < 0 then j + (n : Int) else j) < (n : Int))) = true then some (if j < 0 then j + (n : Int) else j).toNat else none) = _
  rw [e, if_pos (by simp; omega)]
theorem er_popAt {i : Nat} (h : ER A K te we) : ER A K (tBM K "list" rPopAt (tVar i) (tCons te tNil)) (wPopAt i we) := by
  intro σ F H e post S q Q k
  unfold wPopAt at q
  split at q
  · rename_i ds0 hi
    obtain ⟨p, ho, h1, h2, h3, h4, own⟩ := S.owAt hi
    obtain ⟨vs, ev, rd⟩ := h4.lst
    subst ev
    refine ⟨.ref p, h1, tyV_lst h3, h σ F H e _ S q _ fun y r F1 H1 e1 T1 S1 R1 q1 => ?_⟩
    split at q1
    · rename_i j ds hr hi2
      obtain ⟨d, j0, j1, hd, q2⟩ := q1
      obtain ⟨p', ho', g1, g2, g3, g4, own'⟩ := S1.owAt hi2
      rw [h1] at g1
      have ep : p = p' := by simpa using g1
      subst ep
      obtain ⟨vs', ev', rd'⟩ := g4.lst
      subst ev'
      obtain ⟨w, hw, rw'⟩ := rd'.get hd
      have o' : OwR K F1 (.lst (vs'.eraseIdx j.toNat)) (.lst (ds.eraseIdx j.toNat)) := ⟨_, rfl, rd'.eraseIdx _⟩
      obtain ⟨S3, T3⟩ := S1.mut own' (by rw [g3]; simp) o'
      refine ⟨p, vs', j, j.toNat, w, rfl, by rw [R1.vint S1 hr], g3, by omega, j1, seqIndex_nat j0 (List.getElem?_eq_some_iff.mp hw).1, hw, ?_⟩
      exact k w (.val (.dat d)) F1 _ _ (T1.trans T3) S3 rw' q2
    · exact q1.elim
  · exact q.elim

theorem pd_append {i : Nat} (hN : X.N[i]? = some x) (hv : Vis X.env.scope x) (h : PD X A ex te we) (hb : attributeBase (.Name x npos) "append" X.env (eval (.Name x npos) X.env) = eval (.Name x npos) X.env := by rfl)
    (hfew : ((backTo cpos (starEach [ex] X.env)).all (fun x => !x.1) && (backToKw cpos (keywordEach [] X.env)).all (fun x => x.1.isSome)
      && decide (([ex] : List Expr).length + ([] : List Keyword).length + (if ([] : List Keyword).isEmpty then 0 else 1) < 30)) = true := by rfl)
    (hline : (apos.endLine == cpos.line) = true := by rfl) (hs : starEach [ex] X.env = (false, eval ex X.env) :: starEach [] X.env := by rfl) (hplain : (backTo cpos (starEach [] X.env)).any (·.1) = false := by rfl)
    (hd : (x == ("__debug__" : Str)) = false := by decide) (hcd : (x == ("__classdict__" : Str)) = false := by decide) :
    PD X A (.Call (.Attribute (.Name x npos) "append" apos) [ex] [] cpos) (tBM X.K "list" rAppend (tVar i) (tCons te tNil)) (wAppend i we) :=
  ⟨pe_bm PySem.F.plainAttrs_list PySem.F.slot_list_append PySem.F.type_list_append mt_append (pe_var hN hv hd hcd) (pa_cons h.pe pa_nil hs) hb hfew hline hs hplain, er_append h.er⟩
theorem pd_extend {i : Nat} (hN : X.N[i]? = some x) (hv : Vis X.env.scope x) (h : PD X A ex te we) (hb : attributeBase (.Name x npos) "extend" X.env (eval (.Name x npos) X.env) = eval (.Name x npos) X.env := by rfl)
    (hfew : ((backTo cpos (starEach [ex] X.env)).all (fun x => !x.1) && (backToKw cpos (keywordEach [] X.env)).all (fun x => x.1.isSome)
      && decide (([ex] : List Expr).length + ([] : List Keyword).length + (if ([] : List Keyword).isEmpty then 0 else 1) < 30)) = true := by rfl)
    (hline : (apos.endLine == cpos.line) = true := by rfl) (hs : starEach [ex] X.env = (false, eval ex X.env) :: starEach [] X.env := by rfl) (hplain : (backTo cpos (starEach [] X.env)).any (·.1) = false := by rfl)
    (hd : (x == ("__debug__" : Str)) = false := by decide) (hcd : (x == ("__classdict__" : Str)) = false := by decide) :
    PD X A (.Call (.Attribute (.Name x npos) "extend" apos) [ex] [] cpos) (tBM X.K "list" rExtend (tVar i) (tCons te tNil)) (wExtend i we) :=
  ⟨pe_bm PySem.F.plainAttrs_list PySem.F.slot_list_extend PySem.F.type_list_extend mt_extend (pe_var hN hv hd hcd) (pa_cons h.pe pa_nil hs) hb hfew hline hs hplain, er_extend h.er⟩
theorem pd_pop {i : Nat} (hN : X.N[i]? = some x) (hv : Vis X.env.scope x) (hb : attributeBase (.Name x npos) "pop" X.env (eval (.Name x npos) X.env) = eval (.Name x npos) X.env := by rfl) (hline : (apos.endLine == cpos.line) = true := by rfl)
    (hd : (x == ("__debug__" : Str)) = false := by decide) (hcd : (x == ("__classdict__" : Str)) = false := by decide) :
    PD X A (.Call (.Attribute (.Name x npos) "pop" apos) [] [] cpos) (tBM0 X.K "list" rPop (tVar i)) (wPop i) :=
  ⟨pe_bm0 PySem.F.plainAttrs_list PySem.F.slot_list_pop PySem.F.type_list_pop mt_pop (pe_var hN hv hd hcd) hb hline, er_pop⟩
theorem pd_popAt {i : Nat} (hN : X.N[i]? = some x) (hv : Vis X.env.scope x) (h : PD X A ex te we) (hb : attributeBase (.Name x npos) "pop" X.env (eval (.Name x npos) X.env) = eval (.Name x npos) X.env := by rfl)
    (hfew : ((backTo cpos (starEach [ex] X.env)).all (fun x => !x.1) && (backToKw cpos (keywordEach [] X.env)).all (fun x => x.1.isSome)
      && decide (([ex] : List Expr).length + ([] : List Keyword).length + (if ([] : List Keyword).isEmpty then 0 else 1) < 30)) = true := by rfl)
    (hline : (apos.endLine == cpos.line) = true := by rfl) (hs : starEach [ex] X.env = (false, eval ex X.env) :: starEach [] X.env := by rfl) (hplain : (backTo cpos (starEach [] X.env)).any (·.1) = false := by rfl)
    (hd : (x == ("__debug__" : Str)) = false := by decide) (hcd : (x == ("__classdict__" : Str)) = false := by decide) :
    PD X A (.Call (.Attribute (.Name x npos) "pop" apos) [ex] [] cpos) (tBM X.K "list" rPopAt (tVar i) (tCons te tNil)) (wPopAt i we) :=
  ⟨pe_bm PySem.F.plainAttrs_list PySem.F.slot_list_pop PySem.F.type_list_pop mt_popAt (pe_var hN hv hd hcd) (pa_cons h.pe pa_nil hs) hb hfew hline hs hplain, er_popAt h.er⟩
end

/-! ### index of ints in a list, a tuple -/
section
variable {X : Cx} {A : Amb} {K : PySem.W.Frag} {σ σ' : St} {F F' F1 H H' H1 F0 H0 Fn : Hp} {e e' e0 : En} {v : V} {a : Av} {ex ey : Expr} {te tf : TE} {we wf : WE} {pos cpos apos npos : Pos} {x : Str}
theorem RDs.ints' {vs : List V} {ds : List D} {is : List Int} (h : RDs K F vs ds) (e : ints? ds = some is) : vs = is.map V.int := by
  have e2 := ints?_eq e
  subst e2
  exact h.ints
/-- t.index(k) on a tuple -/
def wTIdx (we wf : WE) : WE := fun e post => we e fun r e1 => match r with
  | .val (.dat (.tuple ds)) => wf e1 fun s e2 => match s.av with
    | .dat (.int j) => ∃ is, ints? ds = some is ∧ j ∈ is ∧ post (vInt (is.idxOf j : Nat)) e2
    | _ => False
  | _ => False
theorem er_tidx (h : ER A K te we) (h2 : ER A K tf wf) : ER A K (tTM K (rTIdx K) te (tCons tf tNil)) (wTIdx we wf) := by
  intro σ F H e post S q Q k
  refine h σ F H e _ S q _ fun v r F1 H1 e1 T1 S1 R1 q1 => ?_
  match r, R1, q1 with
  | .val (.dat (.tuple ds)), R1, q1 =>
    obtain ⟨p, vs, ev0, h1, _, h2'⟩ := TopR.vtup (v := v) (ds := ds) S1.ex (R1.top S1)
    subst ev0
    refine ⟨⟨p, vs, rfl, S1.ex.tup h1⟩, ?_⟩
    refine h2 σ F1 H1 e1 _ S1 q1 _ fun u s F2 H2 e2 T2 S2 R2 q2 => ?_
    cases hs : s.av with
    | dat d =>
      cases d with
      | int j =>
        simp only [hs] at q2
        obtain ⟨is, hi, hj, q2⟩ := q2
        have ev := h2'.ints' hi
        subst ev
        exact ⟨p, is, j, rfl, by rw [R2.vint S2 hs], S2.ex.tup (T2.ex.tup h1), hj, k _ (vInt _) F2 H2 e2 (T1.trans T2) S2 (.int _) q2⟩
      | _ => simp only [hs] at q2
    | _ => simp only [hs] at q2
theorem pd_tidx (ho : PD X A ex te we) (h : PD X A ey tf wf) (hb : attributeBase ex "index" X.env (eval ex X.env) = eval ex X.env := by rfl)
    (hfew : ((backTo cpos (starEach [ey] X.env)).all (fun x => !x.1) && (backToKw cpos (keywordEach [] X.env)).all (fun x => x.1.isSome)
      && decide (([ey] : List Expr).length + ([] : List Keyword).length + (if ([] : List Keyword).isEmpty then 0 else 1) < 30)) = true := by rfl)
    (hline : (apos.endLine == cpos.line) = true := by rfl) (hs : starEach [ey] X.env = (false, eval ey X.env) :: starEach [] X.env := by rfl) (hplain : (backTo cpos (starEach [] X.env)).any (·.1) = false := by rfl) :
    PD X A (.Call (.Attribute ex "index" apos) [ey] [] cpos) (tTM X.K (rTIdx X.K) te (tCons tf tNil)) (wTIdx we wf) :=
  ⟨pe_tm PySem.F.slot_tuple_index PySem.F.type_tuple_index mt_tidx ho.pe (pa_cons h.pe pa_nil hs) hb hfew hline hs hplain, er_tidx ho.er h.er⟩
/-- l.index(k) on a list of ints -/
def rLIdx (K : PySem.W.Frag) : V → List V → Hp → VK → Prop := fun x xs H Q => ∃ (a : Addr) (ns : List Int) (k : Int), x = .ref a ∧ xs = [.int k] ∧ SqL K H a (ns.map V.int) ∧ k ∈ ns ∧ Q (.int (ns.idxOf k : Nat)) H
theorem mt_lidx : MtR X "list.index" (rLIdx X.K) := by
  intro pins s σ H x xs v us Q I rx rxs ⟨a, ns, k, ex, exs, ha, hk, q⟩
  subst ex exs
  cases rx
  obtain ⟨u, rfl, t, rfl⟩ := Vals.one rxs
  obtain ⟨its, r, p, hz⟩ := I.list ha
  have hz' : ns.length ≤ sizeLine := by
    rw [List.length_map] at hz; exact hz
  exact SeqAt.call_list_index p.isList (SeqAt.ItemsEq.ints (intsAre_of r)) hz' hk ⟨.int _, H, I.tok _, ⟨_, rfl⟩, q⟩
def wLIdx (we wf : WE) : WE := fun e post => we e fun r e1 => match r.av with
  | .dat (.list ds) => wf e1 fun s e2 => r.keepIn e2 (match s.av with
    | .dat (.int j) => ∃ is, ints? ds = some is ∧ j ∈ is ∧ post (vInt (is.idxOf j : Nat)) e2
    | _ => False)
  | _ => False
theorem er_lidx (h : ER A K te we) (h2 : ER A K tf wf) : ER A K (tBM K "list" (rLIdx K) te (tCons tf tNil)) (wLIdx we wf) := by
  intro σ F H e post S q Q k
  refine h σ F H e _ S q _ fun v r F1 H1 e1 T1 S1 R1 q1 => ?_
  cases hr : r.av with
  | dat d =>
    cases d with
    | list ds =>
      simp only [hr] at q1
      have tp := R1.top S1
      rw [hr] at tp
      obtain ⟨p, vs, ev, hp, rd⟩ := tp.vlst
      subst ev
      refine ⟨tyV_lst hp, ?_⟩
      refine h2 σ F1 H1 e1 _ S1 q1 _ fun u s F2 H2 e2 T2 S2 R2 q2 => ?_
      obtain ⟨hk, q2⟩ := Rs.keepIn_iff.mp q2
      have tp := (R1.step T2 hk).top S2
      rw [hr] at tp
      obtain ⟨p', vs', ev', hp', rd'⟩ := tp.vlst
      cases ev'
      cases hs : s.av with
      | dat d =>
        cases d with
        | int j =>
          simp only [hs] at q2
          obtain ⟨is, hi, hj, q2⟩ := q2
          have ev := rd'.ints' hi
          subst ev
          exact ⟨p, is, j, rfl, by rw [R2.vint S2 hs], SqL.of hp', hj, k _ (vInt _) F2 H2 e2 (T1.trans T2) S2 (.int _) q2⟩
        | _ => simp only [hs] at q2
      | _ => simp only [hs] at q2
    | _ => simp only [hr] at q1
  | _ => simp only [hr] at q1
theorem pd_lidx (ho : PD X A ex te we) (h : PD X A ey tf wf) (hb : attributeBase ex "index" X.env (eval ex X.env) = eval ex X.env := by rfl)
    (hfew : ((backTo cpos (starEach [ey] X.env)).all (fun x => !x.1) && (backToKw cpos (keywordEach [] X.env)).all (fun x => x.1.isSome)
      && decide (([ey] : List Expr).length + ([] : List Keyword).length + (if ([] : List Keyword).isEmpty then 0 else 1) < 30)) = true := by rfl)
    (hline : (apos.endLine == cpos.line) = true := by rfl) (hs : starEach [ey] X.env = (false, eval ey X.env) :: starEach [] X.env := by rfl) (hplain : (backTo cpos (starEach [] X.env)).any (·.1) = false := by rfl) :
    PD X A (.Call (.Attribute ex "index" apos) [ey] [] cpos) (tBM X.K "list" (rLIdx X.K) te (tCons tf tNil)) (wLIdx we wf) :=
  ⟨pe_bm PySem.F.plainAttrs_list PySem.F.slot_list_index PySem.F.type_list_index mt_lidx ho.pe (pa_cons h.pe pa_nil hs) hb hfew hline hs hplain, er_lidx ho.er h.er⟩
end

/-! ### a store into an owned list, an owned dict -/
def putD (kvs : List (Key × D)) (k : Key) (d : D) : List (Key × D) := if (kvs.any fun kv => decide (kv.1 = k)) = true then kvs.map (fun kv => if kv.1 = k then (kv.1, d) else kv) else kvs ++ [(k, d)]
section
variable {X : Cx} {A : Amb} {K : PySem.W.Frag} {σ σ' : St} {F F' F1 H H' H1 F0 H0 Fn : Hp} {e e' e0 : En} {v : V} {a : Av} {ex ey : Expr} {te tf : TE} {we wf : WE} {pos cpos apos npos pos' : Pos} {x : Str}
theorem KvR.any {k : Key} : ∀ {vs : List (Key × V)} {kvs : List (Key × D)}, KvR K F vs kvs → (vs.any fun kv => decide (kv.1 = k)) = (kvs.any fun kv => decide (kv.1 = k))
  | _, _, .nil => rfl
  | _, _, .cons h t => by rw [List.any_cons, List.any_cons, h.1, KvR.any t]
theorem KvR.mapPut {k : Key} {d : D} (r : RD K F v d) : ∀ {vs : List (Key × V)} {kvs : List (Key × D)}, KvR K F vs kvs → KvR K F (vs.map fun kv => if kv.1 = k then (kv.1, v) else kv) (kvs.map fun kv => if kv.1 = k then (kv.1, d) else kv)
  | _, _, .nil => .nil
  | a :: _, b :: _, .cons h t => by
    refine .cons ?_ (KvR.mapPut r t)
    obtain ⟨h1, h2⟩ := h
    show (if a.1 = k then (a.1, v) else a).1 = (if b.1 = k then (b.1, d) else b).1 ∧ RD K F (if a.1 = k then (a.1, v) else a).2 (if b.1 = k then (b.1, d) else b).2
    by_cases c : a.1 = k
    · rw [if_pos c, if_pos (h1 ▸ c)]; exact ⟨h1, r⟩
    · rw [if_neg c, if_neg (h1 ▸ c)]; exact ⟨h1, h2⟩
theorem KvR.app {k : Key} {d : D} (r : RD K F v d) : ∀ {vs : List (Key × V)} {kvs : List (Key × D)}, KvR K F vs kvs → KvR K F (vs ++ [(k, v)]) (kvs ++ [(k, d)])
  | _, _, .nil => .cons ⟨rfl, r⟩ .nil
  | _, _, .cons h t => .cons h (KvR.app r t)
theorem KvR.put {vs : List (Key × V)} {kvs : List (Key × D)} {k : Key} {d : D} (h : KvR K F vs kvs) (r : RD K F v d) : KvR K F (putK vs k v) (putD kvs k d) := by
  unfold putK putD
  rw [h.any]
  split
  · exact h.mapPut r
  · exact h.app r
/-- d[k] = v, d owned by slot i -/
def wSetD (i : Nat) (wk wv : WE) : WS := fun E e => wv e fun r e1 => match r.av, (frz1 e1 r).sl[i]? with
  | .dat d, some (.ow (.dic _)) => wk (frz1 e1 r) fun s e2 => match s.av, e2.sl[i]? with
    | .dat y, some (.ow (.dic kvs)) => ∃ k, keyOf? y = some k ∧ kvs.length < 100000 ∧ E.nx (e2.set i (.ow (.dic (putD kvs k d))))
    | _, _ => False
  | _, _ => False
theorem sr_setD {i : Nat} (hk : ER A K te we) (hv : ER A K tf wf) : SR A K (sDPut (tVar i) te tf) (wSetD i we wf) := fun F0 H0 σ F H e E D S q R =>
  hv σ F H e _ S.sta q _ fun y r F1 H1 e1 T1 S1 R1 q1 => by
    obtain ⟨F2, B2, S2, x2, rel, _⟩ := freeze1 T1 S1 (.inr R1)
    split at q1
    · rename_i d kv0 hr hi0
      obtain ⟨p0, ho0, g1, _⟩ := S2.owAt hi0
      refine ⟨.ref p0, g1, hk σ F2 H1 _ _ S2 q1 _ fun z s F3 H3 e3 T3 S3 R3 q3 => ?_⟩
      split at q3
      · rename_i yd kvs hs hi
        obtain ⟨k, hk', hl, q3⟩ := q3
        obtain ⟨p, ho, k1, k2, k3, k4, own⟩ := S3.owAt hi
        rw [g1] at k1
        have ep : p0 = p := by simpa using k1
        subst ep
        obtain ⟨vs, ev, kr⟩ : ∃ vs, ho = .dK vs ∧ KvR K F3 vs kvs := k4
        subst ev
        rw [hr] at rel
        have rel' : RD K F3 y d := (RelA.ext T3.ex rel : RelA K F3 y (.dat d))
        have o' : OwR K F3 (.dK (putK vs k y)) (.dic (putD kvs k d)) := ⟨_, rfl, kr.put rel'⟩
        obtain ⟨S4, T4⟩ := S3.mut own (by rw [k3]; simp) o'
        have tz := R3.top S3
        rw [hs] at tz
        have ez := keyOf_kV tz hk'
        subst ez
        have l : vs.length = kvs.length := Paired.length kr
        refine ⟨p0, _, rfl, DPut.k k3 (Nat.lt_of_lt_of_le (by rw [l]; exact hl) line5), ?_⟩
        have B4 := (B2.trans T3).trans T4
        exact R.nx σ F3 _ _ (S.step B4 S4) B4.ex q3
      · exact q3.elim
    · exact q1.elim
theorem psd_setD {i : Nat} (hu : X.A.units + 1 < cLine) (hN : X.N[i]? = some x) (hvs : Vis X.env.scope x) (hk : PD X A ex te we) (hv : PD X A ey tf wf)
    (hs : swapsWith ey (some (.Subscript (.Name x npos) ex pos')) pos.line X.env = pure false := by rfl) (hd : (x == ("__debug__" : Str)) = false := by decide) (hcd : (x == ("__classdict__" : Str)) = false := by decide) :
    PSD X A (.Assign [.Subscript (.Name x npos) ex pos'] ey pos) (sDPut (tVar i) te tf) (wSetD i we wf) := ⟨ps_dput hu (pe_var hN hvs hd hcd) hk.pe hv.pe hs, sr_setD hk.er hv.er⟩
/-- l[k] = v, l owned by slot i -/
def wSetL (i : Nat) (wk wv : WE) : WS := fun E e => wv e fun r e1 => match r.av, (frz1 e1 r).sl[i]? with
  | .dat d, some (.ow (.lst _)) => wk (frz1 e1 r) fun s e2 => match s.av, e2.sl[i]? with
    | .dat (.int j), some (.ow (.lst ds)) => 0 ≤ j ∧ j.toNat < ds.length ∧ E.nx (e2.set i (.ow (.lst (ds.set j.toNat d))))
    | _, _ => False
  | _, _ => False
theorem sr_setL {i : Nat} (hk : ER A K te we) (hv : ER A K tf wf) : SR A K (tAsg tf (gSub (tVar i) te rSetL)) (wSetL i we wf) := fun F0 H0 σ F H e E D S q R =>
  hv σ F H e _ S.sta q _ fun y r F1 H1 e1 T1 S1 R1 q1 => by
    obtain ⟨F2, B2, S2, x2, rel, _⟩ := freeze1 T1 S1 (.inr R1)
    split at q1
    · rename_i d kv0 hr hi0
      obtain ⟨p0, ho0, g1, _⟩ := S2.owAt hi0
      refine ⟨.ref p0, g1, hk σ F2 H1 _ _ S2 q1 _ fun z s F3 H3 e3 T3 S3 R3 q3 => ?_⟩
      split at q3
      · rename_i j ds hs hi
        obtain ⟨h0, hl, q3⟩ := q3
        obtain ⟨p, ho, k1, k2, k3, k4, own⟩ := S3.owAt hi
        rw [g1] at k1
        have ep : p0 = p := by simpa using k1
        subst ep
        obtain ⟨vs, ev, kr⟩ := k4.lst
        subst ev
        rw [hr] at rel
        have rel' : RD K F3 y d := (RelA.ext T3.ex rel : RelA K F3 y (.dat d))
        have o' : OwR K F3 (.lst (vs.set j.toNat y)) (.lst (ds.set j.toNat d)) := ⟨_, rfl, kr.set rel' _⟩
        obtain ⟨S4, T4⟩ := S3.mut own (by rw [k3]; simp) o'
        have B4 := (B2.trans T3).trans T4
        refine ⟨p0, vs, j, j.toNat, rfl, R3.vint S3 hs, k3, ?_, R.nx σ F3 _ _ (S.step B4 S4) B4.ex q3⟩
        unfold ixN
        rw [if_pos h0, if_pos (by rw [kr.length]; omega)]
      · exact q3.elim
    · exact q1.elim
theorem psd_setL {i : Nat} (hN : X.N[i]? = some x) (hvs : Vis X.env.scope x) (hk : PD X A ex te we) (hv : PD X A ey tf wf) (hp : PS X (.Assign [.Subscript (.Name x npos) ex pos'] ey pos) (tAsg tf (gSub (tVar i) te rSetL))) :
    PSD X A (.Assign [.Subscript (.Name x npos) ex pos'] ey pos) (tAsg tf (gSub (tVar i) te rSetL)) (wSetL i we wf) := ⟨hp, sr_setL hk.er hv.er⟩
end

/-! ### defs: what is promised over data, and the call -/
abbrev FS := List Av → Nat → (Rs → Nat → Prop) → Prop
def spD (A : Amb) (K : PySem.W.Frag) (fs : FS) : Sp := fun vs H Q _ => ∃ (F : Hp) (as : List Av) (n : Nat) (p : Rs → Nat → Prop), Ex F H ∧ Paired (RelA K F) vs as ∧ A.RI n H ∧ (∀ a ∈ A.rs, F a = none) ∧
  fs as n p ∧ ∀ r n', p r n' → ∀ v F' H', Fin A F H F' H' → Ex F' H' → A.RI n' H' → (∀ a ∈ A.rs, F' a = none) → RvR K A H F' H' v r → Q v H'
def wCall (fs : FS) (wa : WA) : WE := fun e post => wa e fun rs e1 => fs (rs.map Rs.av) e1.n fun r n' => post r ⟨(frz e1 rs).sl, n'⟩
section
variable {X : Cx} {A : Amb} {K : PySem.W.Frag} {σ σ' : St} {F F' F1 H H' H1 F0 H0 Fn : Hp} {e e' e0 : En} {v : V} {a : Av} {ex ey : Expr} {es : List Expr} {te tf : TE} {we wf : WE} {ta : TA} {wa : WA} {pos p : Pos} {x : Str} {fs : FS} {E : XK} {CX : CXT} {k : Nat} {f : Addr} {fd : FuncData} {ps : List Str}
theorem frz1_n (e : En) (r : Rs) : (frz1 e r).n = e.n := by
  match r with
  | .loan i o =>
    show (match e.sl[i]? with | some (.ow _) => e.set i (.im o.av) | _ => e).n = e.n
    split <;> rfl
  | .val _ => rfl
  | .new _ => rfl
theorem frz_n : ∀ (rs : List Rs) (e : En), (frz e rs).n = e.n
  | [], e => rfl
  | r :: rs, e => by
    show (frz (frz1 e r) rs).n = e.n
    rw [frz_n rs, frz1_n]
theorem RvR.noloan {r : Rs} (h : RvR K A H0 F H v r) (S : Sta A K σ F H e) (hn : ∀ p, H0 p = none → H1 p = none) (ho : ∀ p, H0 p = none → ∀ i, ¬ Owns e σ i p) : RsR K A σ H1 F H e v r := by
  cases r with
  | val a => exact h
  | new o => obtain ⟨p, ho', e1, h0, f, g, q, nr⟩ := h; exact ⟨p, ho', e1, hn p h0, f, g, q, nr, ho p h0⟩
  | loan i o => exact h.elim
theorem Fin.stp (S : Sta A K σ F H e) (f : Fin A F H F' H') (x : Ex F' H') (n : Nat) (ri : A.RI n H') (rf : ∀ a ∈ A.rs, F' a = none) : Sta A K σ F' H' ⟨e.sl, n⟩ ∧ Stp A σ F H e F' H' ⟨e.sl, n⟩ := by
  refine ⟨⟨S.len, x, fun i s hs => (S.at_ i s hs).ext f.ex fun p e1 ⟨o, ho⟩ fp hp => ?_, S.sep, ri, rf, S.rsO⟩, ⟨f.ex, fun a o h hr _ => f.keep a o h hr, fun _ _ h => h, f.liv⟩⟩
  cases z : H p with
  | none => exact absurd z hp
  | some w =>
    have own : Owns e σ i p := ⟨⟨o, by rw [← ho]; exact hs⟩, e1⟩
    obtain ⟨g1, g2⟩ := f.keep p w z (S.rsO i p own)
    exact ⟨g2.trans fp, g1⟩
theorem er_call (h : AER A K ta wa) : ER A K (tCall (spD A K fs) [] E ta) (wCall fs wa) := by
  intro σ F H e post S q Q k
  refine h σ F H e _ S q _ fun vs rs F1 H1 e1 T1 S1 R1 q1 => ?_
  obtain ⟨F2, B2, S2, x2, rel⟩ := freezeR T1 S1 R1
  rw [List.append_nil]
  refine ⟨F2, rs.map Rs.av, e1.n, _, S2.ex, rel, by rw [← frz_n rs e1]; exact S2.ri, S2.rsF, q1, fun r n' p v F' H' fin x ri rf rv => ?_⟩
  obtain ⟨S3, T3⟩ := fin.stp S2 x n' ri rf
  refine k v r F' H' _ (B2.trans T3) S3 (rv.noloan S3 (fun p hp => ?_) fun p hp i => S2.noO hp i) p
  cases z : H p with
  | none => rfl
  | some w => exact absurd hp (T1.liv p (by rw [z]; simp))
theorem pd_call (G : FnOk X.prog X.w X.K X.mg X.base CX k f fd ps (spD A X.K fs)) (hr : Room k X.A) (hg : Gl X x) (hm : X.mg x = some (.ref f)) (hk : PySem.W.keepIn X.K (.ref f) = true) (hb : Binds X.K fd ps []) (hx : Passes CX X E)
    (ha : PAD X A (ex :: es) ta wa) (hdb : (x == ("__debug__" : Str)) = false := by decide) (he : starEach (ex :: es) X.env = (false, eval ex X.env) :: starEach es X.env := by rfl) (hpl : (backTo pos (starEach es X.env)).any (·.1) = false := by rfl) :
    PD X A (.Call (.Name x p) (ex :: es) [] pos) (tCall (spD A X.K fs) [] E ta) (wCall fs wa) := ⟨pe_call G hr hg hm hk hb .nil hx ha.pa hdb he hpl, er_call ha.er⟩
end
section
variable {P : Program} {w : World} {K : PySem.W.Frag} {mg : Str → Option Value} {base : Heap} {A : Amb} {fs : FS}
theorem start_at {N : List Str} {vs : List V} {i : Nat} : (L2.start N vs)[i]? = if i < vs.length then (vs[i]?).map some else if i < N.length then some none else none := by
  unfold L2.start
  by_cases h : i < vs.length
  · rw [if_pos h, List.getElem?_append_left (by simpa using h), List.getElem?_map]
  · rw [if_neg h, List.getElem?_append_right (by simpa using h), List.getElem?_replicate, List.length_map]
    by_cases h2 : i < N.length
    · rw [if_pos h2, if_pos (by omega)]
    · rw [if_neg h2, if_neg (by omega)]
/-- the names at a def's start -/
def enStart (m : Nat) (as : List Av) (n : Nat) : En := ⟨as.map Sl.im ++ List.replicate (m - as.length) Sl.un, n⟩
theorem sst_start {N : List Str} {vs : List V} {as : List Av} {F H : Hp} {n : Nat} (x : Ex F H) (r : Paired (RelA K F) vs as) (ri : A.RI n H) (rf : ∀ a ∈ A.rs, F a = none) (hl : vs.length ≤ N.length) :
    SSt A K F H (L2.start N vs) F H (enStart N.length as n) := by
  have l : vs.length = as.length := Paired.length r
  have no : ∀ i p, ¬ Owns (enStart N.length as n) (L2.start N vs) i p := fun i p ⟨⟨o, h⟩, _⟩ => by
    have h' : (as.map Sl.im ++ List.replicate (N.length - as.length) Sl.un)[i]? = some (Sl.ow o) := h
    have m := List.mem_of_getElem? h'
    rcases List.mem_append.mp m with m | m
    · obtain ⟨a, _, e⟩ := List.mem_map.mp m; cases e
    · cases (List.mem_replicate.mp m).2
  refine ⟨⟨?_, x, fun i s hs => ?_, fun i j p h _ => absurd h (no i p), ri, rf, fun i p h => absurd h (no i p)⟩, ⟨Ex.refl _, fun a o h _ => ⟨h, rfl⟩, fun _ h => h⟩, fun i p h => absurd h (no i p)⟩
  · show (as.map Sl.im ++ List.replicate (N.length - as.length) Sl.un).length = (L2.start N vs).length
    unfold L2.start
    simp only [List.length_append, List.length_map, List.length_replicate]
    omega
  · have hs' : (as.map Sl.im ++ List.replicate (N.length - as.length) Sl.un)[i]? = some s := hs
    by_cases h : i < as.length
    · rw [List.getElem?_append_left (by simpa using h), List.getElem?_map] at hs'
      obtain ⟨a, ha, e⟩ := Option.map_eq_some_iff.mp hs'
      subst e
      have hp : ∀ {vs : List V} {as : List Av} {i : Nat} {a : Av}, Paired (RelA K F) vs as → as[i]? = some a → ∃ v, vs[i]? = some v ∧ RelA K F v a := by
        intro vs as
        induction as generalizing vs with
        | nil => intro i a _ h; simp at h
        | cons b as ih =>
          intro i a r h
          cases r with
          | cons r t =>
            cases i with
            | zero => simp at h; subst h; exact ⟨_, rfl, r⟩
            | succ i => simp at h; simpa using ih t h
      obtain ⟨v, hv, rv⟩ := hp r ha
      exact ⟨v, by rw [start_at, if_pos (by omega), hv]; rfl, rv⟩
    · rw [List.getElem?_append_right (by simpa using h), List.getElem?_replicate] at hs'
      split at hs'
      · cases hs'; trivial
      · cases hs'
/-- THE RULE for a def over data -/
theorem Fun.okD {x qual : Str} {st : Stmt} {f : Addr} {fd : FuncData} {N ps : List Str} {k : Nat} (G : Fun K x qual st f fd) (S : FnScope N ps (defScope st)) (hps : ps.length ≤ N.length) (len : ∀ as n p, fs as n p → as.length = ps.length)
    (hbody : ∀ (cdv : Value) (A' : Around) (outer : List Env) (s : Shared) (H : Hp) (E : XK), Room k (A'.deeper (PyProof.Rows.envOfC qual (defScope st) s.heap.objs.size f cdv)) →
      ∃ t w', PSDs (cxOf CX0 P w K mg base N qual (defScope st) f cdv A' outer s H E).nox A (defBody st) t w' ∧
        ∀ as n p, fs as n p → w' { nx := fun e => p (.val (.dat .none)) e.n, rt := p } (enStart N.length as n)) : FnOk P w K mg base CX0 (k + 1) f fd ps (spD A K fs) := by
  refine G.ok S (fun vs H Q E ⟨F, as, n, p, _, r, _, _, q, _⟩ => (Paired.length r).trans (len as n p q)) fun cdv A' outer s H vs Q E hr ⟨F, as, n, p, x, r, ri, rf, q, k⟩ => ?_
  obtain ⟨t, w', hb, hw⟩ := hbody cdv A' outer s H E hr
  refine ⟨t, hb.ps, hb.sr F H _ F H _ _ _ (sst_start (N := N) x r ri rf (by rw [Paired.length r, len as n p q]; exact hps)) (hw as n p q) ⟨fun σ F' H' e S _ q => ?_, fun v r F' H' n' fin x ri rf rv q => k r n' q v F' H' fin x ri rf rv, fun _ _ _ _ _ _ q => q.elim, fun _ _ _ _ _ _ q => q.elim⟩⟩
  exact k _ _ q .non F' H' S.fin S.sta.ex S.sta.ri S.sta.rsF .non
end
end PL

namespace PL
open PySem L2

/-! ### for -/
structure ForOk (ks : List Nat) (wg : WG) (wb : WS) (E : EndsP) (ds : List D) (e1 : En) : Prop where
  ex : ∃ I : Nat → En → Prop, I 0 e1 ∧ (∀ i d e, ds[i]? = some d → I i e → noOw e ks ∧ wg d e fun e2 => wb { nx := I (i + 1), ct := I (i + 1), bk := E.nx, rt := E.rt } e2) ∧ ∀ e, I ds.length e → E.nx e
def wFor (ks : List Nat) (wi : WI) (wg : WG) (wb : WS) : WS := fun E e => wi e fun ds e1 => ForOk ks wg wb E ds e1
section
variable {X : Cx} {A : Amb} {K : PySem.W.Frag} {σ σ' : St} {F F' F1 H H' H1 F0 H0 Fn : Hp} {e e' : En} {v : V} {a : Av} {wi : TI} {vi : WI} {g : TG} {wg : WG} {tb : TS} {wb : WS} {ks : List Nat} {u : Bool} {pos : Pos}
theorem SSt.grow (S : SSt A K F0 H0 σ F H e) {x : V} {H2 : Hp} {d : D} (h : (H2 = H ∧ RDu K F u x d) ∨ ∃ p ho, H p = none ∧ H2 = upd H p ho ∧ RDu K (upd F p ho) u x d) :
    ∃ F2, SSt A K F0 H0 σ F2 H2 e ∧ Ex F F2 ∧ RDu K F2 u x d ∧ Stp A σ F H e F2 H2 e := by
  rcases h with ⟨h, r⟩ | ⟨p, ho, hp, h, r⟩
  · subst h; exact ⟨F, S, Ex.refl _, r, Stp.refl⟩
  · subst h
    obtain ⟨S', T⟩ := S.sta.pushF (ho := ho) hp
    exact ⟨_, S.step T S', T.ex, r, T⟩
theorem sr_for (hi : IER A K u wi vi) (hg : GER A K ks u g wg) (hb : SR A K tb wb) : SR A K (tFor wi g tb) (wFor ks vi wg wb) := fun F0 H0 σ F H e E D S q R =>
  hi σ F H e _ S.sta q _ fun J ds F1 H1 e1 T1 S1 J1 ⟨I, i0, turn, fin⟩ => by
    have S' := S.step T1 S1
    refine ⟨fun i m σ H => ∃ F' e, SSt A K F0 H0 σ F' H e ∧ Ex F1 F' ∧ I i e ∧ i ≤ ds.length ∧ m = ds.length - i, ⟨_, F1, e1, S', Ex.refl _, i0, Nat.zero_le _, rfl⟩, ?_⟩
    rintro i m σ H ⟨F', e, S, x, hI, hle, hm⟩
    by_cases hlt : i < ds.length
    · right
      refine ⟨J1.go i F' H x S.sta.ex hlt, fun σ' H' => ∃ m', m' < m ∧ ∃ F' e, SSt A K F0 H0 σ' F' H' e ∧ Ex F1 F' ∧ I (i + 1) e ∧ i + 1 ≤ ds.length ∧ m' = ds.length - (i + 1), fun σ' H' z => z, fun y H2 hy => ?_⟩
      have hd : ds[i]? = some ds[i] := List.getElem?_eq_getElem hlt
      obtain ⟨F2, S2, x2, rd, _⟩ := S.grow (J1.yld i F' H y H2 _ x S.sta.ex hy hd)
      obtain ⟨hn, hw⟩ := turn i _ e hd hI
      refine hg σ F2 H2 e _ y _ S2.sta rd (hn.owns (A := A) (K := K)) hw _ fun σ3 e3 G3 S3 p3 => ?_
      have S3' := S2.gs G3 S3
      have again : ∀ σ4 F4 H4 e4, SSt A K F0 H0 σ4 F4 H4 e4 → Ex F2 F4 → I (i + 1) e4 → ∃ m', m' < m ∧ ∃ F' e, SSt A K F0 H0 σ4 F' H4 e ∧ Ex F1 F' ∧ I (i + 1) e ∧ i + 1 ≤ ds.length ∧ m' = ds.length - (i + 1) := fun σ4 F4 H4 e4 S4 x4 h4 =>
        ⟨ds.length - (i + 1), by omega, F4, e4, S4, (x.trans x2).trans x4, h4, hlt, rfl⟩
      exact hb F0 H0 σ3 F2 H2 e3 _ _ S3' p3 ⟨again, R.rt, fun σ4 F4 H4 e4 S4 x4 h4 => R.nx σ4 F4 H4 e4 S4 ((T1.ex.trans (x.trans x2)).trans x4) h4, again⟩
    · left
      have ei : i = ds.length := by omega
      subst ei
      exact ⟨J1.stop F' H x S.sta.ex, R.nx σ F' H e S (T1.ex.trans x) (fin e hI)⟩
theorem psd_for {tg iter : Expr} {body : List Stmt} (hp : PassesOwn (model X.prog X.w) X.A X.env X.xe) (hc : X.calm = true) (hi : PID X A tg iter u wi vi) (hg : PGD X A tg ks u g wg) (hb : PSDs X A body tb wb)
    (hs : ∀ x, foldedSetIterable iter X.env x = pure x := by intro _; rfl) : PSD X A (.For tg iter body [] pos) (tFor wi g tb) (wFor ks vi wg wb) := ⟨ps_for hp hc hi.pi hg.pg hb.ps hs, sr_for hi.er hg.er hb.sr⟩
end

/-! ### list comprehensions -/
def ewipe (e : En) : List Nat → En
  | [] => e
  | k :: ks => (ewipe e ks).set k .un
/-- the slots ks as they were in e0 -/
def erest (e0 e : En) : List Nat → En
  | [] => e
  | k :: ks => match e0.sl[k]? with
    | some s => (erest e0 e ks).set k s
    | none => erest e0 e ks
def lcLoop (wg : WG) (wt : WT) (we : WE) (vs : List Nat) : List D → List D → En → (List D → En → Prop) → Prop
  | [], acc, e, k => k acc e
  | d :: ds, acc, e, k => wg d (ewipe e vs) fun e2 => wt e2 fun b e3 => if b = true then we e3 fun r e4 => (match r.av with
    | .dat d' => lcLoop wg wt we vs ds (acc ++ [d']) (frz1 e4 r) k
    | _ => False) else lcLoop wg wt we vs ds acc e3 k
structure LcOk (wg : WG) (wt : WT) (we : WE) (vs : List Nat) (post : Rs → En → Prop) (ds : List D) (e1 : En) : Prop where
  no : noOw e1 vs
  len : ds.length ≤ 100000
  loop : lcLoop wg wt we vs ds [] e1 fun acc e2 => post (.new (.lst acc)) (erest e1 e2 vs)
def wLc (wi : WI) (wg : WG) (wt : WT) (we : WE) (vs : List Nat) : WE := fun e post => wi e fun ds e1 => LcOk wg wt we vs post ds e1
def wYes : WT := fun e post => post true e
section
variable {X : Cx} {A : Amb} {K : PySem.W.Frag} {σ σ' : St} {F F' F1 H H' H1 F0 H0 Fn : Hp} {e e' : En} {v : V} {a : Av} {wi : TI} {vi : WI} {g : TG} {wg : WG} {tt : TT} {wt : WT} {te : TE} {we : WE} {vs : List Nat} {u : Bool} {pos : Pos}
theorem ewipe_len (e : En) : ∀ ks : List Nat, (ewipe e ks).sl.length = e.sl.length
  | [] => rfl
  | k :: ks => by
    show ((ewipe e ks).sl.set k .un).length = _
    rw [List.length_set, ewipe_len]
theorem ewipe_n (e : En) : ∀ ks : List Nat, (ewipe e ks).n = e.n
  | [] => rfl
  | k :: ks => ewipe_n e ks
theorem ewipe_at (e : En) : ∀ (ks : List Nat) {j : Nat} {s : Sl}, (ewipe e ks).sl[j]? = some s → (j ∈ ks ∧ s = .un) ∨ (j ∉ ks ∧ e.sl[j]? = some s)
  | [], j, s, h => .inr ⟨by simp, h⟩
  | k :: ks, j, s, h => by
    rcases set_get (show ((ewipe e ks).sl.set k .un)[j]? = some s from h) with ⟨c, z⟩ | ⟨c, z⟩
    · exact .inl ⟨by simp [c], z⟩
    · rcases ewipe_at e ks z with ⟨h1, h2⟩ | ⟨h1, h2⟩
      · exact .inl ⟨List.mem_cons_of_mem _ h1, h2⟩
      · exact .inr ⟨by simp [c, h1], h2⟩
theorem wipe_len (σ : St) : ∀ ks : List Nat, (wipe σ ks).length = σ.length
  | [] => rfl
  | k :: ks => by
    show ((wipe σ ks).set k none).length = _
    rw [List.length_set, wipe_len]
theorem wipe_congr {σ σ' : St} (h : σ'.length = σ.length) : ∀ (ks : List Nat), (∀ j, j ∉ ks → σ'[j]? = σ[j]?) → wipe σ' ks = wipe σ ks := by
  intro ks hk
  apply List.ext_getElem?
  intro j
  have get : ∀ (τ : St) (ks : List Nat) (j : Nat), (wipe τ ks)[j]? = if j ∈ ks ∧ j < τ.length then some none else τ[j]? := by
    intro τ ks
    induction ks with
    | nil => intro j; simp [wipe]
    | cons k ks ih =>
      intro j
      show ((wipe τ ks).set k none)[j]? = _
      rw [List.getElem?_set, wipe_len, ih]
      by_cases c : k = j
      · subst c
        simp
        by_cases c2 : k < τ.length
        · simp [c2]
        · simp [c2]
      · rw [if_neg c]
        have : (j ∈ k :: ks) = (j ∈ ks) := by simp [Ne.symm c]
        simp only [this]
  rw [get, get, h]
  by_cases c : j ∈ ks
  · by_cases c2 : j < σ.length
    · simp [c, c2]
    · simp [c, c2]
      omega
  · simp [c, hk j c]
theorem wipe_idem (σ : St) (ks : List Nat) : wipe (wipe σ ks) ks = wipe σ ks :=
  wipe_congr (wipe_len σ ks) ks fun j hj => wipe_out hj
/-- Sta with slots forgotten; vs hold nothing owned -/
theorem Sta.wipe (S : Sta A K σ F H e) (hn : ∀ j p, j ∈ vs → ¬ Owns e σ j p) : Sta A K (L2.wipe σ vs) F H (ewipe e vs) ∧ ∀ i p, Owns (ewipe e vs) (L2.wipe σ vs) i p ↔ Owns e σ i p := by
  have ow : ∀ i p, Owns (ewipe e vs) (L2.wipe σ vs) i p → Owns e σ i p ∧ i ∉ vs := fun i p ⟨⟨o, h1⟩, h2⟩ => by
    rcases ewipe_at e vs h1 with ⟨_, z⟩ | ⟨c, z⟩
    · cases z
    · rw [wipe_out c] at h2
      exact ⟨⟨⟨o, z⟩, h2⟩, c⟩
  have ow' : ∀ i p, Owns e σ i p → Owns (ewipe e vs) (L2.wipe σ vs) i p := fun i p h => by
    have c : i ∉ vs := fun c => hn i p c h
    obtain ⟨⟨o, h1⟩, h2⟩ := h
    refine ⟨⟨o, ?_⟩, by rw [wipe_out c]; exact h2⟩
    have hl : i < (ewipe e vs).sl.length := by rw [ewipe_len]; exact (List.getElem?_eq_some_iff.mp h1).1
    have g := List.getElem?_eq_getElem hl
    rcases ewipe_at e vs g with ⟨z, _⟩ | ⟨_, z⟩
    · exact absurd z c
    · rw [g, ← z]; exact h1
  refine ⟨⟨by rw [ewipe_len, wipe_len]; exact S.len, S.ex, fun j s hs => ?_, fun i j p h1 h2 => S.sep i j p (ow i p h1).1 (ow j p h2).1, by rw [ewipe_n]; exact S.ri, S.rsF, fun i p h => S.rsO i p (ow i p h).1⟩, fun i p => ⟨fun h => (ow i p h).1, ow' i p⟩⟩
  rcases ewipe_at e vs hs with ⟨_, z⟩ | ⟨c, z⟩
  · subst z; trivial
  · rw [wipe_out c]; exact S.at_ j s z
theorem erest_len (e0 e : En) : ∀ ks : List Nat, (erest e0 e ks).sl.length = e.sl.length
  | [] => rfl
  | k :: ks => by
    unfold erest
    split
    · show ((erest e0 e ks).sl.set k _).length = _
      rw [List.length_set, erest_len]
    · exact erest_len e0 e ks
theorem erest_n (e0 e : En) : ∀ ks : List Nat, (erest e0 e ks).n = e.n
  | [] => rfl
  | k :: ks => by
    unfold erest
    split
    · exact erest_n e0 e ks
    · exact erest_n e0 e ks
theorem erest_at (e0 e : En) (hl : e.sl.length = e0.sl.length) : ∀ (ks : List Nat) {j : Nat} {s : Sl}, (erest e0 e ks).sl[j]? = some s → (j ∈ ks ∧ e0.sl[j]? = some s) ∨ (j ∉ ks ∧ e.sl[j]? = some s)
  | [], j, s, h => .inr ⟨by simp, h⟩
  | k :: ks, j, s, h => by
    unfold erest at h
    split at h
    · rename_i s0 h0
      rcases set_get (show ((erest e0 e ks).sl.set k s0)[j]? = some s from h) with ⟨c, z⟩ | ⟨c, z⟩
      · subst c z; exact .inl ⟨by simp, h0⟩
      · rcases erest_at e0 e hl ks z with ⟨h1, h2⟩ | ⟨h1, h2⟩
        · exact .inl ⟨List.mem_cons_of_mem _ h1, h2⟩
        · exact .inr ⟨by simp [c, h1], h2⟩
    · rename_i h0
      have c : j ≠ k := fun z => by
        subst z
        have l1 := (List.getElem?_eq_some_iff.mp h).1
        rw [erest_len, hl] at l1
        exact absurd h0 (by rw [List.getElem?_eq_getElem l1]; simp)
      rcases erest_at e0 e hl ks h with ⟨h1, h2⟩ | ⟨h1, h2⟩
      · exact .inl ⟨List.mem_cons_of_mem _ h1, h2⟩
      · exact .inr ⟨by simp [c, h1], h2⟩
/-- an object outside of all that is known may change -/
theorem Sta.other (S : Sta A K σ F H e) {D : Addr} {ho : HO} (hF : F D = none) (hr : D ∉ A.rs) (ho' : ∀ i, ¬ Owns e σ i D) : Sta A K σ F (upd H D ho) e :=
  ⟨S.len, fun a o q => by rw [upd_ne (ne_of_none q hF)]; exact S.ex a o q, fun i s hs => (S.at_ i s hs).ext (Ex.refl _) fun q e1 ⟨o, h2⟩ f g => ⟨f, upd_ne fun z => by subst z; exact ho' i ⟨⟨o, by rw [← h2]; exact hs⟩, e1⟩⟩, S.sep, A.st _ _ _ (fun a ha => upd_ne fun z => by subst z; exact hr ha) S.ri, S.rsF, S.rsO⟩
theorem Stp.other {D : Addr} {ho : HO} (T : Stp A σ F H e F' H' e') (hD : H D = none) : Stp A σ F H e F' (upd H' D ho) e' :=
  ⟨T.ex, fun a o q hr hn => by
    obtain ⟨h1, h2⟩ := T.keep a o q hr hn
    exact ⟨by rw [upd_ne (ne_of_none q hD)]; exact h1, h2⟩, T.own, fun a h => by
    by_cases c : a = D
    · subst c; rw [upd_same]; simp
    · rw [upd_ne c]; exact T.liv a h⟩
theorem Sta.grow (S : Sta A K σ F H e) {x : V} {H2 : Hp} {d : D} (h : (H2 = H ∧ RDu K F u x d) ∨ ∃ p ho, H p = none ∧ H2 = upd H p ho ∧ RDu K (upd F p ho) u x d) :
    ∃ F2, Sta A K σ F2 H2 e ∧ RDu K F2 u x d ∧ Stp A σ F H e F2 H2 e := by
  rcases h with ⟨h, r⟩ | ⟨p, ho, hp, h, r⟩
  · subst h; exact ⟨F, S, r, Stp.refl⟩
  · subst h
    obtain ⟨S', T⟩ := S.pushF (ho := ho) hp
    exact ⟨_, S', r, T⟩
theorem Stp.unwipe {σ3 : St} {e3 e4 : En} {F2 F4 H2 H4 : Hp} (G : GS vs (L2.wipe σ vs) (ewipe e' vs) σ3 e3) (T : Stp A σ3 F2 H2 e3 F4 H4 e4) (hw : L2.wipe σ3 vs = L2.wipe σ vs) (iff : ∀ i p, Owns (ewipe e4 vs) (L2.wipe σ3 vs) i p ↔ Owns e4 σ3 i p) :
    Stp A (L2.wipe σ vs) F2 H2 (ewipe e' vs) F4 H4 (ewipe e4 vs) :=
  ⟨T.ex, fun a o q hr hn => T.keep a o q hr fun i z => hn i (G.own i a z), fun i p h => by
    rw [← hw] at h
    exact G.own i p (T.own i p ((iff i p).mp h)), T.liv⟩
theorem er_lc (hi : IER A K u wi vi) (hg : GER A K vs u g wg) (ht : ETR A K tt wt) (he : ER A K te we) : ER A K (tLc wi g tt te vs) (wLc vi wg wt we vs) := by
  intro σ F H e post S q Q k
  refine hi σ F H e _ S q _ fun J ds F1 H1 e1 T1 S1 J1 ⟨hn, hlen, hloop⟩ => ?_
  intro D hD
  have no1 : ∀ j p, j ∈ vs → ¬ Owns e1 σ j p := hn.owns (A := A) (K := K)
  have hD0 : H D = none := by
    cases z : H D with
    | none => rfl
    | some w => exact absurd hD (T1.liv D (by rw [z]; simp))
  obtain ⟨S1w, iff1⟩ := S1.wipe no1
  have noW : ∀ (e' : En) j p, j ∈ vs → ¬ Owns (ewipe e' vs) (L2.wipe σ vs) j p := fun e' j p hj ⟨⟨o, h1⟩, _⟩ => by
    rcases ewipe_at e' vs h1 with ⟨_, z⟩ | ⟨z, _⟩
    · cases z
    · exact z hj
  let P : Nat → Hp → Prop := fun i H => ∃ (F' : Hp) (e' : En) (acc : List PyData) (ws : List V), Sta A K (L2.wipe σ vs) F' H (ewipe e' vs) ∧ Stp A (L2.wipe σ vs) F1 H1 (ewipe e1 vs) F' H (ewipe e' vs) ∧
    H D = some (.lst ws) ∧ RDs K F' ws acc ∧ F' D = none ∧ D ∉ A.rs ∧ (∀ i, ¬ Owns (ewipe e' vs) (L2.wipe σ vs) i D) ∧ acc.length ≤ i ∧ i ≤ ds.length ∧
    lcLoop wg wt we vs (ds.drop i) acc e' fun acc e2 => post (.new (.lst acc)) (erest e1 e2 vs)
  have fin : ∀ H', P ds.length H' → Q (.ref D) H' := by
    rintro H' ⟨F', e', acc, ws, S', T', gD, rd, fD, nr, no, _, _, hl⟩
    rw [List.drop_length] at hl
    have hl : post (.new (.lst acc)) (erest e1 e' vs) := hl
    have hle : e'.sl.length = e1.sl.length := by
      have a := S'.len
      have b := S1.len
      rw [ewipe_len, wipe_len] at a
      omega
    have at' : ∀ (j : Nat) (s : Sl), (erest e1 e' vs).sl[j]? = some s → (j ∈ vs ∧ e1.sl[j]? = some s) ∨ (j ∉ vs ∧ e'.sl[j]? = some s) := fun j s h => erest_at e1 e' hle vs h
    have wat : ∀ (j : Nat) (s : Sl), j ∉ vs → e'.sl[j]? = some s → (ewipe e' vs).sl[j]? = some s := fun j s c h => by
      have hl : j < (ewipe e' vs).sl.length := by rw [ewipe_len]; exact (List.getElem?_eq_some_iff.mp h).1
      have g := List.getElem?_eq_getElem hl
      rcases ewipe_at e' vs g with ⟨z, _⟩ | ⟨_, z⟩
      · exact absurd z c
      · rw [g, ← z]; exact h
    have ow : ∀ i p, Owns (erest e1 e' vs) σ i p → Owns (ewipe e' vs) (L2.wipe σ vs) i p := fun i p ⟨⟨o, h1⟩, h2⟩ => by
      rcases at' i _ h1 with ⟨c, z⟩ | ⟨c, z⟩
      · exact absurd ⟨⟨o, z⟩, h2⟩ (no1 i p c)
      · exact ⟨⟨o, wat i _ c z⟩, by rw [wipe_out c]; exact h2⟩
    have S2 : Sta A K σ F' H' (erest e1 e' vs) := by
      refine ⟨by rw [erest_len, hle]; exact S1.len, S'.ex, fun j s hs => ?_, fun i j p h1 h2 => S'.sep i j p (ow i p h1) (ow j p h2), ?_, S'.rsF, fun i p h => S'.rsO i p (ow i p h)⟩
      · rcases at' j s hs with ⟨c, z⟩ | ⟨c, z⟩
        · have h := S1.at_ j s z
          match s, z, h with
          | .un, _, _ => trivial
          | .im a, _, ⟨v, e1, r⟩ => exact ⟨v, e1, RelA.ext T'.ex r⟩
          | .ow o, z, ⟨p, ho, e1, _⟩ => exact absurd ⟨⟨o, z⟩, e1⟩ (no1 j p c)
        · have h := S'.at_ j s (wat j s c z)
          rw [wipe_out c] at h
          exact h
      · have h := S'.ri
        rw [ewipe_n] at h
        rw [erest_n]; exact h
    have T2 : Stp A σ F1 H1 e1 F' H' (erest e1 e' vs) := ⟨T'.ex, fun a o q hr hn => T'.keep a o q hr fun i z => hn i ((iff1 i a).mp z), fun i p h => (iff1 i p).mp (T'.own i p (ow i p h)), T'.liv⟩
    exact k _ (.new (.lst acc)) F' H' _ (T1.trans T2) S2 ⟨D, _, rfl, hD0, fD, gD, ⟨ws, rfl, rd⟩, nr, fun i z => no i (ow i D z)⟩ hl
  refine ⟨fun i m H => P i H ∧ m = ds.length - i, ⟨_, ?_, rfl⟩, ?_⟩
  · obtain ⟨S2, T2⟩ := S1w.push (ho := .lst []) hD
    refine ⟨F1, e1, [], [], S2, T2, upd_same, .nil, ?_, S1.rsA hD, S1w.noO hD, Nat.le_refl _, Nat.zero_le _, hloop⟩
    cases z : F1 D with
    | none => rfl
    | some w => rw [S1.ex D w z] at hD; cases hD
  · rintro i m H' ⟨p, hm⟩
    by_cases hlt : i < ds.length
    · right
      obtain ⟨F', e', acc, ws, S', T', gD, rd, fD, nr, no, hacc, _, hl⟩ := p
      have hd : ds[i]? = some ds[i] := List.getElem?_eq_getElem hlt
      refine ⟨J1.go i F' H' T'.ex S'.ex hlt, fun H2 => P (i + 1) H2, fun H2 p2 => ⟨ds.length - (i + 1), by omega, p2, rfl⟩, fun x H2 hy => ?_⟩
      obtain ⟨F2, S2, rdx, T2⟩ := S'.grow (J1.yld i F' H' x H2 _ T'.ex S'.ex hy hd)
      have hdrop : ds.drop i = ds[i] :: ds.drop (i + 1) := List.drop_eq_getElem_cons hlt
      rw [hdrop] at hl
      obtain ⟨gD2, fD2⟩ := T2.keep D _ gD nr no
      refine hg _ F2 H2 _ _ x _ S2 rdx (noW e') hl _ fun σ3 e3 G3 S3 p3 => ?_
      have hw : L2.wipe σ3 vs = L2.wipe σ vs := by
        rw [wipe_congr G3.len vs fun j hj => (G3.same j hj).1, wipe_idem]
      refine ⟨hw, ht σ3 F2 H2 e3 _ S3 p3 _ fun b F4 H4 e4 T4 S4 p4 => ?_⟩
      have no3 : ∀ i, ¬ Owns e3 σ3 i D := fun i z => no i (G3.own i D z)
      obtain ⟨gD4, fD4⟩ := T4.keep D _ gD2 nr no3
      cases b with
      | false =>
        have no4 : ∀ j p, j ∈ vs → ¬ Owns e4 σ3 j p := fun j p hj z => G3.none j p hj (T4.own j p z)
        obtain ⟨S4w, iff4⟩ := S4.wipe no4
        have T4w := Stp.unwipe G3 T4 hw iff4
        rw [hw] at S4w iff4
        refine ⟨F4, e4, acc, ws, S4w, (T'.trans T2).trans T4w, gD4, rd.ext (T2.ex.trans T4.ex), fD4.trans (fD2.trans fD), nr, fun i z => no3 i (T4.own i D ((iff4 i D).mp z)), by omega, hlt, p4⟩
      | true =>
        refine he σ3 F4 H4 e4 _ S4 p4 _ fun y r F5 H5 e5 T5 S5 R5 p5 => ?_
        obtain ⟨F6, B6, S6, x6, rel, _⟩ := freeze1 T5 S5 (.inr R5)
        have noE4 : ∀ i, ¬ Owns e4 σ3 i D := fun i z => no3 i (T4.own i D z)
        obtain ⟨gD6, fD6⟩ := B6.keep D _ gD4 nr noE4
        cases hr : r.av with
        | dat d' =>
          simp only [hr] at p5
          rw [hr] at rel
          have rel : RD K F6 y d' := rel
          have no6 : ∀ j p, j ∈ vs → ¬ Owns (frz1 e5 r) σ3 j p := fun j p hj z => G3.none j p hj (T4.own j p (B6.own j p z))
          obtain ⟨S6w, iff6⟩ := S6.wipe no6
          have T6w := Stp.unwipe G3 (T4.trans B6) hw iff6
          rw [hw] at S6w iff6
          have noD : ∀ i, ¬ Owns (ewipe (frz1 e5 r) vs) (L2.wipe σ vs) i D := fun i z => noE4 i (B6.own i D ((iff6 i D).mp z))
          have fD' : F6 D = none := fD6.trans (fD4.trans (fD2.trans fD))
          refine ⟨ws, gD6, Nat.lt_of_lt_of_le (by rw [rd.length]; omega) line5, F6, frz1 e5 r, acc ++ [d'], ws ++ [y], S6w.other fD' nr noD, ((T'.trans T2).trans T6w).other hD, upd_same,
            (rd.ext (T2.ex.trans (T4.ex.trans B6.ex))).append (.cons rel .nil), fD', nr, noD, ?_, hlt, p5⟩
          rw [List.length_append, List.length_singleton]; omega
        | _ => simp only [hr] at p5
    · left
      have ei : i = ds.length := by
        obtain ⟨_, _, _, _, _, _, _, _, _, _, _, _, h, _⟩ := p
        omega
      subst ei
      refine ⟨?_, fin H' p⟩
      obtain ⟨F', e', acc, ws, S', T', _⟩ := p
      exact J1.stop F' H' T'.ex S'.ex
theorem er_yes : ETR A K tYes wYes := fun σ F H e post S q Q k => k true F H e Stp.refl S q
structure PDTs (X : Cx) (A : Amb) (ifs : List Expr) (tt : TT) (w : WT) : Prop where
  pts : PTs X ifs tt
  er : ETR A X.K tt w
theorem pdts_nil : PDTs X A [] tYes wYes := ⟨pts_nil, er_yes⟩
theorem pdts_one {c : Expr} (h : PDT X A c tt wt) : PDTs X A [c] tt wt := ⟨pts_one h.pt, h.er⟩
/-! the transformers that only say what the data layer asks -/
def cE (A : Amb) (K : PySem.W.Frag) (w : WE) : TE := fun σ H Q => ∃ F e post, Sta A K σ F H e ∧ w e post ∧ ∀ v r F' H' e', Stp A σ F H e F' H' e' → Sta A K σ F' H' e' → RsR K A σ H F' H' e' v r → post r e' → Q v H'
def cT (A : Amb) (K : PySem.W.Frag) (w : WT) : TT := fun σ H Q => ∃ F e post, Sta A K σ F H e ∧ w e post ∧ ∀ b F' H' e', Stp A σ F H e F' H' e' → Sta A K σ F' H' e' → post b e' → Q b H'
def cG (A : Amb) (K : PySem.W.Frag) (ks : List Nat) (u : Bool) (w : WG) : TG := fun v σ H Q => ∃ F e d post, Sta A K σ F H e ∧ RDu K F u v d ∧ (∀ j p, j ∈ ks → ¬ Owns e σ j p) ∧ w d e post ∧ ∀ σ' e', GS ks σ e σ' e' → Sta A K σ' F H e' → post e' → Q σ' H
theorem er_c' {w : WE} : ER A K (cE A K w) w := fun σ F H e post S q Q k => ⟨F, e, post, S, q, k⟩
theorem et_c' {w : WT} : ETR A K (cT A K w) w := fun σ F H e post S q Q k => ⟨F, e, post, S, q, k⟩
theorem eg_c' {ks : List Nat} {u : Bool} {w : WG} : GER A K ks u (cG A K ks u w) w := fun σ F H e d v post S r n q Q k => ⟨F, e, d, post, S, r, n, q, k⟩
theorem PD.c {e : Expr} {w : WE} (h : PD X A e te w) (hK : X.K = K) : PE X e (cE A K w) := by
  subst hK
  exact ⟨fun pins s σ H Q I ⟨F, e, post, S, q, k⟩ => h.pe.run pins s σ H Q I (h.er σ F H e post S q Q k)⟩
theorem PDTs.c {e : List Expr} {w : WT} (h : PDTs X A e tt w) (hK : X.K = K) : PTs X e (cT A K w) := by
  subst hK
  exact ⟨fun pins s σ H Q I ⟨F, e, post, S, q, k⟩ => h.pts.run pins s σ H Q I (h.er σ F H e post S q Q k)⟩
theorem PGD.c {e : Expr} {ks : List Nat} {u : Bool} {w : WG} (h : PGD X A e ks u g w) (hK : X.K = K) : PG X e (cG A K ks u w) := by
  subst hK
  exact ⟨fun pins s σ H v z Q I r ⟨F, e, d, post, S, rd, n, q, k⟩ => h.pg.run pins s σ H v z Q I r (h.er σ F H e d v post S rd n q Q k)⟩
/-- a part of a comprehension's block, whatever transformer carries it -/
abbrev BE (X : Cx) (A : Amb) (scope : Scope) (e : Expr) (w : WE) : Prop := ∀ (s : Shared) (H : Hp) (C : Addr) (cl : List (Str × Addr)) (fp : List Addr), ∃ te, PD (X.blk s H scope (compEnvC scope cl C X.env) fp) A e te w
abbrev BT (X : Cx) (A : Amb) (scope : Scope) (e : List Expr) (w : WT) : Prop := ∀ (s : Shared) (H : Hp) (C : Addr) (cl : List (Str × Addr)) (fp : List Addr), ∃ tt, PDTs (X.blk s H scope (compEnvC scope cl C X.env) fp) A e tt w
abbrev BG (X : Cx) (A : Amb) (scope : Scope) (e : Expr) (ks : List Nat) (u : Bool) (w : WG) : Prop := ∀ (s : Shared) (H : Hp) (C : Addr) (cl : List (Str × Addr)) (fp : List Addr), ∃ g, PGD (X.blk s H scope (compEnvC scope cl C X.env) fp) A e ks u g w
theorem pd_lc {elt tg iter : Expr} {ifs : List Expr} {scope : Scope} {own : List (Str × Nat)} (hc : X.calm = true) (hN : X.N.Nodup) (hi : PID X A tg iter u wi vi) (ok : BlkOk X.N X.env.scope scope own)
    (hg : BG X A scope tg (own.map (·.2)) u wg) (ht : BT X A scope ifs wt) (he : BE X A scope elt we) (hs : ∀ x, foldedSetIterable iter X.env x = pure x := by intro _; rfl) :
    PD X A (.ListComp elt [⟨tg, iter, ifs, 0⟩] scope pos) (tLc wi (cG A X.K (own.map (·.2)) u wg) (cT A X.K wt) (cE A X.K we) (own.map (·.2))) (wLc vi wg wt we (own.map (·.2))) :=
  ⟨pe_lc hc hN hi.pi ok (fun s H C cl fp => by obtain ⟨g, h⟩ := hg s H C cl fp; exact h.c rfl) (fun s H C cl fp => by obtain ⟨g, h⟩ := ht s H C cl fp; exact h.c rfl) (fun s H C cl fp => by obtain ⟨g, h⟩ := he s H C cl fp; exact h.c rfl) hs,
   er_lc hi.er eg_c' et_c' er_c'⟩
theorem psd_setLc {i : Nat} {y : Str} {py spos : Pos} {elt tg iter : Expr} {ifs : List Expr} {scope : Scope} {own : List (Str × Nat)} (hc : X.calm = true) (hN : X.N.Nodup) (hy : X.N[i]? = some y) (hyl : X.env.scope.names.lookup y = some .local)
    (hsw : swapsWith (.ListComp elt [⟨tg, iter, ifs, 0⟩] scope pos) (some (.Name y py)) spos.line X.env = pure true) (hi : PID X A tg iter u wi vi) (ok : BlkOk X.N X.env.scope scope own)
    (hg : BG X A scope tg (own.map (·.2)) u wg) (ht : BT X A scope ifs wt) (he : BE X A scope elt we) (hs : ∀ x, foldedSetIterable iter X.env x = pure x := by intro _; rfl) :
    PSD X A (.Assign [.Name y py] (.ListComp elt [⟨tg, iter, ifs, 0⟩] scope pos) spos) (tAsg (tLc wi (cG A X.K (own.map (·.2)) u wg) (cT A X.K wt) (cE A X.K we) (own.map (·.2))) (gName i)) (wSet i (wLc vi wg wt we (own.map (·.2)))) :=
  ⟨ps_setLc hc hN hy hyl hsw hi.pi ok (fun s H C cl fp => by obtain ⟨g, h⟩ := hg s H C cl fp; exact h.c rfl) (fun s H C cl fp => by obtain ⟨g, h⟩ := ht s H C cl fp; exact h.c rfl) (fun s H C cl fp => by obtain ⟨g, h⟩ := he s H C cl fp; exact h.c rfl) hs,
   sr_set (er_lc hi.er eg_c' et_c' er_c')⟩
end
end PL

namespace PL
open PySem L2

/-! ### a def as it may be called -/
structure PFn (P : Program) (w : World) (K : PySem.W.Frag) (mg : Str → Option Value) (base : Heap) (A : Amb) (x : Str) (ps : List Str) (fs : FS) (k : Nat) : Prop where
  ex : ∃ f fd, mg x = some (.ref f) ∧ PySem.W.keepIn K (.ref f) = true ∧ Binds K fd ps [] ∧ FnOk P w K mg base CX0 k f fd ps (spD A K fs)
theorem pfn_mk {P : Program} {w : World} {K : PySem.W.Frag} {mg : Str → Option Value} {base : Heap} {A : Amb} {x : Str} {ps : List Str} {fs : FS} {k : Nat} {f : Addr} {fd : FuncData} {y q : Str} {st : Stmt} (G : Fun K y q st f fd) (hm : mg x = some (.ref f))
    (hb : ∀ (kV doc pm : Value) (an : Option Addr) (cdv ct : Value) (us : List Value), us.length = ps.length → bindArgs (PySem.W.fnOf y q (defArgs st) (defBody st) (defScope st) .none kV doc pm an cdv ct) ⟨us, []⟩ = pure (ps.zip us))
    (h : FnOk P w K mg base CX0 k f fd ps (spD A K fs)) : PFn P w K mg base A x ps fs k := ⟨f, fd, hm, G.kp, G.binds hb, h⟩
section
variable {X : Cx} {A : Amb} {x : Str} {ps : List Str} {fs : FS} {k j : Nat} {ex : Expr} {es : List Expr} {ta : TA} {wa : WA} {p pos : Pos}
/-- the transformer of a call, the promise alone -/
def tCallD (sp : Sp) (t : TA) : TE := fun σ H Q => t σ H fun vs H1 => sp (vs ++ []) H1 Q E0
theorem pd_fn (G : PFn X.prog X.w X.K X.mg X.base A x ps fs k) (hr : Room j X.A) (hj : k ≤ j) (hg : Gl X x) (ha : PAD X A (ex :: es) ta wa) (hdb : (x == ("__debug__" : Str)) = false := by decide)
    (he : starEach (ex :: es) X.env = (false, eval ex X.env) :: starEach es X.env := by rfl) (hpl : (backTo pos (starEach es X.env)).any (·.1) = false := by rfl) :
    PD X A (.Call (.Name x p) (ex :: es) [] pos) (tCallD (spD A X.K fs) ta) (wCall fs wa) := by
  obtain ⟨f, fd, hm, hk, hb, F⟩ := G.ex
  exact pd_call F (hr.mono hj) hg hm hk hb pass0 ha hdb he hpl
end
/-! ### constants of the module -/
section
variable {X : Cx} {A : Amb} {x : Str} {pos : Pos}
theorem pd_gInt {i : Int} (hm : ∃ t, X.mg x = some (.int i t)) (hg : Gl X x) (hd : (x == ("__debug__" : Str)) = false := by decide) : PD X A (.Name x pos) (tC (.int i)) (wC (.int i)) := by
  obtain ⟨t, hm⟩ := hm
  exact pd_glob hg hm ⟨t, rfl⟩ (fun _ => .int i) hd
theorem pd_gStr {z : Str} (hm : ∃ t, X.mg x = some (.str z t)) (hg : Gl X x) (hd : (x == ("__debug__" : Str)) = false := by decide) : PD X A (.Name x pos) (tC (.str z)) (wC (.str z)) := by
  obtain ⟨t, hm⟩ := hm
  exact pd_glob hg hm ⟨t, rfl⟩ (fun _ => .str z) hd
/-- a built-in class as a value -/
theorem pd_ty {T : String} (hm : X.mg x = none) (hv : bootBuiltins x = some (.type T)) (hg : Gl X x) (hn : x ≠ "__name__" := by decide) (hd : (x == ("__debug__" : Str)) = false := by decide) : PD X A (.Name x pos) (tC (.ty T)) (wRaw (.ty T)) := pd_bltn hg hm hv rfl hn hd
end
/-! ### isinstance, sorted of tuples, list(range), len(set) -/
def encI (ns : List Int) : D := .tuple (ns.map PyData.int)
def fSortedT (d : Nat) (B : Int) : FL := fun as k => match as with
  | [.dat (.list ds)] => ∃ ts : List (List Int), ds = ts.map encI ∧ ts.length < 64 ∧ (∀ t ∈ ts, t.length = d ∧ TS.Bd B t) ∧ ∀ ss : List (List Int), ss.Perm ts → ss.Pairwise (fun a b => TS.code B a ≤ TS.code B b) → k (.new (.lst (ss.map encI)))
  | _ => False
section
variable {X : Cx} {A : Amb} {K : PySem.W.Frag} {F H : Hp} {v : V}
theorem call_isi' {T : String} {g : D → Bool} (hk : ∀ d, PySem.W.kitOne X.K (tyD d) (.type T) = some (g d)) : CallR X (.builtin "isinstance") (RLD X.K (fIsi T g)) := by
  intro pins s σ H xs us Q I r ⟨F, as, post, ex, ta, q, ok⟩
  unfold fIsi at q
  split at q
  · rename_i d T'
    obtain ⟨rfl, q⟩ := q
    cases ta with
    | cons ta tn =>
      cases tn with
      | cons tb tn =>
        cases tn
        have e2 : _ = V.ty T' := tb
        exact call_isi pins s σ H _ us Q I r ⟨_, _, _, _, _, by rw [e2], .ty T', ta.tyx ex, hk d, ok.bl q⟩
  · exact q.elim
theorem RDs.perm {vs ws : List V} (h : ws.Perm vs) : ∀ {ts : List (List Int)}, RDs K F vs (ts.map encI) → ∃ ss : List (List Int), ss.Perm ts ∧ RDs K F ws (ss.map encI) := by
  induction h with
  | nil => intro ts r; exact ⟨ts, .refl _, r⟩
  | cons x h ih =>
    intro ts r
    cases ts with
    | nil => cases r
    | cons t ts =>
      cases r with
      | cons r1 r2 =>
        obtain ⟨ss, h1, h2⟩ := ih r2
        exact ⟨t :: ss, .cons _ h1, .cons r1 h2⟩
  | swap x y l =>
    intro ts r
    cases ts with
    | nil => cases r
    | cons t ts =>
      cases r with
      | cons r1 r2 =>
        cases ts with
        | nil => cases r2
        | cons t2 ts =>
          cases r2 with
          | cons r2 r3 => exact ⟨t2 :: t :: ts, .swap _ _ _, .cons r2 (.cons r1 r3)⟩
  | trans h1 h2 ih1 ih2 =>
    intro ts r
    obtain ⟨s2, p2, r2⟩ := ih2 r
    obtain ⟨s1, p1, r1⟩ := ih1 r2
    exact ⟨s1, p1.trans p2, r1⟩
theorem RD.tupI {t : List Int} (ex : Ex F H) (h : RD K F v (encI t)) : TupI K H v t := by
  unfold encI at h
  cases h with
  | tup h1 h2 =>
    have e := h2.ints
    subst e
    exact ⟨_, rfl, ex.sqt h1.sqt⟩
theorem RDs.tupP (ex : Ex F H) {B : Int} : ∀ {ws : List V} {ss : List (List Int)}, RDs K F ws (ss.map encI) → ws.Pairwise (fun x y => ∀ n m, TupI K H x n → TupI K H y m → TS.code B n ≤ TS.code B m) → ss.Pairwise (fun a b => TS.code B a ≤ TS.code B b)
  | _, [], _, _ => .nil
  | _, t :: ss, .cons r1 r2, .cons h1 h2 => by
    refine .cons (fun b hb => ?_) (RDs.tupP ex r2 h2)
    obtain ⟨j, hj⟩ := List.mem_iff_getElem?.mp hb
    obtain ⟨w, hw, rw'⟩ := r2.get (i := j) (d := encI b) (by rw [List.getElem?_map, hj]; rfl)
    exact h1 w (List.mem_of_getElem? hw) t b (r1.tupI ex) (rw'.tupI ex)
theorem call_sortedT' {d : Nat} {B : Int} (hd : 1 ≤ d) : CallR X (.builtin "sorted") (RLD X.K (fSortedT d B)) := by
  intro pins s σ H xs us Q I r ⟨F, as, post, ex, ta, q, ok⟩
  unfold fSortedT at q
  split at q
  · cases ta with
    | cons ta tn =>
      cases tn
      obtain ⟨ts, hts, hl, hb, q⟩ := q
      subst hts
      obtain ⟨p, vs, e1, h1, r1⟩ := ta.vlst
      have l1 := r1.length
      rw [List.length_map] at l1
      refine cr_sortT (B := B) hd pins s σ H _ us Q I r ⟨p, vs, by rw [e1], SqL.of h1, by omega, fun x hx => ?_, fun ys l hp hs nl => ?_⟩
      · obtain ⟨j, hj⟩ := List.mem_iff_getElem?.mp hx
        obtain ⟨e, he, re⟩ := r1.getV hj
        rw [List.getElem?_map] at he
        obtain ⟨t, ht, e2⟩ := Option.map_eq_some_iff.mp he
        subst e2
        exact ⟨t, re.tupI ex, hb t (List.mem_of_getElem? ht)⟩
      · obtain ⟨ss, h2, r2⟩ := RDs.perm hp r1
        exact ok.new l _ (.lst _) nl ⟨ys, rfl, r2⟩ (q ss h2 (r2.tupP ex hs))
  · exact q.elim
/-- list(range(..)) -/
def wLRg1 (we : WE) : WE := fun e post => we e fun r e1 => match r.av with
  | .dat (.int j) => -1000000 ≤ j ∧ j ≤ 1000000 ∧ post (.new (.lst (rngD 0 j.toNat))) e1
  | _ => False
def wLRg2 (we wf : WE) : WE := fun e post => we e fun r e1 => wf e1 fun s e2 => match r, s.av with
  | .val (.dat (.int i)), .dat (.int j) => -1000000 ≤ i ∧ i ≤ 1000000 ∧ -1000000 ≤ j ∧ j ≤ 1000000 ∧ post (.new (.lst (rngD i (j - i).toNat))) e2
  | _, _ => False
theorem rds_rng (a b : Int) : RDs K F (rgV a b) (rngD a (b - a).toNat) := by
  have e1 : rgV a b = ((List.range (b - a).toNat).map fun (i : Nat) => a + (i : Int)).map V.int := by simp [rgV, List.map_map, Function.comp_def]
  have e2 : rngD a (b - a).toNat = ((List.range (b - a).toNat).map fun (i : Nat) => a + (i : Int)).map PyData.int := by simp [rngD, List.map_map, Function.comp_def]
  rw [e1, e2]
  exact RDs.of_ints _
variable {te tf : TE} {we wf : WE} {x y : Expr} {p p2 q pos : Pos} {σ : St} {e : En}
theorem er_lrg1 (h : ER A K te we) : ER A K (tLstRg (tRg1 te)) (wLRg1 we) := by
  intro σ F H e post S q Q k
  refine h σ F H e _ S q _ fun v r F1 H1 e1 T1 S1 R1 h1 => ?_
  revert h1
  cases hr : r.av with
  | dat d =>
    cases d with
    | int j =>
      intro ⟨h1, h2, h3⟩
      refine ⟨j, R1.vint S1 hr, ⟨by omega, by omega, by omega, by omega, by omega⟩, fun q nq => ?_⟩
      have e0 : j.toNat = (j - 0).toNat := by simp
      rw [e0] at h3
      exact (S1.okr (post := fun r => post r e1) fun v r F3 H3 T3 S3 R3 p3 => k v r F3 H3 _ (T1.trans T3) S3 (R3.early T1) p3).new q _ (.lst _) nq ⟨_, rfl, rds_rng 0 j⟩ h3
    | _ => exact fun h1 => h1.elim
  | _ => exact fun h1 => h1.elim
theorem er_lrg2 (h : ER A K te we) (h2 : ER A K tf wf) : ER A K (tLstRg (tRg2 te tf)) (wLRg2 we wf) := by
  intro σ F H e post S q Q k
  refine h σ F H e _ S q _ fun v r F1 H1 e1 T1 S1 R1 h1 => ?_
  refine h2 σ F1 H1 e1 _ S1 h1 _ fun u s F2 H2 e2 T2 S2 R2 h2 => ?_
  match r, R1, h2 with
  | .val (.dat (.int i)), R1, h2 =>
    revert h2
    cases hs : s.av with
    | dat d =>
      cases d with
      | int j =>
        intro ⟨a1, a2, a3, a4, h3⟩
        refine ⟨i, j, R1.vint S1 rfl, R2.vint S2 hs, ⟨by omega, by omega, by omega, by omega, by omega⟩, fun q nq => ?_⟩
        exact (S2.okr (post := fun r => post r e2) fun v r F3 H3 T3 S3 R3 p3 => k v r F3 H3 _ ((T1.trans T2).trans T3) S3 (R3.early (T1.trans T2)) p3).new q _ (.lst _) nq ⟨_, rfl, rds_rng i j⟩ h3
      | _ => exact fun h1 => h1.elim
    | _ => exact fun h1 => h1.elim
theorem pd_lrg1 (hc : X.calm = true) (hg : Gl X "list") (hm : X.mg "list" = none) (hg2 : Gl X "range") (hm2 : X.mg "range" = none) (h : PD X A x te we)
    (na : starEach [x] X.env = (false, eval x X.env) :: starEach [] X.env := by rfl) (nb : starEach [.Call (.Name "range" p2) [x] [] q] X.env = (false, eval (.Call (.Name "range" p2) [x] [] q) X.env) :: starEach [] X.env := by rfl) :
    PD X A (.Call (.Name "list" p) [.Call (.Name "range" p2) [x] [] q] [] pos) (tLstRg (tRg1 te)) (wLRg1 we) := ⟨pe_listRg hc hg hm (prg_1 hg2 hm2 h.pe na) nb, er_lrg1 h.er⟩
theorem pd_lrg2 (hc : X.calm = true) (hg : Gl X "list") (hm : X.mg "list" = none) (hg2 : Gl X "range") (hm2 : X.mg "range" = none) (h : PD X A x te we) (h2 : PD X A y tf wf)
    (na : starEach [x, y] X.env = (false, eval x X.env) :: starEach [y] X.env := by rfl) (nb : starEach [y] X.env = (false, eval y X.env) :: starEach [] X.env := by rfl) (hp : (backTo q (starEach [y] X.env)).any (·.1) = false := by rfl)
    (nc : starEach [.Call (.Name "range" p2) [x, y] [] q] X.env = (false, eval (.Call (.Name "range" p2) [x, y] [] q) X.env) :: starEach [] X.env := by rfl) :
    PD X A (.Call (.Name "list" p) [.Call (.Name "range" p2) [x, y] [] q] [] pos) (tLstRg (tRg2 te tf)) (wLRg2 we wf) := ⟨pe_listRg hc hg hm (prg_2 hg2 hm2 h.pe h2.pe na nb hp) nc, er_lrg2 h.er h2.er⟩
/-- len(set(t)), t a tuple of ints: the number of its members -/
def tLenSet (K : PySem.W.Frag) (ta : TE) : TE := fun σ H Q => ta σ H fun x H1 => ∃ (l : Addr) (ns : List Int), x = V.ref l ∧ SqT K H1 l (ns.map V.int) ∧ ns.length < 64 ∧ ∀ ks : List Int, ks.Nodup → (∀ k, k ∈ ks ↔ k ∈ ns) → Q (.int ks.length) H1
theorem pe_lenSet' (hc : X.calm = true) (hg : Gl X "len") (hm : X.mg "len" = none) (hg2 : Gl X "set") (hm2 : X.mg "set" = none) (ha : PE X x te)
    (na : starEach [x] X.env = (false, eval x X.env) :: starEach [] X.env := by rfl) : PE X (.Call (.Name "len" p) [.Call (.Name "set" p2) [x] [] q] [] pos) (tLenSet X.K te) := by
  refine ⟨fun pins s σ H Q I h => ?_⟩
  refine PyProof.Rows.Call_ (ld_blt I hg hm PySem.boot_len ?_)
  refine PyProof.Rows.callWith_builtin1 (PyProof.Rows.args_cons ?_ rfl) rfl rfl
  refine PyProof.Rows.Call_ (ld_blt I hg2 hm2 PyProof.Rows.boot_set ?_)
  refine PyProof.Rows.callWith_type1 (PyProof.Rows.args_cons (thn (ha.run pins s σ H _ I h) fun v s1 ⟨x, H1, I1, r1, q1⟩ => PyProof.Rows.args_nil ?_) na) na rfl
  obtain ⟨l, ns, rfl, hq, h1, q1⟩ := q1
  cases r1
  obtain ⟨its, r, pl, hz⟩ := I1.tuple hq
  refine call_set_tupI ns (I1.ok.hd hc) pl (intsAre_of r) (by unfold scanBound; omega) fun h' tk c hR hcn hk => ?_
  refine PyProof.Rows.args_nil ?_
  obtain ⟨o, es, ep, t, ho, hex, hd, _, hnd, hmem, hlt, hf, hn, _⟩ := hR
  have I2 : L2.Inv X pins σ H1 { s1 with heap := h', toks := tk } := I1.kept fun b o e => hk b o e
  have e1 : (es.toList.map keyOf).length = c := by rw [List.length_map, Array.length_toList]; exact hn
  have q2 := q1 (es.toList.map keyOf) hnd fun k => by rw [← hmem k]; simp
  rw [e1] at q2
  refine call_len_set ho hex hd hf ?_ ⟨.int c, H1, I2.tok _, ⟨_, by rw [hn]⟩, q2⟩
  rw [hn]; omega
def wLenSet (we : WE) : WE := fun e post => we e fun r e1 => match r with
  | .val (.dat (.tuple ds)) => ∃ ns, ints? ds = some ns ∧ ns.length < 64 ∧ ∀ ks : List Int, ks.Nodup → (∀ k, k ∈ ks ↔ k ∈ ns) → post (vInt ks.length) e1
  | _ => False
theorem er_lenSet (h : ER A K te we) : ER A K (tLenSet K te) (wLenSet we) := by
  intro σ F H e post S q Q k
  refine h σ F H e _ S q _ fun v r F1 H1 e1 T1 S1 R1 h1 => ?_
  match r, R1, h1 with
  | .val (.dat (.tuple ds)), R1, ⟨ns, hi, hl, h1⟩ =>
    obtain ⟨p, vs, ev, f1, g1, rd⟩ := TopR.vtup (v := v) (ds := ds) S1.ex (R1.top S1)
    have e2 := rd.ints' hi
    subst e2
    exact ⟨p, ns, ev, g1, hl, fun ks h2 h3 => k _ (vInt _) F1 H1 e1 T1 S1 (.int _) (h1 ks h2 h3)⟩
theorem pd_lenSet (hc : X.calm = true) (hg : Gl X "len") (hm : X.mg "len" = none) (hg2 : Gl X "set") (hm2 : X.mg "set" = none) (h : PD X A x te we)
    (na : starEach [x] X.env = (false, eval x X.env) :: starEach [] X.env := by rfl) : PD X A (.Call (.Name "len" p) [.Call (.Name "set" p2) [x] [] q] [] pos) (tLenSet X.K te) (wLenSet we) := ⟨pe_lenSet' hc hg hm hg2 hm2 h.pe na, er_lenSet h.er⟩
end
end PL

namespace PL
open PySem L2
/-! ### small things that the derivations name -/
theorem vis {sc : Scope} {x : Str} (h : sc.names.lookup x = some .local) : Vis sc x := Or.inl h
theorem lcl {sc : Scope} {x : Str} (h : sc.names.lookup x = some .local) : Loc sc x := Or.inl h
theorem u1 {k : Nat} {A : Around} (r : Room k A) : A.units + 1 < cLine := by have := r.un; omega
theorem u65 {k : Nat} {A : Around} (r : Room k A) : A.units + 65 < cLine := by have := r.un; omega
theorem u64 {k : Nat} {A : Around} (r : Room k A) : A.units + 64 < cLine := by have := r.un; omega
theorem isi_int {K : PySem.W.Frag} : ∀ d : D, PySem.W.kitOne K (tyD d) (.type "int") = some (dInt d) := fun d => ((kit_none K).1 d).trans (congrArg some (by cases d <;> simp [isD, dInt, dBool, dStr, dTup]))
theorem isi_bool {K : PySem.W.Frag} : ∀ d : D, PySem.W.kitOne K (tyD d) (.type "bool") = some (dBool d) := fun d => ((kit_none K).2.1 d).trans (congrArg some (by cases d <;> simp [isD, dInt, dBool, dStr, dTup]))
theorem isi_str {K : PySem.W.Frag} : ∀ d : D, PySem.W.kitOne K (tyD d) (.type "str") = some (dStr d) := fun d => ((kit_none K).2.2.1 d).trans (congrArg some (by cases d <;> simp [isD, dInt, dBool, dStr, dTup]))
theorem isi_tuple {K : PySem.W.Frag} : ∀ d : D, PySem.W.kitOne K (tyD d) (.type "tuple") = some (dTup d) := fun d => ((kit_none K).2.2.2 d).trans (congrArg some (by cases d <;> simp [isD, dInt, dBool, dStr, dTup]))
section
variable {X : Cx} {A : Amb} {K : PySem.W.Frag} {σ : St} {F F1 H H1 : Hp} {e e1 : En} {te tf : TE} {we wf : WE} {pos : Pos}
/-- {} -/
def wDict0 : WE := fun e post => post (.new (.dic [])) e
theorem er_dict0 : ER A K tDNewK wDict0 := fun σ F H e post S q Q k p hp =>
  (S.okr (post := fun r => post r e) fun v r F3 H3 T3 S3 R3 p3 => k v r F3 H3 _ T3 S3 R3 p3).new p _ (.dic []) hp ⟨[], rfl, .nil⟩ q
theorem pd_dict0 : PD X A (.Dict [] [] pos) tDNewK wDict0 := ⟨pe_dnewK, er_dict0⟩
/-- over zip of two lists or two tuples -/
def zipD (xs ys : List D) : List D := List.zipWith (fun x y => .tuple [x, y]) xs ys
def wiZip (we wf : WE) : WI := fun e post => we e fun r e1 => wf e1 fun s e2 => match r, s.av with
  | .val (.dat (.list xs)), .dat (.list ys) => xs.length = ys.length ∧ post (zipD xs ys) (frz1 e2 s)
  | .val (.dat (.tuple xs)), .dat (.tuple ys) => xs.length = ys.length ∧ post (zipD xs ys) (frz1 e2 s)
  | _, _ => False
theorem zipD_get {xs ys : List D} {i : Nat} {d : D} (h : (zipD xs ys)[i]? = some d) : ∃ x y, xs[i]? = some x ∧ ys[i]? = some y ∧ d = .tuple [x, y] := by
  unfold zipD at h
  rw [List.getElem?_zipWith] at h
  cases hx : xs[i]? with
  | none => rw [hx] at h; simp at h
  | some x =>
    cases hy : ys[i]? with
    | none => rw [hx, hy] at h; simp at h
    | some y => rw [hx, hy] at h; exact ⟨x, y, rfl, rfl, (by simpa using h.symm)⟩
theorem itr_zip {a b : Addr} {vs ws : List V} {xs ys : List D} {J : It} {G : Hp → Addr → List V → Prop} (g1 : ∀ {F H : Hp} {a : Addr} {v : List V}, Ex F H → G F a v → G H a v)
    (h1 : G F a vs) (r1 : RDs K F vs xs) (h2 : G F b ws) (r2 : RDs K F ws ys) (hl : xs.length = ys.length)
    (go : ∀ i H, (∃ xs ys v w, G H a xs ∧ G H b ys ∧ xs[i]? = some v ∧ ys[i]? = some w) → J.go i H)
    (stop : ∀ i H, (∃ xs ys, G H a xs ∧ G H b ys ∧ (xs.length ≤ i ∨ ys.length ≤ i)) → J.stop i H)
    (yld : ∀ i H v H', J.yld i H v H' → ∃ T x y, v = .ref T ∧ H T = none ∧ H' = upd H T (.tup [x, y]) ∧ (∀ xs, G H a xs → xs[i]? = some x) ∧ ∀ ys, G H b ys → ys[i]? = some y) : ItR K true J F (zipD xs ys) := by
  have l1 := r1.length
  have l2 := r2.length
  have lz : (zipD xs ys).length = xs.length := by unfold zipD; rw [List.length_zipWith]; omega
  refine ⟨fun i F1 H1 x y hi => go i H1 ⟨vs, ws, vs[i]'(by omega), ws[i]'(by omega), g1 y (g1 x h1), g1 y (g1 x h2), by simp, by simp⟩, fun i F1 H1 v H2 d x y hy hd => .inr ?_,
    fun F1 H1 x y => stop _ H1 ⟨vs, ws, g1 y (g1 x h1), g1 y (g1 x h2), .inl (by omega)⟩⟩
  obtain ⟨T, v1, v2, ev, hT, hH, q1, q2⟩ := yld _ _ _ _ hy
  obtain ⟨d1, d2, e1, e2, ed⟩ := zipD_get hd
  obtain ⟨u1, hu1, s1⟩ := r1.get e1
  obtain ⟨u2, hu2, s2⟩ := r2.get e2
  have z1 := q1 vs (g1 y (g1 x h1))
  have z2 := q2 ws (g1 y (g1 x h2))
  rw [hu1] at z1; cases z1
  rw [hu2] at z2; cases z2
  have hF : F1 T = none := by
    cases z : F1 T with
    | none => rfl
    | some w => rw [y T w z] at hT; cases hT
  refine ⟨T, _, hT, hH, ?_⟩
  rw [ev, ed]
  have xx := x.trans (upd_old (ho := .tup [v1, v2]) hF)
  exact ⟨T, [v1, v2], [d1, d2], rfl, .inl (.inl upd_same), .cons (s1.ext xx) (.cons (s2.ext xx) .nil), rfl⟩
theorem ier_zip (h : ER A K te we) (h2 : ER A K tf wf) : IER A K true (RZ.iZipA K (tCons te (tCons tf tNil))) (wiZip we wf) := by
  intro σ F H e post S q R k
  refine h σ F H e _ S q _ fun v r F1 H1 e1 T1 S1 R1 h1 => ?_
  refine h2 σ F1 H1 e1 _ S1 h1 _ fun u s F2 H2 e2 T2 S2 R2 h2 => ?_
  match r, R1, h2 with
  | .val (.dat (.list xs)), R1, h2 =>
    revert h2
    cases hs : s.av with
    | dat d =>
      cases d with
      | list ys =>
        intro ⟨hl, hp⟩
        obtain ⟨F3, B3, S3, b, ws, ev, rd, q⟩ := frzSeq T2 S2 R2 (.inl hs)
        have R1' : RD K F1 v (.list xs) := R1
        cases R1' with
        | lst f1 r1 =>
          rename_i a vs R0
          have f1' := B3.ex _ _ f1
          rcases q with ⟨_, q⟩ | ⟨q, _⟩
          · exact ⟨a, b, vs, ws, by rw [ev], .inl ⟨SqL.of (S3.ex _ _ f1'), SqL.of (S3.ex _ _ q), k _ _ F3 H2 _ (T1.trans B3) S3 (itr_zip (G := fun F a v => F a = some (.lst v)) (fun e h => e _ _ h) f1' (r1.ext B3.ex) q rd hl
              (fun i H ⟨xs, ys, v, w, g1, g2, q1, q2⟩ => ⟨xs, ys, v, w, SqL.of g1, SqL.of g2, q1, q2⟩) (fun i H ⟨xs, ys, g1, g2, q⟩ => ⟨xs, ys, SqL.of g1, SqL.of g2, q⟩)
              (fun i H v H' ⟨T, x, y, a1, a2, a3, a4, a5⟩ => ⟨T, x, y, a1, a2, a3, fun xs g => a4 xs (SqL.of g), fun ys g => a5 ys (SqL.of g)⟩)) hp⟩⟩
          · rw [hs] at q; cases q
      | _ => exact fun h => h.elim
    | _ => exact fun h => h.elim
  | .val (.dat (.tuple xs)), R1, h2 =>
    revert h2
    cases hs : s.av with
    | dat d =>
      cases d with
      | tuple ys =>
        intro ⟨hl, hp⟩
        obtain ⟨F3, B3, S3, b, ws, ev, rd, q⟩ := frzSeq T2 S2 R2 (.inr hs)
        have R1' : RD K F1 v (.tuple xs) := R1
        cases R1' with
        | tup f1 r1 =>
          rename_i a vs R0
          have f1' := B3.ex.tup f1
          rcases q with ⟨q, _⟩ | ⟨_, q⟩
          · rw [hs] at q; cases q
          · exact ⟨a, b, vs, ws, by rw [ev], .inr ⟨S3.ex.sqt f1'.sqt, S3.ex.sqt q.sqt, k _ _ F3 H2 _ (T1.trans B3) S3 (itr_zip (G := fun F a v => SqT K F a v) (fun e h => e.sqt h) f1'.sqt (r1.ext B3.ex) q.sqt rd hl
              (fun i H h => h) (fun i H h => h) (fun i H v H' h => h)) hp⟩⟩
      | _ => exact fun h => h.elim
    | _ => exact fun h => h.elim
theorem pid_zip {x y : Expr} {p tpos : Pos} {elts : List Expr} {kk : Nat} (hg : Gl X "zip") (hm : X.mg "zip" = none) (h : PD X A x te we) (h2 : PD X A y tf wf) (hs : starEach [x, y] X.env = (false, eval x X.env) :: starEach [y] X.env := by rfl) (hs2 : starEach [y] X.env = (false, eval y X.env) :: starEach [] X.env := by rfl)
    (hpl : (backTo pos (starEach [y] X.env)).any (·.1) = false := by rfl) : PID X A (.Tuple elts kk tpos) (.Call (.Name "zip" p) [x, y] [] pos) true (RZ.iZipA X.K (tCons te (tCons tf tNil))) (wiZip we wf) :=
  ⟨RZ.pi_zipA hg hm (pa_cons h.pe (pa_cons h2.pe pa_nil hs2) hs) hs hpl, ier_zip h.er h2.er⟩
end
theorem ite_b {c b : Bool} {P Q : Prop} (hc : b = c) (h1 : c = true → P) (h2 : c = false → Q) : if b = true then P else Q := by
  subst hc
  split
  · exact h1 ‹_›
  · exact h2 (Bool.eq_false_iff.mpr ‹_›)
/-! ### a name's list or dict is given up -/
def wFrz (i : Nat) (w : WE) : WE := fun e post => match e.sl[i]? with
  | some (.ow o) => w (e.set i (.im o.av)) post
  | _ => w e post
theorem er_frz {A : Amb} {K : PySem.W.Frag} {te : TE} {we : WE} {i : Nat} (h : ER A K te we) : ER A K te (wFrz i we) := by
  intro σ F H e post S q Q k
  unfold wFrz at q
  split at q
  · rename_i o ho
    obtain ⟨p, ho', e1, f, g, r⟩ := S.at_ i _ ho
    have R : RsR K A σ H F H e (.ref p) (.loan i o) := ⟨ho, e1⟩
    obtain ⟨F1, B1, S1, x1, rel, _⟩ := freeze1 (r := .loan i o) Stp.refl S (.inr R)
    have ee : frz1 e (.loan i o) = e.set i (.im o.av) := by
      show (match e.sl[i]? with | some (.ow _) => e.set i (.im o.av) | _ => e) = _
      rw [ho]
    rw [ee] at B1 S1
    exact h σ F1 H _ _ S1 q Q fun v r F' H' e' T S2 R2 p2 => k v r F' H' e' (B1.trans T) S2 R2 p2
  · exact h σ F H e _ S q Q k
theorem pd_frz {X : Cx} {A : Amb} {ex : Expr} {te : TE} {we : WE} (i : Nat) (h : PD X A ex te we) : PD X A ex te (wFrz i we) := ⟨h.pe, er_frz h.er⟩
/-! ### reading a comprehension -/
/-- one turn of a comprehension: what it gives, if anything -/
def lcBody (wg : WG) (wt : WT) (we : WE) (d : D) (e : En) (k : Option D → En → Prop) : Prop := wg d e fun e2 => wt e2 fun b e3 => if b = true then we e3 fun r e4 => (match r.av with
    | .dat d' => k (some d') (frz1 e4 r)
    | _ => False) else k none e3
section
variable {wg : WG} {wt : WT} {we : WE} {vs : List Nat} {e e1 e2 : En}
theorem lcLoop_body {d : D} {ds acc : List D} {k : List D → En → Prop} (h : lcBody wg wt we d (ewipe e vs) fun o e' => match o with | some r => lcLoop wg wt we vs ds (acc ++ [r]) e' k | none => lcLoop wg wt we vs ds acc e' k) :
    lcLoop wg wt we vs (d :: ds) acc e k := h
theorem ewipe_get (e : En) (ks : List Nat) (j : Nat) (hj : j ∉ ks) : (ewipe e ks).sl[j]? = e.sl[j]? := by
  cases h : e.sl[j]? with
  | none =>
    rw [List.getElem?_eq_none_iff] at h ⊢
    rw [ewipe_len]; exact h
  | some s =>
    have hl : j < (ewipe e ks).sl.length := by rw [ewipe_len]; exact (List.getElem?_eq_some_iff.mp h).1
    have g := List.getElem?_eq_getElem hl
    rcases ewipe_at e ks g with ⟨z, _⟩ | ⟨_, z⟩
    · exact absurd z hj
    · rw [g, ← z, h]
theorem erest_eq (h : (ewipe e2 vs).sl = (ewipe e1 vs).sl) : erest e1 e2 vs = ⟨e1.sl, e2.n⟩ := by
  have l : e2.sl.length = e1.sl.length := by
    have := congrArg List.length h
    rwa [ewipe_len, ewipe_len] at this
  have hs : (erest e1 e2 vs).sl = e1.sl := by
    refine List.ext_getElem? fun j => ?_
    cases z : (erest e1 e2 vs).sl[j]? with
    | none =>
      rw [List.getElem?_eq_none_iff, erest_len, l] at z
      exact (List.getElem?_eq_none_iff.mpr z).symm
    | some s =>
      rcases erest_at e1 e2 l vs z with ⟨_, q⟩ | ⟨c, q⟩
      · exact q.symm
      · rw [← ewipe_get e1 vs j c, ← h, ewipe_get e2 vs j c, q]
  have hn := erest_n e1 e2 vs
  cases q : erest e1 e2 vs with
  | mk a b => rw [q] at hs hn; cases hs; cases hn; rfl
theorem lcLoop_pure {α : Type} {enc : α → D} {f : α → Option D} {e0 : En} : ∀ {xs : List α} {acc : List D} {e : En} {k : List D → En → Prop}, (∀ x ∈ xs, ∀ k : Option D → En → Prop, (∀ o e', f x = o → ewipe e' vs = e0 → k o e') → lcBody wg wt we (enc x) e0 k) →
    ewipe e vs = e0 → (∀ e', ewipe e' vs = e0 → k (acc ++ xs.filterMap f) e') → lcLoop wg wt we vs (xs.map enc) acc e k
  | [], acc, e, k, _, he, hk => by
    have := hk e he
    rw [List.filterMap_nil, List.append_nil] at this
    exact this
  | x :: xs, acc, e, k, h, he, hk => by
    refine lcLoop_body ?_
    rw [he]
    refine h x (by simp) _ fun o e' ho he' => ?_
    subst ho
    cases hf : f x with
    | none =>
      refine lcLoop_pure (fun y hy => h y (by simp [hy])) he' fun e2 h2 => ?_
      have := hk e2 h2
      rwa [List.filterMap_cons_none hf] at this
    | some r =>
      refine lcLoop_pure (fun y hy => h y (by simp [hy])) he' fun e2 h2 => ?_
      have := hk e2 h2
      rw [List.filterMap_cons_some hf] at this
      rwa [List.append_assoc]
/-- a comprehension whose turns change nothing -/
theorem lc_pure {α : Type} (enc : α → D) (f : α → Option D) (xs : List α) {ds : List D} {post : Rs → En → Prop} (hds : ds = xs.map enc) (hno : noOw e1 vs) (hl : xs.length ≤ 100000)
    (h : ∀ x ∈ xs, ∀ k : Option D → En → Prop, (∀ o e', f x = o → ewipe e' vs = ewipe e1 vs → k o e') → lcBody wg wt we (enc x) (ewipe e1 vs) k) (hk : post (.new (.lst (xs.filterMap f))) e1) :
    LcOk wg wt we vs post ds e1 := by
  subst hds
  refine ⟨hno, by rw [List.length_map]; exact hl, lcLoop_pure h rfl fun e' he' => ?_⟩
  have hn : e'.n = e1.n := by have := congrArg En.n he'; rwa [ewipe_n, ewipe_n] at this
  rw [erest_eq (congrArg En.sl he'), hn]
  exact hk
theorem lcLoop_inv {sl0 : List Sl} {I : Nat → List D → Nat → Prop} {k : List D → En → Prop} : ∀ {ds : List D} {i : Nat} {acc : List D} {e : En},
    (∀ j d acc n (k : Option D → En → Prop), ds[j]? = some d → I (i + j) acc n → (∀ o e', (ewipe e' vs).sl = sl0 → (match o with | some r => I (i + j + 1) (acc ++ [r]) e'.n | none => I (i + j + 1) acc e'.n) → k o e') → lcBody wg wt we d ⟨sl0, n⟩ k) →
    (ewipe e vs).sl = sl0 → I i acc e.n → (∀ acc e', (ewipe e' vs).sl = sl0 → I (i + ds.length) acc e'.n → k acc e') → lcLoop wg wt we vs ds acc e k
  | [], i, acc, e, _, he, hi, hk => hk acc e he hi
  | d :: ds, i, acc, e, h, he, hi, hk => by
    refine lcLoop_body ?_
    have ee : ewipe e vs = ⟨sl0, e.n⟩ := by
      cases q : ewipe e vs with
      | mk a b =>
        have hn := ewipe_n e vs
        rw [q] at he hn
        cases he; cases hn; rfl
    rw [ee]
    refine h 0 d acc e.n _ rfl hi fun o e' h1 h2 => ?_
    have hk' : ∀ acc e', (ewipe e' vs).sl = sl0 → I (i + 1 + ds.length) acc e'.n → k acc e' := fun acc e' a b => hk acc e' a (by rw [List.length_cons]; rw [show i + (ds.length + 1) = i + 1 + ds.length by omega]; exact b)
    have h' : ∀ j d' acc n (k : Option D → En → Prop), ds[j]? = some d' → I (i + 1 + j) acc n → (∀ o e', (ewipe e' vs).sl = sl0 → (match o with | some r => I (i + 1 + j + 1) (acc ++ [r]) e'.n | none => I (i + 1 + j + 1) acc e'.n) → k o e') → lcBody wg wt we d' ⟨sl0, n⟩ k := fun j d' acc n k hd hI hk => by
      rw [show i + 1 + j = i + (j + 1) by omega] at hI hk
      exact h (j + 1) d' acc n k (by simpa using hd) hI hk
    cases o with
    | none => exact lcLoop_inv h' h1 h2 hk'
    | some r => exact lcLoop_inv h' h1 h2 hk'
/-- a comprehension by an invariant: number of turns, what is gathered, the counter -/
theorem lc_inv (I : Nat → List D → Nat → Prop) {ds : List D} {post : Rs → En → Prop} (hno : noOw e1 vs) (hl : ds.length ≤ 100000) (i0 : I 0 [] e1.n)
    (h : ∀ j d acc n (k : Option D → En → Prop), ds[j]? = some d → I j acc n → (∀ o e', (ewipe e' vs).sl = (ewipe e1 vs).sl → (match o with | some r => I (j + 1) (acc ++ [r]) e'.n | none => I (j + 1) acc e'.n) → k o e') → lcBody wg wt we d ⟨(ewipe e1 vs).sl, n⟩ k)
    (hk : ∀ acc n, I ds.length acc n → post (.new (.lst acc)) ⟨e1.sl, n⟩) : LcOk wg wt we vs post ds e1 := by
  refine ⟨hno, hl, lcLoop_inv (sl0 := (ewipe e1 vs).sl) (I := I) (i := 0) (fun j d acc n k hd hI hk => ?_) rfl i0 fun acc e' he hI => ?_⟩
  · rw [Nat.zero_add] at hI hk
    exact h j d acc n k hd hI hk
  · rw [erest_eq he]
    rw [Nat.zero_add] at hI
    exact hk acc _ hI
end
end PL

namespace PL
open PySem L2
/-! ### data whose == is equality: no dict, no bool, nested n deep at most -/
mutual
def nice : Nat → D → Bool
  | _, .none => true
  | _, .bool _ => false
  | _, .int _ => true
  | _, .str x => PyData.strOk x
  | 0, .list _ => false
  | 0, .tuple _ => false
  | n + 1, .list xs => niceA n xs
  | n + 1, .tuple xs => niceA n xs
  | _, .dict _ => false
def niceA : Nat → List D → Bool
  | _, [] => true
  | n, x :: xs => nice n x && niceA n xs
end
theorem niceA_iff {n : Nat} : ∀ {xs : List D}, niceA n xs = true ↔ ∀ x ∈ xs, nice n x = true
  | [] => by simp [niceA]
  | x :: xs => by simp [niceA, niceA_iff (xs := xs)]
theorem nice_list {n : Nat} {xs : List D} (h : ∀ x ∈ xs, nice n x = true) : nice (n + 1) (.list xs) = true := by simp only [nice]; exact niceA_iff.mpr h
theorem nice_tup {n : Nat} {xs : List D} (h : ∀ x ∈ xs, nice n x = true) : nice (n + 1) (.tuple xs) = true := by simp only [nice]; exact niceA_iff.mpr h
theorem nice_int {n : Nat} {i : Int} : nice n (.int i) = true := by cases n <;> rfl
theorem nice_non {n : Nat} : nice n .none = true := by cases n <;> rfl
theorem nice_str {n : Nat} {x : Str} (h : PyData.strOk x = true) : nice n (.str x) = true := by cases n <;> simpa [nice] using h
mutual
theorem nice_mono {m n : Nat} (h : m ≤ n) : ∀ {d : D}, nice m d = true → nice n d = true
  | .none, _ => nice_non
  | .bool b, q => by cases m <;> simp [nice] at q
  | .int _, _ => nice_int
  | .str _, q => nice_str (by cases m <;> simpa [nice] using q)
  | .list xs, q => by
    cases m with
    | zero => simp [nice] at q
    | succ m =>
      cases n with
      | zero => omega
      | succ n =>
        simp only [nice] at q ⊢
        exact niceA_mono (by omega) q
  | .tuple xs, q => by
    cases m with
    | zero => simp [nice] at q
    | succ m =>
      cases n with
      | zero => omega
      | succ n =>
        simp only [nice] at q ⊢
        exact niceA_mono (by omega) q
  | .dict _, q => by cases m <;> simp [nice] at q
theorem niceA_mono {m n : Nat} (h : m ≤ n) : ∀ {xs : List D}, niceA m xs = true → niceA n xs = true
  | [], _ => rfl
  | x :: xs, q => by
    simp only [niceA, Bool.and_eq_true] at q ⊢
    exact ⟨nice_mono h q.1, niceA_mono h q.2⟩
end
mutual
theorem nice_lay : ∀ {n : Nat} {d : D}, nice n d = true → PyData.canLay0 d = true ∧ PyData.depth d ≤ n
  | _, .none, _ => ⟨rfl, by simp [PyData.depth]⟩
  | n, .bool b, q => by cases n <;> simp [nice] at q
  | _, .int _, _ => ⟨rfl, by simp [PyData.depth]⟩
  | n, .str x, q => ⟨by cases n <;> simpa [nice, PyData.canLay0] using q, by simp [PyData.depth]⟩
  | 0, .list xs, q => by simp [nice] at q
  | n + 1, .list xs, q => by
    simp only [nice] at q
    obtain ⟨h1, h2⟩ := niceA_lay q
    exact ⟨by simp only [PyData.canLay0]; exact h1, by simp only [PyData.depth]; omega⟩
  | 0, .tuple xs, q => by simp [nice] at q
  | n + 1, .tuple xs, q => by
    simp only [nice] at q
    obtain ⟨h1, h2⟩ := niceA_lay q
    exact ⟨by simp only [PyData.canLay0]; exact h1, by simp only [PyData.depth]; omega⟩
  | n, .dict _, q => by cases n <;> simp [nice] at q
theorem niceA_lay : ∀ {n : Nat} {xs : List D}, niceA n xs = true → PyData.canLayAll0 xs = true ∧ PyData.depthAll xs ≤ n
  | _, [], _ => ⟨rfl, by simp [PyData.depthAll]⟩
  | n, x :: xs, q => by
    simp only [niceA, Bool.and_eq_true] at q
    obtain ⟨h1, h2⟩ := nice_lay q.1
    obtain ⟨h3, h4⟩ := niceA_lay q.2
    exact ⟨by simp only [PyData.canLayAll0, Bool.and_eq_true]; exact ⟨h1, h3⟩, by simp only [PyData.depthAll]; omega⟩
end
theorem shaped_nice {n : Nat} {d : D} (h : nice n d = true) (hn : n ≤ 64 := by omega) : SeqAt.shaped d = true := by
  obtain ⟨h1, h2⟩ := nice_lay h
  unfold SeqAt.shaped
  rw [h1, Bool.true_and, decide_eq_true_eq]
  omega
theorem shaped_int {i : Int} : SeqAt.shaped (.int i) = true := shaped_nice (n := 0) nice_int
theorem shaped_str {x : Str} (h : PyData.strOk x = true) : SeqAt.shaped (.str x) = true := shaped_nice (n := 0) (nice_str h)
mutual
theorem eqv_nice : ∀ {n m : Nat} {a b : D}, nice n a = true → nice m b = true → (PyData.eqv a b = true ↔ a = b)
  | n, m, .bool _, b, h, _ => by cases n <;> simp [nice] at h
  | n, m, .dict _, b, h, _ => by cases n <;> simp [nice] at h
  | n, m, a, .bool _, _, h => by cases m <;> simp [nice] at h
  | n, m, a, .dict _, _, h => by cases m <;> simp [nice] at h
  | _, _, .none, .none, _, _ => by simp [PyData.eqv]
  | _, _, .none, .int _, _, _ => by simp [PyData.eqv]
  | _, _, .none, .str _, _, _ => by simp [PyData.eqv]
  | _, _, .none, .list _, _, _ => by simp [PyData.eqv]
  | _, _, .none, .tuple _, _, _ => by simp [PyData.eqv]
  | _, _, .int _, .none, _, _ => by simp [PyData.eqv]
  | _, _, .int _, .int _, _, _ => by simp [PyData.eqv]
  | _, _, .int _, .str _, _, _ => by simp [PyData.eqv]
  | _, _, .int _, .list _, _, _ => by simp [PyData.eqv]
  | _, _, .int _, .tuple _, _, _ => by simp [PyData.eqv]
  | _, _, .str _, .none, _, _ => by simp [PyData.eqv]
  | _, _, .str _, .int _, _, _ => by simp [PyData.eqv]
  | _, _, .str _, .str _, _, _ => by simp [PyData.eqv]
  | _, _, .str _, .list _, _, _ => by simp [PyData.eqv]
  | _, _, .str _, .tuple _, _, _ => by simp [PyData.eqv]
  | _, _, .list _, .none, _, _ => by simp [PyData.eqv]
  | _, _, .list _, .int _, _, _ => by simp [PyData.eqv]
  | _, _, .list _, .str _, _, _ => by simp [PyData.eqv]
  | _, _, .list _, .tuple _, _, _ => by simp [PyData.eqv]
  | _, _, .tuple _, .none, _, _ => by simp [PyData.eqv]
  | _, _, .tuple _, .int _, _, _ => by simp [PyData.eqv]
  | _, _, .tuple _, .str _, _, _ => by simp [PyData.eqv]
  | _, _, .tuple _, .list _, _, _ => by simp [PyData.eqv]
  | 0, _, .list _, .list _, h, _ => by simp [nice] at h
  | _, 0, .list _, .list _, _, h => by simp [nice] at h
  | 0, _, .tuple _, .tuple _, h, _ => by simp [nice] at h
  | _, 0, .tuple _, .tuple _, _, h => by simp [nice] at h
  | n + 1, m + 1, .list xs, .list ys, h, k => by
    simp only [nice] at h k
    rw [show PyData.eqv (.list xs) (.list ys) = PyData.eqvAll xs ys by simp [PyData.eqv], eqvA_nice h k]
    simp
  | n + 1, m + 1, .tuple xs, .tuple ys, h, k => by
    simp only [nice] at h k
    rw [show PyData.eqv (.tuple xs) (.tuple ys) = PyData.eqvAll xs ys by simp [PyData.eqv], eqvA_nice h k]
    simp
theorem eqvA_nice : ∀ {n m : Nat} {xs ys : List D}, niceA n xs = true → niceA m ys = true → (PyData.eqvAll xs ys = true ↔ xs = ys)
  | _, _, [], [], _, _ => by simp [PyData.eqvAll]
  | _, _, [], _ :: _, _, _ => by simp [PyData.eqvAll]
  | _, _, _ :: _, [], _, _ => by simp [PyData.eqvAll]
  | n, m, x :: xs, y :: ys, h, k => by
    simp only [niceA, Bool.and_eq_true] at h k
    rw [show PyData.eqvAll (x :: xs) (y :: ys) = (PyData.eqv x y && PyData.eqvAll xs ys) by simp [PyData.eqvAll], Bool.and_eq_true, eqv_nice h.1 k.1, eqvA_nice h.2 k.2]
    simp
end
theorem eqv_dec {n m : Nat} {a b : D} [Decidable (a = b)] (h : nice n a = true) (k : nice m b = true) : PyData.eqv a b = decide (a = b) := by
  cases q : PyData.eqv a b with
  | true => rw [eq_comm, decide_eq_true_eq]; exact (eqv_nice h k).mp q
  | false => rw [eq_comm, decide_eq_false_iff_not]; intro e; rw [(eqv_nice h k).mpr e] at q; cases q
theorem eqv_intD {i j : Int} : PyData.eqv (.int i) (.int j) = decide (i = j) := by
  rw [show PyData.eqv (.int i) (.int j) = (i == j) by simp [PyData.eqv]]
  rfl
/-- the naturals as data -/
def nD (i : Nat) : D := .int (i : Nat)
theorem any_nD {xs : List Nat} {s : Nat} : ((xs.map nD).any fun z => PyData.eqv z (nD s)) = decide (s ∈ xs) := by
  induction xs with
  | nil => simp
  | cons x xs ih =>
    rw [List.map_cons, List.any_cons, ih, show PyData.eqv (nD x) (nD s) = decide ((x : Int) = (s : Int)) from eqv_intD]
    by_cases h : x = s
    · subst h; simp
    · have h2 : ¬ (x : Int) = (s : Int) := by omega
      have h3 : ¬ s = x := fun z => h z.symm
      simp [h2, h3]
theorem nice_nats {n : Nat} {xs : List Nat} : ∀ d ∈ xs.map nD, nice n d = true := by
  intro d hd
  obtain ⟨i, _, e⟩ := List.mem_map.mp hd
  subst e
  exact nice_int
theorem rng_nats (n : Nat) : rngD 0 ((n : Int)).toNat = (List.range n).map nD := by
  unfold rngD
  rw [Int.toNat_natCast]
  refine List.map_congr_left fun i _ => ?_
  show PyData.int (0 + (i : Int)) = PyData.int (i : Int)
  rw [Int.zero_add]
end PL

namespace PL
open PySem L2
theorem le5 {n : Nat} (h : Nat.ble n 100000 = true) : n ≤ 100000 := Nat.le_of_ble_eq_true h
/-! ### webs as data -/
inductive Kd where
  | inp | neg | pick | add | sub | mul
  | con (i : Int)
  deriving DecidableEq
def Kd.d : Kd → D
  | .inp => .str "in"
  | .neg => .str "neg"
  | .pick => .str "pick"
  | .add => .str "+"
  | .sub => .str "-"
  | .mul => .str "*"
  | .con i => .int i
abbrev Sp1 := Kd × List Nat
def encN (l : List Nat) : D := .tuple (l.map nD)
def encS (s : Sp1) : D := .tuple [s.1.d, encN s.2]
def encW (w : List Sp1) : D := .tuple (w.map encS)
theorem Kd.nice (k : Kd) {n : Nat} : PL.nice n k.d = true := by
  cases k <;> first | exact nice_int | exact nice_str (by decide +kernel)
theorem nice_encN {n : Nat} {l : List Nat} : nice (n + 1) (encN l) = true := nice_tup nice_nats
theorem nice_encS {s : Sp1} : nice 2 (encS s) = true := nice_tup fun d hd => by
  rcases List.mem_cons.mp hd with e | hd
  · subst e; exact s.1.nice
  · rcases List.mem_cons.mp hd with e | hd
    · subst e; exact nice_encN
    · cases hd
theorem nice_encW {w : List Sp1} : nice 3 (encW w) = true := nice_tup fun d hd => by
  obtain ⟨s, _, e⟩ := List.mem_map.mp hd
  subst e
  exact nice_encS
theorem Kd.eqIn {k : Kd} : PyData.eqv k.d (.str "in") = decide (k = .inp) := by
  have := eqv_nice (n := 0) (m := 0) k.nice (Kd.nice .inp)
  cases q : PyData.eqv k.d (.str "in") with
  | true =>
    have e : k.d = Kd.inp.d := this.mp q
    cases k <;> first | rfl | exact absurd e (by simp only [Kd.d]; intro h; injection h with h; exact absurd h (by decide +kernel)) | exact absurd e (by simp [Kd.d])
  | false =>
    have e : ¬ k = .inp := fun z => by
      have q2 : PyData.eqv k.d Kd.inp.d = false := q
      rw [this.mpr (by rw [z])] at q2; cases q2
    simp [e]
/-- the ties of a web: giver, taker, place -/
def tiesOf (t : Nat) (l : List Nat) : List (List Int) := l.mapIdx fun p (g : Nat) => [(g : Int), (t : Int), (p : Int)]
def tiesL (w : List Sp1) : List (List Int) := (w.mapIdx fun t s => tiesOf t s.2).flatten
def resL (w : List Sp1) : List Nat := (List.range w.length).filter fun s => !decide (∃ x ∈ w, s ∈ x.2)
def rankN (w : List Sp1) (s : Nat) : Nat := ((w.take s).filter fun x => decide (x.1 = .inp)).length
/-- what ties needs of a web -/
structure TOk (w : List Sp1) : Prop where
  len : w.length < 64
  many : (tiesL w).length < 64
  giv : ∀ s ∈ w, ∀ i ∈ s.2, i < 64
  arity : ∀ s ∈ w, s.2.length < 64
theorem tiesL_mem {w : List Sp1} {t : List Int} (h : t ∈ tiesL w) : ∃ (a : Nat) (s : Sp1) (p g : Nat), w[a]? = some s ∧ s.2[p]? = some g ∧ t = [(g : Int), (a : Int), (p : Int)] := by
  unfold tiesL at h
  obtain ⟨l, h1, h2⟩ := List.mem_flatten.mp h
  obtain ⟨a, ha, e⟩ := List.mem_mapIdx.mp h1
  subst e
  unfold tiesOf at h2
  obtain ⟨p, hp, e⟩ := List.mem_mapIdx.mp h2
  exact ⟨a, w[a], p, w[a].2[p], List.getElem?_eq_getElem ha, List.getElem?_eq_getElem hp, e.symm⟩
theorem TOk.bd {w : List Sp1} (h : TOk w) {t : List Int} (ht : t ∈ tiesL w) : t.length = 3 ∧ TS.Bd 64 t := by
  obtain ⟨a, s, p, g, h1, h2, e⟩ := tiesL_mem ht
  subst e
  refine ⟨rfl, fun m hm => ?_⟩
  have ha := (List.getElem?_eq_some_iff.mp h1).1
  have hp := (List.getElem?_eq_some_iff.mp h2).1
  have hs := List.mem_of_getElem? h1
  have hg := h.giv s hs g (List.mem_of_getElem? h2)
  have hr := h.arity s hs
  have hl := h.len
  rcases List.mem_cons.mp hm with e | hm
  · omega
  · rcases List.mem_cons.mp hm with e | hm
    · omega
    · rcases List.mem_cons.mp hm with e | hm
      · omega
      · cases hm
theorem tiesL_giver {w : List Sp1} {g : Nat} : (∃ t ∈ tiesL w, t.head? = some (g : Int)) ↔ ∃ x ∈ w, g ∈ x.2 := by
  constructor
  · rintro ⟨t, ht, e⟩
    obtain ⟨a, s, p, g', h1, h2, e'⟩ := tiesL_mem ht
    subst e'
    have : (g' : Int) = (g : Int) := by simpa using e
    have : g' = g := by omega
    subst this
    exact ⟨s, List.mem_of_getElem? h1, List.mem_of_getElem? h2⟩
  · rintro ⟨x, hx, hg⟩
    obtain ⟨a, ha⟩ := List.mem_iff_getElem?.mp hx
    obtain ⟨p, hp⟩ := List.mem_iff_getElem?.mp hg
    refine ⟨[(g : Int), (a : Int), (p : Int)], ?_, rfl⟩
    unfold tiesL
    obtain ⟨la, ea⟩ := List.getElem?_eq_some_iff.mp ha
    obtain ⟨lp, ep⟩ := List.getElem?_eq_some_iff.mp hp
    refine List.mem_flatten.mpr ⟨tiesOf a x.2, List.mem_mapIdx.mpr ⟨a, la, by rw [ea]⟩, ?_⟩
    exact List.mem_mapIdx.mpr ⟨p, lp, by rw [ep]⟩
theorem tiesL_take (w : List Sp1) (i : Nat) (s : Sp1) (h : w[i]? = some s) : tiesL (w.take (i + 1)) = tiesL (w.take i) ++ tiesOf i s.2 := by
  obtain ⟨l, e⟩ := List.getElem?_eq_some_iff.mp h
  unfold tiesL
  rw [List.take_succ, h, Option.toList_some, List.mapIdx_append, List.flatten_append]
  simp [List.length_take, Nat.min_eq_left (Nat.le_of_lt l)]
theorem tiesL_take_le (w : List Sp1) (i : Nat) : (tiesL (w.take i)).length ≤ (tiesL w).length := by
  have e : tiesL w = tiesL (w.take i ++ w.drop i) := by rw [List.take_append_drop]
  rw [e]
  unfold tiesL
  rw [List.mapIdx_append, List.flatten_append, List.length_append]
  omega
theorem enumW (w : List Sp1) {i : Nat} {d : D} (h : (enumD (w.map encS))[i]? = some d) : ∃ s, w[i]? = some s ∧ d = .tuple [nD i, encS s] := by
  obtain ⟨x, h1, h2⟩ := enumD_get h
  rw [List.getElem?_map] at h1
  obtain ⟨s, hs, e⟩ := Option.map_eq_some_iff.mp h1
  exact ⟨s, hs, by rw [h2, e]; rfl⟩
theorem enumN (l : List Nat) : enumD (l.map nD) = (l.mapIdx fun p g => (p, g)).map fun x => .tuple [nD x.1, nD x.2] := by
  unfold enumD
  refine List.ext_getElem? fun i => ?_
  rw [List.getElem?_mapIdx, List.getElem?_map, List.getElem?_map, List.getElem?_mapIdx]
  cases l[i]? <;> rfl
theorem tiesOf_enc (t : Nat) (l : List Nat) : (tiesOf t l).map encI = (l.mapIdx fun p g => (p, g)).filterMap fun x => some (.tuple [nD x.2, nD t, nD x.1]) := by
  rw [List.filterMap_eq_map' ]
  unfold tiesOf
  refine List.ext_getElem? fun i => ?_
  rw [List.getElem?_map, List.getElem?_map, List.getElem?_mapIdx, List.getElem?_mapIdx]
  cases l[i]? <;> rfl
theorem resL_perm {w : List Sp1} {ss : List (List Int)} (h : ss.Perm (tiesL w)) (s : Nat) : s ∈ (ss.map fun t => (t.headD 0).toNat) ↔ ∃ x ∈ w, s ∈ x.2 := by
  rw [← tiesL_giver, List.mem_map]
  constructor
  · rintro ⟨t, ht, e⟩
    have ht' := h.mem_iff.mp ht
    refine ⟨t, ht', ?_⟩
    obtain ⟨a, x, p, g, _, _, e'⟩ := tiesL_mem ht'
    subst e'
    have : ((g : Int)).toNat = s := e
    rw [Int.toNat_natCast] at this
    subst this; rfl
  · rintro ⟨t, ht, e⟩
    refine ⟨t, h.mem_iff.mpr ht, ?_⟩
    obtain ⟨a, x, p, g, _, _, e'⟩ := tiesL_mem ht
    subst e'
    have : (g : Int) = (s : Int) := by simpa using e
    show ((g : Int)).toNat = s
    omega
theorem heads_perm {w : List Sp1} {ss : List (List Int)} (h : ss.Perm (tiesL w)) : ∀ t ∈ ss, ∃ g a p : Nat, t = [(g : Int), (a : Int), (p : Int)] := fun t ht => by
  obtain ⟨a, x, p, g, _, _, e'⟩ := tiesL_mem (h.mem_iff.mp ht)
  exact ⟨g, a, p, e'⟩
/-! ### a filter as a filterMap -/
theorem filterMap_ite {α β : Type} (p : α → Bool) (g : α → β) (l : List α) : (l.filterMap fun x => if p x = true then some (g x) else none) = (l.filter p).map g := by
  induction l with
  | nil => rfl
  | cons x l ih =>
    by_cases h : p x = true
    · rw [List.filterMap_cons_some (by rw [if_pos h]), List.filter_cons_of_pos h, List.map_cons, ih]
    · rw [List.filterMap_cons_none (by rw [if_neg h]), List.filter_cons_of_neg h, ih]
theorem filterMap_all {α β : Type} (g : α → β) (l : List α) : (l.filterMap fun x => some (g x)) = l.map g := by
  rw [List.filterMap_eq_map']
theorem Kd.d_inj {a b : Kd} (h : a.d = b.d) : a = b := by
  cases a <;> cases b <;> first | rfl | (exfalso; revert h; simp only [Kd.d]; intro h; injection h with h; exact absurd h (by decide +kernel)) | (exfalso; revert h; simp only [Kd.d]; intro h; cases h; done) | (injection h with h; rw [h])
theorem Kd.eqd (a b : Kd) : PyData.eqv a.d b.d = decide (a = b) := by
  have := eqv_nice (n := 0) (m := 0) a.nice b.nice
  cases q : PyData.eqv a.d b.d with
  | true => simp [Kd.d_inj (this.mp q)]
  | false =>
    have e : ¬ a = b := fun z => by rw [this.mpr (by rw [z])] at q; cases q
    simp [e]
theorem Kd.shp (k : Kd) : SeqAt.shaped k.d = true := shaped_nice (n := 0) k.nice
theorem cutD_take {xs : List D} {n : Nat} : cutD xs none (some (n : Int)) = xs.take n := by
  unfold cutD
  rw [HT.sIx_none, HT.sIx_nat, List.drop_zero, Nat.sub_zero]
  by_cases h : n ≤ xs.length
  · rw [Nat.min_eq_left h]
  · rw [Nat.min_eq_right (by omega), List.take_length, List.take_of_length_le (by omega)]
theorem cutD_drop {xs : List D} {n : Nat} : cutD xs (some (n : Int)) none = xs.drop n := by
  unfold cutD
  rw [HT.sIx_none, HT.sIx_nat]
  by_cases h : n ≤ xs.length
  · rw [Nat.min_eq_left h]
    exact List.take_of_length_le (by rw [List.length_drop]; exact Nat.le_refl _)
  · rw [Nat.min_eq_right (by omega), List.drop_length, List.drop_of_length_le (by omega), List.take_nil]
theorem bls_map : ∀ bs : List Bool, bls? (bs.map PyData.bool) = some bs
  | [] => rfl
  | b :: bs => by
    have := bls_map bs
    simp only [List.map_cons, bls?, this, Option.map_some]
theorem nodup_lt {a b : List Nat} {s : Nat} (ha : a.Nodup) (hb : b.Nodup) (h : ∀ k ∈ a, k ∈ b) (hs : s ∈ b) (hn : s ∉ a) : a.length < b.length := by
  have : (s :: a).Nodup := List.nodup_cons.mpr ⟨hn, ha⟩
  have := this.length_le_of_subset (l₂ := b) fun k hk => by
    rcases List.mem_cons.mp hk with e | hk
    · rw [e]; exact hs
    · exact h k hk
  rw [List.length_cons] at this
  omega
theorem nodup_all {a : List Nat} {n : Nat} (ha : a.Nodup) (h : ∀ k ∈ a, k < n) (hl : n ≤ a.length) (k : Nat) (hk : k < n) : k ∈ a := by
  refine Classical.byContradiction fun hn => ?_
  have := nodup_lt ha (List.nodup_range (n := n)) (fun k hk => List.mem_range.mpr (h k hk)) (List.mem_range.mpr hk) hn
  rw [List.length_range] at this
  omega
theorem resL_lt {w : List Sp1} {j : Nat} (h : j ∈ resL w) : j < w.length := List.mem_range.mp (List.mem_filter.mp h).1
theorem nodup_le {a : List Nat} {n : Nat} (ha : a.Nodup) (h : ∀ k ∈ a, k < n) : a.length ≤ n := by
  have := ha.length_le_of_subset (fun k hk => List.mem_range.mpr (h k hk))
  rwa [List.length_range] at this
theorem nodup_snoc {a : List Nat} {s : Nat} (ha : a.Nodup) (hs : s ∉ a) : (a ++ [s]).Nodup := by
  rw [List.nodup_append]
  refine ⟨ha, by simp, fun x hx y hy e => ?_⟩
  rw [List.mem_singleton] at hy
  subst hy; subst e
  exact hs hx
theorem resL_len (w : List Sp1) : (resL w).length ≤ w.length := by
  have := List.length_filter_le (fun s => !decide (∃ x ∈ w, s ∈ x.2)) (List.range w.length)
  rw [List.length_range] at this
  exact this
/-! ### the meaning -/
def arK : Kd → Nat
  | .inp => 0
  | .con _ => 0
  | .neg => 1
  | .pick => 3
  | _ => 2
def worthV : Kd → Int → List Int → Int
  | .inp, o, _ => o
  | .con i, _, _ => i
  | .neg, _, [a] => 0 - a
  | .add, _, [a, b] => a + b
  | .sub, _, [a, b] => a - b
  | .mul, _, [a, b] => a * b
  | .pick, _, [c, a, b] => if c > 0 then a else b
  | _, _, _ => 0
def ownV (w : List Sp1) (wo : List Int) (s : Nat) (k : Kd) : Int := if k = .inp then wo.getD (rankN w s) 0 else 0
structure WOk (w : List Sp1) : Prop where
  ar : ∀ x ∈ w, x.2.length = arK x.1
  bd : ∀ x ∈ w, ∀ i ∈ x.2, i < w.length
  acy : ∃ rk : Nat → Nat, ∀ (s : Nat) (x : Sp1), w[s]? = some x → ∀ i ∈ x.2, rk i < rk s
structure IsVal (w : List Sp1) (wo : List Int) (val : Nat → Int) : Prop where
  eq : ∀ s x, w[s]? = some x → val s = worthV x.1 (ownV w wo s x.1) (x.2.map val)
  own : ∀ s x, w[s]? = some x → x.1 = .inp → rankN w s < wo.length
  small : ∀ s, (val s).natAbs.log2 < 500000
/-! the dict of the worths that are known -/
def kvN (val : Nat → Int) (ks : List Nat) : List (Key × D) := ks.map fun (s : Nat) => ((Sum.inl (s : Int) : Key), PyData.int (val s))
theorem kvN_len {val : Nat → Int} {ks : List Nat} : (kvN val ks).length = ks.length := List.length_map ..
theorem kvN_look {val : Nat → Int} {s : Nat} : ∀ {ks : List Nat}, lookD (kvN val ks) (.inl (s : Int)) = if s ∈ ks then some (.int (val s)) else none
  | [] => rfl
  | k :: ks => by
    have ih := kvN_look (val := val) (s := s) (ks := ks)
    unfold lookD kvN at ih ⊢
    rw [List.map_cons, List.find?_cons]
    by_cases h : k = s
    · subst h; simp
    · have h2 : ¬ ((Sum.inl (k : Int) : Key) = .inl (s : Int)) := fun e => h (by injection e with e; omega)
      have h3 : ¬ s = k := fun e => h e.symm
      simp only [h2, decide_false, List.mem_cons, h3, false_or]
      exact ih
theorem kvN_put {val : Nat → Int} {s : Nat} {ks : List Nat} (h : s ∉ ks) : putD (kvN val ks) (.inl (s : Int)) (.int (val s)) = kvN val (ks ++ [s]) := by
  unfold putD
  have e : ((kvN val ks).any fun kv => decide (kv.1 = (.inl (s : Int) : Key))) = false := by
    rw [List.any_eq_false]
    rintro kv hkv
    obtain ⟨k, hk, e⟩ := List.mem_map.mp hkv
    subst e
    rw [decide_eq_true_eq]
    intro e
    injection e with e
    have : k = s := by omega
    subst this
    exact h hk
  rw [e]
  unfold kvN
  rw [List.map_append]
  rfl
theorem some_ready {w : List Sp1} (h : WOk w) {ks : List Nat} (hlt : ks.length < w.length) : ∃ s x, w[s]? = some x ∧ s ∉ ks ∧ ∀ i ∈ x.2, i ∈ ks := by
  obtain ⟨rk, hr⟩ := h.acy
  have hex : ∃ s, s < w.length ∧ s ∉ ks := by
    refine Classical.byContradiction fun hn => ?_
    have hsub : List.range w.length ⊆ ks := fun s hs => Classical.byContradiction fun z => hn ⟨s, List.mem_range.mp hs, z⟩
    have := (List.nodup_range (n := w.length)).length_le_of_subset hsub
    rw [List.length_range] at this
    omega
  have hmin : ∀ m s, rk s ≤ m → s < w.length → s ∉ ks → ∃ s x, w[s]? = some x ∧ s ∉ ks ∧ ∀ i ∈ x.2, i ∈ ks := by
    intro m
    induction m with
    | zero =>
      intro s hm hs hk
      refine ⟨s, w[s], List.getElem?_eq_getElem hs, hk, fun i hi => ?_⟩
      have := hr s w[s] (List.getElem?_eq_getElem hs) i hi
      omega
    | succ m ih =>
      intro s hm hs hk
      by_cases hall : ∀ i ∈ w[s].2, i ∈ ks
      · exact ⟨s, w[s], List.getElem?_eq_getElem hs, hk, hall⟩
      · obtain ⟨i, hi⟩ := Classical.not_forall.mp hall
        obtain ⟨hi, hik⟩ := Classical.not_imp.mp hi
        have h1 := hr s w[s] (List.getElem?_eq_getElem hs) i hi
        exact ih i (by omega) (h.bd _ (List.getElem_mem hs) i hi) hik
  obtain ⟨s, hs, hk⟩ := hex
  exact hmin (rk s) s (Nat.le_refl _) hs hk
/-! ### other numbers for the steps -/
def mvS (x : Sp1) (g : Nat → Nat) : Sp1 := (x.1, x.2.map g)
def besW (w o : List Sp1) : List Sp1 := w ++ o.map fun x => mvS x fun i => w.length + i
def renW (w : List Sp1) (l : List Nat) : List Sp1 := l.filterMap fun s => (w[s]?).map fun x => mvS x fun i => l.idxOf i
theorem ints_map : ∀ is : List Int, ints? (is.map PyData.int) = some is
  | [] => rfl
  | b :: bs => by
    have := ints_map bs
    simp only [List.map_cons, ints?, this, Option.map_some]
theorem nD_ints (l : List Nat) : l.map nD = (l.map fun (i : Nat) => (i : Int)).map PyData.int := by rw [List.map_map]; rfl
theorem idxOf_nat (s : Nat) : ∀ l : List Nat, (l.map fun (i : Nat) => (i : Int)).idxOf (s : Int) = l.idxOf s
  | [] => rfl
  | x :: l => by
    rw [List.map_cons, List.idxOf_cons, List.idxOf_cons, idxOf_nat s l]
    by_cases h : x = s
    · subst h; simp
    · have h2 : ¬ (x : Int) = (s : Int) := by omega
      have e1 : (x == s) = false := beq_eq_false_iff_ne.mpr h
      have e2 : ((x : Int) == (s : Int)) = false := beq_eq_false_iff_ne.mpr h2
      rw [e1, e2]
theorem renW_eq {w : List Sp1} {l : List Nat} (h : ∀ s ∈ l, s < w.length) : renW w l = l.map fun s => mvS (w.getD s (.inp, [])) fun i => l.idxOf i := by
  unfold renW
  generalize (fun i => l.idxOf i) = g
  induction l with
  | nil => rfl
  | cons s l ih =>
    have hs := h s (by simp)
    rw [List.filterMap_cons_some (b := mvS (w.getD s (.inp, [])) g) (by rw [List.getD_eq_getElem?_getD, List.getElem?_eq_getElem hs]; rfl), List.map_cons, ih fun t ht => h t (by simp [ht])]
end PL

namespace PL
open PySem L2
/-! ### the laws' deck, of two lists and a count -/
structure DeckB (d c0 c1 : Addr) (is js : List Int) (n : Int) (H : Hp) : Prop where
  hd : H d = some (.lst [.ref c0, .ref c1, .int n])
  h0 : H c0 = some (.lst (is.map V.int))
  h1 : H c1 = some (.lst (js.map V.int))
  jne : js ≠ []
  il : is.length ≤ 64
  jl : js.length ≤ 64
  n0 : d ≠ c0
  n1 : d ≠ c1
  n2 : c0 ≠ c1
def amB (d c0 c1 : Addr) : Amb where
  rs := [d, c0, c1]
  RI := fun _ H => ∃ is js n, DeckB d c0 c1 is js n H
  st := fun n H H' h ⟨is, js, m, D⟩ => ⟨is, js, m, ⟨(h d (by simp)).trans D.hd, (h c0 (by simp)).trans D.h0, (h c1 (by simp)).trans D.h1, D.jne, D.il, D.jl, D.n0, D.n1, D.n2⟩⟩
  hs := fun n H ⟨is, js, m, D⟩ a ha => by
    simp only [List.mem_cons, List.not_mem_nil, or_false] at ha
    rcases ha with e | e | e
    · subst e; rw [D.hd]; simp
    · subst e; rw [D.h0]; simp
    · subst e; rw [D.h1]; simp
/-- all but rs as it was -/
structure Near (rs : List Addr) (H H' : Hp) : Prop where
  keep : ∀ a o, H a = some o → a ∉ rs → H' a = some o
  liv : ∀ a, H a ≠ none → H' a ≠ none
theorem Near.refl {rs : List Addr} {H : Hp} : Near rs H H := ⟨fun _ _ h _ => h, fun _ h => h⟩
theorem Near.mut {rs : List Addr} {H H' : Hp} {p : Addr} {o : HO} (h : Near rs H H') (hp : p ∈ rs) : Near rs H (upd H' p o) :=
  ⟨fun a o' e n => by rw [upd_ne fun z => by subst z; exact n hp]; exact h.keep a o' e n, fun a e => by
    by_cases c : a = p
    · subst c; rw [upd_same]; simp
    · rw [upd_ne c]; exact h.liv a e⟩
theorem Near.new {rs : List Addr} {H H' : Hp} {p : Addr} {o : HO} (h : Near rs H H') (hp : H' p = none) : Near rs H (upd H' p o) :=
  ⟨fun a o' e n => by rw [upd_ne (ne_of_none (h.keep a o' e n) hp)]; exact h.keep a o' e n, fun a e => by
    by_cases c : a = p
    · subst c; rw [upd_same]; simp
    · rw [upd_ne c]; exact h.liv a e⟩
theorem Near.fin {A : Amb} {F H H' : Hp} (x : Ex F H) (rf : ∀ a ∈ A.rs, F a = none) (h : Near A.rs H H') : Fin A F H F H' ∧ Ex F H' :=
  ⟨⟨Ex.refl _, fun a o e n => ⟨h.keep a o e n, rfl⟩, h.liv⟩, fun a o e => h.keep a o (x a o e) fun z => by rw [rf a z] at e; cases e⟩
theorem DeckB.new {d c0 c1 p : Addr} {is js : List Int} {n : Int} {H : Hp} {o : HO} (D : DeckB d c0 c1 is js n H) (hp : H p = none) : DeckB d c0 c1 is js n (upd H p o) :=
  ⟨by rw [upd_ne (ne_of_none D.hd hp)]; exact D.hd, by rw [upd_ne (ne_of_none D.h0 hp)]; exact D.h0, by rw [upd_ne (ne_of_none D.h1 hp)]; exact D.h1, D.jne, D.il, D.jl, D.n0, D.n1, D.n2⟩
theorem DeckB.set0 {d c0 c1 : Addr} {is js is' : List Int} {n : Int} {H : Hp} (D : DeckB d c0 c1 is js n H) (hl : is'.length ≤ 64) : DeckB d c0 c1 is' js n (upd H c0 (.lst (is'.map V.int))) :=
  ⟨by rw [upd_ne D.n0]; exact D.hd, upd_same, by rw [upd_ne D.n2.symm]; exact D.h1, D.jne, hl, D.jl, D.n0, D.n1, D.n2⟩
theorem DeckB.setN {d c0 c1 : Addr} {is js : List Int} {n m : Int} {H : Hp} (D : DeckB d c0 c1 is js n H) : DeckB d c0 c1 is js m (upd H d (.lst [.ref c0, .ref c1, .int m])) :=
  ⟨upd_same, by rw [upd_ne D.n0.symm]; exact D.h0, by rw [upd_ne D.n1.symm]; exact D.h1, D.jne, D.il, D.jl, D.n0, D.n1, D.n2⟩
theorem nice_ints {n : Nat} {xs : List Int} : ∀ d ∈ xs.map PyData.int, nice n d = true := by
  intro d hd
  obtain ⟨i, _, e⟩ := List.mem_map.mp hd
  subst e
  exact nice_int
theorem paired2 {α β : Type} {R : α → β → Prop} {vs : List α} {a b : β} (h : Paired R vs [a, b]) : ∃ u v, vs = [u, v] ∧ R u a ∧ R v b := by
  cases h with
  | cons h1 h2 => cases h2 with | cons h3 h4 => cases h4; exact ⟨_, _, rfl, h1, h3⟩
theorem paired1 {α β : Type} {R : α → β → Prop} {vs : List α} {a : β} (h : Paired R vs [a]) : ∃ u, vs = [u] ∧ R u a := by
  cases h with
  | cons h1 h2 => cases h2; exact ⟨_, rfl, h1⟩
theorem at0 {α : Type} {x : α} {xs : List α} : L2.atI (x :: xs) 0 = some x := atI_nat (j := 0) rfl
theorem ixn {n j : Nat} (hj : j < n) : ixN n (j : Int) = some j := by
  unfold ixN
  rw [if_pos (by omega), if_pos (by omega), Int.toNat_natCast]
theorem ix0 {n : Nat} : ixN (n + 1) 0 = some 0 := ixn (j := 0) (by omega)
theorem sq0 {n : Nat} : seqIndex? 0 (n + 1) = some 0 := (ixN_seq ix0).1
theorem pz {n : Nat} : (0 : Int) < OfNat.ofNat (α := Int) (n + 1) := by
  show (0 : Int) < ((n + 1 : Nat) : Int)
  omega
theorem mul32 {m z w : Int} (h : 0 < m ∧ m < 4294967296) : CMul (z % m) w := .inl ⟨by
  have := Int.emod_nonneg z (by omega : m ≠ 0)
  omega, by
  have := Int.emod_lt_of_pos z h.1
  omega⟩
theorem seq_nat {n j : Nat} (h : j < n) : seqIndex? (j : Int) n = some j := (ixN_seq (ixn h)).1
theorem erase_perm {α : Type} : ∀ {l : List α} {j : Nat} (h : j < l.length), (l[j]'h :: l.eraseIdx j).Perm l
  | x :: l, 0, _ => .refl _
  | x :: l, j + 1, h => by
    have hj : j < l.length := by simpa using h
    have := erase_perm hj
    show (l[j]'hj :: x :: l.eraseIdx j).Perm (x :: l)
    exact (List.Perm.swap _ _ _).trans (this.cons x)
theorem cutD_drop' {xs : List D} {z : Int} {k : Nat} (h : z = (k : Int)) : cutD xs (some z) none = xs.drop k := by subst h; exact cutD_drop
theorem cutD_take' {xs : List D} {z : Int} {k : Nat} (h : z = (k : Int)) : cutD xs none (some z) = xs.take k := by subst h; exact cutD_take
theorem rep_flat {x : D} : ∀ q : Nat, (List.replicate q [x]).flatten = List.replicate q x
  | 0 => rfl
  | q + 1 => by rw [List.replicate_succ, List.flatten_cons, rep_flat q]; rfl
theorem rng_get {lo : Int} {k i : Nat} {t : D} (h : (rngD lo k)[i]? = some t) : i < k ∧ t = .int (lo + (i : Int)) := by
  unfold rngD at h
  rw [List.getElem?_map] at h
  obtain ⟨j, hj, e⟩ := Option.map_eq_some_iff.mp h
  have hl := (List.getElem?_eq_some_iff.mp hj).1
  rw [List.length_range] at hl
  rw [List.getElem?_range hl] at hj
  cases hj
  exact ⟨hl, e.symm⟩
theorem rng_get0 {k i : Nat} {t : D} (h : (rngD 0 k)[i]? = some t) : i < k ∧ t = nD i := by
  obtain ⟨h1, h2⟩ := rng_get h
  refine ⟨h1, h2.trans ?_⟩
  show PyData.int (0 + (i : Int)) = PyData.int (i : Int)
  rw [Int.zero_add]
theorem rng_len {lo : Int} {k : Nat} : (rngD lo k).length = k := by simp [rngD]
/-- a reordering of numbers is a reordering of numbers -/
theorem perm_nD {ds : List D} {l : List Nat} (h : ds.Perm (l.map nD)) : ∃ m : List Nat, ds = m.map nD ∧ m.Perm l := by
  generalize hk : l.map nD = ks at h
  induction h generalizing l with
  | nil => exact ⟨[], rfl, by cases l with | nil => exact .refl _ | cons a b => cases hk⟩
  | cons x h ih =>
    cases l with
    | nil => cases hk
    | cons a b =>
      injection hk with h1 h2
      obtain ⟨m, e, p⟩ := ih h2
      exact ⟨a :: m, by rw [List.map_cons, h1, e], p.cons a⟩
  | swap x y t =>
    cases l with
    | nil => cases hk
    | cons a b =>
      injection hk with h1 h2
      cases b with
      | nil => cases h2
      | cons c b =>
        injection h2 with h3 h4
        exact ⟨c :: a :: b, by rw [List.map_cons, List.map_cons, h1, h3, h4], .swap _ _ _⟩
  | trans h1 h2 ih1 ih2 =>
    obtain ⟨m, e, p⟩ := ih2 hk
    obtain ⟨m', e', p'⟩ := ih1 e.symm
    exact ⟨m', e', p'.trans p⟩
/-! te-level helps -/
section
variable {K : PySem.W.Frag} {F H : Hp} {Q : VK}
theorem okr_int {i : Int} (h : Q (.int i) H) : Okr K F H (fun r => r = vInt i) Q :=
  ⟨fun v a r e => (by cases e; cases r; exact h), fun p ho o _ _ e => (by cases e), fun vs ds _ e => (by cases e)⟩
theorem okr_bl {i : Bool} (h : Q (.bl i) H) : Okr K F H (fun r => r = vBl i) Q :=
  ⟨fun v a r e => (by cases e; cases r; exact h), fun p ho o _ _ e => (by cases e), fun vs ds _ e => (by cases e)⟩
theorem ex0 : Ex (fun _ => none) H := fun _ _ e => by cases e
theorem top_ints {p : Addr} {is : List Int} (h : H p = some (.lst (is.map V.int))) : TopR K (fun _ => none) H (.ref p) (.dat (.list (is.map PyData.int))) := ⟨p, _, rfl, h, RDs.of_ints is⟩
/-- != of a list of ints and an empty list -/
theorem ne_nil {p q : Addr} {is : List Int} (h : H p = some (.lst (is.map V.int))) (h2 : H q = some (.lst [])) (k : Q (.bl (!is.isEmpty)) H) : R2D K oNe (.ref p) (.ref q) H Q := by
  refine ⟨fun _ => none, .dat (.list (is.map PyData.int)), .dat (.list []), fun r => r = vBl (!is.isEmpty), ex0, top_ints h, ⟨q, _, rfl, h2, .nil⟩, ⟨shaped_nice (n := 1) (nice_list nice_ints), shaped_nice (n := 1) (nice_list fun _ h => by cases h), ?_⟩, okr_bl k⟩
  cases is with
  | nil => simp [PyData.eqv, PyData.eqvAll]
  | cons i is => simp [PyData.eqv, PyData.eqvAll]
theorem eq_ints {i j : Int} (k : Q (.bl (decide (i = j))) H) : R2D K oEq (.int i) (.int j) H Q :=
  ⟨fun _ => none, .dat (.int i), .dat (.int j), fun r => r = vBl (decide (i = j)), ex0, .int i, .int j, ⟨shaped_int, shaped_int, by rw [eqv_intD]⟩, okr_bl k⟩
theorem int_int {i : Int} (k : Q (.int i) H) : RLD K fInt [.int i] H Q := ⟨fun _ => none, [.dat (.int i)], fun r => r = vInt i, ex0, .cons (.int i) .nil, rfl, okr_int k⟩
theorem len_ints {p : Addr} {is : List Int} (h : H p = some (.lst (is.map V.int))) (k : Q (.int is.length) H) : RLD K fLen [.ref p] H Q :=
  ⟨fun _ => none, [.dat (.list (is.map PyData.int))], fun r => r = vInt is.length, ex0, .cons (top_ints h) .nil, by show vInt ((is.map PyData.int).length : Nat) = _; rw [List.length_map], okr_int k⟩
end
end PL

namespace PL
open PySem L2
/-! ### the script, and the deck's making -/
def amS1 (a : Addr) (ns : List Int) : Amb where
  rs := [a]
  RI := fun _ H => Rd H a (.lst (ns.map V.int))
  st := fun n H H' h r => by
    have e := h a (by simp)
    rcases r with r | ⟨o, r⟩
    · exact .inl (e.trans r)
    · exact .inr ⟨o, e.trans r⟩
  hs := fun n H r b hb => by
    have : b = a := by simpa using hb
    subst this
    rcases r with r | ⟨o, r⟩
    · rw [r]; simp
    · rw [r]; simp
def amS2 : Amb := ⟨[], fun _ _ => True, fun _ _ _ _ h => h, fun _ _ _ _ h => by cases h⟩
def wScr (ns : List Int) (k : Int) : WE := fun e post => post (.new (.lst (cutD (ns.map PyData.int) none (some k)))) e
theorem rds_cut {K : PySem.W.Frag} {F : Hp} {vs : List V} {ds : List D} (h : RDs K F vs ds) (lo hi : Option Int) : RDs K F (cutV vs lo hi) (cutD ds lo hi) := by
  unfold cutV cutD
  rw [h.length]
  exact (h.drop _).take _
theorem er_scr {K : PySem.W.Frag} {A : Amb} {a : Addr} {ns : List Int} {k : Int} (hA : ∀ n H, A.RI n H → SqL K H a (ns.map V.int)) : ER A K (tSl (rSlL K) (tVar 0) tNoPart (tPart (tC (.int k)))) fun e post => e.sl[0]? = some (.im (.raw (.ref a))) ∧ wScr ns k e post := by
  intro σ F H e post S ⟨h0, q⟩ Q kk
  obtain ⟨v, hv, rv⟩ := S.at_ 0 _ h0
  have e1 : v = V.ref a := rv
  subst e1
  refine ⟨.ref a, hv, k, rfl, a, _, rfl, hA _ _ S.ri, fun p np => ?_⟩
  exact (S.okr (post := fun r => post r e) fun v r F3 H3 T3 S3 R3 p3 => kk v r F3 H3 _ T3 S3 R3 p3).new p _ (.lst _) np ⟨_, rfl, rds_cut (RDs.of_ints ns) none (some k)⟩ q
theorem pd_scr {X : Cx} {A : Amb} {a : Addr} {ns : List Int} {k : Int} {x : Str} {npos p2 pos kpos : Pos} {kk} (hA : ∀ n H, A.RI n H → SqL X.K H a (ns.map V.int)) (hN : X.N[0]? = some x) (hv : Vis X.env.scope x) (hd : (x == ("__debug__" : Str)) = false := by decide) (hcd : (x == ("__classdict__" : Str)) = false := by decide) :
    PD X A (.Subscript (.Name x npos) (.Slice none (some (.Constant (.int k) kk kpos)) none p2) pos) (tSl (rSlL X.K) (tVar 0) tNoPart (tPart (tC (.int k)))) fun e post => e.sl[0]? = some (.im (.raw (.ref a))) ∧ wScr ns k e post :=
  ⟨pe_slice sl_list (pe_var hN hv hd hcd) po_none (po_some pe_int), er_scr hA⟩
/-- a list of two new lists of ints and an int, all of them new -/
theorem deck_list {K : PySem.W.Frag} {A : Amb} {t1 t2 t3 : TE} {w1 w2 w3 : WE} (h1 : ER A K t1 w1) (h2 : ER A K t2 w2) (h3 : ER A K t3 w3) {σ : St} {F H : Hp} {e : En} (S : Sta A K σ F H e) {Q : VK} {C : List Int → List Int → Int → Prop}
    (q : w1 e fun r1 e1 => w2 e1 fun r2 e2 => w3 e2 fun r3 e3 => ∃ is js i, r1 = .new (.lst (is.map PyData.int)) ∧ r2 = .new (.lst (js.map PyData.int)) ∧ r3 = vInt i ∧ C is js i)
    (k : ∀ d c0 c1 H' is js i, C is js i → H' d = some (.lst [.ref c0, .ref c1, .int i]) → H' c0 = some (.lst (is.map V.int)) → H' c1 = some (.lst (js.map V.int)) → d ≠ c0 → d ≠ c1 → c0 ≠ c1 → Q (.ref d) H') :
    tLst (tCons t1 (tCons t2 (tCons t3 tNil))) σ H Q := by
  refine h1 σ F H e _ S q _ fun v1 r1 F1 H1 e1 T1 S1 R1 q1 => ?_
  refine h2 σ F1 H1 e1 _ S1 q1 _ fun v2 r2 F2 H2 e2 T2 S2 R2 q2 => ?_
  refine h3 σ F2 H2 e2 _ S2 q2 _ fun v3 r3 F3 H3 e3 T3 S3 R3 ⟨is, js, i, e1', e2', e3', c⟩ => ?_
  subst e1' e2' e3'
  have R1' := R1.step T2 trivial
  have R1'' := R1'.step T3 trivial
  have R2' := R2.step T3 trivial
  obtain ⟨p1, ho1, ev1, n1, f1, g1, o1, nr1, no1⟩ := R1
  obtain ⟨p1', ho1', ev1', n1', f1', g1', o1', nr1', no1'⟩ := R1''
  obtain ⟨p2, ho2, ev2, n2, f2, g2, o2, nr2, no2⟩ := R2'
  rw [ev1] at ev1'
  have ep : p1 = p1' := by simpa using ev1'
  subst ep
  subst ev1 ev2
  obtain ⟨vs, e4, rd⟩ := o1'
  have e5 := rd.ints
  subst e4 e5
  obtain ⟨vs2, e6, rd2⟩ := o2
  have e7 := rd2.ints
  subst e6 e7
  have e8 : v3 = .int i := by cases R3; rfl
  subst e8
  have hne : p1 ≠ p2 := fun z => by subst z; rw [n2] at g1; cases g1
  refine ⟨by show 3 ≤ sizeLine; decide, fun d nd => ?_⟩
  have hd1 : d ≠ p1 := fun z => by subst z; rw [nd] at g1'; cases g1'
  have hd2 : d ≠ p2 := fun z => by subst z; rw [nd] at g2; cases g2
  exact k d p1 p2 _ is js i c upd_same (by rw [upd_ne hd1.symm]; exact g1') (by rw [upd_ne hd2.symm]; exact g2) hd1 hd2 hne
theorem pss_any {X : Cx} {st : List Stmt} : PSs X st (fun D σ H => ∃ t, PSs X st t ∧ t D σ H) := ⟨fun pins s σ H D I ⟨t, h, q⟩ => h.run pins s σ H D I q⟩
theorem deck_fn {X : Cx} {A : Amb} {st1 : Stmt} {a b c : Expr} {pos lpos : Pos} {t : TS} {w : WS} {t1 t2 t3 : TE} {w1 w2 w3 : WE} (h : PSD X A st1 t w) (p1 : PD X A a t1 w1) (p2 : PD X A b t2 w2) (p3 : PD X A c t3 w3) {σ : St} {F H : Hp} {e : En} (S : SSt A X.K F H σ F H e) {C : List Int → List Int → Int → Prop}
    (hw : w { nx := fun e => w1 e fun r1 e1 => w2 e1 fun r2 e2 => w3 e2 fun r3 e3 => ∃ is js i, r1 = .new (.lst (is.map PyData.int)) ∧ r2 = .new (.lst (js.map PyData.int)) ∧ r3 = vInt i ∧ C is js i, rt := fun _ _ => False } e) {Q : VK}
    (k : ∀ d c0 c1 H' is js i, C is js i → H' d = some (.lst [.ref c0, .ref c1, .int i]) → H' c0 = some (.lst (is.map V.int)) → H' c1 = some (.lst (js.map V.int)) → d ≠ c0 → d ≠ c1 → c0 ≠ c1 → Q (.ref d) H')
    (hs1 : starEach [a, b, c] X.env = (false, eval a X.env) :: starEach [b, c] X.env := by rfl) (hs2 : starEach [b, c] X.env = (false, eval b X.env) :: starEach [c] X.env := by rfl) (hs3 : starEach [c] X.env = (false, eval c X.env) :: starEach [] X.env := by rfl) :
    ∃ t, PSs X [st1, .Return (some (.List [a, b, c] lpos)) pos] t ∧ t { nx := fun _ H' => Q .non H', rt := Q } σ H :=
  ⟨_, pss_cons h.ps (pss_one (ps_ret (pe_lst (pa_cons p1.pe (pa_cons p2.pe (pa_cons p3.pe pa_nil hs3) hs2) hs1)))),
    h.sr F H σ F H e _ _ S hw ⟨fun σ1 F1 H1 e1 S1 _ q => deck_list p1.er p2.er p3.er S1.sta q k, fun _ _ _ _ _ _ _ _ _ _ q => q.elim, fun _ _ _ _ _ _ q => q.elim, fun _ _ _ _ _ _ q => q.elim⟩⟩
/-- what a law is asked -/
def spLaw (K : PySem.W.Frag) : Sp := fun vs H Q _ => ∃ (a : Addr) (ns : List Int), vs = [.ref a] ∧ SqL K H a (ns.map V.int) ∧ ns.length ≤ 63 ∧ ∀ H', Q (.bl true) H'
/-- what the deck's maker gives -/
def spDeckB (K : PySem.W.Frag) : Sp := fun vs H Q _ => ∃ (a : Addr) (ns : List Int), vs = [.ref a] ∧ SqL K H a (ns.map V.int) ∧ ns.length ≤ 63 ∧ ∀ d c0 c1 H' is js, DeckB d c0 c1 is js 0 H' → Q (.ref d) H'
theorem filter_ints {p : Int → Bool} (ns : List Int) : (ns.filterMap fun i => if p i = true then some (PyData.int i) else none) = (ns.filter p).map PyData.int := filterMap_ite p PyData.int ns
end PL

namespace ZG
open PySem PySem.Spec PyProof.Rows
/-! ### a zip of two sequences, each a list or a tuple -/
section
variable {prog : Program} {w : World} {A : Around} {E : Value → Shared → Prop} {s : Shared}
/-- an iterator of a list (true) or of a tuple -/
def SIt (b : Bool) (h : Heap) (i l : Addr) (k : Nat) : Prop := match b with
  | true => h.IsListIter i l k
  | false => h.IsTupleIter i l k
def SSq (b : Bool) (h : Heap) (l : Addr) (xs : Array Value) : Prop := match b with
  | true => h.IsList l xs
  | false => h.IsTuple l xs
theorem SIt.mv {b : Bool} {h h' : Heap} {i l : Addr} {k : Nat} (x : SIt b h i l k) (e : ∀ o, h.get? i = some o → h'.get? i = some o) : SIt b h' i l k := by
  cases b with
  | true => exact Heap.IsListIter.at x e
  | false => exact Heap.IsTupleIter.at x e
theorem SSq.mv {b : Bool} {h h' : Heap} {l : Addr} {xs : Array Value} (x : SSq b h l xs) (e : ∀ o, h.get? l = some o → h'.get? l = some o) : SSq b h' l xs := by
  cases b with
  | true => exact Heap.IsList.at x e
  | false => exact Heap.IsTuple.at x e
theorem SIt.there {b : Bool} {h : Heap} {i l : Addr} {k : Nat} (x : SIt b h i l k) : ∃ o, h.get? i = some o := by
  cases b with
  | true => obtain ⟨o, e, _⟩ := x; exact ⟨o, e⟩
  | false => obtain ⟨o, e, _⟩ := x; exact ⟨o, e⟩
theorem SSq.there {b : Bool} {h : Heap} {l : Addr} {xs : Array Value} (x : SSq b h l xs) : ∃ o, h.get? l = some o := by
  cases b with
  | true => obtain ⟨o, e, _⟩ := x; exact ⟨o, e⟩
  | false => obtain ⟨o, e, _⟩ := x; exact ⟨o, e⟩
theorem sit_item {b : Bool} {it l : Addr} {i : Nat} {xs : Array Value} {x : Value} {Q : Value → Shared → Prop} (h1 : SIt b s.heap it l i) (h2 : SSq b s.heap l xs) (hx : xs[i]? = some x)
    (h : ∀ h', SIt b h' it l (i + 1) → Heap.SameBut it s.heap h' → Q x { s with heap := h' }) : wpAny (model prog w) A (Builtin.SmallTypes.nextOf (.ref it)) Q E s := by
  cases b with
  | true => exact wpAny_nextOf_list_item h1 h2 hx h
  | false => exact RZ.nextOf_tuple_item h1 h2 hx h
theorem sit_end {b : Bool} {it l : Addr} {i : Nat} {xs : Array Value} {Q : Value → Shared → Prop} (hh : A.handled = none) (h1 : SIt b s.heap it l i) (h2 : SSq b s.heap l xs) (hx : xs[i]? = none)
    (h : ∀ h' e, Heap.ExtBut it s.heap h' → (∃ o, h'.get? e = some o ∧ o.cls = .type "StopIteration") → E (.ref e) { s with heap := h' }) : wpAny (model prog w) A (Builtin.SmallTypes.nextOf (.ref it)) Q E s := by
  cases b with
  | true => exact wpAny_nextOf_list_end hh h1 h2 hx h
  | false => exact RZ.nextOf_tuple_end hh h1 h2 hx h
variable {z TI TO T i1 i2 l1 l2 : Addr} {b1 b2 : Bool} {k1 k2 : Nat} {xs ys : Array Value} {x y a b : Value}
theorem zg_first {Q : Value → Shared → Prop} (D : ZipApart z TI TO i1 i2 l1 l2) (hz : IsZip s.heap z TI TO .none) (hTI : IsPair s.heap TI (.ref i1) (.ref i2)) (hTO : IsPair s.heap TO a b)
    (h1 : SIt b1 s.heap i1 l1 k1) (h2 : SIt b2 s.heap i2 l2 k2) (hl1 : SSq b1 s.heap l1 xs) (hl2 : SSq b2 s.heap l2 ys) (hx : xs[k1]? = some x) (hy : ys[k2]? = some y)
    (hQ : ∀ h', IsZip h' z TI TO (rawInt s.heap.objs.size) → SIt b1 h' i1 l1 (k1 + 1) → SIt b2 h' i2 l2 (k2 + 1) → IsPair h' s.heap.objs.size x y →
      (∀ c o, c ≠ z → c ≠ TO → c ≠ i1 → c ≠ i2 → s.heap.get? c = some o → h'.get? c = some o) → Q (.ref s.heap.objs.size) { s with heap := h' }) :
    wpAny (model prog w) A (Builtin.«zip.__next__» ⟨[.ref z], []⟩) (fun fin s' => ∃ v, fin = .done (.ret v) ∧ Q v s') E s := by
  show wpAny _ _ (field (.ref z) 2 >>= _) _ _ _
  refine wpAny_bind (wpAny_field hz rfl (x := .bool false) rfl ?_)
  show wpAny _ _ (field (.ref z) 3 >>= _) _ _ _
  refine wpAny_bind (wpAny_field hz rfl (x := .ref TI) rfl (wpAny_bind (wpAny_seqItems hTI rfl ?_)))
  show wpAny _ _ (Builtin.SmallTypes.ownedTupleIsFree (.ref z) >>= _) _ _ _
  unfold Builtin.SmallTypes.ownedTupleIsFree
  refine wpAny_bind (wpAny_bind (wpAny_field hz rfl (x := .none) rfl (wpAny_pure ?_)))
  simp only [if_true]
  refine wpAny_bind (wpAny_rule (wpAny_bind (wpAny_field hz rfl (x := .ref TO) rfl (wpAny_bind (wpAny_setField_rec hz (by simp) fun ha za sa => ?_)))))
  replace za : IsZip ha z TI TO .ellipsis := za
  refine wpAny_bind ?_
  simp only [List.zipIdx_cons, List.zipIdx_nil, List.forIn_cons, List.forIn_nil]
  have ka : ∀ c o, c ≠ z → s.heap.get? c = some o → ha.get? c = some o := fun c o n e => sa.extBut c o n e
  refine wpAny_bind (wpAny_bind (wpAny_onRaise ?_))
  show wpAny _ _ (Builtin.SmallTypes.nextOf (.ref i1) >>= _) _ _ _
  refine wpAny_bind (sit_item (h1.mv fun o e => ka _ o D.i1z e) (hl1.mv fun o e => ka _ o D.l1z e) hx fun hb ib sb => wpAny_pure ?_)
  have kb : ∀ c o, c ≠ z → c ≠ i1 → s.heap.get? c = some o → hb.get? c = some o := fun c o n m e => sb.extBut c o m (ka c o n e)
  have tb : IsPair hb TO a b := kb _ _ D.TOz D.TOi1 hTO
  refine wpAny_bind (wpAny_seqItems tb rfl (wpAny_bind (wpAny_updateSeq_pair tb fun hc tc sc => wpAny_bind (wpAny_letGo (wpAny_pure ?_)))))
  replace tc : IsPair hc TO x b := tc
  have kc : ∀ c o, c ≠ z → c ≠ i1 → c ≠ TO → s.heap.get? c = some o → hc.get? c = some o := fun c o n m k e => sc.extBut c o k (kb c o n m e)
  refine wpAny_bind (wpAny_bind (wpAny_onRaise ?_))
  show wpAny _ _ (Builtin.SmallTypes.nextOf (.ref i2) >>= _) _ _ _
  refine wpAny_bind (sit_item (h2.mv fun o e => kc _ o D.i2z D.i12.symm D.TOi2.symm e) (hl2.mv fun o e => kc _ o D.l2z D.l2i1 D.l2TO e) hy fun hd id sd => wpAny_pure ?_)
  have td : IsPair hd TO x b := sd.extBut _ _ D.TOi2 tc
  refine wpAny_bind (wpAny_seqItems td rfl (wpAny_bind (wpAny_updateSeq_pair td fun he te se => wpAny_bind (wpAny_letGo (wpAny_pure (wpAny_pure ?_))))))
  replace te : IsPair he TO x y := te
  refine wpAny_bind (wpAny_seqItems te rfl (wpAny_bind (wpAny_newTuple ?_)))
  have hsz : he.objs.size = s.heap.objs.size := by rw [se.1, sd.1, sc.1, sb.1, sa.1]
  have ke : ∀ c o, c ≠ z → c ≠ TO → c ≠ i1 → c ≠ i2 → s.heap.get? c = some o → he.get? c = some o := fun c o n1 n2 n3 n4 e => se.extBut c o n2 (sd.extBut c o n4 (kc c o n1 n3 n2 e))
  have ze : IsZip he z TI TO .ellipsis := se.extBut _ _ D.TOz.symm (sd.extBut _ _ D.i2z.symm (sc.extBut _ _ D.TOz.symm (sb.extBut _ _ D.i1z.symm za)))
  have i1e : SIt b1 he i1 l1 (k1 + 1) := ((ib.mv fun o e => sc.extBut _ o D.TOi1.symm e).mv fun o e => sd.extBut _ o D.i12 e).mv fun o e => se.extBut _ o D.TOi1.symm e
  have i2e : SIt b2 he i2 l2 (k2 + 1) := id.mv fun o e => se.extBut _ o D.TOi2.symm e
  have zlt : z < he.objs.size := Heap.lt_size ze
  show wpAny _ _ (Builtin.SmallTypes.ownedTupleHandOut (.ref z) (.ref he.objs.size) >>= _) _ _ _
  unfold Builtin.SmallTypes.ownedTupleHandOut
  have zf : IsZip (he.push { cls := .type "tuple", data := .seq #[x, y] }) z TI TO .ellipsis := Heap.get?_push_of_some _ ze
  refine wpAny_bind (wpAny_bind (wpAny_setField_rec zf (by simp) fun hg zg sg => wpAny_setField_rec (show IsZip hg z TI TO (rawInt he.objs.size) from zg) (by simp) fun hk zk sk => wpAny_pure ⟨_, rfl, ?_⟩))
  replace zk : IsZip hk z TI TO (rawInt he.objs.size) := zk
  have up : ∀ c o, c ≠ z → (he.push { cls := .type "tuple", data := .seq #[x, y] }).get? c = some o → hk.get? c = some o := fun c o n e => sk.extBut c o n (sg.extBut c o n e)
  have tk : IsPair hk he.objs.size x y := up _ _ (Nat.ne_of_gt zlt) (Heap.get?_push_size _ rfl)
  show Q (.ref he.objs.size) _
  rw [hsz] at zk tk ⊢
  exact hQ hk zk (i1e.mv fun o e => up _ o D.i1z (Heap.get?_push_of_some _ e)) (i2e.mv fun o e => up _ o D.i2z (Heap.get?_push_of_some _ e)) tk fun c o n1 n2 n3 n4 e => up c o n1 (Heap.get?_push_of_some _ (ke c o n1 n2 n3 n4 e))
theorem zg_next {f : Bool} {oT : Obj} {Q : Value → Shared → Prop} (D : ZipApart z TI TO i1 i2 l1 l2) (hz : IsZipHeld s.heap z TI TO T f) (hT : s.heap.get? T = some oT) (hTI : IsPair s.heap TI (.ref i1) (.ref i2))
    (h1 : SIt b1 s.heap i1 l1 k1) (h2 : SIt b2 s.heap i2 l2 k2) (hl1 : SSq b1 s.heap l1 xs) (hl2 : SSq b2 s.heap l2 ys) (hx : xs[k1]? = some x) (hy : ys[k2]? = some y)
    (hQ : ∀ h', IsZipHeld h' z TI TO T true → SIt b1 h' i1 l1 (k1 + 1) → SIt b2 h' i2 l2 (k2 + 1) → IsPair h' s.heap.objs.size x y →
      (∀ c o, c ≠ z → c ≠ i1 → c ≠ i2 → s.heap.get? c = some o → h'.get? c = some o) → Q (.ref s.heap.objs.size) { s with heap := h' }) :
    wpAny (model prog w) A (Builtin.«zip.__next__» ⟨[.ref z], []⟩) (fun fin s' => ∃ v, fin = .done (.ret v) ∧ Q v s') E s := by
  show wpAny _ _ (field (.ref z) 2 >>= _) _ _ _
  refine wpAny_bind (wpAny_field hz rfl (x := .bool false) rfl ?_)
  show wpAny _ _ (field (.ref z) 3 >>= _) _ _ _
  refine wpAny_bind (wpAny_field hz rfl (x := .ref TI) rfl (wpAny_bind (wpAny_seqItems hTI rfl ?_)))
  show wpAny _ _ (Builtin.SmallTypes.ownedTupleIsFree (.ref z) >>= _) _ _ _
  refine wpAny_bind (wpAny_tupleHeld_zip hz hT fun ha za sa => ?_)
  have ka : ∀ c o, c ≠ z → s.heap.get? c = some o → ha.get? c = some o := fun c o n e => sa.extBut c o n e
  simp only [Bool.false_eq_true, if_false]
  refine wpAny_bind ?_
  rw [← Array.forIn_toList]
  simp only [List.forIn_cons, List.forIn_nil]
  refine wpAny_bind (wpAny_bind (wpAny_holding ?_))
  show wpAny _ _ (Builtin.SmallTypes.nextOf (.ref i1) >>= _) _ _ _
  refine wpAny_bind (sit_item (s := { s with heap := ha }) (h1.mv fun o e => ka _ o D.i1z e) (hl1.mv fun o e => ka _ o D.l1z e) hx fun hb ib sb => wpAny_pure (wpAny_pure ?_))
  have kb : ∀ c o, c ≠ z → c ≠ i1 → s.heap.get? c = some o → hb.get? c = some o := fun c o n m e => sb.extBut c o m (ka c o n e)
  refine wpAny_bind (wpAny_bind (wpAny_holding ?_))
  show wpAny _ _ (Builtin.SmallTypes.nextOf (.ref i2) >>= _) _ _ _
  refine wpAny_bind (sit_item (s := { s with heap := hb }) (h2.mv fun o e => kb _ o D.i2z D.i12.symm e) (hl2.mv fun o e => kb _ o D.l2z D.l2i1 e) hy fun hc ic sc => wpAny_pure (wpAny_pure (wpAny_pure ?_)))
  show wpAny _ _ (newTuple [x, y] >>= _) _ _ _
  refine wpAny_bind (wpAny_newTuple (wpAny_pure ⟨_, rfl, ?_⟩))
  have hsz : hc.objs.size = s.heap.objs.size := by rw [sc.1, sb.1, sa.1]
  have zc : IsZipHeld hc z TI TO T true := sc.extBut _ _ D.i2z.symm (sb.extBut _ _ D.i1z.symm za)
  have i1c : SIt b1 hc i1 l1 (k1 + 1) := ib.mv fun o e => sc.extBut _ o D.i12 e
  show Q (.ref hc.objs.size) _
  have hp : IsPair (hc.push { cls := .type "tuple", data := .seq #[x, y] }) hc.objs.size x y := Heap.get?_push_size _ rfl
  rw [hsz] at hp ⊢
  exact hQ _ (Heap.get?_push_of_some _ zc) (i1c.mv fun o e => Heap.get?_push_of_some _ e) (ic.mv fun o e => Heap.get?_push_of_some _ e) hp fun c o n1 n2 n3 e => Heap.get?_push_of_some _ (sc.extBut c o n3 (kb c o n1 n2 e))
theorem zg_end {f : Bool} {oT : Obj} {Q : Fin → Shared → Prop} (hh : A.handled = none) (D : ZipApart z TI TO i1 i2 l1 l2) (hz : IsZipHeld s.heap z TI TO T f) (hT : s.heap.get? T = some oT) (hTI : IsPair s.heap TI (.ref i1) (.ref i2))
    (h1 : SIt b1 s.heap i1 l1 k1) (hl1 : SSq b1 s.heap l1 xs) (hx : xs[k1]? = none)
    (hE : ∀ h' e, (∀ c o, c ≠ z → c ≠ i1 → s.heap.get? c = some o → h'.get? c = some o) → (∃ o, h'.get? e = some o ∧ o.cls = .type "StopIteration") → E (.ref e) { s with heap := h' }) :
    wpAny (model prog w) A (Builtin.«zip.__next__» ⟨[.ref z], []⟩) Q E s := by
  show wpAny _ _ (field (.ref z) 2 >>= _) _ _ _
  refine wpAny_bind (wpAny_field hz rfl (x := .bool false) rfl ?_)
  show wpAny _ _ (field (.ref z) 3 >>= _) _ _ _
  refine wpAny_bind (wpAny_field hz rfl (x := .ref TI) rfl (wpAny_bind (wpAny_seqItems hTI rfl ?_)))
  show wpAny _ _ (Builtin.SmallTypes.ownedTupleIsFree (.ref z) >>= _) _ _ _
  refine wpAny_bind (wpAny_tupleHeld_zip hz hT fun ha za sa => ?_)
  simp only [Bool.false_eq_true, if_false]
  refine wpAny_bind ?_
  rw [← Array.forIn_toList]
  simp only [List.forIn_cons, List.forIn_nil]
  refine wpAny_bind (wpAny_bind (wpAny_holding ?_))
  show wpAny _ _ (Builtin.SmallTypes.nextOf (.ref i1) >>= _) _ _ _
  exact wpAny_bind (sit_end (s := { s with heap := ha }) hh (h1.mv fun o e => sa.extBut _ o D.i1z e) (hl1.mv fun o e => sa.extBut _ o D.l1z e) hx fun hb e sb he => hE hb e (fun c o n m q => sb c o m (sa.extBut c o n q)) he)
/-! the making of a zip of a list and a tuple -/
abbrev zmA (h : Heap) (l1 : Addr) : Heap := h.push { cls := .type "list_iterator", data := .fields #[.ref l1, .int 0 0] }
abbrev zmB (h : Heap) (l1 l2 : Addr) : Heap := (zmA h l1).push { cls := .type "tuple_iterator", data := .fields #[.ref l2, .int 0 0] }
abbrev zmC (h : Heap) (l1 l2 : Addr) : Heap := (zmB h l1 l2).push { cls := .type "tuple", data := .seq #[.ref h.objs.size, .ref (zmA h l1).objs.size] }
abbrev zmD (h : Heap) (l1 l2 : Addr) : Heap := (zmC h l1 l2).push { cls := .type "tuple", data := .seq #[.none, .none] }
abbrev zmE (h : Heap) (l1 l2 : Addr) : Heap := (zmD h l1 l2).push { cls := .type "zip", data := .fields #[.none, .bool false, .bool false, .ref (zmB h l1 l2).objs.size, .ref (zmC h l1 l2).objs.size] }
theorem meets_zipLT (l1 l2 : Addr) (xs ys : Array Value) :
    Meets (Builtin.«zip.__new__» ⟨[.type "zip", .ref l1, .ref l2], []⟩) (fun _ R s => s.heap.IsList l1 xs ∧ s.heap.IsTuple l2 ys ∧ R (.ok (.ret (.ref (zmD s.heap l1 l2).objs.size))) { s with heap := zmE s.heap l1 l2 }) :=
  .of_wp fun prog w A R s h => by
    obtain ⟨hp, g, d, tk, os⟩ := s; obtain ⟨hl1, hl2, h⟩ := h
    have hsub := sub_zip
    have hL1 : Heap.IsList (Shared.heap ⟨hp, g, d, tk, os⟩) l1 xs := hl1
    have hL2 : Heap.IsTuple (Shared.heap ⟨zmA hp l1, g, d, tk, os⟩) l2 ys := Heap.IsTuple.push hl2 _
    wp_walk using wpAny_pyIter_list hL1, wpAny_pyIter_tuple hL2
    exact ⟨_, rfl, h⟩
theorem call_zipLT {Q : Value → Shared → Prop} (hl1 : s.heap.IsList l1 xs) (hl2 : s.heap.IsTuple l2 ys)
    (h : ∀ h', IsZip h' (s.heap.objs.size + 4) (s.heap.objs.size + 2) (s.heap.objs.size + 3) .none → IsPair h' (s.heap.objs.size + 2) (.ref s.heap.objs.size) (.ref (s.heap.objs.size + 1)) →
      IsPair h' (s.heap.objs.size + 3) .none .none → h'.IsListIter s.heap.objs.size l1 0 → h'.IsTupleIter (s.heap.objs.size + 1) l2 0 →
      (∀ c o, s.heap.get? c = some o → h'.get? c = some o) → Q (.ref (s.heap.objs.size + 4)) { s with heap := h' }) :
    wpAny (model prog w) A (call (.type "zip") [.ref l1, .ref l2]) Q E s := by
  refine callType_new F.called_zip (by decide) (F.typeCall_zip_2 _ _) (F.newCall_zip_2 _ _) (fun obj => F.args_object_init_3 obj _ _) F.entry_zip_new (meets_zipLT l1 l2 xs ys) ⟨hl1, hl2, ?_⟩
  have nA : (zmA s.heap l1).objs.size = s.heap.objs.size + 1 := Heap.size_push ..
  have nB : (zmB s.heap l1 l2).objs.size = s.heap.objs.size + 2 := by rw [Heap.size_push, nA]
  have nC : (zmC s.heap l1 l2).objs.size = s.heap.objs.size + 3 := by rw [Heap.size_push, nB]
  have nD : (zmD s.heap l1 l2).objs.size = s.heap.objs.size + 4 := by rw [Heap.size_push, nC]
  have upD : ∀ c o, (zmD s.heap l1 l2).get? c = some o → (zmE s.heap l1 l2).get? c = some o := fun c o e => Heap.get?_push_of_some _ e
  have upC : ∀ c o, (zmC s.heap l1 l2).get? c = some o → (zmE s.heap l1 l2).get? c = some o := fun c o e => upD c o (Heap.get?_push_of_some _ e)
  have upB : ∀ c o, (zmB s.heap l1 l2).get? c = some o → (zmE s.heap l1 l2).get? c = some o := fun c o e => upC c o (Heap.get?_push_of_some _ e)
  have upA : ∀ c o, (zmA s.heap l1).get? c = some o → (zmE s.heap l1 l2).get? c = some o := fun c o e => upB c o (Heap.get?_push_of_some _ e)
  have gE : (zmE s.heap l1 l2).get? (zmD s.heap l1 l2).objs.size = some _ := Heap.get?_push_size _ rfl
  have gD : (zmE s.heap l1 l2).get? (zmC s.heap l1 l2).objs.size = some _ := upD _ _ (Heap.get?_push_size _ rfl)
  have gC : (zmE s.heap l1 l2).get? (zmB s.heap l1 l2).objs.size = some _ := upC _ _ (Heap.get?_push_size _ rfl)
  have gB : (zmE s.heap l1 l2).get? (zmA s.heap l1).objs.size = some _ := upB _ _ (Heap.get?_push_size _ rfl)
  have gA : (zmE s.heap l1 l2).get? s.heap.objs.size = some _ := upA _ _ (Heap.get?_push_size _ rfl)
  show _ ∧ _
  rw [nD, nB, nC] at gE
  rw [nC] at gD
  rw [nB, nA] at gC
  rw [nA] at gB
  rw [nD]
  exact ⟨⟨_, gE, rfl⟩, h _ gE gC gD ⟨_, gA, rfl, rfl⟩ ⟨_, gB, rfl, rfl⟩ fun c o e => upA c o (Heap.get?_push_of_some _ e)⟩
/-- such a zip, of one item at least, as the argument of dict() -/
theorem pairArg (D : ZipApart z TI TO i1 i2 l1 l2) (hn : xs.size ≠ 0) (hl : xs.size = ys.size) :
    PairArg prog w "zip" z [z, TI, TO, i1, i2, l1, l2] [z, TO, i1, i2] xs.size (fun i k v => xs[i]? = some k ∧ ys[i]? = some v)
      (fun h => IsZip h z TI TO .none ∧ IsPair h TI (.ref i1) (.ref i2) ∧ (∃ a b, IsPair h TO a b) ∧ SIt b1 h i1 l1 0 ∧ SIt b2 h i2 l2 0 ∧ SSq b1 h l1 xs ∧ SSq b2 h l2 ys) where
  type := fun s ok => ⟨_, ok.1, rfl⟩
  notDict := by decide
  keep := fun h h' ⟨o1, o2, ⟨a, b, o3⟩, o4, o5, o6, o7⟩ hk => ⟨hk _ _ o1, hk _ _ o2, ⟨a, b, hk _ _ o3⟩, o4.mv fun o e => hk _ o e, o5.mv fun o e => hk _ o e, o6.mv fun o e => hk _ o e, o7.mv fun o e => hk _ o e⟩
  there := fun h ⟨o1, o2, ⟨a, c, o3⟩, o4, o5, o6, o7⟩ b hb => by
    simp only [List.mem_cons, List.not_mem_nil, or_false] at hb
    rcases hb with rfl | rfl | rfl | rfl | rfl | rfl | rfl
    · exact ⟨_, o1⟩
    · exact ⟨_, o2⟩
    · exact ⟨_, o3⟩
    · exact o4.there
    · exact o5.there
    · exact o6.there
    · exact o7.there
  sub := fun b hb => by simp at hb ⊢; rcases hb with rfl | rfl | rfl | rfl <;> simp
  noKeys := fun A s Q E hA ok h => getAttrOr_miss_zip ok.1 rfl rfl rfl zip_no_keys (by decide +kernel) hA h
  iter := fun A s d Q E hA ok hd hdf h => by
    obtain ⟨hz, hTI, ⟨a, b, hTO⟩, h1, h2, hl1, hl2⟩ := ok
    simp only [List.mem_cons, List.not_mem_nil, or_false, not_or] at hdf
    obtain ⟨dz, dTI, dTO, d1, d2, dl1, dl2⟩ := hdf
    refine wpAny_pyIter_zip hz (h z [z, TO, i1, i2] (fun i h => IsPair h TI (.ref i1) (.ref i2) ∧ SIt b1 h i1 l1 i ∧ SIt b2 h i2 l2 i ∧ SSq b1 h l1 xs ∧ SSq b2 h l2 ys ∧
      ((i = 0 ∧ IsZip h z TI TO .none ∧ ∃ a b, IsPair h TO a b) ∨ ∃ T f oT, IsZipHeld h z TI TO T f ∧ h.get? T = some oT ∧ T ≠ z ∧ T ≠ i1 ∧ T ≠ i2 ∧ T ≠ d)) s.heap s.toks ?_
      ⟨hTI, h1, h2, hl1, hl2, .inl ⟨rfl, hz, a, b, hTO⟩⟩ (fun _ _ e => e) fun b hb => .inl hb)
    have hTy : ∀ (s : Shared) (o : Obj), s.heap.get? z = some o → o.cls = .type "zip" → s.TypeIs (.ref z) "zip" := fun s o e c => ⟨o, e, c⟩
    refine {
      off := fun hm => ?_
      frame := fun i h₁ h₂ ⟨q1, q2, q3, q4, q5, q6⟩ hk => ⟨hk _ _ (Ne.symm dTI) q1, q2.mv fun o e => hk _ o (Ne.symm d1) e, q3.mv fun o e => hk _ o (Ne.symm d2) e, q4.mv fun o e => hk _ o (Ne.symm dl1) e, q5.mv fun o e => hk _ o (Ne.symm dl2) e, ?_⟩
      item := fun i s₁ Q₁ E₁ hi ⟨q1, q2, q3, q4, q5, q6⟩ hds hQ => ?_
      done := fun s₁ Q₁ E₁ ⟨q1, q2, q3, q4, q5, q6⟩ hQ => ?_ }
    · simp only [List.mem_cons, List.not_mem_nil, or_false] at hm
      rcases hm with e | e | e | e
      · exact dz e
      · exact dTO e
      · exact d1 e
      · exact d2 e
    · rcases q6 with ⟨e0, z0, a, b, t0⟩ | ⟨T, f, oT, z0, t0, r1, r2, r3, r4⟩
      · exact .inl ⟨e0, hk _ _ (Ne.symm dz) z0, a, b, hk _ _ (Ne.symm dTO) t0⟩
      · exact .inr ⟨T, f, oT, hk _ _ (Ne.symm dz) z0, hk _ _ r4 t0, r1, r2, r3, r4⟩
    · have ex := Array.getElem?_eq_getElem hi
      have ey := Array.getElem?_eq_getElem (xs := ys) (i := i) (by omega)
      have lt : ∀ {c o}, s₁.heap.get? c = some o → s₁.heap.objs.size ≠ c := fun e => Nat.ne_of_gt (Heap.lt_size e)
      have n1 : s₁.heap.objs.size ≠ i1 := let ⟨_, e⟩ := q2.there; lt e
      have n2 : s₁.heap.objs.size ≠ i2 := let ⟨_, e⟩ := q3.there; lt e
      rcases q6 with ⟨e0, z0, a, b, t0⟩ | ⟨T, f, oT, z0, t0, r1, r2, r3, r4⟩
      · unfold pyNext
        refine wpAny_bind (wpAny_attempt (wpAny_callSpecial?_slot (name := Str.ofString "__next__") (hTy s₁ _ z0 rfl) F.slot_zip_next (wpAny_call_entry F.slot_zip_next (hTy s₁ _ z0 rfl) F.entry_zip_next
          (zg_first D z0 q1 t0 q2 q3 q4 q5 ex ey fun h' a1 a2 a3 a4 hk => wpAny_pure ?_) (F.args_zip_next_1 _))))
        exact hQ s₁.heap.objs.size _ _ h' s₁.toks ⟨ex, ey⟩ (.inl ⟨_, a4, rfl, _, rfl⟩)
          ⟨hk _ _ D.TIz D.TITO D.TIi1 D.TIi2 q1, a2, a3, q4.mv fun o e => hk _ o D.l1z D.l1TO D.l1i1 D.l1i2 e, q5.mv fun o e => hk _ o D.l2z D.l2TO D.l2i1 D.l2i2 e,
            .inr ⟨s₁.heap.objs.size, false, _, a1, a4, lt z0, n1, n2, Nat.ne_of_gt hds⟩⟩
          fun c o hc e => hk c o (fun x => hc (by simp [x])) (fun x => hc (by simp [x])) (fun x => hc (by simp [x])) (fun x => hc (by simp [x])) e
      · unfold pyNext
        refine wpAny_bind (wpAny_attempt (wpAny_callSpecial?_slot (name := Str.ofString "__next__") (hTy s₁ _ z0 rfl) F.slot_zip_next (wpAny_call_entry F.slot_zip_next (hTy s₁ _ z0 rfl) F.entry_zip_next
          (zg_next D z0 t0 q1 q2 q3 q4 q5 ex ey fun h' a1 a2 a3 a4 hk => wpAny_pure ?_) (F.args_zip_next_1 _))))
        exact hQ s₁.heap.objs.size _ _ h' s₁.toks ⟨ex, ey⟩ (.inl ⟨_, a4, rfl, _, rfl⟩)
          ⟨hk _ _ D.TIz D.TIi1 D.TIi2 q1, a2, a3, q4.mv fun o e => hk _ o D.l1z D.l1i1 D.l1i2 e, q5.mv fun o e => hk _ o D.l2z D.l2i1 D.l2i2 e, .inr ⟨T, true, oT, a1, hk _ _ r1 r2 r3 t0, r1, r2, r3, r4⟩⟩
          fun c o hc e => hk c o (fun x => hc (by simp [x])) (fun x => hc (by simp [x])) (fun x => hc (by simp [x])) e
    · rcases q6 with ⟨e0, _⟩ | ⟨T, f, oT, z0, t0, r1, r2, r3, r4⟩
      · exact absurd e0 hn
      · unfold pyNext
        refine wpAny_bind (wpAny_attempt (wpAny_callSpecial?_slot (name := Str.ofString "__next__") (hTy s₁ _ z0 rfl) F.slot_zip_next (wpAny_call_entry F.slot_zip_next (hTy s₁ _ z0 rfl) F.entry_zip_next
          (zg_end hA D z0 t0 q1 q2 q4 (Array.getElem?_eq_none (Nat.le_refl _)) fun h' e hk he => ?_) (F.args_zip_next_1 _))))
        obtain ⟨o, ho, hc⟩ := he
        refine wpAny_bind (wpAny_isInstance (T := "StopIteration") (b := true) ⟨o, ho, hc⟩ isSubtype_stop ?_)
        exact wpAny_pure (hQ h' s₁.toks fun c o hc e => hk c o (fun x => hc (by simp [x])) (fun x => hc (by simp [x])) e)
end
end ZG
namespace PL
open PySem L2
theorem ints_map' (l : List Nat) : ints? (l.map nD) = some (l.map fun (i : Nat) => (i : Int)) := by rw [nD_ints]; exact ints_map _
/-! ### dict(zip(list of ints, tuple)) -/
def zipK {α : Type} (ks : List Int) (vs : List α) : List (Key × α) := List.zipWith (fun k v => ((Sum.inl k : Key), v)) ks vs
def tDictZip (K : PySem.W.Frag) (te tf : TE) : TE := fun σ H Q => tCons te (tCons tf tNil) σ H fun xs H2 => ∃ (a b : Addr) (ks : List Int) (vs : List V), xs = [.ref a, .ref b] ∧ SqL K H2 a (ks.map V.int) ∧ SqT K H2 b vs ∧ ks.length = vs.length ∧ ks.Nodup ∧ 0 < ks.length ∧ ks.length < 64 ∧ ∀ p, H2 p = none → Q (.ref p) (upd H2 p (.dK (zipK ks vs)))
def wDictZip (we wf : WE) : WE := fun e post => we e fun r e1 => wf e1 fun s e2 => match s with
  | .val (.dat (.tuple ys)) => r.keepIn e2 (match r.av with
    | .dat (.list xs) => ∃ ks, ints? xs = some ks ∧ ks.Nodup ∧ ks.length = ys.length ∧ 0 < ks.length ∧ ks.length < 64 ∧ post (.new (.dic (zipK ks ys))) e2
    | _ => False)
  | _ => False
section
variable {X : Cx} {A : Amb} {K : PySem.W.Frag} {F H : Hp} {te tf : TE} {we wf : WE} {x y : Expr} {p p2 q pos : Pos}
theorem kvR_zip : ∀ {ks : List Int} {vs : List V} {ds : List D}, RDs K F vs ds → KvR K F (zipK ks vs) (zipK ks ds)
  | [], _, _, _ => .nil
  | k :: ks, _, [], .nil => .nil
  | k :: ks, _, d :: ds, .cons h t => .cons ⟨rfl, h⟩ (kvR_zip t)
theorem er_dictZip (h : ER A K te we) (h2 : ER A K tf wf) : ER A K (tDictZip K te tf) (wDictZip we wf) := by
  intro σ F H e post S q Q k
  refine h σ F H e _ S q _ fun v r F1 H1 e1 T1 S1 R1 h1 => ?_
  refine h2 σ F1 H1 e1 _ S1 h1 _ fun u s F2 H2 e2 T2 S2 R2 h2 => ?_
  match s, R2, h2 with
  | .val (.dat (.tuple ys)), R2, h2 =>
    obtain ⟨hk, h3⟩ := Rs.keepIn_iff.mp h2
    have R1' := (R1.step T2 hk).top S2
    obtain ⟨b, vs, ev, f1, g1, rd⟩ := TopR.vtup (v := u) (ds := ys) S2.ex (R2.top S2)
    revert h3
    cases hr : r.av with
    | dat d =>
      cases d with
      | list xs =>
        rintro ⟨ks, hi, nd, hl, h0, hs, hp⟩
        rw [hr] at R1'
        obtain ⟨a, ea, ga⟩ := R1'.ints hi
        have l := rd.length
        refine ⟨a, b, ks, vs, by rw [ea, ev], SqL.of ga, g1, by omega, nd, h0, hs, fun p np => ?_⟩
        exact (S2.okr (post := fun r => post r e2) fun v r F3 H3 T3 S3 R3 p3 => k v r F3 H3 _ ((T1.trans T2).trans T3) S3 (R3.early (T1.trans T2)) p3).new p _ (.dic _) np ⟨_, rfl, kvR_zip rd⟩ hp
      | _ => exact fun h => h.elim
    | _ => exact fun h => h.elim
theorem kv_zip : ∀ {ks : List Int} {ws : List V} {us : List Value}, Vals ws us → KV (zipK ks ws) (List.zipWith (fun (k : Int) (u : Value) => ((Sum.inl k : Key), u)) ks us)
  | [], _, _, _ => .nil
  | k :: ks, [], _, .nil => .nil
  | k :: ks, w :: ws, _, .cons h t => .cons ⟨rfl, h⟩ (kv_zip t)
theorem zipK_keys : ∀ {ks : List Int} {ws : List V}, ks.length ≤ ws.length → (zipK ks ws).map (·.1) = ks.map fun k => (Sum.inl k : Key)
  | [], _, _ => rfl
  | k :: ks, [], h => by simp at h
  | k :: ks, w :: ws, h => by
    have := zipK_keys (ks := ks) (ws := ws) (by simpa using h)
    show _ :: _ = _ :: _
    exact congrArg _ this
theorem merge_nodup : ∀ {more kvs : List (Key × V)}, (more.map (·.1)).Nodup → (∀ k ∈ more.map (·.1), k ∉ kvs.map (·.1)) → mergeK kvs more = kvs ++ more
  | [], kvs, _, _ => by show kvs = kvs ++ []; rw [List.append_nil]
  | (k, v) :: more, kvs, nd, hd => by
    have nd' := List.nodup_cons.mp nd
    have hk : k ∉ kvs.map (·.1) := hd k (by simp)
    have e : putK kvs k v = kvs ++ [(k, v)] := by
      unfold putK
      have : (kvs.any fun kv => decide (kv.1 = k)) = false := by
        rw [List.any_eq_false]
        intro kv hkv
        rw [decide_eq_true_eq]
        exact fun e => hk (List.mem_map.mpr ⟨kv, hkv, e⟩)
      rw [this]; rfl
    show mergeK (putK kvs k v) more = _
    rw [e, merge_nodup nd'.2 fun j hj hm => ?_]
    · rw [List.append_assoc]; rfl
    · rw [List.map_append, List.mem_append] at hm
      rcases hm with hm | hm
      · exact hd j (List.mem_cons_of_mem _ hj) hm
      · have : j = k := by simpa using hm
        subst this
        exact nd'.1 hj
theorem pe_dictZip {tl tt : TE} (hc : X.calm = true) (hg : Gl X "dict") (hm : X.mg "dict" = none) (hg2 : Gl X "zip") (hm2 : X.mg "zip" = none) (hr : X.A.units + 64 < cLine) (h : PE X x te) (h2 : PE X y tf)
    (na : starEach [x, y] X.env = (false, eval x X.env) :: starEach [y] X.env := by rfl) (nb : starEach [y] X.env = (false, eval y X.env) :: starEach [] X.env := by rfl) (hpl : (backTo q (starEach [y] X.env)).any (·.1) = false := by rfl)
    (nc : starEach [.Call (.Name "zip" p2) [x, y] [] q] X.env = (false, eval (.Call (.Name "zip" p2) [x, y] [] q) X.env) :: starEach [] X.env := by rfl) :
    PE X (.Call (.Name "dict" p) [.Call (.Name "zip" p2) [x, y] [] q] [] pos) (tDictZip X.K te tf) := by
  refine ⟨fun pins s σ H Q I hq => ?_⟩
  refine PyProof.Rows.Call_ (ld_blt I hg hm PyProof.Rows.boot_dict (PyProof.Rows.callWith_type1 (PyProof.Rows.args_cons ?_ nc) nc))
  have ha : PA X [x, y] (tCons te (tCons tf tNil)) := pa_cons h (pa_cons h2 pa_nil nb) na
  refine PyProof.Rows.Call_ (ld_blt I hg2 hm2 PyProof.Rows.boot_zip (PyProof.Rows.callWith_type1 (thn (ha.run q pins s σ H _ I hq) fun us s1 ⟨vs, H1, I1, r1, q1⟩ => ?_) na hpl))
  obtain ⟨a, b, ks, ws, rfl, hqx, hqy, hl, nd, h0, hlt, kq⟩ := q1
  obtain rfl : us = [.ref a, .ref b] := by
    cases r1 with
    | cons r rr =>
      cases rr with
      | cons r' rr =>
        cases rr
        cases r
        cases r'
        rfl
  obtain ⟨its, rv, p1, _⟩ := I1.list hqx
  obtain ⟨its2, rv2, p2, _⟩ := I1.tuple hqy
  have l1 : its.length = ks.length := by have := rv.length; rw [List.length_map] at this; omega
  have l2 : its2.length = ws.length := by have := rv2.length; omega
  have pl1 := p1.isList
  have pl2 : s1.heap.IsTuple b its2.toArray := p2
  have lt1 : a < s1.heap.objs.size := p1.lt
  have lt2 : b < s1.heap.objs.size := p2.lt
  refine ZG.call_zipLT pl1 pl2 fun h' hz hTI hTO hi1 hi2 hk => PyProof.Rows.args_nil ?_
  have I2 : L2.Inv X pins σ H1 { s1 with heap := h' } := I1.kept (t' := s1.toks) hk
  have D := PySem.W.ktu_apart s1.heap.objs.size a b lt1 lt2
  have P := ZG.pairArg (prog := X.prog) (w := X.w) (b1 := true) (b2 := false) (xs := its.toArray) (ys := its2.toArray) D (by rw [List.size_toArray]; omega) (by rw [List.size_toArray, List.size_toArray]; omega)
  have hrel : ∀ (i : Nat) (k v : Value), its.toArray[i]? = some k ∧ its2.toArray[i]? = some v → ∃ key, (List.zipWith (fun (k : Int) (u : Value) => ((Sum.inl k : Key), u)) ks its2)[i]? = some (key, v) ∧ (mixKind X.prog X.w).is key k = true := by
    rintro i k v ⟨e1, e2⟩
    have e1' : its[i]? = some k := by simpa using e1
    have e2' : its2[i]? = some v := by simpa using e2
    have hi : i < ks.length := by have := (List.getElem?_eq_some_iff.mp e1').1; omega
    obtain ⟨u, hu, ru⟩ := Vals.get (i := i) (x := V.int ks[i]) rv (by rw [List.getElem?_map, List.getElem?_eq_getElem hi]; rfl)
    rw [e1'] at hu
    cases hu
    obtain ⟨t, rfl⟩ := ru
    refine ⟨.inl ks[i], ?_, mixKind_int X.prog X.w ks[i] t⟩
    rw [List.getElem?_zipWith, List.getElem?_eq_getElem hi, e2']
  refine call_dict_pairs (knd := mixKind X.prog X.w) (kvs := List.zipWith (fun (k : Int) (u : Value) => ((Sum.inl k : Key), u)) ks its2) P (I2.ok.hd hc) ⟨hz, hTI, ⟨_, _, hTO⟩, hi1, hi2, pl1.at fun o e => hk _ o e, pl2.at fun o e => hk _ o e⟩ ⟨by rw [List.length_zipWith, List.size_toArray]; omega, hrel⟩ (Nat.le_trans (show its.toArray.size ≤ 100000 by rw [List.size_toArray]; omega) line5) fun h2 tk dd hk2 => ?_
  have lz : (zipK ks ws).length ≤ sizeLine := by
    unfold zipK
    rw [List.length_zipWith]
    exact Nat.le_trans (by omega) line5
  have kv : KV (zipK ks ws) (merged [] (List.zipWith (fun (k : Int) (u : Value) => ((Sum.inl k : Key), u)) ks its2)) := by
    have r0 := kv_zip (ks := ks) rv2
    have := KV.merge r0 (kvs := []) (vs := []) .nil
    rwa [merge_nodup (more := zipK ks ws) (kvs := []) (by rw [zipK_keys (by omega)]; exact List.Pairwise.map _ (fun a b h => by intro e; injection e with e; exact h e) nd) (fun k _ h => by cases h), List.nil_append] at this
  have hnS : (h'.objs.size == sysModules) = false := beq_eq_false_iff_ne.mpr (Ne.symm (Nat.ne_of_lt I2.big))
  have hf : ∀ c, c ∈ [s1.heap.objs.size + 4, s1.heap.objs.size + 3, s1.heap.objs.size, s1.heap.objs.size + 1] → FpOk X pins H1 c := fun c hcm => by
    have hle : s1.heap.objs.size ≤ c := by
      simp only [List.mem_cons, List.not_mem_nil, or_false] at hcm
      rcases hcm with z | z | z | z <;> (rw [z]; first | exact Nat.le_refl _ | exact Nat.le_add_right _ _)
    exact I1.fpOk hle (I1.hok.fresh hle)
  have I3 := I2.turnedNew (t' := tk) (ob := .dK (zipK ks ws)) hk2 hf (Nat.le_refl _) (dk_new lz hnS kv dd)
  exact ⟨.ref h'.objs.size, _, I3, rfl, kq _ (I2.hok.fresh (Nat.le_refl _))⟩
theorem pd_dictZip (hc : X.calm = true) (hg : Gl X "dict") (hm : X.mg "dict" = none) (hg2 : Gl X "zip") (hm2 : X.mg "zip" = none) (hr : X.A.units + 64 < cLine) (h : PD X A x te we) (h2 : PD X A y tf wf)
    (na : starEach [x, y] X.env = (false, eval x X.env) :: starEach [y] X.env := by rfl) (nb : starEach [y] X.env = (false, eval y X.env) :: starEach [] X.env := by rfl) (hpl : (backTo q (starEach [y] X.env)).any (·.1) = false := by rfl)
    (nc : starEach [.Call (.Name "zip" p2) [x, y] [] q] X.env = (false, eval (.Call (.Name "zip" p2) [x, y] [] q) X.env) :: starEach [] X.env := by rfl) :
    PD X A (.Call (.Name "dict" p) [.Call (.Name "zip" p2) [x, y] [] q] [] pos) (tDictZip X.K te tf) (wDictZip we wf) := ⟨pe_dictZip (tl := te) (tt := te) hc hg hm hg2 hm2 hr h.pe h2.pe na nb hpl nc, er_dictZip h.er h2.er⟩
end
end PL

namespace K4
open PySem L2 PL
abbrev top (i : Nat) : Stmt := PySem.Challenge.pw_pilepass_k04_whole_meanings_of_changed_w.main.body.getD i (.Pass ⟨0, 0, 0, 0⟩)
structure Txt (mg : Str → Option Value) : Prop where
  b_all : mg "all" = none
  b_bool : mg "bool" = none
  b_enumerate : mg "enumerate" = none
  b_int : mg "int" = none
  b_isinstance : mg "isinstance" = none
  b_len : mg "len" = none
  b_range : mg "range" = none
  b_set : mg "set" = none
  b_sorted : mg "sorted" = none
  b_tuple : mg "tuple" = none
  g_MAX_STEPS : ∃ t, mg "MAX_STEPS" = some (.int 10 t)
  g_IN : ∃ t, mg "IN" = some (.str "in" t)
  g_NEG : ∃ t, mg "NEG" = some (.str "neg" t)
  g_PICK : ∃ t, mg "PICK" = some (.str "pick" t)
section
variable {P : Program} {w : World} {K : PySem.W.Frag} {mg : Str → Option Value} {base : Heap} {A : Amb} {f : Addr} {fd : FuncData} {x qual : Str}
abbrev s_is_integer : Stmt := top 9
theorem sc_is_integer : FnScope ["value", "least", "most"] ["value", "least", "most"] (defScope s_is_integer) := ⟨rfl, rfl, rfl, by decide +kernel, rfl, by decide +kernel, by decide +kernel⟩
def isInt (lo hi : Int) : D → Bool
  | .int i => decide (lo ≤ i) && decide (i ≤ hi)
  | _ => false
def fs_is_integer : FS := fun as n p => ∃ v lo hi, as = [.dat v, .dat (.int lo), .dat (.int hi)] ∧ p (vBl (isInt lo hi v)) n
theorem ok_is_integer (G : Fun K x qual s_is_integer f fd) (T : Txt mg) : FnOk P w K mg base CX0 1 f fd ["value", "least", "most"] (spD A K fs_is_integer) := by
  refine Fun.okD G sc_is_integer (by decide) (fun as n p ⟨v, lo, hi, e, _⟩ => by rw [e]; rfl) fun cdv A' outer s H E hr => ⟨_, _,
    (psds_one (psd_ret (pd_and (pd_callB (call_isi' isi_int) (by rfl) T.b_isinstance (by decide +kernel) (pad_cons (pd_var 0) (pad_cons (pd_ty T.b_int PyProof.Rows.boot_int (by rfl)) pad_nil))) (pd_and (pd_not (pd_callB (call_isi' isi_bool) (by rfl) T.b_isinstance (by decide +kernel) (pad_cons (pd_var 0) (pad_cons (pd_ty T.b_bool PyProof.Rows.boot_bool (by rfl)) pad_nil)))) (pd_one (pd_chain op_le' op_le' (pd_var 1) (pd_var 0) (pd_var 2))))))), fun as n p ⟨v, lo, hi, e, h⟩ => ?_⟩
  subst e
  cases v with
  | int i =>
    refine ⟨rfl, ?_⟩
    show _ ∧ _
    refine ⟨rfl, ?_⟩
    show if decide (lo ≤ i) = true then p (vBl (decide (i ≤ hi))) n else p (vBl false) n
    change p (vBl (decide (lo ≤ i) && decide (i ≤ hi))) n at h
    split
    · rename_i c; rw [c] at h; exact h
    · rename_i c; rw [Bool.eq_false_iff.mpr c] at h; exact h
  | bool b => exact ⟨rfl, rfl, h⟩
  | _ => exact ⟨rfl, h⟩
abbrev s_ties : Stmt := top 10
theorem sc_ties : FnScope ["web", "found", "taker", "kind", "inputs", "place", "giver"] ["web"] (defScope s_ties) := ⟨rfl, rfl, rfl, by decide +kernel, rfl, by decide +kernel, by decide +kernel⟩
def fs_ties : FS := fun as n p => ∃ w : List Sp1, as = [.dat (encW w)] ∧ TOk w ∧ ∀ ss : List (List Int), ss.Perm (tiesL w) → ss.Pairwise (fun a b => TS.code 64 a ≤ TS.code 64 b) → p (.val (.dat (.tuple (ss.map encI)))) n
theorem ok_ties (G : Fun K x qual s_ties f fd) (T : Txt mg) : FnOk P w K mg base CX0 1 f fd ["web"] (spD A K fs_ties) := by
  refine Fun.okD G sc_ties (by decide) (fun as n p ⟨w, e, _⟩ => by rw [e]; rfl) fun cdv A' outer s H E hr => ⟨_, _,
  (psds_cons (psd_set (i := 1) sc_ties.nd rfl (by first | exact Or.inl rfl | exact Or.inr rfl) (pd_lst pad_nil))
      (psds_cons (psd_for (ks := [2, 3, 4]) PassesOwn.never rfl (pid_enum (by rfl) T.b_enumerate (pd_var 0)) (pgd_tup (n := 2) rfl (pgds_cons (pgd_name (i := 2) (by decide) sc_ties.nd rfl (by first | exact Or.inl rfl | exact Or.inr rfl)) (pgds_cons (pgd_tup (n := 2) rfl (pgds_cons (pgd_name (i := 3) (by decide) sc_ties.nd rfl (by first | exact Or.inl rfl | exact Or.inr rfl)) (pgds_cons (pgd_name (i := 4) (by decide) sc_ties.nd rfl (by first | exact Or.inl rfl | exact Or.inr rfl)) pgds_nil))) pgds_nil))) (psds_one (psd_expr (pd_extend (i := 1) rfl (by first | exact Or.inl rfl | exact Or.inr (Or.inl rfl) | exact Or.inr (Or.inr rfl)) (pd_lc (own := [("place", 5), ("giver", 6)]) rfl sc_ties.nd (pid_enum (by rfl) T.b_enumerate (pd_var 4)) (blkOk_by rfl) (fun _ _ _ _ _ => ⟨_, (pgd_tup (n := 2) rfl (pgds_cons (pgd_name (i := 5) (by decide) sc_ties.nd rfl (by first | exact Or.inl rfl | exact Or.inr rfl)) (pgds_cons (pgd_name (i := 6) (by decide) sc_ties.nd rfl (by first | exact Or.inl rfl | exact Or.inr rfl)) pgds_nil)))⟩) (fun _ _ _ _ _ => ⟨_, pdts_nil⟩) (fun _ _ _ _ _ => ⟨_, (pd_tup (pad_cons (pd_var 6) (pad_cons (pd_var 2) (pad_cons (pd_var 5) pad_nil))))⟩))))))
      (psds_one (psd_ret (pd_callTy call_tuple' (by rfl) T.b_tuple (by decide +kernel) (pad_cons (pd_callB (call_sortedT' (d := 3) (B := 64) (by decide)) (by rfl) T.b_sorted (by decide +kernel) (pad_cons (pd_var 1) pad_nil)) pad_nil)))))), fun as n p ⟨w, e, ok, h⟩ => ?_⟩
  subst e
  refine ⟨[], rfl, le5 rfl, fun i e => ∃ x y z, nOw x ∧ nOw y ∧ nOw z ∧ e = ⟨[.im (.dat (encW w)), .ow (.lst ((tiesL (w.take i)).map encI)), x, y, z, .un, .un], n⟩, ⟨.un, .un, .un, trivial, trivial, trivial, rfl⟩, ?_, ?_⟩
  · rintro i d e hd ⟨x, y, z, hx, hy, hz, rfl⟩
    obtain ⟨s, hs, rfl⟩ := enumW w hd
    refine ⟨⟨hx, hy, hz, trivial⟩, rfl, rfl, rfl, rfl, ?_⟩
    refine lc_pure (fun x : Nat × Nat => .tuple [nD x.1, nD x.2]) (fun x => some (.tuple [nD x.2, nD i, nD x.1])) (s.2.mapIdx fun p g => (p, g)) (enumN s.2) ?_ ?_ ?_ ?_
    · exact ⟨trivial, trivial, trivial⟩
    · rw [List.length_mapIdx]; exact Nat.le_of_lt (Nat.lt_of_lt_of_le (ok.arity s (List.mem_of_getElem? hs)) (by decide))
    · exact fun q hq k hk => ⟨rfl, rfl, _, rfl, le5 rfl, hk _ _ rfl rfl⟩
    · rw [← tiesOf_enc i s.2]
      have e1 : (tiesL (w.take i)).map encI ++ (tiesOf i s.2).map encI = (tiesL (w.take (i + 1))).map encI := by rw [tiesL_take w i s hs, List.map_append]
      refine ⟨?_, .im (.dat (nD i)), .im (.dat s.1.d), .im (.dat (encN s.2)), trivial, trivial, trivial, ?_⟩
      · rw [← List.length_append, e1, List.length_map]
        have := tiesL_take_le w (i + 1)
        have := ok.many
        omega
      · rw [e1]; rfl
  · rintro e ⟨x, y, z, _, _, _, rfl⟩
    have e1 : w.take (enumD (w.map encS)).length = w := by rw [enumD_len, List.length_map, List.take_length]
    rw [e1]
    refine ⟨rfl, tiesL w, rfl, ok.many, fun t ht => ok.bd ht, fun ss h1 h2 => h ss h1 h2⟩
abbrev s_results : Stmt := top 11
theorem sc_results : FnScope ["web", "givers", "giver", "taker", "place", "step"] ["web"] (defScope s_results) := ⟨rfl, rfl, rfl, by decide +kernel, rfl, by decide +kernel, by decide +kernel⟩
def fs_results : FS := fun as n p => ∃ w : List Sp1, as = [.dat (encW w)] ∧ TOk w ∧ p (.val (.dat (encN (resL w)))) n
theorem ok_results (G : Fun K x qual s_results f fd) (T : Txt mg) (f_ties : PFn P w K mg base A "ties" ["web"] fs_ties 1) : FnOk P w K mg base CX0 2 f fd ["web"] (spD A K fs_results) := by
  refine Fun.okD G sc_results (by decide) (fun as n p ⟨w, e, _⟩ => by rw [e]; rfl) fun cdv A' outer s H E hr => ⟨_, _,
  (psds_cons (psd_set (i := 1) sc_results.nd rfl (by first | exact Or.inl rfl | exact Or.inr rfl) (pd_lc (own := [("giver", 2), ("taker", 3), ("place", 4)]) rfl sc_results.nd (pid_seq (pd_fn f_ties hr (by decide) (by rfl) (pad_cons (pd_var 0) pad_nil))) (blkOk_by rfl) (fun _ _ _ _ _ => ⟨_, (pgd_tup (n := 3) rfl (pgds_cons (pgd_name (i := 2) (by decide) sc_results.nd rfl (by first | exact Or.inl rfl | exact Or.inr rfl)) (pgds_cons (pgd_name (i := 3) (by decide) sc_results.nd rfl (by first | exact Or.inl rfl | exact Or.inr rfl)) (pgds_cons (pgd_name (i := 4) (by decide) sc_results.nd rfl (by first | exact Or.inl rfl | exact Or.inr rfl)) pgds_nil))))⟩) (fun _ _ _ _ _ => ⟨_, pdts_nil⟩) (fun _ _ _ _ _ => ⟨_, (pd_var 2)⟩)))
      (psds_one (psd_ret (pd_callTy call_tuple' (by rfl) T.b_tuple (by decide +kernel) (pad_cons (pd_lc (own := [("step", 5)]) rfl sc_results.nd (pid_rng1 (by rfl) T.b_range (pd_callB call_len' (by rfl) T.b_len (by decide +kernel) (pad_cons (pd_var 0) pad_nil))) (blkOk_by rfl) (fun _ _ _ _ _ => ⟨_, (pgd_name (i := 5) (by decide) sc_results.nd rfl (by first | exact Or.inl rfl | exact Or.inr rfl))⟩) (fun _ _ _ _ _ => ⟨_, (pdts_one (pdt_cmp (op_notIn' (u65 hr)) (pd_var 5) (pd_var 1) (by rfl)))⟩) (fun _ _ _ _ _ => ⟨_, (pd_var 5)⟩)) pad_nil))))), fun as n p ⟨w, e, ok, h⟩ => ?_⟩
  subst e
  refine ⟨w, rfl, ok, fun ss h1 _ => ?_⟩
  have hl := h1.length_eq
  have hm := ok.many
  refine lc_pure encI (fun t => some (nD (t.headD 0).toNat)) ss rfl ?_ ?_ ?_ ?_
  · exact ⟨trivial, trivial, trivial, trivial⟩
  · omega
  · intro t ht k hk
    obtain ⟨g, a, p, rfl⟩ := heads_perm h1 t ht
    exact ⟨rfl, rfl, hk _ _ rfl rfl⟩
  · rw [filterMap_all]
    have lw := ok.len
    have lw2 : (w.map encS).length < 64 := by rw [List.length_map]; exact lw
    have eg : (ss.map fun t => nD (t.headD 0).toNat) = (ss.map fun t => (t.headD 0).toNat).map nD := by rw [List.map_map]; rfl
    rw [eg]
    refine ⟨by omega, by omega, ?_⟩
    refine lc_pure nD (fun s => if (!decide (∃ x ∈ w, s ∈ x.2)) = true then some (nD s) else none) (List.range w.length) ?_ ?_ ?_ ?_ ?_
    · rw [List.length_map, rng_nats]
    · exact ⟨trivial, trivial⟩
    · rw [List.length_range]; omega
    · intro t ht k hk
      refine ⟨shaped_int, shaped_nice (n := 1) (nice_list nice_nats), ?_⟩
      refine ite_b (c := !decide (∃ x ∈ w, t ∈ x.2)) ?_ (fun q => hk _ _ (if_pos q) rfl) (fun q => hk _ _ (if_neg (by rw [q]; decide)) rfl)
      rw [any_nD]
      exact congrArg _ (decide_eq_decide.mpr (resL_perm h1 t))
    · rw [filterMap_ite]
      exact h
abbrev s_rank_of : Stmt := top 12
theorem sc_rank_of : FnScope ["web", "step", "kind", "inputs"] ["web", "step"] (defScope s_rank_of) := ⟨rfl, rfl, rfl, by decide +kernel, rfl, by decide +kernel, by decide +kernel⟩
def fs_rank_of : FS := fun as n p => ∃ (w : List Sp1) (s : Nat), as = [.dat (encW w), .dat (nD s)] ∧ w.length < 64 ∧ p (vInt (rankN w s : Nat)) n
theorem ok_rank_of (G : Fun K x qual s_rank_of f fd) (T : Txt mg) : FnOk P w K mg base CX0 1 f fd ["web", "step"] (spD A K fs_rank_of) := by
  refine Fun.okD G sc_rank_of (by decide) (fun as n p ⟨w, s, e, _⟩ => by rw [e]; rfl) fun cdv A' outer s H E hr => ⟨_, _,
  (psds_one (psd_ret (pd_callB call_len' (by rfl) T.b_len (by decide +kernel) (pad_cons (pd_lc (own := [("kind", 2), ("inputs", 3)]) rfl sc_rank_of.nd (pid_seq (pd_slice (pd_var 0) pod_none (pod_some (pd_var 1)))) (blkOk_by rfl) (fun _ _ _ _ _ => ⟨_, (pgd_tup (n := 2) rfl (pgds_cons (pgd_name (i := 2) (by decide) sc_rank_of.nd rfl (by first | exact Or.inl rfl | exact Or.inr rfl)) (pgds_cons (pgd_name (i := 3) (by decide) sc_rank_of.nd rfl (by first | exact Or.inl rfl | exact Or.inr rfl)) pgds_nil)))⟩) (fun _ _ _ _ _ => ⟨_, (pdts_one (pdt_cmp (op_eq' hr.units) (pd_var 2) (pd_gStr T.g_IN (by rfl)) (nomark _)))⟩) (fun _ _ _ _ _ => ⟨_, (pd_var 2)⟩)) pad_nil)))), fun as n p ⟨w, s, e, ok, h⟩ => ?_⟩
  subst e
  refine lc_pure encS (fun x => if decide (x.1 = .inp) = true then some x.1.d else none) (w.take s) ?_ ?_ ?_ ?_ ?_
  · rw [List.map_take]; exact cutD_take
  · exact ⟨trivial, trivial, trivial⟩
  · rw [List.length_take]; omega
  · intro x hx k hk
    refine ⟨rfl, rfl, x.1.shp, Kd.shp .inp, ?_⟩
    exact ite_b (Kd.eqd x.1 .inp) (fun q => hk _ _ (if_pos q) rfl) (fun q => hk _ _ (if_neg (by rw [q]; decide)) rfl)
  · rw [filterMap_ite]
    show p (vInt ((((w.take s).filter fun x => decide (x.1 = Kd.inp)).map fun x => x.1.d).length : Nat)) n
    rw [List.length_map]
    exact h
abbrev s_worth_of : Stmt := top 13
theorem sc_worth_of : FnScope ["kind", "own", "worths"] ["kind", "own", "worths"] (defScope s_worth_of) := ⟨rfl, rfl, rfl, by decide +kernel, rfl, by decide +kernel, by decide +kernel⟩
def fs_worth_of : FS := fun as n p => ∃ (k : Kd) (o : Int) (ws : List Int), as = [.dat k.d, .dat (.int o), .dat (.list (ws.map PyData.int))] ∧ ws.length = arK k ∧ (∀ v ∈ ws, v.natAbs.log2 < 500000) ∧ p (vInt (worthV k o ws)) n
theorem ok_worth_of (G : Fun K x qual s_worth_of f fd) (T : Txt mg) : FnOk P w K mg base CX0 1 f fd ["kind", "own", "worths"] (spD A K fs_worth_of) := by
  refine Fun.okD G sc_worth_of (by decide) (fun as n p ⟨k, o, ws, e, _⟩ => by rw [e]; rfl) fun cdv A' outer s H E hr => ⟨_, _,
  (psds_cons (psd_if (pdt_cmp (op_eq' hr.units) (pd_var 0) (pd_gStr T.g_IN (by rfl)) (nomark _)) (psds_one (psd_ret (pd_var 1))) psds_nil)
      (psds_cons (psd_if (pdt_cmp (op_eq' hr.units) (pd_var 0) (pd_gStr T.g_NEG (by rfl)) (nomark _)) (psds_one (psd_ret (pd_op op_sub' pd_int (pd_ix (ix' (u1 hr)) (pd_var 2) pd_int (fun _ _ => rfl))))) psds_nil)
      (psds_cons (psd_if (pdt_cmp (op_eq' hr.units) (pd_var 0) pd_str (nomark _)) (psds_one (psd_ret (pd_op op_add' (pd_ix (ix' (u1 hr)) (pd_var 2) pd_int (fun _ _ => rfl)) (pd_ix (ix' (u1 hr)) (pd_var 2) pd_int (fun _ _ => rfl))))) psds_nil)
      (psds_cons (psd_if (pdt_cmp (op_eq' hr.units) (pd_var 0) pd_str (nomark _)) (psds_one (psd_ret (pd_op op_sub' (pd_ix (ix' (u1 hr)) (pd_var 2) pd_int (fun _ _ => rfl)) (pd_ix (ix' (u1 hr)) (pd_var 2) pd_int (fun _ _ => rfl))))) psds_nil)
      (psds_cons (psd_if (pdt_cmp (op_eq' hr.units) (pd_var 0) pd_str (nomark _)) (psds_one (psd_ret (pd_op op_mulW' (pd_ix (ix' (u1 hr)) (pd_var 2) pd_int (fun _ _ => rfl)) (pd_ix (ix' (u1 hr)) (pd_var 2) pd_int (fun _ _ => rfl))))) psds_nil)
      (psds_cons (psd_if (pdt_cmp (op_eq' hr.units) (pd_var 0) (pd_gStr T.g_PICK (by rfl)) (nomark _)) (psds_one (psd_ret (pd_ifExp (pdt_cmp op_gt' (pd_ix (ix' (u1 hr)) (pd_var 2) pd_int (fun _ _ => rfl)) pd_int (nomark _)) (pd_ix (ix' (u1 hr)) (pd_var 2) pd_int (fun _ _ => rfl)) (pd_ix (ix' (u1 hr)) (pd_var 2) pd_int (fun _ _ => rfl))))) psds_nil)
      (psds_one (psd_ret (pd_var 0))))))))), fun as n p ⟨k, o, ws, e, ha, hs, h⟩ => ?_⟩
  subst e
  refine ⟨k.shp, Kd.shp .inp, ite_b (Kd.eqd k .inp) (fun q => ?_) (fun q1 => ?_)⟩
  · have := of_decide_eq_true q
    subst this
    exact h
  refine ⟨k.shp, Kd.shp .neg, ite_b (Kd.eqd k .neg) (fun q => ?_) (fun q2 => ?_)⟩
  · have := of_decide_eq_true q
    subst this
    match ws, ha with
    | [a], _ => exact ⟨_, rfl, h⟩
  refine ⟨k.shp, Kd.shp .add, ite_b (Kd.eqd k .add) (fun q => ?_) (fun q3 => ?_)⟩
  · have := of_decide_eq_true q
    subst this
    match ws, ha with
    | [a, b], _ => exact ⟨_, rfl, _, rfl, h⟩
  refine ⟨k.shp, Kd.shp .sub, ite_b (Kd.eqd k .sub) (fun q => ?_) (fun q4 => ?_)⟩
  · have := of_decide_eq_true q
    subst this
    match ws, ha with
    | [a, b], _ => exact ⟨_, rfl, _, rfl, h⟩
  refine ⟨k.shp, Kd.shp .mul, ite_b (Kd.eqd k .mul) (fun q => ?_) (fun q5 => ?_)⟩
  · have := of_decide_eq_true q
    subst this
    match ws, ha with
    | [a, b], _ =>
      have h1 := hs a (by simp)
      have h2 := hs b (by simp)
      exact ⟨_, rfl, _, rfl, by show a.natAbs.log2 + b.natAbs.log2 < 1000000; omega, h⟩
  refine ⟨k.shp, Kd.shp .pick, ite_b (Kd.eqd k .pick) (fun q => ?_) (fun q6 => ?_)⟩
  · have := of_decide_eq_true q
    subst this
    match ws, ha with
    | [c, a, b], _ =>
      refine ⟨_, rfl, ?_⟩
      change p (vInt (if c > 0 then a else b)) n at h
      refine ite_b (c := decide (0 < c)) rfl (fun q => ?_) (fun q => ?_)
      · rw [if_pos (of_decide_eq_true q)] at h
        exact ⟨_, rfl, h⟩
      · rw [if_neg (of_decide_eq_false q)] at h
        exact ⟨_, rfl, h⟩
  cases k with
  | con i => exact h
  | _ => first | exact absurd q1 (by decide) | exact absurd q2 (by decide) | exact absurd q3 (by decide) | exact absurd q4 (by decide) | exact absurd q5 (by decide) | exact absurd q6 (by decide)
abbrev s_own_worth : Stmt := top 14
theorem sc_own_worth : FnScope ["web", "step", "worths"] ["web", "step", "worths"] (defScope s_own_worth) := ⟨rfl, rfl, rfl, by decide +kernel, rfl, by decide +kernel, by decide +kernel⟩
def fs_own_worth : FS := fun as n p => ∃ (w : List Sp1) (s : Nat) (x : Sp1) (wo : List Int), as = [.dat (encW w), .dat (nD s), .dat (.tuple (wo.map PyData.int))] ∧ w.length < 64 ∧ w[s]? = some x ∧ (x.1 = .inp → rankN w s < wo.length) ∧ p (vInt (ownV w wo s x.1)) n
theorem ok_own_worth (G : Fun K x qual s_own_worth f fd) (T : Txt mg) (f_rank_of : PFn P w K mg base A "rank_of" ["web", "step"] fs_rank_of 1) : FnOk P w K mg base CX0 2 f fd ["web", "step", "worths"] (spD A K fs_own_worth) := by
  refine Fun.okD G sc_own_worth (by decide) (fun as n p ⟨w, s, x, wo, e, _⟩ => by rw [e]; rfl) fun cdv A' outer s H E hr => ⟨_, _,
  (psds_one (psd_ret (pd_ifExp (pdt_cmp (op_eq' hr.units) (pd_ix (ix' (u1 hr)) (pd_ix (ix' (u1 hr)) (pd_var 0) (pd_var 1) (fun _ _ => rfl)) pd_int (fun _ _ => rfl)) (pd_gStr T.g_IN (by rfl)) (nomark _)) (pd_ix (ix' (u1 hr)) (pd_var 2) (pd_fn f_rank_of hr (by decide) (by rfl) (pad_cons (pd_var 0) (pad_cons (pd_var 1) pad_nil))) (fun _ _ => rfl)) pd_int))), fun as n p ⟨w, s, x, wo, e, ok, hx, hi, h⟩ => ?_⟩
  subst e
  have h1 : L2.atI (w.map encS) (s : Int) = some (encS x) := atI_nat (by rw [List.getElem?_map, hx]; rfl)
  refine ⟨_, h1, _, rfl, x.1.shp, Kd.shp .inp, ite_b (Kd.eqd x.1 .inp) (fun q => ?_) (fun q => ?_)⟩
  · have hk := of_decide_eq_true q
    unfold ownV at h
    rw [if_pos hk] at h
    have hr := hi hk
    refine ⟨w, s, rfl, ok, .int (wo.getD (rankN w s) 0), atI_nat ?_, h⟩
    rw [List.getElem?_map, List.getElem?_eq_getElem hr, List.getD_eq_getElem?_getD, List.getElem?_eq_getElem hr]
    rfl
  · have hk := of_decide_eq_false q
    unfold ownV at h
    rw [if_neg hk] at h
    exact h
abbrev s_meaning : Stmt := top 15
theorem sc_meaning : FnScope ["web", "worths", "known", "step", "kind", "inputs", "one"] ["web", "worths"] (defScope s_meaning) := ⟨rfl, rfl, rfl, by decide +kernel, rfl, by decide +kernel, by decide +kernel⟩
def meanD (w : List Sp1) (val : Nat → Int) : D := .tuple ((resL w).map fun s => PyData.int (val s))
def fs_meaning : FS := fun as n p => ∃ (w : List Sp1) (wo : List Int) (val : Nat → Int), as = [.dat (encW w), .dat (.tuple (wo.map PyData.int))] ∧ TOk w ∧ WOk w ∧ IsVal w wo val ∧ p (.val (.dat (meanD w val))) n
theorem ok_meaning (G : Fun K x qual s_meaning f fd) (T : Txt mg) (f_results : PFn P w K mg base A "results" ["web"] fs_results 2) (f_own_worth : PFn P w K mg base A "own_worth" ["web", "step", "worths"] fs_own_worth 2) (f_worth_of : PFn P w K mg base A "worth_of" ["kind", "own", "worths"] fs_worth_of 1) :
    FnOk P w K mg base CX0 3 f fd ["web", "worths"] (spD A K fs_meaning) := by
  refine Fun.okD G sc_meaning (by decide) (fun as n p ⟨w, wo, val, e, _⟩ => by rw [e]; rfl) fun cdv A' outer s H E hr => ⟨_, _,
  (psds_cons (psd_set (i := 2) sc_meaning.nd rfl (by first | exact Or.inl rfl | exact Or.inr rfl) pd_dict0)
      (psds_cons (psd_while PassesOwn.never (pdt_cmp op_lt' (pd_callB call_len' (by rfl) T.b_len (by decide +kernel) (pad_cons (pd_var 2) pad_nil)) (pd_callB call_len' (by rfl) T.b_len (by decide +kernel) (pad_cons (pd_var 0) pad_nil)) (nomark _)) (psds_one (psd_for (ks := [3, 4, 5]) PassesOwn.never rfl (pid_enum (by rfl) T.b_enumerate (pd_var 0)) (pgd_tup (n := 2) rfl (pgds_cons (pgd_name (i := 3) (by decide) sc_meaning.nd rfl (by first | exact Or.inl rfl | exact Or.inr rfl)) (pgds_cons (pgd_tup (n := 2) rfl (pgds_cons (pgd_name (i := 4) (by decide) sc_meaning.nd rfl (by first | exact Or.inl rfl | exact Or.inr rfl)) (pgds_cons (pgd_name (i := 5) (by decide) sc_meaning.nd rfl (by first | exact Or.inl rfl | exact Or.inr rfl)) pgds_nil))) pgds_nil))) (psds_one (psd_if (PDW.pdt (pdw_and (pdt_cmp (op_notIn' (u65 hr)) (pd_var 3) (pd_var 2) (by rfl)) (pdw_and1 (pdt_val (pd_callB (call_all' rfl) (by rfl) T.b_all (by decide +kernel) (pad_cons (pd_lc (own := [("one", 6)]) rfl sc_meaning.nd (pid_seq (pd_var 5)) (blkOk_by rfl) (fun _ _ _ _ _ => ⟨_, (pgd_name (i := 6) (by decide) sc_meaning.nd rfl (by first | exact Or.inl rfl | exact Or.inr rfl))⟩) (fun _ _ _ _ _ => ⟨_, pdts_nil⟩) (fun _ _ _ _ _ => ⟨_, (pd_cmp (op_in' (u65 hr)) (pd_var 6) (pd_var 2) (by rfl))⟩)) pad_nil)))))) (psds_one (psd_setD (u1 hr) (i := 2) rfl (by first | exact Or.inl rfl | exact Or.inr (Or.inl rfl) | exact Or.inr (Or.inr rfl)) (pd_var 3) (pd_fn f_worth_of hr (by decide) (by rfl) (pad_cons (pd_var 4) (pad_cons (pd_fn f_own_worth hr (by decide) (by rfl) (pad_cons (pd_var 0) (pad_cons (pd_var 3) (pad_cons (pd_var 1) pad_nil)))) (pad_cons (pd_lc (own := [("one", 6)]) rfl sc_meaning.nd (pid_seq (pd_var 5)) (blkOk_by rfl) (fun _ _ _ _ _ => ⟨_, (pgd_name (i := 6) (by decide) sc_meaning.nd rfl (by first | exact Or.inl rfl | exact Or.inr rfl))⟩) (fun _ _ _ _ _ => ⟨_, pdts_nil⟩) (fun _ _ _ _ _ => ⟨_, (pd_ix (ix' (u1 hr)) (pd_var 2) (pd_var 6) (fun _ _ => rfl))⟩)) pad_nil)))))) psds_nil)))))
      (psds_one (psd_ret (pd_callTy call_tuple' (by rfl) T.b_tuple (by decide +kernel) (pad_cons (pd_lc (own := [("step", 3)]) rfl sc_meaning.nd (pid_seq (pd_fn f_results hr (by decide) (by rfl) (pad_cons (pd_var 0) pad_nil))) (blkOk_by rfl) (fun _ _ _ _ _ => ⟨_, (pgd_name (i := 3) (by decide) sc_meaning.nd rfl (by first | exact Or.inl rfl | exact Or.inr rfl))⟩) (fun _ _ _ _ _ => ⟨_, pdts_nil⟩) (fun _ _ _ _ _ => ⟨_, (pd_ix (ix' (u1 hr)) (pd_var 2) (pd_var 3) (fun _ _ => rfl))⟩)) pad_nil)))))), fun as n p ⟨w, wo, val, e, tok, ok, iv, h⟩ => ?_⟩
  subst e
  have lw := tok.len
  have lm : (w.map encS).length = w.length := List.length_map ..
  refine ⟨fun m e => ∃ (ks : List Nat) (x y z : Sl), nOw x ∧ nOw y ∧ nOw z ∧ ks.Nodup ∧ (∀ k ∈ ks, k < w.length) ∧ m = w.length - ks.length ∧ e = ⟨[.im (.dat (encW w)), .im (.dat (.tuple (wo.map PyData.int))), .ow (.dic (kvN val ks)), x, y, z, .un], n⟩,
    ⟨_, [], .un, .un, .un, trivial, trivial, trivial, List.nodup_nil, by simp, rfl, rfl⟩, ?_⟩
  rintro m e ⟨ks, x, y, z, hx, hy, hz, nd, hk, rfl, rfl⟩
  have lk : (kvN val ks).length = ks.length := List.length_map ..
  have hle : ks.length ≤ w.length := by
    have := nd.length_le_of_subset (fun k h => List.mem_range.mpr (hk k h))
    rwa [List.length_range] at this
  refine ⟨rfl, ite_b (c := decide (ks.length < w.length)) ?_ (fun q => ?_) (fun q => ?_)⟩
  · exact decide_eq_decide.mpr (by rw [lk, lm]; omega)
  · have hlt := of_decide_eq_true q
    refine ⟨fun i e => ∃ (ks' : List Nat) (x y z : Sl), nOw x ∧ nOw y ∧ nOw z ∧ ks'.Nodup ∧ (∀ k ∈ ks', k < w.length) ∧ (∀ k ∈ ks, k ∈ ks') ∧ (∀ s < i, ∀ x, w[s]? = some x → (∀ j ∈ x.2, j ∈ ks) → s ∈ ks') ∧
      e = ⟨[.im (.dat (encW w)), .im (.dat (.tuple (wo.map PyData.int))), .ow (.dic (kvN val ks')), x, y, z, .un], n⟩, ⟨ks, x, y, z, hx, hy, hz, nd, hk, fun _ h => h, fun s hs => absurd hs (Nat.not_lt_zero s), rfl⟩, ?_, ?_⟩
    · rintro i d e hd ⟨ks', x, y, z, hx, hy, hz, nd', hk', hsub, hdo, rfl⟩
      obtain ⟨s, hs, rfl⟩ := enumW w hd
      have hil : i < w.length := (List.getElem?_eq_some_iff.mp hs).1
      have hsm := List.mem_of_getElem? hs
      have skip : ∀ (x' y' z' : Sl), nOw x' → nOw y' → nOw z' → (i ∈ ks' ∨ ¬ ∀ j ∈ s.2, j ∈ ks') → ∃ (ks'' : List Nat) (x y z : Sl), nOw x ∧ nOw y ∧ nOw z ∧ ks''.Nodup ∧ (∀ k ∈ ks'', k < w.length) ∧ (∀ k ∈ ks, k ∈ ks'') ∧ (∀ t < i + 1, ∀ x, w[t]? = some x → (∀ j ∈ x.2, j ∈ ks) → t ∈ ks'') ∧
        (⟨[.im (.dat (encW w)), .im (.dat (.tuple (wo.map PyData.int))), .ow (.dic (kvN val ks')), x', y', z', .un], n⟩ : En) = ⟨[.im (.dat (encW w)), .im (.dat (.tuple (wo.map PyData.int))), .ow (.dic (kvN val ks'')), x, y, z, .un], n⟩ := fun x' y' z' h1 h2 h3 hc =>
        ⟨ks', x', y', z', h1, h2, h3, nd', hk', hsub, fun t ht x hx hj => by
          by_cases e : t = i
          · subst e
            rw [hs] at hx; cases hx
            rcases hc with hc | hc
            · exact hc
            · exact absurd (fun j hj2 => hsub j (hj j hj2)) hc
          · exact hdo t (by omega) x hx hj, rfl⟩
      refine ⟨⟨hx, hy, hz, trivial⟩, rfl, rfl, rfl, rfl, ?_⟩
      -- step not in known and all(..)
      refine ⟨_, rfl, ite_b (c := !decide (i ∈ ks')) ?_ (fun q => ?_) (fun q => ?_)⟩
      · show (!(lookD (kvN val ks') (.inl (i : Int))).isSome) = _
        rw [kvN_look]
        by_cases c : i ∈ ks' <;> simp [c]
      · have hni : i ∉ ks' := by simpa using q
        refine lc_pure nD (fun j => some (PyData.bool (decide (j ∈ ks')))) s.2 rfl ?_ ?_ ?_ ?_
        · exact ⟨trivial, trivial⟩
        · exact Nat.le_of_lt (Nat.lt_of_lt_of_le (tok.arity s hsm) (by decide))
        · intro j hj k hk
          refine ⟨_, rfl, hk _ _ ?_ rfl⟩
          show some (PyData.bool (decide (j ∈ ks'))) = some (PyData.bool (lookD (kvN val ks') (.inl (j : Int))).isSome)
          rw [kvN_look]
          by_cases c : j ∈ ks' <;> simp [c]
        · rw [filterMap_all]
          have hall : (s.2.map fun j => PyData.bool (decide (j ∈ ks'))) = (s.2.map fun j => decide (j ∈ ks')).map PyData.bool := by rw [List.map_map]; rfl
          rw [hall]
          refine ⟨_, bls_map _, ?_⟩
          refine ite_b (c := decide (∀ j ∈ s.2, j ∈ ks')) ?_ (fun q2 => ?_) (fun q2 => ?_)
          · rw [List.all_map]
            rw [Bool.eq_iff_iff, List.all_eq_true, decide_eq_true_eq]
            exact ⟨fun h j hj => of_decide_eq_true (h j hj), fun h j hj => decide_eq_true (h j hj)⟩
          · have hin := of_decide_eq_true q2
            refine ⟨w, i, s, wo, rfl, lw, hs, iv.own i s hs, ?_⟩
            refine lc_pure nD (fun j => some (PyData.int (val j))) s.2 rfl ?_ ?_ ?_ ?_
            · exact ⟨trivial, trivial⟩
            · exact Nat.le_of_lt (Nat.lt_of_lt_of_le (tok.arity s hsm) (by decide))
            · intro j hj k hk
              refine ⟨rfl, _, _, rfl, ?_, hk _ _ rfl rfl⟩
              show lookD (kvN val ks') (.inl (j : Int)) = _
              rw [kvN_look, if_pos (hin j hj)]
            · rw [filterMap_all]
              have hv : (s.2.map fun j => PyData.int (val j)) = (s.2.map val).map PyData.int := by rw [List.map_map]; rfl
              rw [hv]
              refine ⟨s.1, ownV w wo i s.1, s.2.map val, rfl, ?_, ?_, ?_⟩
              · rw [List.length_map]; exact ok.ar s hsm
              · intro v hv
                obtain ⟨j, _, e⟩ := List.mem_map.mp hv
                subst e
                exact iv.small j
              · rw [← iv.eq i s hs]
                refine ⟨_, rfl, ?_, ks' ++ [i], .im (.dat (nD i)), .im (.dat s.1.d), .im (.dat (encN s.2)), trivial, trivial, trivial, ?_, ?_, ?_, ?_, ?_⟩
                · rw [kvN_len]
                  have := nodup_le nd' hk'
                  omega
                · exact nodup_snoc nd' hni
                · exact fun k hk => (List.mem_append.mp hk).elim (hk' k) fun z => by
                    rw [List.mem_singleton.mp z]; exact hil
                · exact fun k hk => List.mem_append_left _ (hsub k hk)
                · intro t ht x hx hj
                  by_cases e : t = i
                  · rw [e]; exact List.mem_append_right _ (List.mem_singleton.mpr rfl)
                  · exact List.mem_append_left _ (hdo t (by omega) x hx hj)
                · rw [← kvN_put hni]; rfl
          · exact skip _ _ _ trivial trivial trivial (.inr (of_decide_eq_false q2))
      · exact skip _ _ _ trivial trivial trivial (.inl (by simpa using q))
    · rintro e ⟨ks', x, y, z, hx, hy, hz, nd', hk', hsub, hdo, rfl⟩
      refine ⟨w.length - ks'.length, ?_, ks', x, y, z, hx, hy, hz, nd', hk', rfl, rfl⟩
      have e1 : (enumD (w.map encS)).length = w.length := by rw [enumD_len, List.length_map]
      rw [e1] at hdo
      obtain ⟨s, x, hs, hns, hin⟩ := some_ready ok hlt
      have hs' := hdo s (List.getElem?_eq_some_iff.mp hs).1 x hs hin
      have := nodup_lt nd nd' hsub hs' hns
      omega
  · have hge := of_decide_eq_false q
    have hall := nodup_all nd hk (by omega)
    refine ⟨w, rfl, tok, ?_⟩
    refine lc_pure nD (fun j => some (PyData.int (val j))) (resL w) rfl ?_ ?_ ?_ ?_
    · exact ⟨hx, trivial⟩
    · have := resL_len w
      omega
    · intro j hj k hk
      refine ⟨rfl, _, _, rfl, ?_, hk _ _ rfl rfl⟩
      show lookD (kvN val ks) (.inl (j : Int)) = _
      rw [kvN_look, if_pos (hall j (resL_lt hj))]
    · rw [filterMap_all]
      exact h
abbrev s_moved : Stmt := top 16
theorem sc_moved : FnScope ["step", "numbers", "one"] ["step", "numbers"] (defScope s_moved) := ⟨rfl, rfl, rfl, by decide +kernel, rfl, by decide +kernel, by decide +kernel⟩
def fs_moved : FS := fun as n p => ∃ (x : Sp1) (ns : List Nat), as = [.dat (encS x), .dat (.list (ns.map nD))] ∧ x.2.length < 64 ∧ (∀ i ∈ x.2, i < ns.length) ∧ p (.val (.dat (encS (mvS x fun i => ns.getD i 0)))) n
theorem ok_moved (G : Fun K x qual s_moved f fd) (T : Txt mg) : FnOk P w K mg base CX0 1 f fd ["step", "numbers"] (spD A K fs_moved) := by
  refine Fun.okD G sc_moved (by decide) (fun as n p ⟨x, ns, e, _⟩ => by rw [e]; rfl) fun cdv A' outer s H E hr => ⟨_, _,
  (psds_one (psd_ret (pd_tup (pad_cons (pd_ix (ix' (u1 hr)) (pd_var 0) pd_int (fun _ _ => rfl)) (pad_cons (pd_callTy call_tuple' (by rfl) T.b_tuple (by decide +kernel) (pad_cons (pd_lc (own := [("one", 2)]) rfl sc_moved.nd (pid_seq (pd_ix (ix' (u1 hr)) (pd_var 0) pd_int (fun _ _ => rfl))) (blkOk_by rfl) (fun _ _ _ _ _ => ⟨_, (pgd_name (i := 2) (by decide) sc_moved.nd rfl (by first | exact Or.inl rfl | exact Or.inr rfl))⟩) (fun _ _ _ _ _ => ⟨_, pdts_nil⟩) (fun _ _ _ _ _ => ⟨_, (pd_ix (ix' (u1 hr)) (pd_var 1) (pd_var 2) (fun _ _ => rfl))⟩)) pad_nil)) pad_nil))))), fun as n p ⟨x, ns, e, hl, hi, h⟩ => ?_⟩
  subst e
  refine ⟨_, rfl, _, rfl, ?_⟩
  refine lc_pure nD (fun j => some (nD (ns.getD j 0))) x.2 rfl ?_ ?_ ?_ ?_
  · exact ⟨trivial, trivial⟩
  · omega
  · intro j hj k hk
    refine ⟨nD (ns.getD j 0), atI_nat ?_, hk _ _ rfl rfl⟩
    rw [List.getElem?_map, List.getD_eq_getElem?_getD, List.getElem?_eq_getElem (hi j hj)]
    rfl
  · rw [filterMap_all]
    have e : (x.2.map fun j => nD (ns.getD j 0)) = (mvS x fun i => ns.getD i 0).2.map nD := by unfold mvS; rw [List.map_map]; rfl
    rw [e]
    exact ⟨_, rfl, le5 rfl, h⟩
abbrev s_beside : Stmt := top 17
theorem sc_beside : FnScope ["web", "other", "many", "numbers", "step"] ["web", "other"] (defScope s_beside) := ⟨rfl, rfl, rfl, by decide +kernel, rfl, by decide +kernel, by decide +kernel⟩
def fs_beside : FS := fun as n p => ∃ (w o : List Sp1), as = [.dat (encW w), .dat (encW o)] ∧ w.length + o.length ≤ 10 ∧ (∀ x ∈ o, x.2.length < 64) ∧ (∀ x ∈ o, ∀ i ∈ x.2, i < o.length) ∧ p (.val (.dat (encW (besW w o)))) n
theorem ok_beside (G : Fun K x qual s_beside f fd) (T : Txt mg) (f_moved : PFn P w K mg base A "moved" ["step", "numbers"] fs_moved 1) : FnOk P w K mg base CX0 2 f fd ["web", "other"] (spD A K fs_beside) := by
  refine Fun.okD G sc_beside (by decide) (fun as n p ⟨x, ns, e, _⟩ => by rw [e]; rfl) fun cdv A' outer s H E hr => ⟨_, _,
  (psds_cons (psd_set (i := 2) sc_beside.nd rfl (by first | exact Or.inl rfl | exact Or.inr rfl) (pd_callB call_len' (by rfl) T.b_len (by decide +kernel) (pad_cons (pd_var 0) pad_nil)))
      (psds_cons (psd_if (pdt_cmp op_gt' (pd_op op_add' (pd_var 2) (pd_callB call_len' (by rfl) T.b_len (by decide +kernel) (pad_cons (pd_var 1) pad_nil))) (pd_gInt T.g_MAX_STEPS (by rfl)) (nomark _)) (psds_one psd_never) psds_nil)
      (psds_cons (psd_set (i := 3) sc_beside.nd rfl (by first | exact Or.inl rfl | exact Or.inr rfl) (pd_lc (own := [("step", 4)]) rfl sc_beside.nd (pid_rng1 (by rfl) T.b_range (pd_callB call_len' (by rfl) T.b_len (by decide +kernel) (pad_cons (pd_var 1) pad_nil))) (blkOk_by rfl) (fun _ _ _ _ _ => ⟨_, (pgd_name (i := 4) (by decide) sc_beside.nd rfl (by first | exact Or.inl rfl | exact Or.inr rfl))⟩) (fun _ _ _ _ _ => ⟨_, pdts_nil⟩) (fun _ _ _ _ _ => ⟨_, (pd_op op_add' (pd_var 2) (pd_var 4))⟩)))
      (psds_one (psd_ret (pd_op op_add' (pd_var 0) (pd_callTy call_tuple' (by rfl) T.b_tuple (by decide +kernel) (pad_cons (pd_frz 3 (pd_lc (own := [("step", 4)]) rfl sc_beside.nd (pid_seq (pd_var 1)) (blkOk_by rfl) (fun _ _ _ _ _ => ⟨_, (pgd_name (i := 4) (by decide) sc_beside.nd rfl (by first | exact Or.inl rfl | exact Or.inr rfl))⟩) (fun _ _ _ _ _ => ⟨_, pdts_nil⟩) (fun _ _ _ _ _ => ⟨_, (pd_fn f_moved hr (by decide) (by rfl) (pad_cons (pd_var 4) (pad_cons (pd_var 3) pad_nil)))⟩))) pad_nil)))))))), fun as n p ⟨w, o, e, hl, ha, hi, h⟩ => ?_⟩
  subst e
  have l1 : (w.map encS).length = w.length := List.length_map ..
  have l2 : (o.map encS).length = o.length := List.length_map ..
  refine ite_b (c := false) ?_ (fun q => by cases q) (fun _ => ?_)
  · exact decide_eq_false (by rw [l1, l2]; omega)
  refine ⟨by omega, by omega, ?_⟩
  refine lc_pure nD (fun j => some (nD (w.length + j))) (List.range o.length) ?_ ?_ ?_ ?_ ?_
  · rw [l2]; exact rng_nats _
  · exact ⟨trivial, trivial⟩
  · rw [List.length_range]; omega
  · intro j hj k hk
    refine hk _ _ ?_ rfl
    rw [l1]; rfl
  · rw [filterMap_all]
    refine lc_pure encS (fun x => some (encS (mvS x fun i => w.length + i))) o rfl ?_ ?_ ?_ ?_
    · exact ⟨trivial, trivial⟩
    · omega
    · intro x hx k hk
      refine ⟨x, (List.range o.length).map fun j => w.length + j, ?_, ha x hx, fun i hi' => ?_, hk _ _ ?_ rfl⟩
      · rw [List.map_map]; rfl
      · rw [List.length_map, List.length_range]; exact hi x hx i hi'
      · have e : (mvS x fun i => ((List.range o.length).map fun j => w.length + j).getD i 0) = mvS x fun i => w.length + i := by
          unfold mvS
          refine congrArg (Prod.mk x.1) (List.map_congr_left fun i hi' => ?_)
          have := hi x hx i hi'
          rw [List.getD_eq_getElem?_getD, List.getElem?_map, List.getElem?_range this]
          rfl
        rw [e]
    · rw [filterMap_all]
      refine ⟨by rw [l1, List.length_map]; omega, ?_⟩
      have e : w.map encS ++ o.map (fun x => encS (mvS x fun i => w.length + i)) = (besW w o).map encS := by unfold besW; rw [List.map_append, List.map_map]; rfl
      rw [e]
      exact h
abbrev s_is_row : Stmt := top 18
theorem sc_is_row : FnScope ["web", "value", "one"] ["web", "value"] (defScope s_is_row) := ⟨rfl, rfl, rfl, by decide +kernel, rfl, by decide +kernel, by decide +kernel⟩
def fs_is_row : FS := fun as n p => ∃ (w : List Sp1) (l : List Nat), as = [.dat (encW w), .dat (encN l)] ∧ w.length < 64 ∧ l.Perm (List.range w.length) ∧ p (vBl true) n
theorem ok_is_row (G : Fun K x qual s_is_row f fd) (T : Txt mg) (f_is_integer : PFn P w K mg base A "is_integer" ["value", "least", "most"] fs_is_integer 1) : FnOk P w K mg base CX0 2 f fd ["web", "value"] (spD A K fs_is_row) := by
  refine Fun.okD G sc_is_row (by decide) (fun as n p ⟨x, ns, e, _⟩ => by rw [e]; rfl) fun cdv A' outer s H E hr => ⟨_, _,
  (psds_cons (psd_if (PDW.pdt (pdw_or (pdt_not (pdt_val (pd_callB (call_isi' isi_tuple) (by rfl) T.b_isinstance (by decide +kernel) (pad_cons (pd_var 1) (pad_cons (pd_ty T.b_tuple PyProof.Rows.boot_tuple (by rfl)) pad_nil))))) (pdw_or1 (pdt_cmp (op_ne' hr.units) (pd_callB call_len' (by rfl) T.b_len (by decide +kernel) (pad_cons (pd_var 1) pad_nil)) (pd_callB call_len' (by rfl) T.b_len (by decide +kernel) (pad_cons (pd_var 0) pad_nil)) (nomark _))))) (psds_one (psd_ret pd_bl)) psds_nil)
      (psds_cons (psd_if (pdt_not (pdt_val (pd_callB (call_all' rfl) (by rfl) T.b_all (by decide +kernel) (pad_cons (pd_lc (own := [("one", 2)]) rfl sc_is_row.nd (pid_seq (pd_var 1)) (blkOk_by rfl) (fun _ _ _ _ _ => ⟨_, (pgd_name (i := 2) (by decide) sc_is_row.nd rfl (by first | exact Or.inl rfl | exact Or.inr rfl))⟩) (fun _ _ _ _ _ => ⟨_, pdts_nil⟩) (fun _ _ _ _ _ => ⟨_, (pd_fn f_is_integer hr (by decide) (by rfl) (pad_cons (pd_var 2) (pad_cons pd_int (pad_cons (pd_op op_sub' (pd_callB call_len' (by rfl) T.b_len (by decide +kernel) (pad_cons (pd_var 0) pad_nil)) pd_int) pad_nil))))⟩)) pad_nil)))) (psds_one (psd_ret pd_bl)) psds_nil)
      (psds_one (psd_ret (pd_cmp (op_eq' hr.units) (pd_lenSet rfl (by rfl) T.b_len (by rfl) T.b_set (pd_var 1)) (pd_callB call_len' (by rfl) T.b_len (by decide +kernel) (pad_cons (pd_var 0) pad_nil)) (nomark _)))))), fun as n p ⟨w, l, e, hl, hp, h⟩ => ?_⟩
  subst e
  have ll := hp.length_eq
  rw [List.length_range] at ll
  have l1 : (w.map encS).length = w.length := List.length_map ..
  have l2 : (l.map nD).length = l.length := List.length_map ..
  refine ⟨rfl, ?_⟩
  refine ite_b (c := false) rfl (fun q => by cases q) (fun _ => ?_)
  refine ⟨shaped_int, shaped_int, ite_b (c := false) ?_ (fun q => by cases q) (fun _ => ?_)⟩
  · rw [eqv_intD, l1, l2, ll]
    simp
  refine lc_pure nD (fun j => some (PyData.bool true)) l rfl ?_ ?_ ?_ ?_
  · exact ⟨trivial, trivial⟩
  · omega
  · intro j hj k hk
    have hj' := List.mem_range.mp (hp.mem_iff.mp hj)
    refine ⟨nD j, 0, ((w.map encS).length : Int) - 1, rfl, hk _ _ ?_ rfl⟩
    have e : isInt 0 (((w.map encS).length : Int) - 1) (nD j) = true := by
      show (decide ((0 : Int) ≤ (j : Int)) && decide ((j : Int) ≤ ((w.map encS).length : Int) - 1)) = true
      rw [Bool.and_eq_true, decide_eq_true_eq, decide_eq_true_eq]
      omega
    rw [e]
  · rw [filterMap_all]
    have e : (l.map fun j => PyData.bool true) = (l.map fun _ => true).map PyData.bool := by rw [List.map_map]; rfl
    rw [e]
    refine ⟨_, bls_map _, ?_⟩
    refine ite_b (c := false) ?_ (fun q => by cases q) (fun _ => ?_)
    · rw [List.all_map]
      have : (l.all (id ∘ fun _ => true)) = true := List.all_eq_true.mpr fun _ _ => rfl
      rw [this]; rfl
    · refine ⟨l.map fun (i : Nat) => (i : Int), by rw [nD_ints]; exact ints_map _, by rw [List.length_map]; omega, fun ks nd hk => ?_⟩
      refine ⟨shaped_int, shaped_int, ?_⟩
      have hlk : ks.length = l.length := by
        have nl : l.Nodup := hp.nodup_iff.mpr List.nodup_range
        have n2 : (l.map fun (i : Nat) => (i : Int)).Nodup := List.Pairwise.map _ (fun a b h => by intro e; exact h (by omega)) nl
        have h1 := nd.length_le_of_subset fun k h => (hk k).mp h
        have h2 := n2.length_le_of_subset fun k h => (hk k).mpr h
        rw [List.length_map] at h1 h2
        omega
      have e2 : PyData.eqv (.int (ks.length : Nat)) (.int ((w.map encS).length : Nat)) = true := by
        rw [eqv_intD, hlk, l1, ll]; simp
      rw [e2]
      exact h
abbrev s_renumbered : Stmt := top 19
theorem sc_renumbered : FnScope ["web", "value", "numbers", "step"] ["web", "value"] (defScope s_renumbered) := ⟨rfl, rfl, rfl, by decide +kernel, rfl, by decide +kernel, by decide +kernel⟩
def fs_renumbered : FS := fun as n p => ∃ (w : List Sp1) (l : List Nat), as = [.dat (encW w), .dat (encN l)] ∧ w.length < 64 ∧ (∀ x ∈ w, x.2.length < 64) ∧ (∀ x ∈ w, ∀ i ∈ x.2, i < w.length) ∧ l.Perm (List.range w.length) ∧ p (.val (.dat (encW (renW w l)))) n
theorem ok_renumbered (G : Fun K x qual s_renumbered f fd) (T : Txt mg) (f_is_row : PFn P w K mg base A "is_row" ["web", "value"] fs_is_row 2) (f_moved : PFn P w K mg base A "moved" ["step", "numbers"] fs_moved 1) : FnOk P w K mg base CX0 3 f fd ["web", "value"] (spD A K fs_renumbered) := by
  refine Fun.okD G sc_renumbered (by decide) (fun as n p ⟨x, ns, e, _⟩ => by rw [e]; rfl) fun cdv A' outer s H E hr => ⟨_, _,
  (psds_cons (psd_if (pdt_not (pdt_val (pd_fn f_is_row hr (by decide) (by rfl) (pad_cons (pd_var 0) (pad_cons (pd_var 1) pad_nil))))) (psds_one psd_never) psds_nil)
      (psds_cons (psd_set (i := 2) sc_renumbered.nd rfl (by first | exact Or.inl rfl | exact Or.inr rfl) (pd_lc (own := [("step", 3)]) rfl sc_renumbered.nd (pid_rng1 (by rfl) T.b_range (pd_callB call_len' (by rfl) T.b_len (by decide +kernel) (pad_cons (pd_var 0) pad_nil))) (blkOk_by rfl) (fun _ _ _ _ _ => ⟨_, (pgd_name (i := 3) (by decide) sc_renumbered.nd rfl (by first | exact Or.inl rfl | exact Or.inr rfl))⟩) (fun _ _ _ _ _ => ⟨_, pdts_nil⟩) (fun _ _ _ _ _ => ⟨_, (pd_tidx (pd_var 1) (pd_var 3))⟩)))
      (psds_one (psd_ret (pd_callTy call_tuple' (by rfl) T.b_tuple (by decide +kernel) (pad_cons (pd_frz 2 (pd_lc (own := [("step", 3)]) rfl sc_renumbered.nd (pid_seq (pd_var 1)) (blkOk_by rfl) (fun _ _ _ _ _ => ⟨_, (pgd_name (i := 3) (by decide) sc_renumbered.nd rfl (by first | exact Or.inl rfl | exact Or.inr rfl))⟩) (fun _ _ _ _ _ => ⟨_, pdts_nil⟩) (fun _ _ _ _ _ => ⟨_, (pd_fn f_moved hr (by decide) (by rfl) (pad_cons (pd_ix (ix' (u1 hr)) (pd_var 0) (pd_var 3) (fun _ _ => rfl)) (pad_cons (pd_var 2) pad_nil)))⟩))) pad_nil)))))), fun as n p ⟨w, l, e, hl, ha, hi, hp, h⟩ => ?_⟩
  subst e
  have ll := hp.length_eq
  rw [List.length_range] at ll
  have hm : ∀ s ∈ l, s < w.length := fun s hs => List.mem_range.mp (hp.mem_iff.mp hs)
  have l1 : (w.map encS).length = w.length := List.length_map ..
  refine ⟨w, l, rfl, hl, hp, ?_⟩
  refine ite_b (c := false) rfl (fun q => by cases q) (fun _ => ?_)
  refine ⟨by omega, by omega, ?_⟩
  refine lc_pure nD (fun j => some (nD (l.idxOf j))) (List.range w.length) ?_ ?_ ?_ ?_ ?_
  · rw [l1]; exact rng_nats _
  · exact ⟨trivial, trivial⟩
  · rw [List.length_range]; omega
  · intro j hj k hk
    have hj' : j ∈ l := hp.mem_iff.mpr hj
    refine ⟨l.map fun (i : Nat) => (i : Int), ?_, List.mem_map.mpr ⟨j, hj', rfl⟩, hk _ _ ?_ rfl⟩
    · rw [nD_ints]; exact ints_map _
    · rw [idxOf_nat]; rfl
  · rw [filterMap_all]
    have hns : ((List.range w.length).map fun j => nD (l.idxOf j)) = ((List.range w.length).map fun j => l.idxOf j).map nD := by rw [List.map_map]; rfl
    rw [hns]
    refine lc_pure nD (fun s => some (encS (mvS (w.getD s (.inp, [])) fun i => l.idxOf i))) l rfl ?_ ?_ ?_ ?_
    · exact ⟨trivial, trivial⟩
    · omega
    · intro s hs k hk
      have hs' := hm s hs
      have hx : w.getD s (.inp, []) ∈ w := by rw [List.getD_eq_getElem?_getD, List.getElem?_eq_getElem hs']; exact List.getElem_mem hs'
      refine ⟨encS (w.getD s (.inp, [])), atI_nat ?_, ?_⟩
      · rw [List.getElem?_map, List.getD_eq_getElem?_getD, List.getElem?_eq_getElem hs']; rfl
      refine ⟨w.getD s (.inp, []), (List.range w.length).map fun j => l.idxOf j, rfl, ha _ hx, fun i hi' => ?_, hk _ _ ?_ rfl⟩
      · rw [List.length_map, List.length_range]; exact hi _ hx i hi'
      · have e : (mvS (w.getD s (.inp, [])) fun i => ((List.range w.length).map fun j => l.idxOf j).getD i 0) = mvS (w.getD s (.inp, [])) fun i => l.idxOf i := by
          unfold mvS
          refine congrArg (Prod.mk _) (List.map_congr_left fun i hi' => ?_)
          have := hi _ hx i hi'
          rw [List.getD_eq_getElem?_getD, List.getElem?_map, List.getElem?_range this]
          rfl
        rw [e]
    · rw [filterMap_all]
      have e : (l.map fun s => encS (mvS (w.getD s (.inp, [])) fun i => l.idxOf i)) = (renW w l).map encS := by rw [renW_eq hm, List.map_map]; rfl
      rw [e]
      exact h
end
end K4

namespace K4
open PySem L2 PL
structure Txt2 (mg : Str → Option Value) : Prop where
  b_len : mg "len" = none
  b_list : mg "list" = none
  b_max : mg "max" = none
  b_range : mg "range" = none
  b_tuple : mg "tuple" = none
section
variable {P : Program} {w : World} {K : PySem.W.Frag} {mg : Str → Option Value} {base : Heap} {A : Amb} {f : Addr} {fd : FuncData} {x qual : Str}
abbrev s_u_law_draw : Stmt := top 22
theorem sc_u_law_draw : FnScope ["deck", "bound", "cell", "mixed", "rest"] ["deck", "bound"] (defScope s_u_law_draw) := ⟨rfl, rfl, rfl, by decide +kernel, rfl, by decide +kernel, by decide +kernel⟩
def fs_draw (d : Addr) : FS := fun as n p => ∃ b : Int, as = [.raw (.ref d), .dat (.int b)] ∧ 0 < b ∧ b < 2 ^ 40 ∧ ∀ r, 0 ≤ r → r < b → p (vInt r) n
theorem ok_draw (G : Fun K x qual s_u_law_draw f fd) (T : Txt mg) (b_int : mg "int" = none) (b_len : mg "len" = none) (d c0 c1 : Addr) : FnOk P w K mg base CX0 1 f fd ["deck", "bound"] (spD (amB d c0 c1) K (fs_draw d)) := by
  refine G.ok sc_u_law_draw (fun vs H Q E ⟨F, as, n, p, _, r, _, _, ⟨b, e, _⟩, _⟩ => by rw [Paired.length r, e]; rfl) fun cdv A' outer s H vs Q E hr ⟨F, as, n, p, x, r, ri, rf, ⟨b, e, hb, hb2, q⟩, k⟩ => ?_
  subst e
  obtain ⟨_, _, rfl, rfl, r1⟩ := paired2 r
  cases r1
  refine ⟨_, pss_cons (ps_if (pt_cmpR (op_ne' hr.units) (pe_ix ix_list (pe_var (i := 0) rfl (Or.inl rfl)) pe_int (fun _ _ => rfl)) (pe_lst pa_nil) (nomark _))
      (pss_cons (ps_set (i := 4) sc_u_law_draw.nd rfl (Or.inl rfl) (pe_ix ix_list (pe_ix ix_list (pe_var (i := 0) rfl (Or.inl rfl)) pe_int (fun _ _ => rfl)) pe_int (fun _ _ => rfl)))
      (pss_cons (ps_asg (pe_op op_fdivW (pe_var (i := 4) rfl (Or.inl rfl)) (pe_var (i := 1) rfl (Or.inl rfl))) (pg_sub (pe_ix ix_list (pe_var (i := 0) rfl (Or.inl rfl)) pe_int (fun _ _ => rfl)) pe_int set_list))
      (pss_cons (ps_if (pt_cmpR (op_eq' hr.units) (pe_ix ix_list (pe_ix ix_list (pe_var (i := 0) rfl (Or.inl rfl)) pe_int (fun _ _ => rfl)) pe_int (fun _ _ => rfl)) pe_int (nomark _))
          (pss_one (ps_expr (pe_bm PySem.F.plainAttrs_list PySem.F.slot_list_pop PySem.F.type_list_pop mt_popAt (pe_ix ix_list (pe_var (i := 0) rfl (Or.inl rfl)) pe_int (fun _ _ => rfl)) (pa_cons pe_int pa_nil)))) pss_nil)
      (pss_one (ps_ret (pe_op op_mod (pe_callTy call_int' (by rfl) b_int PyProof.Rows.boot_int (pa_cons (pe_var (i := 4) rfl (Or.inl rfl)) pa_nil)) (pe_var (i := 1) rfl (Or.inl rfl)))))))) pss_nil)
    (pss_cons (ps_asg (pe_op op_add (pe_ix ix_list (pe_var (i := 0) rfl (Or.inl rfl)) pe_int (fun _ _ => rfl)) pe_int) (pg_sub (pe_var (i := 0) rfl (Or.inl rfl)) pe_int set_list))
    (pss_cons (ps_set (i := 2) sc_u_law_draw.nd rfl (Or.inl rfl) (pe_ix ix_list (pe_ix ix_list (pe_var (i := 0) rfl (Or.inl rfl)) pe_int (fun _ _ => rfl)) (pe_op op_mod (pe_callTy call_int' (by rfl) b_int PyProof.Rows.boot_int (pa_cons (pe_ix ix_list (pe_var (i := 0) rfl (Or.inl rfl)) pe_int (fun _ _ => rfl)) pa_nil)) (pe_callB call_len' (by rfl) b_len PySem.boot_len (pa_cons (pe_ix ix_list (pe_var (i := 0) rfl (Or.inl rfl)) pe_int (fun _ _ => rfl)) pa_nil))) (fun _ _ => rfl)))
    (pss_cons (ps_set (i := 3) sc_u_law_draw.nd rfl (Or.inl rfl) (pe_op op_mod (pe_callTy call_int' (by rfl) b_int PyProof.Rows.boot_int (pa_cons (pe_op op_add (pe_op op_mod (pe_callTy call_int' (by rfl) b_int PyProof.Rows.boot_int (pa_cons (pe_var (i := 2) rfl (Or.inl rfl)) pa_nil)) pe_int) (pe_op op_mul pe_int (pe_ix ix_list (pe_var (i := 0) rfl (Or.inl rfl)) pe_int (fun _ _ => rfl)))) pa_nil)) pe_int))
    (pss_cons (ps_set (i := 3) sc_u_law_draw.nd rfl (Or.inl rfl) (pe_op op_mod (pe_callTy call_int' (by rfl) b_int PyProof.Rows.boot_int (pa_cons (pe_op op_add (pe_op op_mul (pe_var (i := 3) rfl (Or.inl rfl)) (pe_var (i := 3) rfl (Or.inl rfl))) (pe_op op_mul pe_int (pe_ix ix_list (pe_var (i := 0) rfl (Or.inl rfl)) pe_int (fun _ _ => rfl)))) pa_nil)) pe_int))
    (pss_one (ps_ret (pe_op op_mod (pe_op op_fdivW (pe_op op_mod (pe_callTy call_int' (by rfl) b_int PyProof.Rows.boot_int (pa_cons (pe_op op_mul (pe_var (i := 3) rfl (Or.inl rfl)) (pe_var (i := 3) rfl (Or.inl rfl))) pa_nil)) pe_int) pe_int) (pe_var (i := 1) rfl (Or.inl rfl))))))))), ?_⟩
  obtain ⟨is, js, m, D⟩ := ri
  have fin : ∀ (is' js' : List Int) (m' : Int) (H' : Hp), Near [d, c0, c1] H H' → DeckB d c0 c1 is' js' m' H' → ∀ r, 0 ≤ r → r < b → Q (.int r) H' := fun is' js' m' H' nr D' r h0 h1 =>
    k (vInt r) n (q r h0 h1) _ F H' (Near.fin x rf nr).1 (Near.fin x rf nr).2 ⟨is', js', m', D'⟩ rf (.int r)
  refine ⟨.ref d, rfl, d, _, 0, .ref c0, rfl, rfl, SqL.of D.hd, rfl, Nat.zero_le _, fun p np => ne_nil (D.new np).h0 upd_same ⟨_, rfl, ?_⟩⟩
  have Dn := D.new (o := .lst []) np
  have Nn : Near [d, c0, c1] H (upd H p (.lst [])) := Near.refl.new np
  generalize upd H p (.lst []) = H1 at Dn Nn ⊢
  refine ite_b (c := !is.isEmpty) rfl (fun hne => ?_) (fun _ => ?_)
  · match is, hne with
    | i :: is, _ =>
      -- rest = deck[0][0]
      refine ⟨.ref d, rfl, d, _, 0, .ref c0, rfl, rfl, SqL.of Dn.hd, rfl, c0, _, 0, .int i, rfl, rfl, SqL.of Dn.h0, at0, ?_⟩
      -- deck[0][0] = rest // bound
      have hlog : b.natAbs.log2 < 9000 := by
        have h1 : b.natAbs < 2 ^ 40 := by omega
        have := (Nat.log2_lt (by omega)).mpr h1
        omega
      refine ⟨.int i, rfl, .int b, rfl, i, b, rfl, rfl, ⟨hb, hlog⟩, .ref d, rfl, d, _, 0, .ref c0, rfl, rfl, SqL.of Dn.hd, rfl, c0, _, 0, 0, rfl, rfl, Dn.h0, ix0, ?_⟩
      have D2 := Dn.set0 (is' := i / b :: is) Dn.il
      have N2 : Near [d, c0, c1] H (upd H1 c0 (.lst ((i / b :: is).map V.int))) := Nn.mut (by simp)
      change tSeq _ _ _ _ (upd H1 c0 (.lst ((i / b :: is).map V.int)))
      generalize upd H1 c0 (.lst ((i / b :: is).map V.int)) = H2 at D2 N2 ⊢
      -- if deck[0][0] == 0: deck[0].pop(0)
      refine ⟨.ref d, rfl, d, _, 0, .ref c0, rfl, rfl, SqL.of D2.hd, rfl, c0, _, 0, .int (i / b), rfl, rfl, SqL.of D2.h0, at0, eq_ints ⟨_, rfl, ?_⟩⟩
      have hmod : 0 ≤ i % b ∧ i % b < b := ⟨Int.emod_nonneg i (by omega), Int.emod_lt_of_pos i hb⟩
      refine ite_b (c := decide (i / b = 0)) rfl (fun _ => ?_) (fun _ => ?_)
      · refine ⟨.ref d, rfl, d, _, 0, .ref c0, rfl, rfl, SqL.of D2.hd, rfl, tyV_lst D2.h0, c0, _, 0, 0, .int (i / b), rfl, rfl, D2.h0, by decide, by decide, sq0, rfl, ?_⟩
        have D3 := D2.set0 (is' := is) (by have := D.il; simp at this; omega)
        have N3 : Near [d, c0, c1] H (upd H2 c0 (.lst (is.map V.int))) := N2.mut (by simp)
        exact ⟨.int i, rfl, int_int ⟨.int b, rfl, i, b, rfl, rfl, hb, fin _ _ _ _ N3 D3 _ hmod.1 hmod.2⟩⟩
      · exact ⟨.int i, rfl, int_int ⟨.int b, rfl, i, b, rfl, rfl, hb, fin _ _ _ _ N2 D2 _ hmod.1 hmod.2⟩⟩
  · -- deck[2] = deck[2] + 1
    refine ⟨.ref d, rfl, d, _, 2, .int m, rfl, rfl, SqL.of Dn.hd, atI_nat (j := 2) rfl, m, 1, rfl, rfl, .ref d, rfl, d, _, 2, 2, rfl, rfl, Dn.hd, ixn (j := 2) (by show 2 < 3; decide), ?_⟩
    have D2 := Dn.setN (m := m + 1)
    have N2 : Near [d, c0, c1] H (upd H1 d (.lst [.ref c0, .ref c1, .int (m + 1)])) := Nn.mut (by simp)
    change tSeq _ _ _ _ (upd H1 d (.lst [.ref c0, .ref c1, .int (m + 1)]))
    generalize upd H1 d (.lst [.ref c0, .ref c1, .int (m + 1)]) = H2 at D2 N2 ⊢
    -- cell
    have lj : 0 < js.length := by
      have := D.jne
      cases js with
      | nil => exact absurd rfl this
      | cons a b => simp
    have lj2 : (0 : Int) < (js.length : Int) := by omega
    have hm1 : 0 ≤ (m + 1) % (js.length : Int) := Int.emod_nonneg _ (by omega)
    have hm2 : (m + 1) % (js.length : Int) < js.length := Int.emod_lt_of_pos _ lj2
    obtain ⟨j, hj⟩ : ∃ j : Nat, (m + 1) % (js.length : Int) = (j : Int) := ⟨((m + 1) % (js.length : Int)).toNat, by omega⟩
    have hjl : j < js.length := by omega
    have hat : L2.atI (js.map V.int) ((m + 1) % (js.length : Int)) = some (.int js[j]) := by
      rw [hj]
      exact atI_nat (by rw [List.getElem?_map, List.getElem?_eq_getElem hjl]; rfl)
    refine ⟨.ref d, rfl, d, _, 1, .ref c1, rfl, rfl, SqL.of D2.hd, atI_nat (j := 1) rfl, .ref d, rfl, d, _, 2, .int (m + 1), rfl, rfl, SqL.of D2.hd, atI_nat (j := 2) rfl, int_int ⟨.ref d, rfl, d, _, 1, .ref c1, rfl, rfl, SqL.of D2.hd, atI_nat (j := 1) rfl, len_ints D2.h1
      ⟨m + 1, js.length, rfl, rfl, lj2, c1, _, _, .int js[j], rfl, rfl, SqL.of D2.h1, hat, ?_⟩⟩⟩
    generalize js[j] = cell
    -- mixed
    refine ⟨.int cell, rfl, int_int ⟨cell, 4294967161, rfl, rfl, pz, .ref d, rfl, d, _, 2, .int (m + 1), rfl, rfl, SqL.of D2.hd, atI_nat (j := 2) rfl, 2869860233, m + 1, rfl, rfl, .inl ⟨by decide, by decide⟩, _, _, rfl, rfl, int_int ⟨_, 4294967161, rfl, rfl, pz, ?_⟩⟩⟩
    refine ⟨_, rfl, _, rfl, _, _, rfl, rfl, mul32 (m := 4294967161) (by decide), .ref d, rfl, d, _, 2, .int (m + 1), rfl, rfl, SqL.of D2.hd, atI_nat (j := 2) rfl, 46368, m + 1, rfl, rfl, .inl ⟨by decide, by decide⟩, _, _, rfl, rfl, int_int ⟨_, 4294967143, rfl, rfl, pz, ?_⟩⟩
    refine ⟨_, rfl, _, rfl, _, _, rfl, rfl, mul32 (m := 4294967143) (by decide), int_int ⟨_, 4294967111, rfl, rfl, pz, _, 2048, rfl, rfl, ⟨by decide, by decide +kernel⟩, .int b, rfl, _, b, rfl, rfl, hb, ?_⟩⟩
    exact fin _ _ _ _ N2 D2 _ (Int.emod_nonneg _ (by omega)) (Int.emod_lt_of_pos _ hb)
abbrev s_u_law_pick : Stmt := top 23
theorem sc_u_law_pick : FnScope ["deck", "items"] ["deck", "items"] (defScope s_u_law_pick) := ⟨rfl, rfl, rfl, by decide +kernel, rfl, by decide +kernel, by decide +kernel⟩
def fs_pick (d : Addr) : FS := fun as n p => ∃ ds : List D, as = [.raw (.ref d), .dat (.list ds)] ∧ 0 < ds.length ∧ ds.length < 1000 ∧ ∀ x ∈ ds, p (.val (.dat x)) n
theorem ok_pick (G : Fun K x qual s_u_law_pick f fd) (T : Txt2 mg) (d c0 c1 : Addr) (f_u_law_draw : PFn P w K mg base (amB d c0 c1) "_law_draw" ["deck", "bound"] (fs_draw d) 1) : FnOk P w K mg base CX0 2 f fd ["deck", "items"] (spD (amB d c0 c1) K (fs_pick d)) := by
  refine Fun.okD G sc_u_law_pick (by decide) (fun as n p ⟨_, e, _⟩ => by rw [e]; rfl) fun cdv A' outer s H E hr => ⟨_, _,
  (psds_one (psd_ret (pd_ix (ix' (u1 hr)) (pd_var 1) (pd_fn f_u_law_draw hr (by decide) (by rfl) (pad_cons (pd_var 0) (pad_cons (pd_callB call_len' (by rfl) T.b_len (by decide +kernel) (pad_cons (pd_var 1) pad_nil)) pad_nil))) (fun _ _ => rfl)))), fun as n p ⟨ds, e, h0, hl, h⟩ => ?_⟩
  subst e
  refine ⟨(ds.length : Int), rfl, by omega, by omega, fun r r0 r1 => ?_⟩
  obtain ⟨j, rfl⟩ : ∃ j : Nat, r = (j : Int) := ⟨r.toNat, by omega⟩
  have hj : j < ds.length := by omega
  exact ⟨ds[j], atI_nat (List.getElem?_eq_getElem hj), h _ (List.getElem_mem hj)⟩
abbrev s_u_law_mixed : Stmt := top 24
theorem sc_u_law_mixed : FnScope ["deck", "items", "turn", "rest", "found"] ["deck", "items"] (defScope s_u_law_mixed) := ⟨rfl, rfl, rfl, by decide +kernel, rfl, by decide +kernel, by decide +kernel⟩
def fs_mixed (d : Addr) : FS := fun as n p => ∃ ds : List D, as = [.raw (.ref d), .dat (.list ds)] ∧ ds.length < 1000 ∧ ∀ ds' : List D, ds'.Perm ds → p (.new (.lst ds')) n
theorem ok_mixed (G : Fun K x qual s_u_law_mixed f fd) (T : Txt2 mg) (d c0 c1 : Addr) (f_u_law_draw : PFn P w K mg base (amB d c0 c1) "_law_draw" ["deck", "bound"] (fs_draw d) 1) : FnOk P w K mg base CX0 2 f fd ["deck", "items"] (spD (amB d c0 c1) K (fs_mixed d)) := by
  refine Fun.okD G sc_u_law_mixed (by decide) (fun as n p ⟨_, e, _⟩ => by rw [e]; rfl) fun cdv A' outer s H E hr => ⟨_, _,
  (psds_cons (psd_par (i := 3) (j := 4) rfl sc_u_law_mixed.nd rfl rfl (by decide) rfl rfl (pd_callTy call_list' (by rfl) T.b_list (by decide +kernel) (pad_cons (pd_var 1) pad_nil)) (pd_lst pad_nil) (by rfl))
      (psds_cons (psd_for (ks := [2]) PassesOwn.never rfl (pid_rng1 (by rfl) T.b_range (pd_callB call_len' (by rfl) T.b_len (by decide +kernel) (pad_cons (pd_var 1) pad_nil))) (pgd_name (i := 2) (by decide) sc_u_law_mixed.nd rfl (by first | exact Or.inl rfl | exact Or.inr rfl)) (psds_one (psd_expr (pd_append (i := 4) rfl (by first | exact Or.inl rfl | exact Or.inr (Or.inl rfl) | exact Or.inr (Or.inr rfl)) (pd_popAt (i := 3) rfl (by first | exact Or.inl rfl | exact Or.inr (Or.inl rfl) | exact Or.inr (Or.inr rfl)) (pd_fn f_u_law_draw hr (by decide) (by rfl) (pad_cons (pd_var 0) (pad_cons (pd_callB call_len' (by rfl) T.b_len (by decide +kernel) (pad_cons (pd_var 3) pad_nil)) pad_nil))))))))
      (psds_one (psd_ret (pd_var 4))))), fun as n p ⟨ds, e, hl, h⟩ => ?_⟩
  subst e
  refine ⟨[], rfl, le5 rfl, by omega, by omega, fun i e => ∃ (x : Sl) (rest found : List D), nOw x ∧ (rest ++ found).Perm ds ∧ found.length = i ∧ e = ⟨[.im (.raw (.ref d)), .im (.dat (.list ds)), x, .ow (.lst rest), .ow (.lst found)], n⟩, ⟨.un, ds, [], trivial, by simp, rfl, rfl⟩, ?_, ?_⟩
  · rintro i t e ht ⟨x, rest, found, hx, hp, hi, rfl⟩
    have hlen := hp.length_eq
    rw [List.length_append] at hlen
    have hi2 : i < ds.length := by
      have := (List.getElem?_eq_some_iff.mp ht).1
      simp [rngD] at this
      exact this
    refine ⟨⟨hx, trivial⟩, rfl, (rest.length : Int), rfl, by omega, by omega, fun r r0 r1 => ?_⟩
    obtain ⟨j, rfl⟩ : ∃ j : Nat, r = (j : Int) := ⟨r.toNat, by omega⟩
    have hj : j < rest.length := by omega
    refine ⟨rest[j], r0, by omega, List.getElem?_eq_getElem hj, ?_⟩
    have hpm : (rest.eraseIdx j ++ (found ++ [rest[j]])).Perm ds := by
      refine List.Perm.trans ?_ hp
      have h1 : (rest[j] :: rest.eraseIdx j).Perm rest := erase_perm hj
      have h2 : (rest.eraseIdx j ++ (found ++ [rest[j]])).Perm (rest[j] :: (rest.eraseIdx j ++ found)) := by
        rw [← List.append_assoc]
        exact (List.perm_append_singleton _ _)
      exact h2.trans (by rw [← List.cons_append]; exact h1.append_right found)
    refine ⟨by rw [hi]; omega, .im (.dat t), rest.eraseIdx j, found ++ [rest[j]], trivial, hpm, by simp [hi], rfl⟩
  · rintro e ⟨x, rest, found, hx, hp, hi, rfl⟩
    have hlen := hp.length_eq
    rw [List.length_append] at hlen
    have : rest = [] := by
      have e2 : (rngD 0 (ds.length : Int).toNat).length = ds.length := by simp [rngD]
      rw [e2] at hi
      exact List.length_eq_zero_iff.mp (by omega)
    subst this
    exact h found hp
def kOk : Kd → Prop
  | .con i => -99 ≤ i ∧ i ≤ 99
  | _ => True
def arOk (x : Sp1) : Prop := x.2.length = arK x.1 ∧ kOk x.1
abbrev s_u_law_kind : Stmt := top 25
theorem sc_u_law_kind : FnScope ["deck", "many"] ["deck", "many"] (defScope s_u_law_kind) := ⟨rfl, rfl, rfl, by decide +kernel, rfl, by decide +kernel, by decide +kernel⟩
def fs_kind (d : Addr) : FS := fun as n p => ∃ m : Nat, as = [.raw (.ref d), .dat (nD m)] ∧ m ≤ 3 ∧ ∀ k, arK k = m → kOk k → p (.val (.dat k.d)) n
theorem ok_kind (G : Fun K x qual s_u_law_kind f fd) (T : Txt2 mg) (d c0 c1 : Addr) (f_u_law_pick : PFn P w K mg base (amB d c0 c1) "_law_pick" ["deck", "items"] (fs_pick d) 2) : FnOk P w K mg base CX0 3 f fd ["deck", "many"] (spD (amB d c0 c1) K (fs_kind d)) := by
  refine Fun.okD G sc_u_law_kind (by decide) (fun as n p ⟨_, e, _⟩ => by rw [e]; rfl) fun cdv A' outer s H E hr => ⟨_, _,
  (psds_one (psd_ret (pd_fn f_u_law_pick hr (by decide) (by rfl) (pad_cons (pd_var 0) (pad_cons (pd_ix (ix' (u1 hr)) (pd_lst (pad_cons (pd_lst (pad_cons pd_str (pad_cons pd_str (pad_cons pd_int (pad_cons (pd_un un_neg' pd_int) (pad_cons pd_int (pad_cons pd_int pad_nil))))))) (pad_cons (pd_lst (pad_cons pd_str pad_nil)) (pad_cons (pd_lst (pad_cons pd_str (pad_cons pd_str (pad_cons pd_str pad_nil)))) (pad_cons (pd_lst (pad_cons pd_str pad_nil)) pad_nil))))) (pd_var 1) (fun _ _ => rfl)) pad_nil))))), fun as n p ⟨m, e, hm, h⟩ => ?_⟩
  subst e
  refine ⟨_, rfl, le5 rfl, _, rfl, le5 rfl, _, rfl, le5 rfl, _, rfl, le5 rfl, _, rfl, le5 rfl, ?_⟩
  match m, hm with
  | 0, _ =>
    refine ⟨_, atI_nat (j := 0) rfl, _, rfl, by decide, by decide, fun x hx => ?_⟩
    simp only [List.mem_cons, List.not_mem_nil, or_false] at hx
    rcases hx with rfl | rfl | rfl | rfl | rfl | rfl
    · exact h .inp rfl trivial
    · exact h .inp rfl trivial
    · exact h (.con 7) rfl ⟨by decide, by decide⟩
    · exact h (.con (-99)) rfl ⟨by decide, by decide⟩
    · exact h (.con 99) rfl ⟨by decide, by decide⟩
    · exact h (.con 0) rfl ⟨by decide, by decide⟩
  | 1, _ =>
    refine ⟨_, atI_nat (j := 1) rfl, _, rfl, by decide, by decide, fun x hx => ?_⟩
    simp only [List.mem_cons, List.not_mem_nil, or_false] at hx
    subst hx
    exact h .neg rfl trivial
  | 2, _ =>
    refine ⟨_, atI_nat (j := 2) rfl, _, rfl, by decide, by decide, fun x hx => ?_⟩
    simp only [List.mem_cons, List.not_mem_nil, or_false] at hx
    rcases hx with rfl | rfl | rfl
    · exact h .add rfl trivial
    · exact h .sub rfl trivial
    · exact h .mul rfl trivial
  | 3, _ =>
    refine ⟨_, atI_nat (j := 3) rfl, _, rfl, by decide, by decide, fun x hx => ?_⟩
    simp only [List.mem_cons, List.not_mem_nil, or_false] at hx
    subst hx
    exact h .pick rfl trivial
abbrev s_u_law_step : Stmt := top 26
theorem sc_u_law_step : FnScope ["deck", "at", "near", "some", "many", "k"] ["deck", "at", "near"] (defScope s_u_law_step) := ⟨rfl, rfl, rfl, by decide +kernel, rfl, by decide +kernel, by decide +kernel⟩
def fs_step (d : Addr) : FS := fun as n p => ∃ at_ near : Nat, as = [.raw (.ref d), .dat (nD at_), .dat (nD near)] ∧ 0 < near ∧ at_ < 1000 ∧ near < 1000 ∧ ∀ x : Sp1, arOk x → (∀ i ∈ x.2, i < at_) → p (.val (.dat (encS x))) n
theorem step_rest {d : Addr} {E : EndsP} {at_ near m n : Nat} {lo : Int} (hlo : 0 ≤ lo) (hm3 : m ≤ 3) (h0 : 0 < m → lo < at_) (ha : at_ < 1000) (h : ∀ x : Sp1, arOk x → (∀ i ∈ x.2, i < at_) → E.rt (.val (.dat (encS x))) n) :
    wRet (wTup (wCons (wCall (fs_kind d) (wCons (wVar 0) (wCons (wVar 4) wNil))) (wCons (wCB fTuple (wCons (wFrz 3 (wLc (wiRng1 (wVar 4)) (wgName 5) wYes (wCall (fs_pick d) (wCons (wVar 0) (wCons (wVar 3) wNil))) [5])) wNil)) wNil))) E
      ⟨[.im (.raw (.ref d)), .im (.dat (nD at_)), .im (.dat (nD near)), .ow (.lst (rngD lo ((at_ : Int) - lo).toNat)), .im (.dat (nD m)), .un], n⟩ := by
  refine ⟨m, rfl, hm3, fun k hk hk2 => ⟨by omega, by omega, ?_⟩⟩
  refine lc_inv (fun j acc n' => n' = n ∧ ∃ l : List Nat, acc = l.map nD ∧ l.length = j ∧ ∀ i ∈ l, i < at_) ?_ ?_ ⟨rfl, [], rfl, rfl, by simp⟩ ?_ ?_
  · exact ⟨trivial, trivial⟩
  · rw [rng_len]; omega
  · rintro j t acc n' kk ht ⟨rfl, l, rfl, hl, hi⟩ hk
    have hj := (rng_get ht).1
    have hlt := h0 (by omega)
    have hlen : (rngD lo ((at_ : Int) - lo).toNat).length = ((at_ : Int) - lo).toNat := rng_len
    refine ⟨_, rfl, by rw [hlen]; omega, by rw [hlen]; omega, fun x hx => ?_⟩
    obtain ⟨q, hq⟩ := List.mem_iff_getElem?.mp hx
    obtain ⟨hq1, rfl⟩ := rng_get hq
    refine hk _ _ rfl ⟨rfl, l ++ [(lo + (q : Int)).toNat], ?_, by simp [hl], ?_⟩
    · have e : PyData.int (lo + (q : Int)) = nD (lo + (q : Int)).toNat := by
        show PyData.int _ = PyData.int _
        rw [Int.toNat_of_nonneg (by omega)]
      rw [List.map_append, e]; rfl
    · intro i hi'
      rcases List.mem_append.mp hi' with z | z
      · exact hi i z
      · rw [List.mem_singleton.mp z]; omega
  · rintro acc n' ⟨rfl, l, rfl, hl, hi⟩
    rw [rng_len] at hl
    exact ⟨_, rfl, le5 rfl, h (k, l) ⟨by rw [hk]; show l.length = m; omega, hk2⟩ hi⟩
theorem ok_step (G : Fun K x qual s_u_law_step f fd) (T : Txt2 mg) (d c0 c1 : Addr) (f_u_law_pick : PFn P w K mg base (amB d c0 c1) "_law_pick" ["deck", "items"] (fs_pick d) 2) (f_u_law_kind : PFn P w K mg base (amB d c0 c1) "_law_kind" ["deck", "many"] (fs_kind d) 3) :
    FnOk P w K mg base CX0 4 f fd ["deck", "at", "near"] (spD (amB d c0 c1) K (fs_step d)) := by
  refine Fun.okD G sc_u_law_step (by decide) (fun as n p ⟨_, _, e, _⟩ => by rw [e]; rfl) fun cdv A' outer s H E hr => ⟨_, _,
  (psds_cons (psd_set (i := 3) sc_u_law_step.nd rfl (by first | exact Or.inl rfl | exact Or.inr rfl) (pd_lrg2 rfl (by rfl) T.b_list (by rfl) T.b_range (pd_callB (call_max' rfl) (by rfl) T.b_max (by decide +kernel) (pad_cons pd_int (pad_cons (pd_op op_sub' (pd_var 1) (pd_var 2)) pad_nil))) (pd_var 1)))
      (psds_cons (psd_set (i := 4) sc_u_law_step.nd rfl (by first | exact Or.inl rfl | exact Or.inr rfl) (pd_ifExp (pdt_cmp op_gt' (pd_var 1) pd_int (nomark _)) (pd_fn f_u_law_pick hr (by decide) (by rfl) (pad_cons (pd_var 0) (pad_cons (pd_lst (pad_cons pd_int (pad_cons pd_int (pad_cons pd_int (pad_cons pd_int (pad_cons pd_int (pad_cons pd_int (pad_cons pd_int pad_nil)))))))) pad_nil))) pd_int))
      (psds_one (psd_ret (pd_tup (pad_cons (pd_fn f_u_law_kind hr (by decide) (by rfl) (pad_cons (pd_var 0) (pad_cons (pd_var 4) pad_nil))) (pad_cons (pd_callTy call_tuple' (by rfl) T.b_tuple (by decide +kernel) (pad_cons (pd_frz 3 (pd_lc (own := [("k", 5)]) rfl sc_u_law_step.nd (pid_rng1 (by rfl) T.b_range (pd_var 4)) (blkOk_by rfl) (fun _ _ _ _ _ => ⟨_, (pgd_name (i := 5) (by decide) sc_u_law_step.nd rfl (by first | exact Or.inl rfl | exact Or.inr rfl))⟩) (fun _ _ _ _ _ => ⟨_, pdts_nil⟩) (fun _ _ _ _ _ => ⟨_, (pd_fn f_u_law_pick hr (by decide) (by rfl) (pad_cons (pd_var 0) (pad_cons (pd_var 3) pad_nil)))⟩))) pad_nil)) pad_nil))))))), fun as n p ⟨at_, near, e, h0, ha, hn, h⟩ => ?_⟩
  subst e
  refine fun lo hlo h1 h2 => ?_
  have hlo' : lo = 0 ∨ lo = (at_ : Int) - near := hlo
  have h1' : ¬ lo < 0 := h1
  refine ⟨by omega, by omega, by omega, by omega, ?_⟩
  refine ite_b (c := decide (0 < (at_ : Int))) rfl (fun q => ?_) (fun q => ?_)
  · have q := of_decide_eq_true q
    refine ⟨_, rfl, le5 rfl, _, rfl, by decide, by decide, fun x hx => ?_⟩
    simp only [List.mem_cons, List.not_mem_nil, or_false] at hx
    rcases hx with rfl | rfl | rfl | rfl | rfl | rfl | rfl
    · exact step_rest (m := 0) (by omega) (by omega) (by omega) ha h
    · exact step_rest (m := 1) (by omega) (by omega) (by omega) ha h
    · exact step_rest (m := 1) (by omega) (by omega) (by omega) ha h
    · exact step_rest (m := 2) (by omega) (by omega) (by omega) ha h
    · exact step_rest (m := 2) (by omega) (by omega) (by omega) ha h
    · exact step_rest (m := 2) (by omega) (by omega) (by omega) ha h
    · exact step_rest (m := 3) (by omega) (by omega) (by omega) ha h
  · exact step_rest (m := 0) (by omega) (by omega) (by omega) ha h
theorem grow_ar {w : List Sp1} {x : Sp1} (h : ∀ x ∈ w, arOk x) (hx : arOk x) : ∀ y ∈ w ++ [x], arOk y := fun y hy => by
  rcases List.mem_append.mp hy with z | z
  · exact h y z
  · rw [List.mem_singleton.mp z]; exact hx
theorem grow_w {w : List Sp1} {x : Sp1} (h : ∀ (a : Nat) (x : Sp1), w[a]? = some x → ∀ i ∈ x.2, i < a) (hx : ∀ i ∈ x.2, i < w.length) : ∀ (a : Nat) (y : Sp1), (w ++ [x])[a]? = some y → ∀ i ∈ y.2, i < a := fun a y hy => by
  by_cases c : a < w.length
  · rw [List.getElem?_append_left c] at hy
    exact h a y hy
  · rw [List.getElem?_append_right (by omega)] at hy
    have : a - w.length = 0 := by
      have := (List.getElem?_eq_some_iff.mp hy).1
      simp at this
      omega
    rw [this] at hy
    have e : x = y := by simpa using hy
    subst e
    have : a = w.length := by omega
    subst this
    exact hx
abbrev s_u_law_grown : Stmt := top 27
theorem sc_u_law_grown : FnScope ["deck", "most", "near", "at"] ["deck", "most"] (defScope s_u_law_grown) := ⟨rfl, rfl, rfl, by decide +kernel, rfl, by decide +kernel, by decide +kernel⟩
def GW (most : Nat) (w : List Sp1) : Prop := 1 ≤ w.length ∧ w.length ≤ most ∧ (∀ x ∈ w, arOk x) ∧ ∀ (a : Nat) (x : Sp1), w[a]? = some x → ∀ i ∈ x.2, i < a
def fs_grown (d : Addr) : FS := fun as n p => ∃ most : Nat, as = [.raw (.ref d), .dat (nD most)] ∧ 0 < most ∧ most ≤ 10 ∧ ∀ w, GW most w → p (.val (.dat (encW w))) n
theorem ok_grown (G : Fun K x qual s_u_law_grown f fd) (T : Txt2 mg) (d c0 c1 : Addr) (f_u_law_draw : PFn P w K mg base (amB d c0 c1) "_law_draw" ["deck", "bound"] (fs_draw d) 1) (f_u_law_pick : PFn P w K mg base (amB d c0 c1) "_law_pick" ["deck", "items"] (fs_pick d) 2) (f_u_law_step : PFn P w K mg base (amB d c0 c1) "_law_step" ["deck", "at", "near"] (fs_step d) 4) :
    FnOk P w K mg base CX0 5 f fd ["deck", "most"] (spD (amB d c0 c1) K (fs_grown d)) := by
  refine Fun.okD G sc_u_law_grown (by decide) (fun as n p ⟨_, e, _⟩ => by rw [e]; rfl) fun cdv A' outer s H E hr => ⟨_, _,
  (psds_cons (psd_set (i := 2) sc_u_law_grown.nd rfl (by first | exact Or.inl rfl | exact Or.inr rfl) (pd_fn f_u_law_pick hr (by decide) (by rfl) (pad_cons (pd_var 0) (pad_cons (pd_lst (pad_cons pd_int (pad_cons pd_int (pad_cons pd_int (pad_cons pd_int pad_nil))))) pad_nil))))
      (psds_one (psd_ret (pd_callTy call_tuple' (by rfl) T.b_tuple (by decide +kernel) (pad_cons (pd_lc (own := [("at", 3)]) rfl sc_u_law_grown.nd (pid_rng1 (by rfl) T.b_range (pd_op op_add' pd_int (pd_fn f_u_law_draw hr (by decide) (by rfl) (pad_cons (pd_var 0) (pad_cons (pd_var 1) pad_nil))))) (blkOk_by rfl) (fun _ _ _ _ _ => ⟨_, (pgd_name (i := 3) (by decide) sc_u_law_grown.nd rfl (by first | exact Or.inl rfl | exact Or.inr rfl))⟩) (fun _ _ _ _ _ => ⟨_, pdts_nil⟩) (fun _ _ _ _ _ => ⟨_, (pd_fn f_u_law_step hr (by decide) (by rfl) (pad_cons (pd_var 0) (pad_cons (pd_var 3) (pad_cons (pd_var 2) pad_nil))))⟩)) pad_nil))))), fun as n p ⟨most, e, h0, hm, h⟩ => ?_⟩
  subst e
  refine ⟨_, rfl, le5 rfl, _, rfl, by decide, by decide, fun nr hnr => ?_⟩
  obtain ⟨nn, rfl, hn0, hn1⟩ : ∃ nn : Nat, nr = nD nn ∧ 0 < nn ∧ nn < 1000 := by
    simp only [List.mem_cons, List.not_mem_nil, or_false] at hnr
    rcases hnr with rfl | rfl | rfl | rfl
    · exact ⟨1, rfl, by decide, by decide⟩
    · exact ⟨2, rfl, by decide, by decide⟩
    · exact ⟨3, rfl, by decide, by decide⟩
    · exact ⟨10, rfl, by decide, by decide⟩
  refine ⟨(most : Int), rfl, by omega, by omega, fun r r0 r1 => ⟨by omega, by omega, ?_⟩⟩
  refine lc_inv (fun j acc n' => n' = n ∧ ∃ w : List Sp1, acc = w.map encS ∧ w.length = j ∧ (∀ x ∈ w, arOk x) ∧ ∀ (a : Nat) (x : Sp1), w[a]? = some x → ∀ i ∈ x.2, i < a) ?_ ?_ ⟨rfl, [], rfl, rfl, by simp, by simp⟩ ?_ ?_
  · exact ⟨trivial, trivial⟩
  · rw [rng_len]; omega
  · rintro j t acc n' kk ht ⟨rfl, w, rfl, hl, har, hw⟩ hk
    obtain ⟨hj, rfl⟩ := rng_get ht
    refine ⟨j, nn, ?_, hn0, by omega, hn1, fun x hx hxi => ?_⟩
    · show [Av.raw (.ref d), Av.dat (.int (0 + (j : Int))), Av.dat (nD nn)] = [Av.raw (.ref d), Av.dat (.int (j : Int)), Av.dat (nD nn)]
      rw [Int.zero_add]
    · exact hk _ _ rfl ⟨rfl, w ++ [x], by rw [List.map_append]; rfl, by simp [hl], grow_ar har hx, grow_w hw (by rw [hl]; exact hxi)⟩
  · rintro acc n' ⟨rfl, w, rfl, hl, har, hw⟩
    rw [rng_len] at hl
    exact h w ⟨by omega, by omega, har, hw⟩
abbrev s_u_law_numbered : Stmt := top 28
theorem sc_u_law_numbered : FnScope ["web", "row", "places", "step", "one"] ["web", "row"] (defScope s_u_law_numbered) := ⟨rfl, rfl, rfl, by decide +kernel, rfl, by decide +kernel, by decide +kernel⟩
def fs_numbered : FS := fun as n p => ∃ (w : List Sp1) (l : List Nat), as = [.dat (encW w), .dat (.list (l.map nD))] ∧ w.length < 64 ∧ (∀ x ∈ w, x.2.length < 64) ∧ (∀ x ∈ w, ∀ i ∈ x.2, i < w.length) ∧ l.Perm (List.range w.length) ∧ p (.val (.dat (encW (renW w l)))) n
theorem ok_numbered (G : Fun K x qual s_u_law_numbered f fd) (T : Txt2 mg) : FnOk P w K mg base CX0 1 f fd ["web", "row"] (spD A K fs_numbered) := by
  refine Fun.okD G sc_u_law_numbered (by decide) (fun as n p ⟨_, _, e, _⟩ => by rw [e]; rfl) fun cdv A' outer s H E hr => ⟨_, _,
  (psds_cons (psd_set (i := 2) sc_u_law_numbered.nd rfl (by first | exact Or.inl rfl | exact Or.inr rfl) (pd_lc (own := [("step", 3)]) rfl sc_u_law_numbered.nd (pid_rng1 (by rfl) T.b_range (pd_callB call_len' (by rfl) T.b_len (by decide +kernel) (pad_cons (pd_var 0) pad_nil))) (blkOk_by rfl) (fun _ _ _ _ _ => ⟨_, (pgd_name (i := 3) (by decide) sc_u_law_numbered.nd rfl (by first | exact Or.inl rfl | exact Or.inr rfl))⟩) (fun _ _ _ _ _ => ⟨_, pdts_nil⟩) (fun _ _ _ _ _ => ⟨_, (pd_lidx (pd_var 1) (pd_var 3))⟩)))
      (psds_one (psd_ret (pd_callTy call_tuple' (by rfl) T.b_tuple (by decide +kernel) (pad_cons (pd_lc (own := [("step", 3)]) rfl sc_u_law_numbered.nd (pid_seq (pd_var 1)) (blkOk_by rfl) (fun _ _ _ _ _ => ⟨_, (pgd_name (i := 3) (by decide) sc_u_law_numbered.nd rfl (by first | exact Or.inl rfl | exact Or.inr rfl))⟩) (fun _ _ _ _ _ => ⟨_, pdts_nil⟩) (fun _ _ _ _ _ => ⟨_, (pd_tup (pad_cons (pd_ix (ix' (u1 hr)) (pd_ix (ix' (u1 hr)) (pd_var 0) (pd_var 3) (fun _ _ => rfl)) pd_int (fun _ _ => rfl)) (pad_cons (pd_callTy call_tuple' (by rfl) T.b_tuple (by decide +kernel) (pad_cons (pd_lc (own := [("one", 4)]) rfl sc_u_law_numbered.nd (pid_seq (pd_ix (ix' (u1 hr)) (pd_ix (ix' (u1 hr)) (pd_var 0) (pd_var 3) (fun _ _ => rfl)) pd_int (fun _ _ => rfl))) (blkOk_by rfl) (fun _ _ _ _ _ => ⟨_, (pgd_name (i := 4) (by decide) sc_u_law_numbered.nd rfl (by first | exact Or.inl rfl | exact Or.inr rfl))⟩) (fun _ _ _ _ _ => ⟨_, pdts_nil⟩) (fun _ _ _ _ _ => ⟨_, (pd_ix (ix' (u1 hr)) (pd_var 2) (pd_var 4) (fun _ _ => rfl))⟩)) pad_nil)) pad_nil)))⟩)) pad_nil))))), fun as n p ⟨w, l, e, hl, ha, hi, hp, h⟩ => ?_⟩
  subst e
  have ll := hp.length_eq
  rw [List.length_range] at ll
  have hm : ∀ s ∈ l, s < w.length := fun s hs => List.mem_range.mp (hp.mem_iff.mp hs)
  have l1 : (w.map encS).length = w.length := List.length_map ..
  refine ⟨by omega, by omega, ?_⟩
  refine lc_pure nD (fun j => some (nD (l.idxOf j))) (List.range w.length) ?_ ?_ ?_ ?_ ?_
  · rw [l1]; exact rng_nats _
  · exact ⟨trivial, trivial⟩
  · rw [List.length_range]; omega
  · intro j hj k hk
    have hj' : j ∈ l := hp.mem_iff.mpr hj
    refine ⟨l.map fun (i : Nat) => (i : Int), ?_, List.mem_map.mpr ⟨j, hj', rfl⟩, hk _ _ ?_ rfl⟩
    · rw [nD_ints]; exact ints_map _
    · rw [idxOf_nat]; rfl
  · rw [filterMap_all]
    have hns : ((List.range w.length).map fun j => nD (l.idxOf j)) = ((List.range w.length).map fun j => l.idxOf j).map nD := by rw [List.map_map]; rfl
    rw [hns]
    refine lc_pure nD (fun s => some (encS (mvS (w.getD s (.inp, [])) fun i => l.idxOf i))) l rfl ?_ ?_ ?_ ?_
    · exact ⟨trivial, trivial⟩
    · omega
    · intro s hs k hk
      have hs' := hm s hs
      have hx : w.getD s (.inp, []) ∈ w := by rw [List.getD_eq_getElem?_getD, List.getElem?_eq_getElem hs']; exact List.getElem_mem hs'
      have hat : L2.atI (w.map encS) ((s : Nat) : Int) = some (encS (w.getD s (.inp, []))) := atI_nat (by rw [List.getElem?_map, List.getD_eq_getElem?_getD, List.getElem?_eq_getElem hs']; rfl)
      refine ⟨_, hat, _, rfl, _, hat, _, rfl, ?_⟩
      refine lc_pure nD (fun j => some (nD (l.idxOf j))) (w.getD s (.inp, [])).2 rfl ?_ ?_ ?_ ?_
      · exact ⟨trivial, trivial⟩
      · have := ha _ hx; omega
      · intro i hi' k hk
        have := hi _ hx i hi'
        refine ⟨rfl, nD (l.idxOf i), atI_nat ?_, hk _ _ rfl rfl⟩
        rw [List.getElem?_map, List.getElem?_map, List.getElem?_range this]; rfl
      · rw [filterMap_all]
        have e : (w.getD s (.inp, [])).2.map (fun j => nD (l.idxOf j)) = (mvS (w.getD s (.inp, [])) fun i => l.idxOf i).2.map nD := by unfold mvS; rw [List.map_map]; rfl
        rw [e]
        exact ⟨_, rfl, le5 rfl, hk _ _ rfl rfl⟩
    · rw [filterMap_all]
      have e : (l.map fun s => encS (mvS (w.getD s (.inp, [])) fun i => l.idxOf i)) = (renW w l).map encS := by rw [renW_eq hm, List.map_map]; rfl
      rw [e]
      exact h
abbrev s_u_law_rowed : Stmt := top 30
theorem sc_u_law_rowed : FnScope ["deck", "most", "at", "found", "pile", "many"] ["deck", "most"] (defScope s_u_law_rowed) := ⟨rfl, rfl, rfl, by decide +kernel, rfl, by decide +kernel, by decide +kernel⟩
theorem row_rest {d : Addr} {E : EndsP} {most j m n : Nat} {w : List Sp1} {pile : List Nat} (hm3 : m ≤ 3) (hmp : m ≤ pile.length) (hj : j < 100) (hl : w.length = j) (har : ∀ x ∈ w, arOk x) (hw : ∀ (a : Nat) (x : Sp1), w[a]? = some x → ∀ i ∈ x.2, i < a) (hpi : ∀ i ∈ pile, i < j) (hpl : pile.length ≤ 3 * j)
    (hE : ∀ (w : List Sp1) (pile : List Nat), w.length = j + 1 → (∀ x ∈ w, arOk x) → (∀ (a : Nat) (x : Sp1), w[a]? = some x → ∀ i ∈ x.2, i < a) → (∀ i ∈ pile, i < j + 1) → pile.length ≤ 3 * (j + 1) →
      E.nx ⟨[.im (.raw (.ref d)), .im (.dat (nD most)), .im (.dat (nD j)), .ow (.lst (w.map encS)), .ow (.lst (pile.map nD)), .im (.dat (nD m))], n⟩) :
    wSeq (wDrop (wAppend 3 (wTup (wCons (wCall (fs_kind d) (wCons (wVar 0) (wCons (wVar 5) wNil))) (wCons (wCB fTuple (wCons (wCall (fs_mixed d) (wCons (wVar 0) (wCons (wSl (wVar 4) (wPart (wOp oSub (wCB fLen (wCons (wVar 4) wNil)) (wVar 5))) wNoPart) wNil))) wNil)) wNil)))))
      (wSet 4 (wOp oAdd (wSl (wVar 4) wNoPart (wPart (wOp oSub (wCB fLen (wCons (wVar 4) wNil)) (wVar 5)))) (wOp oMul (wLst (wCons (wVar 2) wNil)) (wCall (fs_pick d) (wCons (wVar 0) (wCons (wLst (wCons (wC (PyData.int 0)) (wCons (wC (PyData.int 1)) (wCons (wC (PyData.int 1)) (wCons (wC (PyData.int 1)) (wCons (wC (PyData.int 2)) (wCons (wC (PyData.int 2)) (wCons (wC (PyData.int 3)) wNil)))))))) wNil)))))) E
      ⟨[.im (.raw (.ref d)), .im (.dat (nD most)), .im (.dat (nD j)), .ow (.lst (w.map encS)), .ow (.lst (pile.map nD)), .im (.dat (nD m))], n⟩ := by
  have l1 : (pile.map nD).length = pile.length := List.length_map ..
  have l2 : (w.map encS).length = w.length := List.length_map ..
  have hz : ((pile.map nD).length : Int) - (m : Int) = ((pile.length - m : Nat) : Int) := by rw [l1]; omega
  refine ⟨m, rfl, hm3, fun k hk hk2 => ⟨rfl, rfl, rfl, (pile.drop (pile.length - m)).map nD, ?_, ?_, fun ds' hp => ?_⟩⟩
  · rw [List.map_drop]
    exact congrArg (fun z => [Av.raw (.ref d), Av.dat (.list z)]) (cutD_drop' hz)
  · rw [List.length_map, List.length_drop]; omega
  obtain ⟨l, rfl, hpp⟩ := perm_nD hp
  have hll := hpp.length_eq
  rw [List.length_drop] at hll
  have hli : ∀ i ∈ l, i < j := fun i hi => hpi i (List.mem_of_mem_drop (hpp.mem_iff.mp hi))
  refine ⟨_, rfl, le5 rfl, by omega, ?_⟩
  refine ⟨rfl, rfl, rfl, _, rfl, le5 rfl, _, rfl, le5 rfl, _, rfl, by decide, by decide, fun q hq => ?_⟩
  obtain ⟨qq, rfl, hqq⟩ : ∃ qq : Nat, q = nD qq ∧ qq ≤ 3 := by
    simp only [List.mem_cons, List.not_mem_nil, or_false] at hq
    rcases hq with rfl | rfl | rfl | rfl | rfl | rfl | rfl
    · exact ⟨0, rfl, by decide⟩
    · exact ⟨1, rfl, by decide⟩
    · exact ⟨1, rfl, by decide⟩
    · exact ⟨1, rfl, by decide⟩
    · exact ⟨2, rfl, by decide⟩
    · exact ⟨2, rfl, by decide⟩
    · exact ⟨3, rfl, by decide⟩
  have hcut : cutD (pile.map nD) none (some (((pile.map nD).length : Int) - (m : Int))) = (pile.take (pile.length - m)).map nD := by rw [List.map_take]; exact cutD_take' hz
  have hrep : (List.replicate ((qq : Int)).toNat [nD j]).flatten = (List.replicate qq j).map nD := by rw [Int.toNat_natCast, rep_flat, List.map_replicate]
  have hfin : cutD (pile.map nD) none (some (((pile.map nD).length : Int) - (m : Int))) ++ (List.replicate ((qq : Int)).toNat [nD j]).flatten = (pile.take (pile.length - m) ++ List.replicate qq j).map nD := by rw [hcut, hrep, List.map_append]
  refine ⟨by omega, by omega, ?_, ?_, ?_⟩
  · show 1 * ((qq : Int)).toNat ≤ 100000
    rw [Int.toNat_natCast]; omega
  · show (cutD (pile.map nD) none (some (((pile.map nD).length : Int) - (m : Int)))).length + ((List.replicate ((qq : Int)).toNat [nD j]).flatten).length ≤ 100000
    rw [← List.length_append, hfin, List.length_map, List.length_append, List.length_take, List.length_replicate]
    omega
  · have := hE (w ++ [(k, l)]) (pile.take (pile.length - m) ++ List.replicate qq j) (by simp [hl]) (grow_ar har ⟨by show l.length = arK k; omega, hk2⟩) (grow_w hw (by rw [hl]; exact hli)) (fun i hi => by
      rcases List.mem_append.mp hi with z | z
      · have := hpi i (List.mem_of_mem_take z); omega
      · have := (List.mem_replicate.mp z).2; omega) (by rw [List.length_append, List.length_take, List.length_replicate]; omega)
    rw [← hfin, List.map_append] at this
    exact this
theorem ok_rowed (G : Fun K x qual s_u_law_rowed f fd) (T : Txt2 mg) (d c0 c1 : Addr) (f_u_law_draw : PFn P w K mg base (amB d c0 c1) "_law_draw" ["deck", "bound"] (fs_draw d) 1) (f_u_law_pick : PFn P w K mg base (amB d c0 c1) "_law_pick" ["deck", "items"] (fs_pick d) 2)
    (f_u_law_kind : PFn P w K mg base (amB d c0 c1) "_law_kind" ["deck", "many"] (fs_kind d) 3) (f_u_law_mixed : PFn P w K mg base (amB d c0 c1) "_law_mixed" ["deck", "items"] (fs_mixed d) 2) :
    FnOk P w K mg base CX0 4 f fd ["deck", "most"] (spD (amB d c0 c1) K (fs_grown d)) := by
  refine Fun.okD G sc_u_law_rowed (by decide) (fun as n p ⟨_, e, _⟩ => by rw [e]; rfl) fun cdv A' outer s H E hr => ⟨_, _,
  (psds_cons (psd_par (i := 3) (j := 4) rfl sc_u_law_rowed.nd rfl rfl (by decide) rfl rfl (pd_lst pad_nil) (pd_lst pad_nil) (by rfl))
      (psds_cons (psd_for (ks := [2]) PassesOwn.never rfl (pid_rng1 (by rfl) T.b_range (pd_op op_add' pd_int (pd_fn f_u_law_draw hr (by decide) (by rfl) (pad_cons (pd_var 0) (pad_cons (pd_var 1) pad_nil))))) (pgd_name (i := 2) (by decide) sc_u_law_rowed.nd rfl (by first | exact Or.inl rfl | exact Or.inr rfl)) (psds_cons (psd_set (i := 5) sc_u_law_rowed.nd rfl (by first | exact Or.inl rfl | exact Or.inr rfl) (pd_fn f_u_law_pick hr (by decide) (by rfl) (pad_cons (pd_var 0) (pad_cons (pd_lst (pad_cons pd_int (pad_cons pd_int (pad_cons pd_int (pad_cons pd_int (pad_cons pd_int (pad_cons pd_int (pad_cons pd_int pad_nil)))))))) pad_nil))))
      (psds_cons (psd_set (i := 5) sc_u_law_rowed.nd rfl (by first | exact Or.inl rfl | exact Or.inr rfl) (pd_ifExp (pdt_cmp op_le' (pd_var 5) (pd_callB call_len' (by rfl) T.b_len (by decide +kernel) (pad_cons (pd_var 4) pad_nil)) (nomark _)) (pd_var 5) pd_int))
      (psds_cons (psd_expr (pd_append (i := 3) rfl (by first | exact Or.inl rfl | exact Or.inr (Or.inl rfl) | exact Or.inr (Or.inr rfl)) (pd_tup (pad_cons (pd_fn f_u_law_kind hr (by decide) (by rfl) (pad_cons (pd_var 0) (pad_cons (pd_var 5) pad_nil))) (pad_cons (pd_callTy call_tuple' (by rfl) T.b_tuple (by decide +kernel) (pad_cons (pd_fn f_u_law_mixed hr (by decide) (by rfl) (pad_cons (pd_var 0) (pad_cons (pd_slice (pd_var 4) (pod_some (pd_op op_sub' (pd_callB call_len' (by rfl) T.b_len (by decide +kernel) (pad_cons (pd_var 4) pad_nil)) (pd_var 5))) pod_none) pad_nil))) pad_nil)) pad_nil)))))
      (psds_one (psd_set (i := 4) sc_u_law_rowed.nd rfl (by first | exact Or.inl rfl | exact Or.inr rfl) (pd_op op_add' (pd_slice (pd_var 4) pod_none (pod_some (pd_op op_sub' (pd_callB call_len' (by rfl) T.b_len (by decide +kernel) (pad_cons (pd_var 4) pad_nil)) (pd_var 5)))) (pd_op op_mul' (pd_lst (pad_cons (pd_var 2) pad_nil)) (pd_fn f_u_law_pick hr (by decide) (by rfl) (pad_cons (pd_var 0) (pad_cons (pd_lst (pad_cons pd_int (pad_cons pd_int (pad_cons pd_int (pad_cons pd_int (pad_cons pd_int (pad_cons pd_int (pad_cons pd_int pad_nil)))))))) pad_nil)))))))))))
      (psds_one (psd_ret (pd_callTy call_tuple' (by rfl) T.b_tuple (by decide +kernel) (pad_cons (pd_var 3) pad_nil)))))), fun as n p ⟨most, e, h0, hm, h⟩ => ?_⟩
  subst e
  refine ⟨[], rfl, le5 rfl, [], rfl, le5 rfl, (most : Int), rfl, by omega, by omega, fun r r0 r1 => ⟨by omega, by omega, ?_⟩⟩
  refine ⟨fun j e => ∃ (w : List Sp1) (pile : List Nat) (x y : Sl), nOw x ∧ nOw y ∧ w.length = j ∧ (∀ x ∈ w, arOk x) ∧ (∀ (a : Nat) (x : Sp1), w[a]? = some x → ∀ i ∈ x.2, i < a) ∧ (∀ i ∈ pile, i < j) ∧ pile.length ≤ 3 * j ∧
      e = ⟨[.im (.raw (.ref d)), .im (.dat (nD most)), x, .ow (.lst (w.map encS)), .ow (.lst (pile.map nD)), y], n⟩, ⟨[], [], .un, .un, trivial, trivial, rfl, by simp, by simp, by simp, by simp, rfl⟩, ?_, ?_⟩
  · rintro j t e ht ⟨w, pile, x, y, hx, hy, hl, har, hw, hpi, hpl, rfl⟩
    obtain ⟨hj, rfl⟩ := rng_get0 ht
    refine ⟨⟨hx, trivial⟩, _, rfl, le5 rfl, _, rfl, by decide, by decide, fun many hmany => ?_⟩
    obtain ⟨mm, rfl, hmm⟩ : ∃ mm : Nat, many = nD mm ∧ mm ≤ 3 := by
      simp only [List.mem_cons, List.not_mem_nil, or_false] at hmany
      rcases hmany with rfl | rfl | rfl | rfl | rfl | rfl | rfl
      · exact ⟨0, rfl, by decide⟩
      · exact ⟨0, rfl, by decide⟩
      · exact ⟨1, rfl, by decide⟩
      · exact ⟨1, rfl, by decide⟩
      · exact ⟨2, rfl, by decide⟩
      · exact ⟨2, rfl, by decide⟩
      · exact ⟨3, rfl, by decide⟩
    have l1 : (pile.map nD).length = pile.length := List.length_map ..
    refine ⟨rfl, ite_b (c := decide ((mm : Int) ≤ ((pile.map nD).length : Nat))) rfl (fun q => ?_) (fun q => ?_)⟩
    · have q := of_decide_eq_true q
      exact row_rest (m := mm) hmm (by omega) (by omega) hl har hw hpi hpl fun w pile a b c e f => ⟨w, pile, .im (.dat (nD j)), .im (.dat (nD mm)), trivial, trivial, a, b, c, e, f, rfl⟩
    · exact row_rest (m := 0) (by omega) (by omega) (by omega) hl har hw hpi hpl fun w pile a b c e f => ⟨w, pile, .im (.dat (nD j)), .im (.dat (nD 0)), trivial, trivial, a, b, c, e, f, rfl⟩
  · rintro e ⟨w, pile, x, y, hx, hy, hl, har, hw, hpi, hpl, rfl⟩
    rw [rng_len] at hl
    exact ⟨rfl, h w ⟨by omega, by omega, har, hw⟩⟩
abbrev s_u_law_web : Stmt := top 29
theorem sc_u_law_web : FnScope ["deck", "most", "web"] ["deck", "most"] (defScope s_u_law_web) := ⟨rfl, rfl, rfl, by decide +kernel, rfl, by decide +kernel, by decide +kernel⟩
/-- a web as the law makes it -/
structure WX (most : Nat) (w : List Sp1) : Prop where
  l0 : 1 ≤ w.length
  l1 : w.length ≤ most
  ar : ∀ x ∈ w, arOk x
  bd : ∀ x ∈ w, ∀ i ∈ x.2, i < w.length
  acy : ∃ rk : Nat → Nat, (∀ (s : Nat) (x : Sp1), w[s]? = some x → ∀ i ∈ x.2, rk i < rk s) ∧ ∀ s, s < w.length → rk s < most
theorem GW.wx {most : Nat} {w : List Sp1} (h : GW most w) : WX most w :=
  ⟨h.1, h.2.1, h.2.2.1, fun x hx i hi => by
    obtain ⟨a, ha⟩ := List.mem_iff_getElem?.mp hx
    have := h.2.2.2 a x ha i hi
    have := (List.getElem?_eq_some_iff.mp ha).1
    omega, id, fun s x hs i hi => h.2.2.2 s x hs i hi, fun s hs => Nat.lt_of_lt_of_le hs h.2.1⟩
theorem renW_get {w : List Sp1} {l : List Nat} (hp : l.Perm (List.range w.length)) (a : Nat) (y : Sp1) (h : (renW w l)[a]? = some y) : ∃ s x, l[a]? = some s ∧ w[s]? = some x ∧ y = mvS x fun i => l.idxOf i := by
  have hm : ∀ s ∈ l, s < w.length := fun s hs => List.mem_range.mp (hp.mem_iff.mp hs)
  rw [renW_eq hm, List.getElem?_map] at h
  obtain ⟨s, hs, e⟩ := Option.map_eq_some_iff.mp h
  have hs' := hm s (List.mem_of_getElem? hs)
  refine ⟨s, w[s], hs, List.getElem?_eq_getElem hs', ?_⟩
  rw [← e, List.getD_eq_getElem?_getD, List.getElem?_eq_getElem hs']
  rfl
theorem renW_len {w : List Sp1} {l : List Nat} (hp : l.Perm (List.range w.length)) : (renW w l).length = w.length := by
  have hm : ∀ s ∈ l, s < w.length := fun s hs => List.mem_range.mp (hp.mem_iff.mp hs)
  rw [renW_eq hm, List.length_map, hp.length_eq, List.length_range]
theorem getD_idx {l : List Nat} {i : Nat} (h : i ∈ l) : l.getD (l.idxOf i) 0 = i := by
  have hl := List.idxOf_lt_length_iff.mpr h
  rw [List.getD_eq_getElem?_getD, List.getElem?_eq_getElem hl]
  exact List.getElem_idxOf hl
theorem idx_get {l : List Nat} (nd : l.Nodup) {a s : Nat} (h : l[a]? = some s) : l.idxOf s = a := by
  obtain ⟨hl, e⟩ := List.getElem?_eq_some_iff.mp h
  subst e
  exact nd.idxOf_getElem a hl
theorem WX.ren {most : Nat} {w : List Sp1} {l : List Nat} (h : WX most w) (hp : l.Perm (List.range w.length)) : WX most (renW w l) := by
  have nd : l.Nodup := hp.nodup_iff.mpr List.nodup_range
  have hll := hp.length_eq
  rw [List.length_range] at hll
  refine ⟨by rw [renW_len hp]; exact h.l0, by rw [renW_len hp]; exact h.l1, fun y hy => ?_, fun y hy i hi => ?_, ?_⟩
  · obtain ⟨a, ha⟩ := List.mem_iff_getElem?.mp hy
    obtain ⟨s, x, h1, h2, rfl⟩ := renW_get hp a y ha
    have := h.ar x (List.mem_of_getElem? h2)
    exact ⟨(List.length_map ..).trans this.1, this.2⟩
  · obtain ⟨a, ha⟩ := List.mem_iff_getElem?.mp hy
    obtain ⟨s, x, h1, h2, rfl⟩ := renW_get hp a y ha
    obtain ⟨j, hj, rfl⟩ := List.mem_map.mp hi
    have hjl : j ∈ l := hp.mem_iff.mpr (List.mem_range.mpr (h.bd x (List.mem_of_getElem? h2) j hj))
    rw [renW_len hp, ← hll]
    exact List.idxOf_lt_length_iff.mpr hjl
  · obtain ⟨rk, h3, h4⟩ := h.acy
    refine ⟨fun i => rk (l.getD i 0), fun a y ha i hi => ?_, fun s hs => ?_⟩
    · obtain ⟨s, x, h1, h2, rfl⟩ := renW_get hp a y ha
      obtain ⟨j, hj, rfl⟩ := List.mem_map.mp hi
      have hjl : j ∈ l := hp.mem_iff.mpr (List.mem_range.mpr (h.bd x (List.mem_of_getElem? h2) j hj))
      show rk (l.getD (l.idxOf j) 0) < rk (l.getD a 0)
      rw [getD_idx hjl, List.getD_eq_getElem?_getD, h1]
      exact h3 s x h2 j hj
    · rw [renW_len hp, ← hll] at hs
      refine h4 _ ?_
      rw [List.getD_eq_getElem?_getD, List.getElem?_eq_getElem hs]
      exact List.mem_range.mp (hp.mem_iff.mp (List.getElem_mem hs))
theorem WX.ar64 {most : Nat} {w : List Sp1} (h : WX most w) : ∀ x ∈ w, x.2.length < 64 := fun x hx => by
  rw [(h.ar x hx).1]
  cases x.1 <;> first | decide | (show 0 < 64; decide)
def fs_web (d : Addr) : FS := fun as n p => ∃ most : Nat, as = [.raw (.ref d), .dat (nD most)] ∧ 0 < most ∧ most ≤ 10 ∧ ∀ w, WX most w → p (.val (.dat (encW w))) n
theorem web_rest {d : Addr} {E : EndsP} {most n : Nat} {w : List Sp1} (hm : most ≤ 10) (hw : WX most w) (h : ∀ w, WX most w → E.rt (.val (.dat (encW w))) n) :
    wRet (wIf (wTest (wOp oEq (wCall (fs_draw d) (wCons (wVar 0) (wCons (wC (PyData.int 2)) wNil))) (wC (PyData.int 0)))) (wCall fs_numbered (wCons (wVar 2) (wCons (wCall (fs_mixed d) (wCons (wVar 0) (wCons (wLRg1 (wCB fLen (wCons (wVar 2) wNil))) wNil))) wNil))) (wVar 2)) E
      ⟨[.im (.raw (.ref d)), .im (.dat (nD most)), .im (.dat (encW w))], n⟩ := by
  have l1 : (w.map encS).length = w.length := List.length_map ..
  have hl := hw.l1
  refine ⟨2, rfl, by decide, by decide, fun r r0 r1 => ⟨shaped_int, shaped_int, ite_b (c := decide (r = 0)) eqv_intD (fun _ => ?_) (fun _ => h w hw)⟩⟩
  refine ⟨by omega, by omega, _, rfl, ?_, fun ds' hp => ?_⟩
  · rw [rng_len]; omega
  have e0 : rngD 0 ((((w.map encS).length : Nat) : Int)).toNat = (List.range w.length).map nD := by rw [l1]; exact rng_nats _
  rw [e0] at hp
  obtain ⟨l, rfl, hpp⟩ := perm_nD hp
  exact ⟨w, l, rfl, by omega, hw.ar64, hw.bd, hpp, h _ (hw.ren hpp)⟩
theorem ok_web (G : Fun K x qual s_u_law_web f fd) (T : Txt2 mg) (d c0 c1 : Addr) (f_u_law_draw : PFn P w K mg base (amB d c0 c1) "_law_draw" ["deck", "bound"] (fs_draw d) 1) (f_u_law_grown : PFn P w K mg base (amB d c0 c1) "_law_grown" ["deck", "most"] (fs_grown d) 5)
    (f_u_law_rowed : PFn P w K mg base (amB d c0 c1) "_law_rowed" ["deck", "most"] (fs_grown d) 4) (f_u_law_mixed : PFn P w K mg base (amB d c0 c1) "_law_mixed" ["deck", "items"] (fs_mixed d) 2) (f_u_law_numbered : PFn P w K mg base (amB d c0 c1) "_law_numbered" ["web", "row"] fs_numbered 1) :
    FnOk P w K mg base CX0 6 f fd ["deck", "most"] (spD (amB d c0 c1) K (fs_web d)) := by
  refine Fun.okD G sc_u_law_web (by decide) (fun as n p ⟨_, e, _⟩ => by rw [e]; rfl) fun cdv A' outer s H E hr => ⟨_, _,
  (psds_cons (psd_set (i := 2) sc_u_law_web.nd rfl (by first | exact Or.inl rfl | exact Or.inr rfl) (pd_fn f_u_law_grown hr (by decide) (by rfl) (pad_cons (pd_var 0) (pad_cons (pd_var 1) pad_nil))))
      (psds_cons (psd_if (pdt_cmp (op_eq' hr.units) (pd_fn f_u_law_draw hr (by decide) (by rfl) (pad_cons (pd_var 0) (pad_cons pd_int pad_nil))) pd_int (nomark _)) (psds_one (psd_set (i := 2) sc_u_law_web.nd rfl (by first | exact Or.inl rfl | exact Or.inr rfl) (pd_fn f_u_law_rowed hr (by decide) (by rfl) (pad_cons (pd_var 0) (pad_cons (pd_var 1) pad_nil))))) psds_nil)
      (psds_one (psd_ret (pd_ifExp (pdt_cmp (op_eq' hr.units) (pd_fn f_u_law_draw hr (by decide) (by rfl) (pad_cons (pd_var 0) (pad_cons pd_int pad_nil))) pd_int (nomark _)) (pd_fn f_u_law_numbered hr (by decide) (by rfl) (pad_cons (pd_var 2) (pad_cons (pd_fn f_u_law_mixed hr (by decide) (by rfl) (pad_cons (pd_var 0) (pad_cons (pd_lrg1 rfl (by rfl) T.b_list (by rfl) T.b_range (pd_callB call_len' (by rfl) T.b_len (by decide +kernel) (pad_cons (pd_var 2) pad_nil))) pad_nil))) pad_nil))) (pd_var 2)))))), fun as n p ⟨most, e, h0, hm, h⟩ => ?_⟩
  subst e
  refine ⟨most, rfl, h0, hm, fun w hw => ?_⟩
  refine ⟨3, rfl, by decide, by decide, fun r r0 r1 => ⟨shaped_int, shaped_int, ite_b (c := decide (r = 0)) eqv_intD (fun _ => ?_) (fun _ => ?_)⟩⟩
  · exact ⟨most, rfl, h0, hm, fun w hw => web_rest hm hw.wx h⟩
  · exact web_rest hm hw.wx h
abbrev s_u_law_worths : Stmt := top 31
theorem sc_u_law_worths : FnScope ["deck", "web", "most", "kind", "inputs"] ["deck", "web"] (defScope s_u_law_worths) := ⟨rfl, rfl, rfl, by decide +kernel, rfl, by decide +kernel, by decide +kernel⟩
def inpN (w : List Sp1) : Nat := (w.filter fun x => decide (x.1 = .inp)).length
def fs_worths (d : Addr) : FS := fun as n p => ∃ w : List Sp1, as = [.raw (.ref d), .dat (encW w)] ∧ w.length ≤ 100 ∧ ∀ wo : List Int, wo.length = inpN w → (∀ v ∈ wo, -1000000000 ≤ v ∧ v ≤ 1000000000) → p (.val (.dat (.tuple (wo.map PyData.int)))) n
theorem ok_worths (G : Fun K x qual s_u_law_worths f fd) (T : Txt2 mg) (d c0 c1 : Addr) (f_u_law_draw : PFn P w K mg base (amB d c0 c1) "_law_draw" ["deck", "bound"] (fs_draw d) 1) (f_u_law_pick : PFn P w K mg base (amB d c0 c1) "_law_pick" ["deck", "items"] (fs_pick d) 2) :
    FnOk P w K mg base CX0 3 f fd ["deck", "web"] (spD (amB d c0 c1) K (fs_worths d)) := by
  refine Fun.okD G sc_u_law_worths (by decide) (fun as n p ⟨_, e, _⟩ => by rw [e]; rfl) fun cdv A' outer s H E hr => ⟨_, _,
  (psds_cons (psd_set (i := 2) sc_u_law_worths.nd rfl (by first | exact Or.inl rfl | exact Or.inr rfl) (pd_fn f_u_law_pick hr (by decide) (by rfl) (pad_cons (pd_var 0) (pad_cons (pd_lst (pad_cons pd_int (pad_cons pd_int (pad_cons (pd_op op_pow' pd_int pd_int) pad_nil)))) pad_nil))))
      (psds_one (psd_ret (pd_callTy call_tuple' (by rfl) T.b_tuple (by decide +kernel) (pad_cons (pd_lc (own := [("kind", 3), ("inputs", 4)]) rfl sc_u_law_worths.nd (pid_seq (pd_var 1)) (blkOk_by rfl) (fun _ _ _ _ _ => ⟨_, (pgd_tup (n := 2) rfl (pgds_cons (pgd_name (i := 3) (by decide) sc_u_law_worths.nd rfl (by first | exact Or.inl rfl | exact Or.inr rfl)) (pgds_cons (pgd_name (i := 4) (by decide) sc_u_law_worths.nd rfl (by first | exact Or.inl rfl | exact Or.inr rfl)) pgds_nil)))⟩) (fun _ _ _ _ _ => ⟨_, (pdts_one (pdt_cmp (op_eq' hr.units) (pd_var 3) pd_str (nomark _)))⟩) (fun _ _ _ _ _ => ⟨_, (pd_op op_sub' (pd_fn f_u_law_draw hr (by decide) (by rfl) (pad_cons (pd_var 0) (pad_cons (pd_op op_add' (pd_op op_mul' pd_int (pd_var 2)) pd_int) pad_nil))) (pd_var 2))⟩)) pad_nil))))), fun as n p ⟨w, e, hl, h⟩ => ?_⟩
  subst e
  refine ⟨⟨by decide, by decide, by decide⟩, _, rfl, le5 rfl, _, rfl, by decide, by decide, fun m hm => ?_⟩
  obtain ⟨mm, rfl, hm0, hm1⟩ : ∃ mm : Int, m = .int mm ∧ 0 < mm ∧ mm ≤ 1000000000 := by
    simp only [List.mem_cons, List.not_mem_nil, or_false] at hm
    rcases hm with rfl | rfl | rfl
    · exact ⟨_, rfl, by decide, by decide⟩
    · exact ⟨_, rfl, by decide, by decide⟩
    · exact ⟨_, rfl, by decide, by decide⟩
  refine lc_inv (fun j acc n' => n' = n ∧ ∃ wo : List Int, acc = wo.map PyData.int ∧ wo.length = inpN (w.take j) ∧ ∀ v ∈ wo, -1000000000 ≤ v ∧ v ≤ 1000000000) ?_ ?_ ⟨rfl, [], rfl, rfl, by simp⟩ ?_ ?_
  · exact ⟨trivial, trivial, trivial⟩
  · rw [List.length_map]; omega
  · rintro j t acc n' kk ht ⟨rfl, wo, rfl, hlw, hb⟩ hk
    rw [List.getElem?_map] at ht
    obtain ⟨x, hx, rfl⟩ := Option.map_eq_some_iff.mp ht
    have htk : w.take (j + 1) = w.take j ++ [x] := by rw [List.take_succ, hx]; rfl
    refine ⟨rfl, rfl, x.1.shp, Kd.shp .inp, ite_b (Kd.eqd x.1 .inp) (fun q => ?_) (fun q => ?_)⟩
    · refine ⟨.inl ⟨by decide, by decide⟩, 2 * mm + 1, rfl, by omega, by omega, fun r r0 r1 => hk _ _ rfl ⟨rfl, wo ++ [r - mm], by rw [List.map_append]; rfl, ?_, fun v hv => ?_⟩⟩
      · unfold inpN
        rw [htk, List.filter_append, List.length_append, List.length_append, hlw, List.filter_cons_of_pos (by simpa using q)]
        rfl
      · rcases List.mem_append.mp hv with z | z
        · exact hb v z
        · rw [List.mem_singleton.mp z]; omega
    · refine hk _ _ rfl ⟨rfl, wo, rfl, ?_, hb⟩
      unfold inpN
      rw [htk, List.filter_append, List.length_append, hlw, List.filter_cons_of_neg (by simpa using q)]
      rfl
  · rintro acc n' ⟨rfl, wo, rfl, hlw, hb⟩
    rw [List.length_map, List.take_length] at hlw
    exact h wo hlw hb
end
end K4

namespace K4
open PySem L2 PL
section
variable {P : Program} {w : World} {K : PySem.W.Frag} {mg : Str → Option Value} {base : Heap} {A : Amb} {f : Addr} {fd : FuncData} {x qual : Str}
abbrev s_u_law_deck : Stmt := top 21
theorem sc_u_law_deck : FnScope ["script", "cells", "cell"] ["script"] (defScope s_u_law_deck) := ⟨rfl, rfl, rfl, by decide +kernel, rfl, by decide +kernel, by decide +kernel⟩
theorem ok_deck (G : Fun K x qual s_u_law_deck f fd) (b_abs : mg "abs" = none) (b_len : mg "len" = none) : FnOk P w K mg base CX0 1 f fd ["script"] (spDeckB K) := by
  refine G.ok sc_u_law_deck (fun vs H Q E ⟨a, ns, e, _⟩ => by rw [e]; rfl) fun cdv A' outer s H vs Q E hr ⟨a, ns, e, hS, hl, k⟩ => ?_
  subst e
  obtain ⟨A, hA, hri, hrs⟩ : ∃ A : Amb, (∀ n H, A.RI n H → SqL K H a (ns.map V.int)) ∧ A.RI 0 H ∧ (∀ b ∈ A.rs, b ∈ A.rs) := by
    rcases hS with h | h
    · exact ⟨amS1 a ns, fun _ _ r => .inl r, h, fun _ h => h⟩
    · exact ⟨amS2, fun _ _ _ => .inr h, trivial, fun _ h => h⟩
  have S : SSt A K (fun _ => none) H (L2.start ["script", "cells", "cell"] [.ref a]) (fun _ => none) H (enStart 3 [.raw (.ref a)] 0) :=
    sst_start (N := ["script", "cells", "cell"]) (fun _ _ e => by cases e) (.cons rfl .nil) hri (fun _ _ => rfl) (by show 1 ≤ 3; decide)
  refine deck_fn (C := fun is js i => is.length ≤ 64 ∧ js.length ≤ 64 ∧ js ≠ [] ∧ i = 0)
    (psd_setLc (i := 1) rfl sc_u_law_deck.nd rfl rfl (sw_true rfl rfl rfl (by decide +kernel)) (own := [("cell", 2)]) (pid_seq (pd_scr hA rfl (Or.inl rfl))) (blkOk_by rfl) (fun _ _ _ _ _ => ⟨_, (pgd_name (i := 2) (by decide) sc_u_law_deck.nd rfl (by first | exact Or.inl rfl | exact Or.inr rfl))⟩) (fun _ _ _ _ _ => ⟨_, pdts_nil⟩) (fun _ _ _ _ _ => ⟨_, (pd_callB call_abs' (by rfl) b_abs (by decide +kernel) (pad_cons (pd_var 2) pad_nil))⟩))
    (pd_lc (own := [("cell", 2)]) rfl sc_u_law_deck.nd (pid_seq (pd_var 1)) (blkOk_by rfl) (fun _ _ _ _ _ => ⟨_, (pgd_name (i := 2) (by decide) sc_u_law_deck.nd rfl (by first | exact Or.inl rfl | exact Or.inr rfl))⟩) (fun _ _ _ _ _ => ⟨_, (pdts_one (pdt_cmp op_ge' (pd_var 2) (pd_op op_pow' pd_int pd_int) (nomark _)))⟩) (fun _ _ _ _ _ => ⟨_, (pd_var 2)⟩))
    (pd_op op_add' (pd_var 1) (pd_lst (pad_cons (pd_op op_add' pd_int (pd_callB call_len' (by rfl) b_len (by decide +kernel) (pad_cons (pd_var 1) pad_nil))) pad_nil)))
    pd_int S ?_ (fun d c0 c1 H' is js i ⟨h1, h2, h3, h4⟩ g1 g2 g3 n1 n2 n3 => k d c0 c1 H' is js ⟨by rw [g1, h4], g2, g3, h3, h1, h2, n1, n2, n3⟩)
  refine ⟨rfl, ?_⟩
  have e0 : cutD (ns.map PyData.int) none (some 63) = (ns.take 63).map PyData.int := by rw [List.map_take]; exact cutD_take' (k := 63) rfl
  refine lc_pure PyData.int (fun i => some (PyData.int (if i < 0 then -i else i))) (ns.take 63) e0 ?_ ?_ ?_ ?_
  · exact ⟨trivial, trivial⟩
  · rw [List.length_take]; omega
  · exact fun i _ k hk => hk _ _ rfl rfl
  · rw [filterMap_all]
    have e1 : ((ns.take 63).map fun i => PyData.int (if i < 0 then -i else i)) = ((ns.take 63).map fun i => (if i < 0 then -i else i)).map PyData.int := by rw [List.map_map]; rfl
    rw [e1]
    have hlc : ((ns.take 63).map fun i => (if i < 0 then -i else i)).length ≤ 63 := by rw [List.length_map, List.length_take]; omega
    generalize ((ns.take 63).map fun i => (if i < 0 then -i else i)) = cs at hlc
    refine lc_pure PyData.int (fun i => if decide (10 ^ 18 ≤ i) = true then some (PyData.int i) else none) cs rfl ?_ ?_ ?_ ?_
    · exact ⟨trivial, trivial⟩
    · omega
    · intro i _ k hk
      refine ⟨⟨by decide, by decide, by decide⟩, ite_b (c := decide (10 ^ 18 ≤ i)) rfl (fun q => hk _ _ (if_pos q) rfl) (fun q => hk _ _ (if_neg (by rw [q]; decide)) rfl)⟩
    · have e2 : (cs.filterMap fun i => if decide (10 ^ 18 ≤ i) = true then some (PyData.int i) else none) = (cs.filter fun i => decide (10 ^ 18 ≤ i)).map PyData.int := filter_ints cs
      rw [e2]
      have lcs : (cs.map PyData.int).length = cs.length := List.length_map ..
      refine ⟨_, rfl, le5 rfl, ?_, cs.filter fun i => decide (10 ^ 18 ≤ i), cs ++ [11213 + (cs.length : Int)], 0, rfl, ?_, rfl, ?_, ?_, by simp, rfl⟩
      · show (cs.map PyData.int).length + 1 ≤ 100000
        omega
      · rw [List.map_append, ← lcs]; rfl
      · have := List.length_filter_le (fun i => decide (10 ^ 18 ≤ i)) cs
        omega
      · rw [List.length_append, List.length_singleton]; omega
end
end K4

namespace K4
open PySem L2 PL
/-! ### the plain law -/
/-- a small web -/
structure SW (w : List Sp1) : Prop where
  l1 : w.length ≤ 10
  ar : ∀ x ∈ w, x.2.length = arK x.1
  bd : ∀ x ∈ w, ∀ i ∈ x.2, i < w.length
  acy : ∃ rk : Nat → Nat, ∀ (s : Nat) (x : Sp1), w[s]? = some x → ∀ i ∈ x.2, rk i < rk s
theorem WX.sw {m : Nat} {w : List Sp1} (h : WX m w) (hm : m ≤ 10) : SW w := ⟨Nat.le_trans h.l1 hm, fun x hx => (h.ar x hx).1, h.bd, let ⟨rk, a, _⟩ := h.acy; ⟨rk, a⟩⟩
theorem arK_le (k : Kd) : arK k ≤ 3 := by cases k <;> first | decide | (show (0 : Nat) ≤ 3; decide)
theorem tiesL_len {w : List Sp1} (h : ∀ x ∈ w, x.2.length ≤ 3) : (tiesL w).length ≤ 3 * w.length := by
  have go : ∀ i, i ≤ w.length → (tiesL (w.take i)).length ≤ 3 * i := by
    intro i
    induction i with
    | zero => intro _; simp [tiesL]
    | succ i ih =>
      intro hi
      have hl : i < w.length := by omega
      rw [tiesL_take w i w[i] (List.getElem?_eq_getElem hl), List.length_append]
      have h1 := ih (by omega)
      have h2 := h _ (List.getElem_mem hl)
      have h3 : (tiesOf i w[i].2).length = w[i].2.length := by unfold tiesOf; rw [List.length_mapIdx]
      omega
  have := go w.length (Nat.le_refl _)
  rwa [List.take_length] at this
theorem SW.tok {w : List Sp1} (h : SW w) : TOk w := by
  have ha : ∀ x ∈ w, x.2.length ≤ 3 := fun x hx => by rw [h.ar x hx]; exact arK_le _
  have := tiesL_len ha
  have := h.l1
  exact ⟨by omega, by omega, fun s hs i hi => by have := h.bd s hs i hi; omega, fun s hs => by have := ha s hs; omega⟩
theorem SW.wok {w : List Sp1} (h : SW w) : WOk w := ⟨h.ar, h.bd, h.acy⟩
/-! values -/
def valF (w : List Sp1) (wo : List Int) : Nat → Nat → Int
  | 0, _ => 0
  | k + 1, s => match w[s]? with
    | some x => worthV x.1 (ownV w wo s x.1) (x.2.map (valF w wo k))
    | none => 0
theorem valF_stable {w : List Sp1} {wo : List Int} {rk : Nat → Nat} (hr : ∀ (s : Nat) (x : Sp1), w[s]? = some x → ∀ i ∈ x.2, rk i < rk s) : ∀ (k : Nat) (s : Nat), rk s < k → valF w wo k s = valF w wo (k + 1) s
  | 0, s, h => absurd h (Nat.not_lt_zero _)
  | k + 1, s, h => by
    show (match w[s]? with | some x => worthV x.1 (ownV w wo s x.1) (x.2.map (valF w wo k)) | none => 0) = (match w[s]? with | some x => worthV x.1 (ownV w wo s x.1) (x.2.map (valF w wo (k + 1))) | none => 0)
    cases hx : w[s]? with
    | none => rfl
    | some x =>
      have : x.2.map (valF w wo k) = x.2.map (valF w wo (k + 1)) := List.map_congr_left fun i hi => valF_stable hr k i (by have := hr s x hx i hi; omega)
      show worthV x.1 _ (x.2.map (valF w wo k)) = worthV x.1 _ (x.2.map (valF w wo (k + 1)))
      rw [this]
theorem worthV_bound {B : Nat} (hB : 1000000000 ≤ B) {k : Kd} {o : Int} {ws : List Int} (hk : kOk k) (ho : o.natAbs ≤ B) (hw : ∀ v ∈ ws, v.natAbs ≤ B) : (worthV k o ws).natAbs ≤ B * B := by
  have hBB : B ≤ B * B := Nat.le_mul_of_pos_left B (by omega)
  have h2 : 2 * B ≤ B * B := Nat.mul_le_mul_right B (by omega)
  unfold worthV
  split
  · omega
  · have hc : _ ∧ _ := hk
    omega
  · rename_i a
    have := hw a (by simp)
    omega
  · rename_i a b
    have h1 := hw a (by simp)
    have h2 := hw b (by simp)
    omega
  · rename_i a b
    have h1 := hw a (by simp)
    have h2 := hw b (by simp)
    omega
  · rename_i a b
    have h1 := hw a (by simp)
    have h2 := hw b (by simp)
    rw [Int.natAbs_mul]
    exact Nat.mul_le_mul h1 h2
  · rename_i c a b
    have h1 := hw a (by simp)
    have h2 := hw b (by simp)
    split <;> omega
  · simp
def bnd : Nat → Nat
  | 0 => 1000000000
  | k + 1 => bnd k * bnd k
theorem bnd_ge : ∀ k, 1000000000 ≤ bnd k
  | 0 => Nat.le_refl _
  | k + 1 => Nat.le_trans (bnd_ge k) (Nat.le_mul_of_pos_left _ (by have := bnd_ge k; omega))
theorem valF_bound {w : List Sp1} {wo : List Int} (hk : ∀ x ∈ w, kOk x.1) (hb : ∀ v ∈ wo, -1000000000 ≤ v ∧ v ≤ 1000000000) : ∀ k s, (valF w wo k s).natAbs ≤ bnd k
  | 0, s => by simp [valF]
  | k + 1, s => by
    unfold valF
    cases hx : w[s]? with
    | none => simp
    | some x =>
      refine worthV_bound (bnd_ge k) (hk x (List.mem_of_getElem? hx)) ?_ fun v hv => ?_
      · unfold ownV
        split
        · rw [List.getD_eq_getElem?_getD]
          cases hw : wo[rankN w s]? with
          | none => simp
          | some v =>
            have h1 := hb v (List.mem_of_getElem? hw)
            have h2 := bnd_ge k
            show v.natAbs ≤ _
            omega
        · simp
      · obtain ⟨i, _, rfl⟩ := List.mem_map.mp hv
        exact valF_bound hk hb k i
theorem small_of {v : Int} (h : v.natAbs ≤ bnd 6) : v.natAbs.log2 < 500000 := by
  have hb : bnd 6 < 2 ^ 2000 := by decide +kernel
  by_cases h0 : v.natAbs = 0
  · rw [h0]; decide
  · have := (Nat.log2_lt h0).mpr (Nat.lt_of_le_of_lt h hb)
    omega
theorem rank_lt {w : List Sp1} {s : Nat} {x : Sp1} (hs : w[s]? = some x) (hx : x.1 = .inp) : rankN w s < inpN w := by
  obtain ⟨l, e⟩ := List.getElem?_eq_some_iff.mp hs
  unfold rankN inpN
  have e1 : w = w.take s ++ x :: w.drop (s + 1) := by
    rw [← e]; simp
  have e2 : (w.filter fun x => decide (x.1 = .inp)) = ((w.take s).filter fun x => decide (x.1 = .inp)) ++ (x :: (w.drop (s + 1)).filter fun x => decide (x.1 = .inp)) := by
    conv => lhs; rw [e1]
    rw [List.filter_append, List.filter_cons_of_pos (by simpa using hx)]
  rw [e2, List.length_append, List.length_cons]
  omega
theorem val_ex {m : Nat} {w : List Sp1} {wo : List Int} (h : WX m w) (hm : m ≤ 5) (hl : wo.length = inpN w) (hb : ∀ v ∈ wo, -1000000000 ≤ v ∧ v ≤ 1000000000) : ∃ val : Nat → Int, IsVal w wo val ∧ ∀ s, (val s).natAbs ≤ bnd 6 := by
  obtain ⟨rk, h1, h2⟩ := h.acy
  have hbd := valF_bound (w := w) (wo := wo) (fun x hx => (h.ar x hx).2) hb 6
  refine ⟨valF w wo 6, ⟨fun s x hs => ?_, fun s x hs hx => by rw [hl]; exact rank_lt hs hx, fun s => small_of (hbd s)⟩, hbd⟩
  have hs' := (List.getElem?_eq_some_iff.mp hs).1
  have h3 := h2 s hs'
  show valF w wo (5 + 1) s = _
  unfold valF
  rw [hs]
  show worthV x.1 _ (x.2.map (valF w wo 5)) = _
  have : x.2.map (valF w wo 5) = x.2.map (valF w wo 6) := List.map_congr_left fun i hi => valF_stable h1 5 i (by have := h1 s x hs i hi; omega)
  rw [this]
/-! results -/
theorem mem_res {w : List Sp1} {s : Nat} : s ∈ resL w ↔ s < w.length ∧ ∀ x ∈ w, s ∉ x.2 := by
  unfold resL
  rw [List.mem_filter, List.mem_range]
  simp
theorem res_nd (w : List Sp1) : (resL w).Nodup := List.Pairwise.filter _ List.nodup_range
theorem res_ne {w : List Sp1} (h : SW w) (h0 : 1 ≤ w.length) : ∃ s, s ∈ resL w := by
  obtain ⟨rk, hr⟩ := h.acy
  refine Classical.byContradiction fun hn => ?_
  have hno : ∀ s, s < w.length → ∃ x ∈ w, s ∈ x.2 := fun s hs => Classical.byContradiction fun z => hn ⟨s, mem_res.mpr ⟨hs, fun x hx hsx => z ⟨x, hx, hsx⟩⟩⟩
  have up : ∀ m, ∃ s, s < w.length ∧ m ≤ rk s := by
    intro m
    induction m with
    | zero => exact ⟨0, h0, Nat.zero_le _⟩
    | succ m ih =>
      obtain ⟨s, hs, hm⟩ := ih
      obtain ⟨x, hx, hsx⟩ := hno s hs
      obtain ⟨a, ha⟩ := List.mem_iff_getElem?.mp hx
      have := hr a x ha s hsx
      exact ⟨a, (List.getElem?_eq_some_iff.mp ha).1, by omega⟩
  have top : ∃ M, ∀ s, s < w.length → rk s ≤ M := by
    generalize w.length = n
    induction n with
    | zero => exact ⟨0, fun s hs => absurd hs (Nat.not_lt_zero _)⟩
    | succ n ih =>
      obtain ⟨M, hM⟩ := ih
      refine ⟨max M (rk n), fun s hs => ?_⟩
      by_cases c : s = n
      · subst c; exact Nat.le_max_right _ _
      · exact Nat.le_trans (hM s (by omega)) (Nat.le_max_left _ _)
  obtain ⟨M, hM⟩ := top
  obtain ⟨s, hs, h1⟩ := up (M + 1)
  have := hM s hs
  omega
/-! two webs beside one another -/
theorem bes_get {w o : List Sp1} {s : Nat} {y : Sp1} (h : (besW w o)[s]? = some y) : (s < w.length ∧ w[s]? = some y) ∨ ∃ x, w.length ≤ s ∧ o[s - w.length]? = some x ∧ y = mvS x fun i => w.length + i := by
  unfold besW at h
  by_cases c : s < w.length
  · rw [List.getElem?_append_left c] at h
    exact .inl ⟨c, h⟩
  · rw [List.getElem?_append_right (by omega), List.getElem?_map] at h
    obtain ⟨x, hx, e⟩ := Option.map_eq_some_iff.mp h
    exact .inr ⟨x, by omega, hx, e.symm⟩
theorem bes_len (w o : List Sp1) : (besW w o).length = w.length + o.length := by unfold besW; rw [List.length_append, List.length_map]
theorem bes_sw {w o : List Sp1} (h : SW w) (k : SW o) (hl : w.length + o.length ≤ 10) : SW (besW w o) := by
  obtain ⟨rk, h1⟩ := h.acy
  obtain ⟨rk2, h2⟩ := k.acy
  refine ⟨by rw [bes_len]; exact hl, fun y hy => ?_, fun y hy i hi => ?_, fun s => if s < w.length then rk s else rk2 (s - w.length), fun s y hs i hi => ?_⟩
  · obtain ⟨s, hs⟩ := List.mem_iff_getElem?.mp hy
    rcases bes_get hs with ⟨_, hs⟩ | ⟨x, _, hx, rfl⟩
    · exact h.ar y (List.mem_of_getElem? hs)
    · exact (List.length_map ..).trans (k.ar x (List.mem_of_getElem? hx))
  · rw [bes_len]
    obtain ⟨s, hs⟩ := List.mem_iff_getElem?.mp hy
    rcases bes_get hs with ⟨_, hs⟩ | ⟨x, _, hx, rfl⟩
    · have := h.bd y (List.mem_of_getElem? hs) i hi; omega
    · obtain ⟨j, hj, rfl⟩ := List.mem_map.mp hi
      have := k.bd x (List.mem_of_getElem? hx) j hj; omega
  · rcases bes_get hs with ⟨c, hs⟩ | ⟨x, c, hx, rfl⟩
    · have hb := h.bd y (List.mem_of_getElem? hs) i hi
      show (if i < w.length then _ else _) < (if s < w.length then _ else _)
      rw [if_pos hb, if_pos c]
      exact h1 s y hs i hi
    · obtain ⟨j, hj, rfl⟩ := List.mem_map.mp hi
      show (if w.length + j < w.length then _ else _) < (if s < w.length then _ else _)
      rw [if_neg (by omega), if_neg (by omega), Nat.add_sub_cancel_left]
      exact h2 _ x hx j hj
theorem take_inp {w o : List Sp1} {s : Nat} (c : s < w.length) : rankN (besW w o) s = rankN w s := by
  unfold rankN besW
  rw [List.take_append_of_le_length (by omega)]
theorem take_inp2 {w o : List Sp1} {s : Nat} (c : w.length ≤ s) : rankN (besW w o) s = inpN w + rankN o (s - w.length) := by
  unfold rankN besW inpN
  rw [List.take_append, List.take_of_length_le c, List.filter_append, List.length_append, ← List.map_take, List.filter_map, List.length_map]
  rfl
theorem bes_val {w o : List Sp1} {wo mo : List Int} {v v2 : Nat → Int} (h : SW w) (k : SW o) (hl : wo.length = inpN w) (a : IsVal w wo v) (b : IsVal o mo v2) : IsVal (besW w o) (wo ++ mo) fun s => if s < w.length then v s else v2 (s - w.length) := by
  refine ⟨fun s y hs => ?_, fun s y hs hy => ?_, fun s => ?_⟩
  · rcases bes_get hs with ⟨c, hs⟩ | ⟨x, c, hx, rfl⟩
    · show (if s < w.length then v s else _) = _
      rw [if_pos c, a.eq s y hs]
      have e1 : ownV (besW w o) (wo ++ mo) s y.1 = ownV w wo s y.1 := by
        unfold ownV
        split
        · rename_i hk
          have := rank_lt hs hk
          rw [take_inp c, List.getD_eq_getElem?_getD, List.getD_eq_getElem?_getD, List.getElem?_append_left (by omega)]
        · rfl
      have e2 : y.2.map (fun s => if s < w.length then v s else v2 (s - w.length)) = y.2.map v := List.map_congr_left fun i hi => if_pos (h.bd y (List.mem_of_getElem? hs) i hi)
      rw [e1, e2]
    · show (if s < w.length then v s else v2 (s - w.length)) = _
      rw [if_neg (by omega), b.eq _ x hx]
      have e1 : ownV (besW w o) (wo ++ mo) s x.1 = ownV o mo (s - w.length) x.1 := by
        unfold ownV
        split
        · rw [take_inp2 c, List.getD_eq_getElem?_getD, List.getD_eq_getElem?_getD, List.getElem?_append_right (by omega), hl, Nat.add_sub_cancel_left]
        · rfl
      have e2 : (x.2.map fun i => w.length + i).map (fun s => if s < w.length then v s else v2 (s - w.length)) = x.2.map v2 := by
        rw [List.map_map]
        refine List.map_congr_left fun i hi => ?_
        show (if w.length + i < w.length then _ else v2 (w.length + i - w.length)) = _
        rw [if_neg (by omega), Nat.add_sub_cancel_left]
      show worthV x.1 _ _ = worthV x.1 (ownV (besW w o) (wo ++ mo) s x.1) ((x.2.map fun i => w.length + i).map (fun s => if s < w.length then v s else v2 (s - w.length)))
      rw [e1, e2]
  · rw [List.length_append]
    rcases bes_get hs with ⟨c, hs⟩ | ⟨x, c, hx, rfl⟩
    · rw [take_inp c]
      have := a.own s y hs hy; omega
    · rw [take_inp2 c]
      have := b.own _ x hx hy; omega
  · show (if s < w.length then v s else v2 (s - w.length)).natAbs.log2 < 500000
    split
    · exact a.small _
    · exact b.small _
theorem range_add (a b : Nat) : List.range (a + b) = List.range a ++ (List.range b).map fun i => a + i := by
  rw [List.range_add]
theorem bes_res {w o : List Sp1} (h : SW w) (k : SW o) : resL (besW w o) = resL w ++ (resL o).map fun i => w.length + i := by
  unfold resL
  rw [bes_len, range_add, List.filter_append, List.filter_map]
  congr 1
  · refine List.filter_congr fun s hs => ?_
    have hs := List.mem_range.mp hs
    refine congrArg _ (decide_eq_decide.mpr ⟨fun ⟨y, hy, hsy⟩ => ?_, fun ⟨y, hy, hsy⟩ => ⟨y, List.mem_append_left _ hy, hsy⟩⟩)
    rcases List.mem_append.mp hy with z | z
    · exact ⟨y, z, hsy⟩
    · obtain ⟨x, hx, rfl⟩ := List.mem_map.mp z
      obtain ⟨j, hj, e⟩ := List.mem_map.mp hsy
      omega
  · refine congrArg _ (List.filter_congr fun s hs => ?_)
    show (!decide _) = (!decide _)
    refine congrArg _ (decide_eq_decide.mpr ⟨fun ⟨y, hy, hsy⟩ => ?_, fun ⟨y, hy, hsy⟩ => ⟨mvS y fun i => w.length + i, List.mem_append_right _ (List.mem_map.mpr ⟨y, hy, rfl⟩), List.mem_map.mpr ⟨s, hsy, rfl⟩⟩⟩)
    rcases List.mem_append.mp hy with z | z
    · have : w.length + s < w.length := h.bd y z _ hsy
      omega
    · obtain ⟨x, hx, rfl⟩ := List.mem_map.mp z
      obtain ⟨j, hj, e⟩ := List.mem_map.mp hsy
      have e' : w.length + j = w.length + s := e
      have : j = s := by omega
      subst this
      exact ⟨x, hx, hj⟩
theorem bes_mean {w o : List Sp1} {v v2 : Nat → Int} (h : SW w) (k : SW o) : ((resL (besW w o)).map fun s => PyData.int (if s < w.length then v s else v2 (s - w.length))) = ((resL w).map fun s => PyData.int (v s)) ++ (resL o).map fun s => PyData.int (v2 s) := by
  rw [bes_res h k, List.map_append, List.map_map]
  congr 1
  · exact List.map_congr_left fun s hs => by rw [if_pos (resL_lt hs)]
  · refine List.map_congr_left fun s hs => ?_
    show PyData.int (if w.length + s < w.length then _ else v2 (w.length + s - w.length)) = _
    rw [if_neg (by omega), Nat.add_sub_cancel_left]
end K4

namespace K4
open PySem L2 PL
/-! steps under other numbers -/
def isIn (w : List Sp1) (s : Nat) : Bool := decide ((w.getD s (.con 0, [])).1 = .inp)
theorem isIn_of {w : List Sp1} {s : Nat} {x : Sp1} (h : w[s]? = some x) : isIn w s = decide (x.1 = .inp) := by
  unfold isIn
  rw [List.getD_eq_getElem?_getD, h]
  rfl
theorem filt_at {q : Nat → Bool} {l : List Nat} {a s : Nat} (h : l[a]? = some s) (hq : q s = true) : (l.filter q)[((l.take a).filter q).length]? = some s := by
  obtain ⟨hl, e⟩ := List.getElem?_eq_some_iff.mp h
  have e1 : l = l.take a ++ s :: l.drop (a + 1) := by rw [← e]; simp
  have e2 : l.filter q = (l.take a).filter q ++ s :: (l.drop (a + 1)).filter q := by
    conv => lhs; rw [e1]
    rw [List.filter_append, List.filter_cons_of_pos hq]
  rw [e2, List.getElem?_append_right (Nat.le_refl _), Nat.sub_self]
  rfl
theorem rank_cnt {w : List Sp1} : ∀ s, s ≤ w.length → rankN w s = ((List.range s).filter (isIn w)).length
  | 0, _ => rfl
  | s + 1, h => by
    have hs : w[s]? = some w[s] := List.getElem?_eq_getElem (by omega)
    have ih := rank_cnt (w := w) s (by omega)
    unfold rankN at ih ⊢
    rw [List.take_succ, hs, Option.toList_some, List.filter_append, List.length_append, ih, List.range_succ, List.filter_append, List.length_append]
    congr 1
    cases c : decide (w[s].1 = .inp) with
    | true => rw [List.filter_cons_of_pos (p := fun x : Sp1 => decide (x.1 = Kd.inp)) c, List.filter_cons_of_pos (p := isIn w) (by rw [isIn_of hs]; exact c)]; rfl
    | false => rw [List.filter_cons_of_neg (p := fun x : Sp1 => decide (x.1 = Kd.inp)) (by rw [c]; simp), List.filter_cons_of_neg (p := isIn w) (by rw [isIn_of hs, c]; simp)]; rfl
def askL (w : List Sp1) : List Nat := (List.range w.length).filter (isIn w)
theorem ask_nd (w : List Sp1) : (askL w).Nodup := List.Pairwise.filter _ List.nodup_range
theorem ask_idx {w : List Sp1} {s : Nat} {x : Sp1} (h : w[s]? = some x) (hx : x.1 = .inp) : (askL w).idxOf s = rankN w s := by
  have hl := (List.getElem?_eq_some_iff.mp h).1
  have h1 := filt_at (q := isIn w) (l := List.range w.length) (a := s) (s := s) (by rw [List.getElem?_range hl]) (by rw [isIn_of h]; simpa using hx)
  have e : (List.range w.length).take s = List.range s := by rw [List.take_range, Nat.min_eq_left (by omega)]
  rw [e, ← rank_cnt s (by omega)] at h1
  exact idx_get (ask_nd w) h1
theorem mem_ask {w : List Sp1} {s : Nat} : s ∈ askL w ↔ s < w.length ∧ isIn w s = true := by unfold askL; rw [List.mem_filter, List.mem_range]
def passL (w : List Sp1) (wo : List Int) (l : List Nat) : List Int := (l.filter fun s => decide (s ∈ askL w)).map fun s => wo.getD ((askL w).idxOf s) 0
section
variable {w : List Sp1} {wo : List Int} {l : List Nat} {v : Nat → Int}
theorem ren_rank (hp : l.Perm (List.range w.length)) {a : Nat} (ha : a ≤ l.length) : rankN (renW w l) a = ((l.take a).filter fun s => decide (s ∈ askL w)).length := by
  have hm : ∀ s ∈ l, s < w.length := fun s hs => List.mem_range.mp (hp.mem_iff.mp hs)
  unfold rankN
  rw [renW_eq hm, ← List.map_take, List.filter_map, List.length_map]
  congr 1
  refine List.filter_congr fun s hs => ?_
  have hs' := hm s (List.mem_of_mem_take hs)
  have hx : w[s]? = some w[s] := List.getElem?_eq_getElem hs'
  show decide ((w.getD s (.inp, [])).1 = .inp) = decide (s ∈ askL w)
  refine decide_eq_decide.mpr ?_
  rw [mem_ask, isIn_of hx, List.getD_eq_getElem?_getD, hx]
  simp [hs']
theorem ren_val (hs : SW w) (hp : l.Perm (List.range w.length)) (iv : IsVal w wo v) : IsVal (renW w l) (passL w wo l) fun i => v (l.getD i 0) := by
  have nd : l.Nodup := hp.nodup_iff.mpr List.nodup_range
  have key : ∀ a s x, l[a]? = some s → w[s]? = some x → x.1 = .inp → (passL w wo l)[rankN (renW w l) a]? = some (wo.getD (rankN w s) 0) := fun a s x h1 h2 hx => by
    have ha := (List.getElem?_eq_some_iff.mp h1).1
    have hq : decide (s ∈ askL w) = true := decide_eq_true (mem_ask.mpr ⟨(List.getElem?_eq_some_iff.mp h2).1, by rw [isIn_of h2]; simpa using hx⟩)
    rw [ren_rank hp (by omega)]
    unfold passL
    rw [List.getElem?_map, filt_at (q := fun s => decide (s ∈ askL w)) h1 hq, ask_idx h2 hx |>.symm]
    rfl
  refine ⟨fun a y ha => ?_, fun a y ha hy => ?_, fun s => iv.small _⟩
  · obtain ⟨s, x, h1, h2, rfl⟩ := renW_get hp a y ha
    have e0 : l.getD a 0 = s := by rw [List.getD_eq_getElem?_getD, h1]; rfl
    show v (l.getD a 0) = worthV x.1 (ownV (renW w l) (passL w wo l) a x.1) ((x.2.map fun i => l.idxOf i).map fun i => v (l.getD i 0))
    rw [e0, iv.eq s x h2]
    have e1 : ownV (renW w l) (passL w wo l) a x.1 = ownV w wo s x.1 := by
      unfold ownV
      split
      · rename_i hx
        rw [List.getD_eq_getElem?_getD, key a s x h1 h2 hx]
        rfl
      · rfl
    have e2 : (x.2.map fun i => l.idxOf i).map (fun i => v (l.getD i 0)) = x.2.map v := by
      rw [List.map_map]
      refine List.map_congr_left fun i hi => ?_
      show v (l.getD (l.idxOf i) 0) = v i
      rw [getD_idx (hp.mem_iff.mpr (List.mem_range.mpr (hs.bd x (List.mem_of_getElem? h2) i hi)))]
    rw [e1, e2]
  · obtain ⟨s, x, h1, h2, rfl⟩ := renW_get hp a y ha
    exact (List.getElem?_eq_some_iff.mp (key a s x h1 h2 hy)).1
def toldK (w : List Sp1) (l : List Nat) : List Nat := (resL (renW w l)).map fun i => l.getD i 0
theorem told_mem (hs : SW w) (hp : l.Perm (List.range w.length)) (s : Nat) : s ∈ toldK w l ↔ s ∈ resL w := by
  have nd : l.Nodup := hp.nodup_iff.mpr List.nodup_range
  have hll := hp.length_eq
  rw [List.length_range] at hll
  have core : ∀ a s, l[a]? = some s → (a ∈ resL (renW w l) ↔ s ∈ resL w) := fun a s h1 => by
    have ha := (List.getElem?_eq_some_iff.mp h1).1
    have hsl : s < w.length := List.mem_range.mp (hp.mem_iff.mp (List.mem_of_getElem? h1))
    rw [mem_res, mem_res, renW_len hp]
    refine ⟨fun ⟨_, h⟩ => ⟨hsl, fun x hx hsx => ?_⟩, fun ⟨_, h⟩ => ⟨by omega, fun y hy hay => ?_⟩⟩
    · obtain ⟨t, ht⟩ := List.mem_iff_getElem?.mp hx
      have htl : t ∈ l := hp.mem_iff.mpr (List.mem_range.mpr (List.getElem?_eq_some_iff.mp ht).1)
      obtain ⟨b, hb⟩ := List.mem_iff_getElem?.mp htl
      have hm : ∀ s ∈ l, s < w.length := fun s hs => List.mem_range.mp (hp.mem_iff.mp hs)
      have : mvS x (fun i => l.idxOf i) ∈ renW w l := by
        rw [renW_eq hm]
        exact List.mem_map.mpr ⟨t, htl, by rw [List.getD_eq_getElem?_getD, ht]; rfl⟩
      refine h _ this ?_
      exact List.mem_map.mpr ⟨s, hsx, idx_get nd h1⟩
    · obtain ⟨b, hb⟩ := List.mem_iff_getElem?.mp hy
      obtain ⟨t, x, h3, h4, rfl⟩ := renW_get hp b y hb
      obtain ⟨j, hj, e⟩ := List.mem_map.mp hay
      have hjl : j ∈ l := hp.mem_iff.mpr (List.mem_range.mpr (hs.bd x (List.mem_of_getElem? h4) j hj))
      have e' : l.idxOf j = a := e
      have h5 := getD_idx hjl
      rw [e', List.getD_eq_getElem?_getD, h1] at h5
      have h6 : s = j := h5
      subst h6
      exact h x (List.mem_of_getElem? h4) hj
  unfold toldK
  rw [List.mem_map]
  constructor
  · rintro ⟨a, ha, e⟩
    have hal := resL_lt ha
    rw [renW_len hp] at hal
    have h1 : l[a]? = some s := by
      rw [List.getD_eq_getElem?_getD, List.getElem?_eq_getElem (by omega)] at e
      rw [List.getElem?_eq_getElem (by omega)]
      exact congrArg some e
    exact (core a s h1).mp ha
  · intro h
    have hsl : s ∈ l := hp.mem_iff.mpr (List.mem_range.mpr (resL_lt h))
    obtain ⟨a, h1⟩ := List.mem_iff_getElem?.mp hsl
    exact ⟨a, (core a s h1).mpr h, by rw [List.getD_eq_getElem?_getD, h1]; rfl⟩
theorem told_nd (hp : l.Perm (List.range w.length)) : (toldK w l).Nodup := by
  have nd : l.Nodup := hp.nodup_iff.mpr List.nodup_range
  have hll := hp.length_eq
  rw [List.length_range] at hll
  unfold toldK
  refine List.Pairwise.map _ (fun a b h => h) (List.Pairwise.imp_of_mem (fun {a b} ha hb hab => ?_) (res_nd (renW w l)))
  have hal := resL_lt ha
  have hbl := resL_lt hb
  rw [renW_len hp] at hal hbl
  intro e
  rw [List.getD_eq_getElem?_getD, List.getD_eq_getElem?_getD, List.getElem?_eq_getElem (by omega), List.getElem?_eq_getElem (by omega)] at e
  exact hab ((List.getElem_inj nd).mp e)
theorem told_len (hs : SW w) (hp : l.Perm (List.range w.length)) : (toldK w l).length = (resL w).length := by
  have h1 := (told_nd hp).length_le_of_subset fun s h => (told_mem hs hp s).mp h
  have h2 := (res_nd w).length_le_of_subset fun s h => (told_mem hs hp s).mpr h
  omega
/-! one more step -/
variable {last : Nat}
theorem lon_get {s : Nat} {y : Sp1} (h : (w ++ [(Kd.neg, [last])])[s]? = some y) : (s < w.length ∧ w[s]? = some y) ∨ (s = w.length ∧ y = (Kd.neg, [last])) := by
  by_cases c : s < w.length
  · rw [List.getElem?_append_left c] at h; exact .inl ⟨c, h⟩
  · rw [List.getElem?_append_right (by omega)] at h
    have := (List.getElem?_eq_some_iff.mp h).1
    have h0 : s - w.length = 0 := by simp at this; omega
    rw [h0] at h
    have e : (Kd.neg, [last]) = y := by simpa using h
    exact .inr ⟨by omega, e.symm⟩
theorem lon_sw (h : SW w) (hl : w.length ≤ 9) (hla : last < w.length) : SW (w ++ [(Kd.neg, [last])]) := by
  obtain ⟨rk, h1⟩ := h.acy
  refine ⟨by rw [List.length_append, List.length_singleton]; omega, fun y hy => ?_, fun y hy i hi => ?_, fun s => if s < w.length then rk s else rk last + 1, fun s y hs i hi => ?_⟩
  · rcases List.mem_append.mp hy with z | z
    · exact h.ar y z
    · rw [List.mem_singleton.mp z]; rfl
  · rw [List.length_append, List.length_singleton]
    rcases List.mem_append.mp hy with z | z
    · have := h.bd y z i hi; omega
    · rw [List.mem_singleton.mp z] at hi
      have : i = last := by simpa using hi
      omega
  · rcases lon_get hs with ⟨c, hs⟩ | ⟨c, rfl⟩
    · have hb := h.bd y (List.mem_of_getElem? hs) i hi
      show (if i < w.length then _ else _) < (if s < w.length then _ else _)
      rw [if_pos hb, if_pos c]
      exact h1 s y hs i hi
    · have : i = last := by simpa using hi
      subst this
      show (if i < w.length then rk i else _) < (if s < w.length then _ else rk i + 1)
      rw [if_pos hla, if_neg (by omega)]
      omega
theorem lon_val (h : SW w) (hla : last < w.length) (iv : IsVal w wo v) : IsVal (w ++ [(Kd.neg, [last])]) wo fun s => if s < w.length then v s else 0 - v last := by
  have hr : ∀ s, s ≤ w.length → rankN (w ++ [(Kd.neg, [last])]) s = rankN w s := fun s hs => by
    unfold rankN
    rw [List.take_append_of_le_length hs]
  refine ⟨fun s y hs => ?_, fun s y hs hy => ?_, fun s => ?_⟩
  · rcases lon_get hs with ⟨c, hs⟩ | ⟨c, rfl⟩
    · show (if s < w.length then v s else _) = _
      rw [if_pos c, iv.eq s y hs]
      have e1 : ownV (w ++ [(Kd.neg, [last])]) wo s y.1 = ownV w wo s y.1 := by unfold ownV; rw [hr s (by omega)]
      have e2 : y.2.map (fun s => if s < w.length then v s else 0 - v last) = y.2.map v := List.map_congr_left fun i hi => if_pos (h.bd y (List.mem_of_getElem? hs) i hi)
      rw [e1, e2]
    · show (if s < w.length then v s else 0 - v last) = 0 - (if last < w.length then v last else _)
      rw [if_neg (by omega), if_pos hla]
  · rcases lon_get hs with ⟨c, hs⟩ | ⟨c, rfl⟩
    · rw [hr s (by omega)]; exact iv.own s y hs hy
    · cases hy
  · show (if s < w.length then v s else 0 - v last).natAbs.log2 < 500000
    split
    · exact iv.small _
    · have := iv.small last
      rw [Int.zero_sub, Int.natAbs_neg]
      exact this
theorem lon_res (h : SW w) (hla : last ∈ resL w) : resL (w ++ [(Kd.neg, [last])]) = ((resL w).filter fun s => !decide (s = last)) ++ [w.length] := by
  have hl := resL_lt hla
  unfold resL
  rw [List.length_append, List.length_singleton, List.range_succ, List.filter_append, List.filter_filter]
  congr 1
  · refine List.filter_congr fun s hs => ?_
    rw [← Bool.not_or]
    refine congrArg _ ?_
    rw [← Bool.decide_or]
    refine decide_eq_decide.mpr ⟨fun ⟨y, hy, hsy⟩ => ?_, fun q => ?_⟩
    · rcases List.mem_append.mp hy with z | z
      · exact .inr ⟨y, z, hsy⟩
      · rw [List.mem_singleton.mp z] at hsy
        exact .inl (by simpa using hsy)
    · rcases q with q | ⟨y, hy, hsy⟩
      · exact ⟨(Kd.neg, [last]), by simp, by simp [q]⟩
      · exact ⟨y, List.mem_append_left _ hy, hsy⟩
  · rw [List.filter_cons_of_pos]
    · rfl
    · rw [Bool.not_eq_true', decide_eq_false_iff_not]
      rintro ⟨y, hy, hsy⟩
      rcases List.mem_append.mp hy with z | z
      · have := h.bd y z _ hsy; omega
      · rw [List.mem_singleton.mp z] at hsy
        have : w.length = last := by simpa using hsy
        omega
theorem lon_mean (h : SW w) (hla : last ∈ resL w) : ((resL (w ++ [(Kd.neg, [last])])).map fun s => PyData.int (if s < w.length then v s else 0 - v last)) = (((resL w).filter fun s => !decide (s = last)).map fun s => PyData.int (v s)) ++ [PyData.int (0 - v last)] := by
  rw [lon_res h hla, List.map_append]
  congr 1
  · exact List.map_congr_left fun s hs => by rw [if_pos (resL_lt (List.mem_filter.mp hs).1)]
  · show [PyData.int (if w.length < w.length then _ else _)] = _
    rw [if_neg (Nat.lt_irrefl _)]
end
end K4

namespace K4
open PySem L2 PL
structure Txt3 (mg : Str → Option Value) : Prop where
  b_dict : mg "dict" = none
  b_len : mg "len" = none
  b_list : mg "list" = none
  b_range : mg "range" = none
  b_tuple : mg "tuple" = none
  b_zip : mg "zip" = none
section
variable {P : Program} {w : World} {K : PySem.W.Frag} {mg : Str → Option Value} {base : Heap} {A : Amb} {f : Addr} {fd : FuncData} {x qual : Str}
abbrev s_law : Stmt := top 32
theorem sc_law : FnScope ["script", "deck", "turn", "row", "turned", "asked", "passed", "told", "last", "longer", "due", "web", "other", "worths", "more", "step", "worth"] ["script"] (defScope s_law) := ⟨rfl, rfl, rfl, by decide +kernel, rfl, by decide +kernel, by decide +kernel⟩
theorem nice_meanL {n : Nat} {l : List Nat} {v : Nat → Int} : ∀ d ∈ l.map (fun s => PyData.int (v s)), nice n d = true := by
  intro d hd
  obtain ⟨s, _, rfl⟩ := List.mem_map.mp hd
  exact nice_int
theorem nice_app {n : Nat} {xs ys : List D} (h : ∀ d ∈ xs, nice n d = true) (k : ∀ d ∈ ys, nice n d = true) : ∀ d ∈ xs ++ ys, nice n d = true := fun d hd => (List.mem_append.mp hd).elim (h d) (k d)
theorem ne_same {n : Nat} {a b : D} (h : nice n b = true) (e : a = b) : (!PyData.eqv a b) = false := by
  subst e
  rw [(eqv_nice h h).mpr rfl]; rfl
theorem zip_kv {l : List Nat} {v : Nat → Int} (g : Nat → Nat) : zipK ((l.map g).map fun (i : Nat) => (i : Int)) (l.map fun s => PyData.int (v (g s))) = kvN v (l.map g) := by
  induction l with
  | nil => rfl
  | cons a l ih =>
    show _ :: _ = _ :: _
    rw [show List.zipWith (fun k v => ((Sum.inl k : Key), v)) ((l.map g).map fun (i : Nat) => (i : Int)) (l.map fun s => PyData.int (v (g s))) = kvN v (l.map g) from ih]
    rfl
theorem zipD_map {l : List Nat} {v : Nat → Int} : zipD (l.map nD) (l.map fun s => PyData.int (v s)) = l.map fun s => .tuple [nD s, .int (v s)] := by
  unfold zipD
  induction l with
  | nil => rfl
  | cons a l ih => rw [List.map_cons, List.map_cons, List.zipWith_cons_cons, ih]; rfl
theorem nodup_ints {l : List Nat} (h : l.Nodup) : (l.map fun (i : Nat) => (i : Int)).Nodup := List.Pairwise.map _ (fun a b h => by intro e; exact h (by omega)) h
/-- the turns of the law's loop -/
def loopOf : Stmt → List Stmt
  | .For _ _ b _ _ => b
  | _ => []
abbrev loopB : List Stmt := loopOf ((defBody s_law).getD 1 (.Pass ⟨0, 0, 0, 0⟩))
def JL (d : Addr) (e : En) : Prop := ∃ x2 x3 x4 x5 x6 x7 x8 x9 x10 x11 x12 x13 x14 x15 x16 : Sl, nOw x2 ∧ nOw x11 ∧ nOw x12 ∧ nOw x13 ∧ nOw x14 ∧ nOw x15 ∧ nOw x16 ∧ e = ⟨[.un, .im (.raw (.ref d)), x2, x3, x4, x5, x6, x7, x8, x9, x10, x11, x12, x13, x14, x15, x16], 0⟩
abbrev xLaw (P : Program) (w : World) (K : PySem.W.Frag) (mg : Str → Option Value) (base : Heap) (qual : Str) (f : Addr) (cdv : Value) (A' : Around) (outer : List Env) (s : Shared) (H : Hp) (E : XK) : Cx := (cxOf CX0 P w K mg base ["script", "deck", "turn", "row", "turned", "asked", "passed", "told", "last", "longer", "due", "web", "other", "worths", "more", "step", "worth"] qual (defScope s_law) f cdv A' outer s H E).nox
section
variable {cdv : Value} {A' : Around} {outer : List Env} {s : Shared} {H : Hp} {E : XK} {d c0 c1 : Addr}
theorem st_D (hr : Room 6 (A'.deeper (PyProof.Rows.envOfC qual (defScope s_law) s.heap.objs.size f cdv))) (T : Txt3 mg) (f_u_law_pick : PFn P w K mg base (amB d c0 c1) "_law_pick" ["deck", "items"] (fs_pick d) 2) (f_meaning : PFn P w K mg base (amB d c0 c1) "meaning" ["web", "worths"] fs_meaning 3) (f_results : PFn P w K mg base (amB d c0 c1) "results" ["web"] fs_results 2) :
    ∃ t w', PSDs (xLaw P w K mg base qual f cdv A' outer s H E) (amB d c0 c1) (loopB.drop 9) t w' ∧ ∀ (E : EndsP) (w : List Sp1) (wo : List Int) (v : Nat → Int) (x2 x3 x4 x5 x6 x7 x8 x9 x10 x12 x14 x15 x16 : Sl), WX 5 w → IsVal w wo v → nOw x2 → nOw x12 → nOw x14 → nOw x15 → nOw x16 → (∀ e, JL d e → E.nx e) →
      w' E ⟨[.un, .im (.raw (.ref d)), x2, x3, x4, x5, x6, x7, x8, x9, x10, .im (.dat (encW w)), x12, .im (.dat (.tuple (wo.map PyData.int))), x14, x15, x16], 0⟩ := by
  refine ⟨_, _, (psds_cons (psd_set (i := 8) sc_law.nd rfl (by first | exact Or.inl rfl | exact Or.inr rfl) (pd_fn f_u_law_pick hr (by decide) (by rfl) (pad_cons (pd_var 1) (pad_cons (pd_callTy call_list' (by rfl) T.b_list (by decide +kernel) (pad_cons (pd_fn f_results hr (by decide) (by rfl) (pad_cons (pd_var 11) pad_nil)) pad_nil)) pad_nil))))
      (psds_cons (psd_set (i := 9) sc_law.nd rfl (by first | exact Or.inl rfl | exact Or.inr rfl) (pd_op op_add' (pd_var 11) (pd_tup (pad_cons (pd_tup (pad_cons pd_str (pad_cons (pd_tup (pad_cons (pd_var 8) pad_nil)) pad_nil))) pad_nil))))
      (psds_cons (psd_setLc (i := 10) rfl sc_law.nd rfl rfl (sw_true rfl rfl rfl (by decide +kernel)) (own := [("step", 15), ("worth", 16)]) (pid_zip (by rfl) T.b_zip (pd_fn f_results hr (by decide) (by rfl) (pad_cons (pd_var 11) pad_nil)) (pd_fn f_meaning hr (by decide) (by rfl) (pad_cons (pd_var 11) (pad_cons (pd_var 13) pad_nil)))) (blkOk_by rfl) (fun _ _ _ _ _ => ⟨_, (pgd_tup (n := 2) rfl (pgds_cons (pgd_name (i := 15) (by decide) sc_law.nd rfl (by first | exact Or.inl rfl | exact Or.inr rfl)) (pgds_cons (pgd_name (i := 16) (by decide) sc_law.nd rfl (by first | exact Or.inl rfl | exact Or.inr rfl)) pgds_nil)))⟩) (fun _ _ _ _ _ => ⟨_, (pdts_one (pdt_cmp (op_ne' hr.units) (pd_var 15) (pd_var 8) (nomark _)))⟩) (fun _ _ _ _ _ => ⟨_, (pd_var 16)⟩))
      (psds_one (psd_if (pdt_cmp (op_ne' hr.units) (pd_callTy call_list' (by rfl) T.b_list (by decide +kernel) (pad_cons (pd_fn f_meaning hr (by decide) (by rfl) (pad_cons (pd_var 9) (pad_cons (pd_var 13) pad_nil))) pad_nil)) (pd_op op_add' (pd_var 10) (pd_lst (pad_cons (pd_op op_sub' pd_int (pd_ix (ix' (u1 hr)) (pd_fn f_meaning hr (by decide) (by rfl) (pad_cons (pd_var 11) (pad_cons (pd_var 13) pad_nil))) (pd_tidx (pd_fn f_results hr (by decide) (by rfl) (pad_cons (pd_var 11) pad_nil)) (pd_var 8)) (fun _ _ => rfl))) pad_nil))) (nomark _)) (psds_one (psd_ret pd_bl)) psds_nil))))), fun E w wo v x2 x3 x4 x5 x6 x7 x8 x9 x10 x12 x14 x15 x16 hw iv h2 h12 h14 h15 h16 hJ => ?_⟩
  have sw := hw.sw (by decide)
  have hwl := hw.l1
  have rl := resL_len w
  have lw : (w.map encS).length = w.length := List.length_map ..
  -- last
  obtain ⟨s0, hs0⟩ := res_ne sw hw.l0
  have hpos : 0 < (resL w).length := List.length_pos_of_mem hs0
  refine ⟨w, rfl, sw.tok, _, rfl, by rw [List.length_map]; exact hpos, by rw [List.length_map]; omega, fun xx hxx => ?_⟩
  obtain ⟨last, hla, rfl⟩ := List.mem_map.mp hxx
  have hlal := resL_lt hla
  -- longer
  refine ⟨_, rfl, le5 rfl, _, rfl, le5 rfl, _, rfl, le5 rfl, ?_, ?_⟩
  · show (w.map encS).length + 1 ≤ 100000
    omega
  have elon : w.map encS ++ [encS (Kd.neg, [last])] = (w ++ [(Kd.neg, [last])]).map encS := by rw [List.map_append]; rfl
  -- due
  refine ⟨w, rfl, sw.tok, w, wo, v, rfl, sw.tok, sw.wok, iv, by rw [List.length_map, List.length_map], ?_⟩
  refine lc_pure (fun s => PyData.tuple [nD s, .int (v s)]) (fun s => if (!decide (s = last)) = true then some (PyData.int (v s)) else none) (resL w) zipD_map ?_ ?_ ?_ ?_
  · exact ⟨h15, h16, trivial⟩
  · omega
  · intro s hs k hk
    refine ⟨rfl, rfl, shaped_int, shaped_int, ite_b (c := !decide (s = last)) ?_ (fun q => hk _ _ (if_pos q) rfl) (fun q => hk _ _ (if_neg (by rw [q]; decide)) rfl)⟩
    rw [show PyData.eqv (nD s) (nD last) = decide ((s : Int) = (last : Int)) from eqv_intD]
    refine congrArg _ (decide_eq_decide.mpr (by omega))
  rw [filterMap_ite]
  -- the last test
  have sl := lon_sw (last := last) sw (by omega) hlal
  have ivl := lon_val (wo := wo) sw hlal iv
  refine ⟨w ++ [(Kd.neg, [last])], wo, _, congrArg (fun z => [Av.dat (.tuple z), Av.dat (.tuple (wo.map PyData.int))]) elon, sl.tok, sl.wok, ivl, w, wo, v, rfl, sw.tok, sw.wok, iv, w, rfl, sw.tok, (resL w).map fun (i : Nat) => (i : Int), ints_map' _, List.mem_map.mpr ⟨last, hla, rfl⟩, .int (v last), ?_, _, rfl, le5 rfl, rfl, ?_, ?_⟩
  · rw [idxOf_nat]
    refine atI_nat ?_
    have hix := List.idxOf_lt_length_iff.mpr hla
    rw [List.getElem?_map, List.getElem?_eq_getElem hix, List.getElem_idxOf hix]
    rfl
  · have := List.length_filter_le (fun s => !decide (s = last)) (resL w)
    show (((resL w).filter fun s => !decide (s = last)).map fun s => PyData.int (v s)).length + 1 ≤ 100000
    rw [List.length_map]; omega
  refine ⟨shaped_nice (n := 1) (nice_list nice_meanL), shaped_nice (n := 1) (nice_list (nice_app nice_meanL fun z hz => by rw [List.mem_singleton.mp hz]; exact nice_int)), ite_b (c := false) ?_ (fun q => by cases q) (fun _ => ?_)⟩
  · exact ne_same (n := 1) (nice_list (nice_app nice_meanL fun z hz => by rw [List.mem_singleton.mp hz]; exact nice_int)) (congrArg PyData.list (lon_mean sw hla))
  exact hJ _ ⟨x2, _, _, _, _, _, _, _, _, .im (.dat (encW w)), x12, .im (.dat (.tuple (wo.map PyData.int))), x14, x15, x16, h2, trivial, h12, trivial, h14, h15, h16, rfl⟩
theorem st_C (hr : Room 6 (A'.deeper (PyProof.Rows.envOfC qual (defScope s_law) s.heap.objs.size f cdv))) (T : Txt3 mg) (f_u_law_pick : PFn P w K mg base (amB d c0 c1) "_law_pick" ["deck", "items"] (fs_pick d) 2) (f_meaning : PFn P w K mg base (amB d c0 c1) "meaning" ["web", "worths"] fs_meaning 3) (f_results : PFn P w K mg base (amB d c0 c1) "results" ["web"] fs_results 2) :
    ∃ t w', PSDs (xLaw P w K mg base qual f cdv A' outer s H E) (amB d c0 c1) (loopB.drop 7) t w' ∧ ∀ (E : EndsP) (w : List Sp1) (wo : List Int) (v : Nat → Int) (l : List Nat) (x2 x5 x7 x8 x9 x10 x12 x14 x15 x16 : Sl), WX 5 w → IsVal w wo v → l.Perm (List.range w.length) → nOw x2 → nOw x12 → nOw x14 → nOw x15 → nOw x16 → (∀ e, JL d e → E.nx e) →
      w' E ⟨[.un, .im (.raw (.ref d)), x2, .im (.dat (encN l)), .im (.dat (encW (renW w l))), x5, .im (.dat (.tuple ((passL w wo l).map PyData.int))), x7, x8, x9, x10, .im (.dat (encW w)), x12, .im (.dat (.tuple (wo.map PyData.int))), x14, x15, x16], 0⟩ := by
  obtain ⟨tD, wD, hbD, hwD⟩ := st_D (P := P) (w := w) (K := K) (base := base) (qual := qual) (f := f) (cdv := cdv) (A' := A') (outer := outer) (s := s) (H := H) (E := E) hr T f_u_law_pick f_meaning f_results
  refine ⟨_, _, (psds_cons (psd_set (i := 7) sc_law.nd rfl (by first | exact Or.inl rfl | exact Or.inr rfl) (pd_dictZip rfl (by rfl) T.b_dict (by rfl) T.b_zip (u64 hr) (pd_lc (own := [("step", 15)]) rfl sc_law.nd (pid_seq (pd_fn f_results hr (by decide) (by rfl) (pad_cons (pd_var 4) pad_nil))) (blkOk_by rfl) (fun _ _ _ _ _ => ⟨_, (pgd_name (i := 15) (by decide) sc_law.nd rfl (by first | exact Or.inl rfl | exact Or.inr rfl))⟩) (fun _ _ _ _ _ => ⟨_, pdts_nil⟩) (fun _ _ _ _ _ => ⟨_, (pd_ix (ix' (u1 hr)) (pd_var 3) (pd_var 15) (fun _ _ => rfl))⟩)) (pd_fn f_meaning hr (by decide) (by rfl) (pad_cons (pd_var 4) (pad_cons (pd_var 6) pad_nil)))))
      (psds_cons (psd_if (PDW.pdt (pdw_or (pdt_cmp (op_ne' hr.units) (pd_lc (own := [("step", 15)]) rfl sc_law.nd (pid_seq (pd_fn f_results hr (by decide) (by rfl) (pad_cons (pd_var 11) pad_nil))) (blkOk_by rfl) (fun _ _ _ _ _ => ⟨_, (pgd_name (i := 15) (by decide) sc_law.nd rfl (by first | exact Or.inl rfl | exact Or.inr rfl))⟩) (fun _ _ _ _ _ => ⟨_, pdts_nil⟩) (fun _ _ _ _ _ => ⟨_, (pd_ix (ix' (u1 hr)) (pd_var 7) (pd_var 15) (fun _ _ => rfl))⟩)) (pd_callTy call_list' (by rfl) T.b_list (by decide +kernel) (pad_cons (pd_fn f_meaning hr (by decide) (by rfl) (pad_cons (pd_var 11) (pad_cons (pd_var 13) pad_nil))) pad_nil)) (nomark _)) (pdw_or1 (pdt_cmp (op_ne' hr.units) (pd_callB call_len' (by rfl) T.b_len (by decide +kernel) (pad_cons (pd_var 7) pad_nil)) (pd_callB call_len' (by rfl) T.b_len (by decide +kernel) (pad_cons (pd_fn f_results hr (by decide) (by rfl) (pad_cons (pd_var 11) pad_nil)) pad_nil)) (nomark _))))) (psds_one (psd_ret pd_bl)) psds_nil)
      hbD)), fun E w wo v l x2 x5 x7 x8 x9 x10 x12 x14 x15 x16 hw iv hpp h2 h12 h14 h15 h16 hJ => ?_⟩
  have sw := hw.sw (by decide)
  have hwl := hw.l1
  have rl := resL_len w
  have lw : (w.map encS).length = w.length := List.length_map ..
  have hll := hpp.length_eq
  rw [List.length_range] at hll
  have sr := (hw.ren hpp).sw (by decide)
  have lr := renW_len hpp
  have rlr := resL_len (renW w l)
  -- told
  have ivr := ren_val sw hpp iv
  refine ⟨renW w l, rfl, sr.tok, ?_⟩
  refine lc_pure nD (fun i => some (nD (l.getD i 0))) (resL (renW w l)) rfl ?_ ?_ ?_ ?_
  · exact ⟨h15, trivial⟩
  · omega
  · intro i hi k hk
    have hil := resL_lt hi
    refine ⟨nD (l.getD i 0), atI_nat ?_, hk _ _ rfl rfl⟩
    rw [List.getElem?_map, List.getD_eq_getElem?_getD, List.getElem?_eq_getElem (by omega)]
    rfl
  rw [filterMap_all]
  have ekeys : ((resL (renW w l)).map fun i => nD (l.getD i 0)) = (toldK w l).map nD := by unfold toldK; rw [List.map_map]; rfl
  rw [ekeys]
  have ltk := told_len sw hpp
  have ltk2 : (toldK w l).length = (resL (renW w l)).length := by unfold toldK; rw [List.length_map]
  refine ⟨renW w l, passL w wo l, _, rfl, sr.tok, sr.wok, ivr, (toldK w l).map fun (i : Nat) => (i : Int), ints_map' _, nodup_ints (told_nd hpp), by rw [List.length_map, List.length_map]; exact ltk2, by rw [List.length_map, ltk]; exact List.length_pos_of_mem (res_ne sw hw.l0).choose_spec, by rw [List.length_map]; omega, ?_⟩
  have ekv : zipK ((toldK w l).map fun (i : Nat) => (i : Int)) ((resL (renW w l)).map fun s => PyData.int (v (l.getD s 0))) = kvN v (toldK w l) := zip_kv (v := v) fun i => l.getD i 0
  rw [ekv]
  -- [told[step] ..] != list(meaning(..)) or len(told) != ..
  refine ⟨w, rfl, sw.tok, ?_⟩
  refine lc_pure nD (fun s => some (PyData.int (v s))) (resL w) rfl ?_ ?_ ?_ ?_
  · exact ⟨h15, trivial⟩
  · omega
  · intro s hs k hk
    refine ⟨rfl, _, _, rfl, ?_, hk _ _ rfl rfl⟩
    show lookD (kvN v (toldK w l)) (.inl (s : Int)) = _
    rw [kvN_look, if_pos ((told_mem sw hpp s).mpr hs)]
  rw [filterMap_all]
  refine ⟨w, wo, v, rfl, sw.tok, sw.wok, iv, shaped_nice (n := 1) (nice_list nice_meanL), shaped_nice (n := 1) (nice_list nice_meanL), ite_b (c := false) (ne_same (n := 1) (nice_list nice_meanL) rfl) (fun q => by cases q) (fun _ => ?_)⟩
  refine ⟨rfl, w, rfl, sw.tok, shaped_int, shaped_int, ite_b (c := false) ?_ (fun q => by cases q) (fun _ => ?_)⟩
  · refine ne_same (n := 0) nice_int ?_
    rw [kvN_len, List.length_map, ltk]
  exact hwD _ w wo v _ _ _ _ _ _ _ _ _ _ _ _ _ hw iv h2 h12 h14 h15 h16 hJ
theorem st_B (hr : Room 6 (A'.deeper (PyProof.Rows.envOfC qual (defScope s_law) s.heap.objs.size f cdv))) (T : Txt3 mg) (f_u_law_pick : PFn P w K mg base (amB d c0 c1) "_law_pick" ["deck", "items"] (fs_pick d) 2) (f_u_law_mixed : PFn P w K mg base (amB d c0 c1) "_law_mixed" ["deck", "items"] (fs_mixed d) 2) (f_renumbered : PFn P w K mg base (amB d c0 c1) "renumbered" ["web", "value"] fs_renumbered 3) (f_meaning : PFn P w K mg base (amB d c0 c1) "meaning" ["web", "worths"] fs_meaning 3) (f_results : PFn P w K mg base (amB d c0 c1) "results" ["web"] fs_results 2) :
    ∃ t w', PSDs (xLaw P w K mg base qual f cdv A' outer s H E) (amB d c0 c1) (loopB.drop 3) t w' ∧ ∀ (E : EndsP) (w : List Sp1) (wo : List Int) (v : Nat → Int) (x2 x3 x4 x5 x6 x7 x8 x9 x10 x12 x14 x15 x16 : Sl), WX 5 w → wo.length = inpN w → IsVal w wo v → nOw x2 → nOw x12 → nOw x14 → nOw x15 → nOw x16 → (∀ e, JL d e → E.nx e) →
      w' E ⟨[.un, .im (.raw (.ref d)), x2, x3, x4, x5, x6, x7, x8, x9, x10, .im (.dat (encW w)), x12, .im (.dat (.tuple (wo.map PyData.int))), x14, x15, x16], 0⟩ := by
  obtain ⟨tC, wC, hbC, hwC⟩ := st_C (P := P) (w := w) (K := K) (base := base) (qual := qual) (f := f) (cdv := cdv) (A' := A') (outer := outer) (s := s) (H := H) (E := E) hr T f_u_law_pick f_meaning f_results
  refine ⟨_, _, (psds_cons (psd_set (i := 3) sc_law.nd rfl (by first | exact Or.inl rfl | exact Or.inr rfl) (pd_callTy call_tuple' (by rfl) T.b_tuple (by decide +kernel) (pad_cons (pd_fn f_u_law_mixed hr (by decide) (by rfl) (pad_cons (pd_var 1) (pad_cons (pd_lrg1 rfl (by rfl) T.b_list (by rfl) T.b_range (pd_callB call_len' (by rfl) T.b_len (by decide +kernel) (pad_cons (pd_var 11) pad_nil))) pad_nil))) pad_nil)))
      (psds_cons (psd_set (i := 4) sc_law.nd rfl (by first | exact Or.inl rfl | exact Or.inr rfl) (pd_fn f_renumbered hr (by decide) (by rfl) (pad_cons (pd_var 11) (pad_cons (pd_var 3) pad_nil))))
      (psds_cons (psd_set (i := 5) sc_law.nd rfl (by first | exact Or.inl rfl | exact Or.inr rfl) (pd_lc (own := [("step", 15)]) rfl sc_law.nd (pid_rng1 (by rfl) T.b_range (pd_callB call_len' (by rfl) T.b_len (by decide +kernel) (pad_cons (pd_var 11) pad_nil))) (blkOk_by rfl) (fun _ _ _ _ _ => ⟨_, (pgd_name (i := 15) (by decide) sc_law.nd rfl (by first | exact Or.inl rfl | exact Or.inr rfl))⟩) (fun _ _ _ _ _ => ⟨_, (pdts_one (pdt_cmp (op_eq' hr.units) (pd_ix (ix' (u1 hr)) (pd_ix (ix' (u1 hr)) (pd_var 11) (pd_var 15) (fun _ _ => rfl)) pd_int (fun _ _ => rfl)) pd_str (nomark _)))⟩) (fun _ _ _ _ _ => ⟨_, (pd_var 15)⟩)))
      (psds_cons (psd_set (i := 6) sc_law.nd rfl (by first | exact Or.inl rfl | exact Or.inr rfl) (pd_callTy call_tuple' (by rfl) T.b_tuple (by decide +kernel) (pad_cons (pd_lc (own := [("step", 15)]) rfl sc_law.nd (pid_seq (pd_var 3)) (blkOk_by rfl) (fun _ _ _ _ _ => ⟨_, (pgd_name (i := 15) (by decide) sc_law.nd rfl (by first | exact Or.inl rfl | exact Or.inr rfl))⟩) (fun _ _ _ _ _ => ⟨_, (pdts_one (pdt_cmp (op_in' (u65 hr)) (pd_var 15) (pd_var 5) (by rfl)))⟩) (fun _ _ _ _ _ => ⟨_, (pd_ix (ix' (u1 hr)) (pd_var 13) (pd_lidx (pd_var 5) (pd_var 15)) (fun _ _ => rfl))⟩)) pad_nil)))
      hbC)))), fun E w wo v x2 x3 x4 x5 x6 x7 x8 x9 x10 x12 x14 x15 x16 hw hwo iv h2 h12 h14 h15 h16 hJ => ?_⟩
  have sw := hw.sw (by decide)
  have hwl := hw.l1
  have lw : (w.map encS).length = w.length := List.length_map ..
  -- row, turned
  refine ⟨by omega, by omega, _, rfl, ?_, fun ds' hp => ?_⟩
  · rw [rng_len]; omega
  have e0 : rngD 0 ((((w.map encS).length : Nat) : Int)).toNat = (List.range w.length).map nD := by rw [lw]; exact rng_nats _
  rw [e0] at hp
  obtain ⟨l, rfl, hpp⟩ := perm_nD hp
  refine ⟨w, l, rfl, by omega, hw.ar64, hw.bd, hpp, ?_⟩
  have hll := hpp.length_eq
  rw [List.length_range] at hll
  have hm : ∀ s ∈ l, s < w.length := fun s hs => List.mem_range.mp (hpp.mem_iff.mp hs)
  have sr := (hw.ren hpp).sw (by decide)
  have lr := renW_len hpp
  have rlr := resL_len (renW w l)
  -- asked
  refine ⟨by omega, by omega, ?_⟩
  refine lc_pure nD (fun s => if isIn w s = true then some (nD s) else none) (List.range w.length) ?_ ?_ ?_ ?_ ?_
  · rw [lw]; exact rng_nats _
  · exact ⟨h15, trivial⟩
  · rw [List.length_range]; omega
  · intro s hs k hk
    obtain ⟨x, hx⟩ : ∃ x, w[s]? = some x := ⟨_, List.getElem?_eq_getElem (List.mem_range.mp hs)⟩
    refine ⟨_, atI_nat (v := encS x) (by rw [List.getElem?_map, hx]; rfl), _, rfl, x.1.shp, Kd.shp .inp, ite_b (c := isIn w s) ?_ (fun q => hk _ _ (if_pos q) rfl) (fun q => hk _ _ (if_neg (by rw [q]; decide)) rfl)⟩
    rw [isIn_of hx]
    exact Kd.eqd x.1 .inp
  rw [filterMap_ite]
  change LcOk _ _ _ _ _ _ _
  -- passed
  refine lc_pure nD (fun s => if decide (s ∈ askL w) = true then some (PyData.int (wo.getD ((askL w).idxOf s) 0)) else none) l rfl ?_ ?_ ?_ ?_
  · exact ⟨h15, trivial⟩
  · omega
  · intro s hs k hk
    obtain ⟨x, hx⟩ : ∃ x, w[s]? = some x := ⟨_, List.getElem?_eq_getElem (hm s hs)⟩
    refine ⟨shaped_int, shaped_nice (n := 1) (nice_list nice_nats), ite_b (c := decide (s ∈ askL w)) any_nD (fun q => ?_) (fun q => hk _ _ (if_neg (by rw [q]; decide)) rfl)⟩
    have hq := of_decide_eq_true q
    have hin : x.1 = .inp := by
      have := (mem_ask.mp hq).2
      rw [isIn_of hx] at this
      exact of_decide_eq_true this
    have hrk := rank_lt hx hin
    refine ⟨rfl, (askL w).map fun (i : Nat) => (i : Int), ints_map' _, List.mem_map.mpr ⟨s, hq, rfl⟩, .int (wo.getD ((askL w).idxOf s) 0), ?_, hk _ _ (if_pos q) rfl⟩
    rw [idxOf_nat]
    refine atI_nat ?_
    rw [ask_idx hx hin, List.getElem?_map, List.getD_eq_getElem?_getD, List.getElem?_eq_getElem (by omega)]
    rfl
  have epass : (l.filterMap fun s => if decide (s ∈ askL w) = true then some (PyData.int (wo.getD ((askL w).idxOf s) 0)) else none) = (passL w wo l).map PyData.int := by
    unfold passL
    rw [filterMap_ite, List.map_map]; rfl
  rw [epass]
  exact hwC _ w wo v l _ _ _ _ _ _ _ _ _ _ hw iv hpp h2 h12 h14 h15 h16 hJ
end
theorem ok_law (G : Fun K x qual s_law f fd) (T : Txt3 mg)
    (deck : ∃ fa fdd, mg "_law_deck" = some (.ref fa) ∧ PySem.W.keepIn K (.ref fa) = true ∧ Binds K fdd ["script"] [] ∧ FnOk P w K mg base CX0 1 fa fdd ["script"] (spDeckB K))
    (pick : ∀ d c0 c1, PFn P w K mg base (amB d c0 c1) "_law_pick" ["deck", "items"] (fs_pick d) 2) (mixed : ∀ d c0 c1, PFn P w K mg base (amB d c0 c1) "_law_mixed" ["deck", "items"] (fs_mixed d) 2)
    (web : ∀ d c0 c1, PFn P w K mg base (amB d c0 c1) "_law_web" ["deck", "most"] (fs_web d) 6) (wor : ∀ d c0 c1, PFn P w K mg base (amB d c0 c1) "_law_worths" ["deck", "web"] (fs_worths d) 3)
    (bes : ∀ A, PFn P w K mg base A "beside" ["web", "other"] fs_beside 2) (mea : ∀ A, PFn P w K mg base A "meaning" ["web", "worths"] fs_meaning 3) (ren : ∀ A, PFn P w K mg base A "renumbered" ["web", "value"] fs_renumbered 3) (res : ∀ A, PFn P w K mg base A "results" ["web"] fs_results 2) :
    FnOk P w K mg base CX0 7 f fd ["script"] (spLaw K) := by
  refine G.ok sc_law (fun vs H Q E ⟨a, ns, e, _⟩ => by rw [e]; rfl) fun cdv A' outer s H vs Q E hr ⟨a, ns, e, hS, hl, k⟩ => ?_
  subst e
  obtain ⟨fa, fdd, hm, hk, hb, hd⟩ := deck
  refine ⟨_, pss_cons (ps_set (i := 1) sc_law.nd rfl (Or.inl rfl) (pe_call hd (hr.mono (by decide)) (by rfl) hm hk hb .nil pass0 (pa_cons (pe_var (i := 0) rfl (Or.inl rfl)) pa_nil))) pss_any, ?_⟩
  refine ⟨.ref a, rfl, a, ns, rfl, hS, hl, fun d c0 c1 H' is js D => ?_⟩
  have f_u_law_pick := pick d c0 c1
  have f_u_law_mixed := mixed d c0 c1
  have f_u_law_web := web d c0 c1
  have f_u_law_worths := wor d c0 c1
  have f_beside := bes (amB d c0 c1)
  have f_meaning := mea (amB d c0 c1)
  have f_renumbered := ren (amB d c0 c1)
  have f_results := res (amB d c0 c1)
  have noS : ∀ i p, ¬ Owns ⟨[.un, .im (.raw (.ref d)), .un, .un, .un, .un, .un, .un, .un, .un, .un, .un, .un, .un, .un, .un, .un], 0⟩ [some (.ref a), some (.ref d), none, none, none, none, none, none, none, none, none, none, none, none, none, none, none] i p := by
    rintro i p ⟨⟨o, h⟩, _⟩
    have h' : [Sl.un, .im (.raw (.ref d)), .un, .un, .un, .un, .un, .un, .un, .un, .un, .un, .un, .un, .un, .un, .un][i]? = some (.ow o) := h
    have hm := List.mem_of_getElem? h'
    simp at hm
  have S : SSt (amB d c0 c1) K (fun _ => none) H' [some (.ref a), some (.ref d), none, none, none, none, none, none, none, none, none, none, none, none, none, none, none] (fun _ => none) H'
      ⟨[.un, .im (.raw (.ref d)), .un, .un, .un, .un, .un, .un, .un, .un, .un, .un, .un, .un, .un, .un, .un], 0⟩ := by
    refine ⟨⟨rfl, fun _ _ e => (by cases e), fun i s hs => ?_, fun i j p h => ?_, ⟨is, js, 0, D⟩, fun _ _ => rfl, fun i p h => ?_⟩, ⟨Ex.refl _, fun _ _ h _ => ⟨h, rfl⟩, fun _ h => h⟩, fun i p h => ?_⟩
    · match i, hs with
      | 0, hs => cases hs; trivial
      | 1, hs => cases hs; exact ⟨.ref d, rfl, rfl⟩
      | i + 2, hs =>
        have : s = .un := by
          have hm := List.mem_of_getElem? (l := [Sl.un, .un, .un, .un, .un, .un, .un, .un, .un, .un, .un, .un, .un, .un, .un]) (i := i) hs
          simpa using hm
        subst this; trivial
    · exact absurd h (noS i p)
    · exact absurd h (noS i p)
    · exact absurd h (noS i p)
  have B : ∃ t w', PSDs (cxOf CX0 P w K mg base ["script", "deck", "turn", "row", "turned", "asked", "passed", "told", "last", "longer", "due", "web", "other", "worths", "more", "step", "worth"] qual (defScope s_law) f cdv A' outer s H E).nox (amB d c0 c1) ((defBody s_law).drop 1) t w' ∧
      w' { nx := fun _ => False, rt := fun r _ => r = vBl true } ⟨[.un, .im (.raw (.ref d)), .un, .un, .un, .un, .un, .un, .un, .un, .un, .un, .un, .un, .un, .un, .un], 0⟩ := by
    obtain ⟨tB, wB, hbB, hwB⟩ := st_B (P := P) (w := w) (K := K) (base := base) (qual := qual) (f := f) (cdv := cdv) (A' := A') (outer := outer) (s := s) (H := H) (E := E) hr T f_u_law_pick f_u_law_mixed f_renumbered f_meaning f_results
    have hbA : PSDs (xLaw P w K mg base qual f cdv A' outer s H E) (amB d c0 c1) loopB _ _ := (psds_cons (psd_asg (ks := [11, 12]) (pd_tup (pad_cons (pd_fn f_u_law_web hr (by decide) (by rfl) (pad_cons (pd_var 1) (pad_cons pd_int pad_nil))) (pad_cons (pd_fn f_u_law_web hr (by decide) (by rfl) (pad_cons (pd_var 1) (pad_cons pd_int pad_nil))) pad_nil))) (pgd_tup (n := 2) rfl (pgds_cons (pgd_name (i := 11) (by decide) sc_law.nd rfl (by first | exact Or.inl rfl | exact Or.inr rfl)) (pgds_cons (pgd_name (i := 12) (by decide) sc_law.nd rfl (by first | exact Or.inl rfl | exact Or.inr rfl)) pgds_nil))))
      (psds_cons (psd_asg (ks := [13, 14]) (pd_tup (pad_cons (pd_fn f_u_law_worths hr (by decide) (by rfl) (pad_cons (pd_var 1) (pad_cons (pd_var 11) pad_nil))) (pad_cons (pd_fn f_u_law_worths hr (by decide) (by rfl) (pad_cons (pd_var 1) (pad_cons (pd_var 12) pad_nil))) pad_nil))) (pgd_tup (n := 2) rfl (pgds_cons (pgd_name (i := 13) (by decide) sc_law.nd rfl (by first | exact Or.inl rfl | exact Or.inr rfl)) (pgds_cons (pgd_name (i := 14) (by decide) sc_law.nd rfl (by first | exact Or.inl rfl | exact Or.inr rfl)) pgds_nil))))
      (psds_cons (psd_if (pdt_cmp (op_ne' hr.units) (pd_fn f_meaning hr (by decide) (by rfl) (pad_cons (pd_fn f_beside hr (by decide) (by rfl) (pad_cons (pd_var 11) (pad_cons (pd_var 12) pad_nil))) (pad_cons (pd_op op_add' (pd_var 13) (pd_var 14)) pad_nil))) (pd_op op_add' (pd_fn f_meaning hr (by decide) (by rfl) (pad_cons (pd_var 11) (pad_cons (pd_var 13) pad_nil))) (pd_fn f_meaning hr (by decide) (by rfl) (pad_cons (pd_var 12) (pad_cons (pd_var 14) pad_nil)))) (nomark _)) (psds_one (psd_ret pd_bl)) psds_nil)
      hbB)))
    refine ⟨_, _, (psds_cons (psd_for (ks := [2]) PassesOwn.never rfl (pid_rng1 (by rfl) T.b_range pd_int) (pgd_name (i := 2) (by decide) sc_law.nd rfl (by first | exact Or.inl rfl | exact Or.inr rfl)) hbA)
      (psds_one (psd_ret pd_bl))), ?_⟩
    refine ⟨by decide, by decide, fun i e => JL d e,
      ⟨.un, .un, .un, .un, .un, .un, .un, .un, .un, .un, .un, .un, .un, .un, .un, trivial, trivial, trivial, trivial, trivial, trivial, trivial, rfl⟩, ?_, fun _ _ => rfl⟩
    rintro i t e ht ⟨x2, x3, x4, x5, x6, x7, x8, x9, x10, x11, x12, x13, x14, x15, x16, h2, h11, h12, h13, h14, h15, h16, rfl⟩
    -- web, other
    refine ⟨⟨h2, trivial⟩, 5, rfl, by decide, by decide, fun w hw => ⟨5, rfl, by decide, by decide, fun o ho => ⟨_, rfl, le5 rfl, ⟨h11, h12, trivial⟩, rfl, rfl, ?_⟩⟩⟩
    have hwl := hw.l1
    have hol := ho.l1
    -- worths, more
    refine ⟨w, rfl, by omega, fun wo hwo hwb => ⟨o, rfl, by omega, fun mo hmo hmb => ⟨_, rfl, le5 rfl, ⟨h13, h14, trivial⟩, rfl, rfl, ?_⟩⟩⟩
    obtain ⟨v, iv, _⟩ := val_ex hw (Nat.le_refl 5) hwo hwb
    obtain ⟨v2, iv2, _⟩ := val_ex ho (Nat.le_refl 5) hmo hmb
    have sw := hw.sw (by decide)
    have so := ho.sw (by decide)
    have sb := bes_sw sw so (by omega)
    have rl := resL_len w
    have rlo := resL_len o
    have lw : (w.map encS).length = w.length := List.length_map ..
    -- beside
    refine ⟨w, o, rfl, by omega, ho.ar64, so.bd, ⟨?_, ?_⟩⟩
    · rw [List.length_map, List.length_map, hwo, hmo]
      have h1 := List.length_filter_le (fun x : Sp1 => decide (x.1 = .inp)) w
      have h2 := List.length_filter_le (fun x : Sp1 => decide (x.1 = .inp)) o
      unfold inpN
      omega
    refine ⟨besW w o, wo ++ mo, _, by rw [List.map_append]; rfl, sb.tok, sb.wok, bes_val sw so hwo iv iv2, w, wo, v, rfl, sw.tok, sw.wok, iv, o, mo, v2, rfl, so.tok, so.wok, iv2, ?_, ?_⟩
    · rw [List.length_map, List.length_map]; omega
    refine ⟨shaped_nice (n := 1) (nice_tup nice_meanL), shaped_nice (n := 1) (nice_tup (nice_app nice_meanL nice_meanL)), ite_b (c := false) ?_ (fun q => by cases q) (fun _ => ?_)⟩
    · exact ne_same (n := 1) (nice_tup (nice_app nice_meanL nice_meanL)) (congrArg PyData.tuple (bes_mean sw so))
    exact hwB _ w wo v _ _ _ _ _ _ _ _ _ _ _ _ _ hw hwo iv trivial trivial trivial h15 h16 fun _ h => h
  obtain ⟨t, w', hb, hw⟩ := B
  exact ⟨t, hb.ps, hb.sr _ _ _ _ _ _ _ _ S hw ⟨fun _ _ _ _ _ _ q => q.elim, fun v r F'' H'' n _ _ _ _ rv q => by subst q; cases rv; exact k H'', fun _ _ _ _ _ _ q => q.elim, fun _ _ _ _ _ _ q => q.elim⟩⟩
end
end K4

namespace K4
open PySem L2 PL
theorem all_mk {l : PySem.W.OpenLaw} {w : World} {K : PySem.W.Frag} {h : Heap} {mg : Str → Option Value} {fa f0 f1 f2 f3 f4 f5 f6 f7 f8 f9 f10 f11 f12 f13 f14 f15 f16 f17 f18 f19 f20 f21 f22 : Addr} (X : K.In h) (G : h.Ns mainGlobals mg) (hfa : mg "law" = some (.ref fa))
    {od0 an0 od1 an1 od2 an2 od3 an3 od4 an4 od5 an5 od6 an6 od7 an7 od8 an8 od9 an9 od10 an10 od11 an11 od12 an12 od13 an13 od14 an14 od15 an15 od16 an16 od17 an17 od18 an18 od19 an19 od20 an20 od21 an21 od22 an22 : Option Addr} {sl0 sl1 sl2 sl3 sl4 sl5 sl6 sl7 sl8 sl9 sl10 sl11 sl12 sl13 sl14 sl15 sl16 sl17 sl18 sl19 sl20 sl21 sl22 : Array (Option Value)} {oc0 kV0 dc0 pm0 cd0 ct0 oc1 kV1 dc1 pm1 cd1 ct1 oc2 kV2 dc2 pm2 cd2 ct2 oc3 kV3 dc3 pm3 cd3 ct3 oc4 kV4 dc4 pm4 cd4 ct4 oc5 kV5 dc5 pm5 cd5 ct5 oc6 kV6 dc6 pm6 cd6 ct6 oc7 kV7 dc7 pm7 cd7 ct7 oc8 kV8 dc8 pm8 cd8 ct8 oc9 kV9 dc9 pm9 cd9 ct9 oc10 kV10 dc10 pm10 cd10 ct10 oc11 kV11 dc11 pm11 cd11 ct11 oc12 kV12 dc12 pm12 cd12 ct12 oc13 kV13 dc13 pm13 cd13 ct13 oc14 kV14 dc14 pm14 cd14 ct14 oc15 kV15 dc15 pm15 cd15 ct15 oc16 kV16 dc16 pm16 cd16 ct16 oc17 kV17 dc17 pm17 cd17 ct17 oc18 kV18 dc18 pm18 cd18 ct18 oc19 kV19 dc19 pm19 cd19 ct19 oc20 kV20 dc20 pm20 cd20 ct20 oc21 kV21 dc21 pm21 cd21 ct21 oc22 kV22 dc22 pm22 cd22 ct22 : Value}
    (a0 : PySem.W.nsIn K mainGlobals "is_integer" = some (some (.ref f0))) (l0 : K.lookup f0 = some ⟨oc0, od0, .func (PySem.W.fnOf "is_integer" "is_integer" (defArgs s_is_integer) (defBody s_is_integer) (defScope s_is_integer) .none kV0 dc0 pm0 an0 cd0 ct0), sl0⟩) (c0 : PySem.W.codeIn K cd0 "is_integer" = true) (k0 : PySem.W.keepIn K (.ref f0) = true)
    (a1 : PySem.W.nsIn K mainGlobals "ties" = some (some (.ref f1))) (l1 : K.lookup f1 = some ⟨oc1, od1, .func (PySem.W.fnOf "ties" "ties" (defArgs s_ties) (defBody s_ties) (defScope s_ties) .none kV1 dc1 pm1 an1 cd1 ct1), sl1⟩) (c1 : PySem.W.codeIn K cd1 "ties" = true) (k1 : PySem.W.keepIn K (.ref f1) = true)
    (a2 : PySem.W.nsIn K mainGlobals "results" = some (some (.ref f2))) (l2 : K.lookup f2 = some ⟨oc2, od2, .func (PySem.W.fnOf "results" "results" (defArgs s_results) (defBody s_results) (defScope s_results) .none kV2 dc2 pm2 an2 cd2 ct2), sl2⟩) (c2 : PySem.W.codeIn K cd2 "results" = true) (k2 : PySem.W.keepIn K (.ref f2) = true)
    (a3 : PySem.W.nsIn K mainGlobals "rank_of" = some (some (.ref f3))) (l3 : K.lookup f3 = some ⟨oc3, od3, .func (PySem.W.fnOf "rank_of" "rank_of" (defArgs s_rank_of) (defBody s_rank_of) (defScope s_rank_of) .none kV3 dc3 pm3 an3 cd3 ct3), sl3⟩) (c3 : PySem.W.codeIn K cd3 "rank_of" = true) (k3 : PySem.W.keepIn K (.ref f3) = true)
    (a4 : PySem.W.nsIn K mainGlobals "worth_of" = some (some (.ref f4))) (l4 : K.lookup f4 = some ⟨oc4, od4, .func (PySem.W.fnOf "worth_of" "worth_of" (defArgs s_worth_of) (defBody s_worth_of) (defScope s_worth_of) .none kV4 dc4 pm4 an4 cd4 ct4), sl4⟩) (c4 : PySem.W.codeIn K cd4 "worth_of" = true) (k4 : PySem.W.keepIn K (.ref f4) = true)
    (a5 : PySem.W.nsIn K mainGlobals "own_worth" = some (some (.ref f5))) (l5 : K.lookup f5 = some ⟨oc5, od5, .func (PySem.W.fnOf "own_worth" "own_worth" (defArgs s_own_worth) (defBody s_own_worth) (defScope s_own_worth) .none kV5 dc5 pm5 an5 cd5 ct5), sl5⟩) (c5 : PySem.W.codeIn K cd5 "own_worth" = true) (k5 : PySem.W.keepIn K (.ref f5) = true)
    (a6 : PySem.W.nsIn K mainGlobals "meaning" = some (some (.ref f6))) (l6 : K.lookup f6 = some ⟨oc6, od6, .func (PySem.W.fnOf "meaning" "meaning" (defArgs s_meaning) (defBody s_meaning) (defScope s_meaning) .none kV6 dc6 pm6 an6 cd6 ct6), sl6⟩) (c6 : PySem.W.codeIn K cd6 "meaning" = true) (k6 : PySem.W.keepIn K (.ref f6) = true)
    (a7 : PySem.W.nsIn K mainGlobals "moved" = some (some (.ref f7))) (l7 : K.lookup f7 = some ⟨oc7, od7, .func (PySem.W.fnOf "moved" "moved" (defArgs s_moved) (defBody s_moved) (defScope s_moved) .none kV7 dc7 pm7 an7 cd7 ct7), sl7⟩) (c7 : PySem.W.codeIn K cd7 "moved" = true) (k7 : PySem.W.keepIn K (.ref f7) = true)
    (a8 : PySem.W.nsIn K mainGlobals "beside" = some (some (.ref f8))) (l8 : K.lookup f8 = some ⟨oc8, od8, .func (PySem.W.fnOf "beside" "beside" (defArgs s_beside) (defBody s_beside) (defScope s_beside) .none kV8 dc8 pm8 an8 cd8 ct8), sl8⟩) (c8 : PySem.W.codeIn K cd8 "beside" = true) (k8 : PySem.W.keepIn K (.ref f8) = true)
    (a9 : PySem.W.nsIn K mainGlobals "is_row" = some (some (.ref f9))) (l9 : K.lookup f9 = some ⟨oc9, od9, .func (PySem.W.fnOf "is_row" "is_row" (defArgs s_is_row) (defBody s_is_row) (defScope s_is_row) .none kV9 dc9 pm9 an9 cd9 ct9), sl9⟩) (c9 : PySem.W.codeIn K cd9 "is_row" = true) (k9 : PySem.W.keepIn K (.ref f9) = true)
    (a10 : PySem.W.nsIn K mainGlobals "renumbered" = some (some (.ref f10))) (l10 : K.lookup f10 = some ⟨oc10, od10, .func (PySem.W.fnOf "renumbered" "renumbered" (defArgs s_renumbered) (defBody s_renumbered) (defScope s_renumbered) .none kV10 dc10 pm10 an10 cd10 ct10), sl10⟩) (c10 : PySem.W.codeIn K cd10 "renumbered" = true) (k10 : PySem.W.keepIn K (.ref f10) = true)
    (a11 : PySem.W.nsIn K mainGlobals "_law_deck" = some (some (.ref f11))) (l11 : K.lookup f11 = some ⟨oc11, od11, .func (PySem.W.fnOf "_law_deck" "_law_deck" (defArgs s_u_law_deck) (defBody s_u_law_deck) (defScope s_u_law_deck) .none kV11 dc11 pm11 an11 cd11 ct11), sl11⟩) (c11 : PySem.W.codeIn K cd11 "_law_deck" = true) (k11 : PySem.W.keepIn K (.ref f11) = true)
    (a12 : PySem.W.nsIn K mainGlobals "_law_draw" = some (some (.ref f12))) (l12 : K.lookup f12 = some ⟨oc12, od12, .func (PySem.W.fnOf "_law_draw" "_law_draw" (defArgs s_u_law_draw) (defBody s_u_law_draw) (defScope s_u_law_draw) .none kV12 dc12 pm12 an12 cd12 ct12), sl12⟩) (c12 : PySem.W.codeIn K cd12 "_law_draw" = true) (k12 : PySem.W.keepIn K (.ref f12) = true)
    (a13 : PySem.W.nsIn K mainGlobals "_law_pick" = some (some (.ref f13))) (l13 : K.lookup f13 = some ⟨oc13, od13, .func (PySem.W.fnOf "_law_pick" "_law_pick" (defArgs s_u_law_pick) (defBody s_u_law_pick) (defScope s_u_law_pick) .none kV13 dc13 pm13 an13 cd13 ct13), sl13⟩) (c13 : PySem.W.codeIn K cd13 "_law_pick" = true) (k13 : PySem.W.keepIn K (.ref f13) = true)
    (a14 : PySem.W.nsIn K mainGlobals "_law_mixed" = some (some (.ref f14))) (l14 : K.lookup f14 = some ⟨oc14, od14, .func (PySem.W.fnOf "_law_mixed" "_law_mixed" (defArgs s_u_law_mixed) (defBody s_u_law_mixed) (defScope s_u_law_mixed) .none kV14 dc14 pm14 an14 cd14 ct14), sl14⟩) (c14 : PySem.W.codeIn K cd14 "_law_mixed" = true) (k14 : PySem.W.keepIn K (.ref f14) = true)
    (a15 : PySem.W.nsIn K mainGlobals "_law_kind" = some (some (.ref f15))) (l15 : K.lookup f15 = some ⟨oc15, od15, .func (PySem.W.fnOf "_law_kind" "_law_kind" (defArgs s_u_law_kind) (defBody s_u_law_kind) (defScope s_u_law_kind) .none kV15 dc15 pm15 an15 cd15 ct15), sl15⟩) (c15 : PySem.W.codeIn K cd15 "_law_kind" = true) (k15 : PySem.W.keepIn K (.ref f15) = true)
    (a16 : PySem.W.nsIn K mainGlobals "_law_step" = some (some (.ref f16))) (l16 : K.lookup f16 = some ⟨oc16, od16, .func (PySem.W.fnOf "_law_step" "_law_step" (defArgs s_u_law_step) (defBody s_u_law_step) (defScope s_u_law_step) .none kV16 dc16 pm16 an16 cd16 ct16), sl16⟩) (c16 : PySem.W.codeIn K cd16 "_law_step" = true) (k16 : PySem.W.keepIn K (.ref f16) = true)
    (a17 : PySem.W.nsIn K mainGlobals "_law_grown" = some (some (.ref f17))) (l17 : K.lookup f17 = some ⟨oc17, od17, .func (PySem.W.fnOf "_law_grown" "_law_grown" (defArgs s_u_law_grown) (defBody s_u_law_grown) (defScope s_u_law_grown) .none kV17 dc17 pm17 an17 cd17 ct17), sl17⟩) (c17 : PySem.W.codeIn K cd17 "_law_grown" = true) (k17 : PySem.W.keepIn K (.ref f17) = true)
    (a18 : PySem.W.nsIn K mainGlobals "_law_numbered" = some (some (.ref f18))) (l18 : K.lookup f18 = some ⟨oc18, od18, .func (PySem.W.fnOf "_law_numbered" "_law_numbered" (defArgs s_u_law_numbered) (defBody s_u_law_numbered) (defScope s_u_law_numbered) .none kV18 dc18 pm18 an18 cd18 ct18), sl18⟩) (c18 : PySem.W.codeIn K cd18 "_law_numbered" = true) (k18 : PySem.W.keepIn K (.ref f18) = true)
    (a19 : PySem.W.nsIn K mainGlobals "_law_rowed" = some (some (.ref f19))) (l19 : K.lookup f19 = some ⟨oc19, od19, .func (PySem.W.fnOf "_law_rowed" "_law_rowed" (defArgs s_u_law_rowed) (defBody s_u_law_rowed) (defScope s_u_law_rowed) .none kV19 dc19 pm19 an19 cd19 ct19), sl19⟩) (c19 : PySem.W.codeIn K cd19 "_law_rowed" = true) (k19 : PySem.W.keepIn K (.ref f19) = true)
    (a20 : PySem.W.nsIn K mainGlobals "_law_web" = some (some (.ref f20))) (l20 : K.lookup f20 = some ⟨oc20, od20, .func (PySem.W.fnOf "_law_web" "_law_web" (defArgs s_u_law_web) (defBody s_u_law_web) (defScope s_u_law_web) .none kV20 dc20 pm20 an20 cd20 ct20), sl20⟩) (c20 : PySem.W.codeIn K cd20 "_law_web" = true) (k20 : PySem.W.keepIn K (.ref f20) = true)
    (a21 : PySem.W.nsIn K mainGlobals "_law_worths" = some (some (.ref f21))) (l21 : K.lookup f21 = some ⟨oc21, od21, .func (PySem.W.fnOf "_law_worths" "_law_worths" (defArgs s_u_law_worths) (defBody s_u_law_worths) (defScope s_u_law_worths) .none kV21 dc21 pm21 an21 cd21 ct21), sl21⟩) (c21 : PySem.W.codeIn K cd21 "_law_worths" = true) (k21 : PySem.W.keepIn K (.ref f21) = true)
    (a22 : PySem.W.nsIn K mainGlobals "law" = some (some (.ref f22))) (l22 : K.lookup f22 = some ⟨oc22, od22, .func (PySem.W.fnOf "law" "law" (defArgs s_law) (defBody s_law) (defScope s_law) .none kV22 dc22 pm22 an22 cd22 ct22), sl22⟩) (c22 : PySem.W.codeIn K cd22 "law" = true) (k22 : PySem.W.keepIn K (.ref f22) = true)
    (z_all : PySem.W.nsIn K mainGlobals "all" = some none)
    (z_bool : PySem.W.nsIn K mainGlobals "bool" = some none)
    (z_enumerate : PySem.W.nsIn K mainGlobals "enumerate" = some none)
    (z_int : PySem.W.nsIn K mainGlobals "int" = some none)
    (z_isinstance : PySem.W.nsIn K mainGlobals "isinstance" = some none)
    (z_len : PySem.W.nsIn K mainGlobals "len" = some none)
    (z_range : PySem.W.nsIn K mainGlobals "range" = some none)
    (z_set : PySem.W.nsIn K mainGlobals "set" = some none)
    (z_sorted : PySem.W.nsIn K mainGlobals "sorted" = some none)
    (z_tuple : PySem.W.nsIn K mainGlobals "tuple" = some none)
    (z_list : PySem.W.nsIn K mainGlobals "list" = some none)
    (z_max : PySem.W.nsIn K mainGlobals "max" = some none)
    (z_dict : PySem.W.nsIn K mainGlobals "dict" = some none)
    (z_zip : PySem.W.nsIn K mainGlobals "zip" = some none)
    (z_abs : PySem.W.nsIn K mainGlobals "abs" = some none)
    {t_MAX_STEPS : Tok} (g_MAX_STEPS : PySem.W.nsIn K mainGlobals "MAX_STEPS" = some (some (.int 10 t_MAX_STEPS)))
    {t_IN : Tok} (g_IN : PySem.W.nsIn K mainGlobals "IN" = some (some (.str "in" t_IN)))
    {t_NEG : Tok} (g_NEG : PySem.W.nsIn K mainGlobals "NEG" = some (some (.str "neg" t_NEG)))
    {t_PICK : Tok} (g_PICK : PySem.W.nsIn K mainGlobals "PICK" = some (some (.str "pick" t_PICK))) :
    ∃ fd : FuncData, (∀ (s : Shared) (v : Value), BindsTo s fd ⟨[v], []⟩ [("script", v)]) ∧ ∀ base : Heap, K.In base → base.Ns mainGlobals mg → FnOk l.prog w K mg base CX0 7 fa fd ["script"] (spLaw K) := by
  have e := hfa.symm.trans (PySem.W.mg_of X G a22)
  cases e
  have b_all := PySem.W.mg_none_of X G z_all
  have b_bool := PySem.W.mg_none_of X G z_bool
  have b_enumerate := PySem.W.mg_none_of X G z_enumerate
  have b_int := PySem.W.mg_none_of X G z_int
  have b_isinstance := PySem.W.mg_none_of X G z_isinstance
  have b_len := PySem.W.mg_none_of X G z_len
  have b_range := PySem.W.mg_none_of X G z_range
  have b_set := PySem.W.mg_none_of X G z_set
  have b_sorted := PySem.W.mg_none_of X G z_sorted
  have b_tuple := PySem.W.mg_none_of X G z_tuple
  have b_list := PySem.W.mg_none_of X G z_list
  have b_max := PySem.W.mg_none_of X G z_max
  have b_dict := PySem.W.mg_none_of X G z_dict
  have b_zip := PySem.W.mg_none_of X G z_zip
  have b_abs := PySem.W.mg_none_of X G z_abs
  have h_MAX_STEPS : ∃ t, mg "MAX_STEPS" = some (.int 10 t) := ⟨_, PySem.W.mg_of X G g_MAX_STEPS⟩
  have h_IN : ∃ t, mg "IN" = some (.str "in" t) := ⟨_, PySem.W.mg_of X G g_IN⟩
  have h_NEG : ∃ t, mg "NEG" = some (.str "neg" t) := ⟨_, PySem.W.mg_of X G g_NEG⟩
  have h_PICK : ∃ t, mg "PICK" = some (.str "pick" t) := ⟨_, PySem.W.mg_of X G g_PICK⟩
  have F0 := fun_mk (st := s_is_integer) l0 c0 k0
  have F1 := fun_mk (st := s_ties) l1 c1 k1
  have F2 := fun_mk (st := s_results) l2 c2 k2
  have F3 := fun_mk (st := s_rank_of) l3 c3 k3
  have F4 := fun_mk (st := s_worth_of) l4 c4 k4
  have F5 := fun_mk (st := s_own_worth) l5 c5 k5
  have F6 := fun_mk (st := s_meaning) l6 c6 k6
  have F7 := fun_mk (st := s_moved) l7 c7 k7
  have F8 := fun_mk (st := s_beside) l8 c8 k8
  have F9 := fun_mk (st := s_is_row) l9 c9 k9
  have F10 := fun_mk (st := s_renumbered) l10 c10 k10
  have F11 := fun_mk (st := s_u_law_deck) l11 c11 k11
  have F12 := fun_mk (st := s_u_law_draw) l12 c12 k12
  have F13 := fun_mk (st := s_u_law_pick) l13 c13 k13
  have F14 := fun_mk (st := s_u_law_mixed) l14 c14 k14
  have F15 := fun_mk (st := s_u_law_kind) l15 c15 k15
  have F16 := fun_mk (st := s_u_law_step) l16 c16 k16
  have F17 := fun_mk (st := s_u_law_grown) l17 c17 k17
  have F18 := fun_mk (st := s_u_law_numbered) l18 c18 k18
  have F19 := fun_mk (st := s_u_law_rowed) l19 c19 k19
  have F20 := fun_mk (st := s_u_law_web) l20 c20 k20
  have F21 := fun_mk (st := s_u_law_worths) l21 c21 k21
  have F22 := fun_mk (st := s_law) l22 c22 k22
  have Txt : Txt mg := ⟨b_all, b_bool, b_enumerate, b_int, b_isinstance, b_len, b_range, b_set, b_sorted, b_tuple, h_MAX_STEPS, h_IN, h_NEG, h_PICK⟩
  have Txt2 : Txt2 mg := ⟨b_len, b_list, b_max, b_range, b_tuple⟩
  have Txt3 : Txt3 mg := ⟨b_dict, b_len, b_list, b_range, b_tuple, b_zip⟩
  refine ⟨PySem.W.fnOf "law" "law" (defArgs s_law) (defBody s_law) (defScope s_law) .none kV22 dc22 pm22 an22 cd22 ct22, fun s v => .of_eq rfl, fun base _ _ => ?_⟩
  have p0 : ∀ (A : Amb), PFn l.prog w K mg base A "is_integer" ["value", "least", "most"] fs_is_integer 1 := fun A => pfn_mk F0 (PySem.W.mg_of X G a0) (fun _ _ _ _ _ _ us hl => match us, hl with | [_, _, _], _ => rfl) (ok_is_integer F0 Txt)
  have p1 : ∀ (A : Amb), PFn l.prog w K mg base A "ties" ["web"] fs_ties 1 := fun A => pfn_mk F1 (PySem.W.mg_of X G a1) (fun _ _ _ _ _ _ us hl => match us, hl with | [_], _ => rfl) (ok_ties F1 Txt)
  have p2 : ∀ (A : Amb), PFn l.prog w K mg base A "results" ["web"] fs_results 2 := fun A => pfn_mk F2 (PySem.W.mg_of X G a2) (fun _ _ _ _ _ _ us hl => match us, hl with | [_], _ => rfl) (ok_results F2 Txt (p1 A))
  have p3 : ∀ (A : Amb), PFn l.prog w K mg base A "rank_of" ["web", "step"] fs_rank_of 1 := fun A => pfn_mk F3 (PySem.W.mg_of X G a3) (fun _ _ _ _ _ _ us hl => match us, hl with | [_, _], _ => rfl) (ok_rank_of F3 Txt)
  have p4 : ∀ (A : Amb), PFn l.prog w K mg base A "worth_of" ["kind", "own", "worths"] fs_worth_of 1 := fun A => pfn_mk F4 (PySem.W.mg_of X G a4) (fun _ _ _ _ _ _ us hl => match us, hl with | [_, _, _], _ => rfl) (ok_worth_of F4 Txt)
  have p5 : ∀ (A : Amb), PFn l.prog w K mg base A "own_worth" ["web", "step", "worths"] fs_own_worth 2 := fun A => pfn_mk F5 (PySem.W.mg_of X G a5) (fun _ _ _ _ _ _ us hl => match us, hl with | [_, _, _], _ => rfl) (ok_own_worth F5 Txt (p3 A))
  have p6 : ∀ (A : Amb), PFn l.prog w K mg base A "meaning" ["web", "worths"] fs_meaning 3 := fun A => pfn_mk F6 (PySem.W.mg_of X G a6) (fun _ _ _ _ _ _ us hl => match us, hl with | [_, _], _ => rfl) (ok_meaning F6 Txt (p2 A) (p5 A) (p4 A))
  have p7 : ∀ (A : Amb), PFn l.prog w K mg base A "moved" ["step", "numbers"] fs_moved 1 := fun A => pfn_mk F7 (PySem.W.mg_of X G a7) (fun _ _ _ _ _ _ us hl => match us, hl with | [_, _], _ => rfl) (ok_moved F7 Txt)
  have p8 : ∀ (A : Amb), PFn l.prog w K mg base A "beside" ["web", "other"] fs_beside 2 := fun A => pfn_mk F8 (PySem.W.mg_of X G a8) (fun _ _ _ _ _ _ us hl => match us, hl with | [_, _], _ => rfl) (ok_beside F8 Txt (p7 A))
  have p9 : ∀ (A : Amb), PFn l.prog w K mg base A "is_row" ["web", "value"] fs_is_row 2 := fun A => pfn_mk F9 (PySem.W.mg_of X G a9) (fun _ _ _ _ _ _ us hl => match us, hl with | [_, _], _ => rfl) (ok_is_row F9 Txt (p0 A))
  have p10 : ∀ (A : Amb), PFn l.prog w K mg base A "renumbered" ["web", "value"] fs_renumbered 3 := fun A => pfn_mk F10 (PySem.W.mg_of X G a10) (fun _ _ _ _ _ _ us hl => match us, hl with | [_, _], _ => rfl) (ok_renumbered F10 Txt (p9 A) (p7 A))
  have p12 : ∀ (d c0 c1 : Addr), PFn l.prog w K mg base (amB d c0 c1) "_law_draw" ["deck", "bound"] (fs_draw d) 1 := fun d c0 c1 => pfn_mk F12 (PySem.W.mg_of X G a12) (fun _ _ _ _ _ _ us hl => match us, hl with | [_, _], _ => rfl) (ok_draw F12 Txt b_int b_len d c0 c1)
  have p13 : ∀ (d c0 c1 : Addr), PFn l.prog w K mg base (amB d c0 c1) "_law_pick" ["deck", "items"] (fs_pick d) 2 := fun d c0 c1 => pfn_mk F13 (PySem.W.mg_of X G a13) (fun _ _ _ _ _ _ us hl => match us, hl with | [_, _], _ => rfl) (ok_pick F13 Txt2 d c0 c1 (p12 d c0 c1))
  have p14 : ∀ (d c0 c1 : Addr), PFn l.prog w K mg base (amB d c0 c1) "_law_mixed" ["deck", "items"] (fs_mixed d) 2 := fun d c0 c1 => pfn_mk F14 (PySem.W.mg_of X G a14) (fun _ _ _ _ _ _ us hl => match us, hl with | [_, _], _ => rfl) (ok_mixed F14 Txt2 d c0 c1 (p12 d c0 c1))
  have p15 : ∀ (d c0 c1 : Addr), PFn l.prog w K mg base (amB d c0 c1) "_law_kind" ["deck", "many"] (fs_kind d) 3 := fun d c0 c1 => pfn_mk F15 (PySem.W.mg_of X G a15) (fun _ _ _ _ _ _ us hl => match us, hl with | [_, _], _ => rfl) (ok_kind F15 Txt2 d c0 c1 (p13 d c0 c1))
  have p16 : ∀ (d c0 c1 : Addr), PFn l.prog w K mg base (amB d c0 c1) "_law_step" ["deck", "at", "near"] (fs_step d) 4 := fun d c0 c1 => pfn_mk F16 (PySem.W.mg_of X G a16) (fun _ _ _ _ _ _ us hl => match us, hl with | [_, _, _], _ => rfl) (ok_step F16 Txt2 d c0 c1 (p13 d c0 c1) (p15 d c0 c1))
  have p17 : ∀ (d c0 c1 : Addr), PFn l.prog w K mg base (amB d c0 c1) "_law_grown" ["deck", "most"] (fs_grown d) 5 := fun d c0 c1 => pfn_mk F17 (PySem.W.mg_of X G a17) (fun _ _ _ _ _ _ us hl => match us, hl with | [_, _], _ => rfl) (ok_grown F17 Txt2 d c0 c1 (p12 d c0 c1) (p13 d c0 c1) (p16 d c0 c1))
  have p18 : ∀ (A : Amb), PFn l.prog w K mg base A "_law_numbered" ["web", "row"] fs_numbered 1 := fun A => pfn_mk F18 (PySem.W.mg_of X G a18) (fun _ _ _ _ _ _ us hl => match us, hl with | [_, _], _ => rfl) (ok_numbered F18 Txt2)
  have p19 : ∀ (d c0 c1 : Addr), PFn l.prog w K mg base (amB d c0 c1) "_law_rowed" ["deck", "most"] (fs_grown d) 4 := fun d c0 c1 => pfn_mk F19 (PySem.W.mg_of X G a19) (fun _ _ _ _ _ _ us hl => match us, hl with | [_, _], _ => rfl) (ok_rowed F19 Txt2 d c0 c1 (p12 d c0 c1) (p13 d c0 c1) (p15 d c0 c1) (p14 d c0 c1))
  have p20 : ∀ (d c0 c1 : Addr), PFn l.prog w K mg base (amB d c0 c1) "_law_web" ["deck", "most"] (fs_web d) 6 := fun d c0 c1 => pfn_mk F20 (PySem.W.mg_of X G a20) (fun _ _ _ _ _ _ us hl => match us, hl with | [_, _], _ => rfl) (ok_web F20 Txt2 d c0 c1 (p12 d c0 c1) (p17 d c0 c1) (p19 d c0 c1) (p14 d c0 c1) (p18 (amB d c0 c1)))
  have p21 : ∀ (d c0 c1 : Addr), PFn l.prog w K mg base (amB d c0 c1) "_law_worths" ["deck", "web"] (fs_worths d) 3 := fun d c0 c1 => pfn_mk F21 (PySem.W.mg_of X G a21) (fun _ _ _ _ _ _ us hl => match us, hl with | [_, _], _ => rfl) (ok_worths F21 Txt2 d c0 c1 (p12 d c0 c1) (p13 d c0 c1))
  exact ok_law F22 Txt3 ⟨_, _, PySem.W.mg_of X G a11, F11.kp, F11.binds (fun _ _ _ _ _ _ us hl => match us, hl with | [_], _ => rfl), ok_deck F11 b_abs b_len⟩ p13 p14 p20 p21 p8 p6 p10 p2
theorem walk {l : PySem.W.OpenLaw} {q : Program} {loose : List Str} {XP : (Str → Option Value) → Heap → Prop} {YP : World → Heap → Prop} {d : DefRec} {K : Params → PySem.W.Frag} (hn : l.most = some 63) (hdf : d.params.defaults = [])
    (hY : ∀ (w : World) (h : Heap), YP w h → (K w.params).In h)
    (F : ∀ (w : World) (mg : Str → Option Value) (fa : Addr) (h : Heap), (K w.params).In h → h.Ns mainGlobals mg → mg d.name = some (.ref fa) →
      ∃ fd : FuncData, (∀ (s : Shared) (u : Value), BindsTo s fd ⟨[u], []⟩ [("script", u)]) ∧ ∀ base : Heap, (K w.params).In base → base.Ns mainGlobals mg → FnOk l.prog w (K w.params) mg base CX0 7 fa fd ["script"] (spLaw (K w.params))) :
    PySem.W.WalkO q loose XP YP l.row.toRowW d [] (fun f vs => PySem.call f vs) :=
  L2.walk_of (n := 63) (k := 7) (x := "script") (CX := fun _ => CX0) (sp := fun w => spLaw (K w.params)) hn (by decide) hdf ⟨rfl, by decide, by decide⟩ hY F (fun _ _ a ns hl _ hS => ⟨a, ns, rfl, hS, hl, fun _ => rfl⟩) fun _ _ _ _ _ z => z
end K4
open PySem PySem.W PyProof.Rows
set_option maxRecDepth 100000 in
set_option maxHeartbeats 0 in
theorem PySem.Challenge.cw_pilepass_k04_whole_meanings_of_changed_w_holds : PySem.Challenge.rw_pilepass_k04_whole_meanings_of_changed_w.Holds := by
  w_on; o_law; k_head; (case hw => w_witness2)
  k_fill
  refine K4.walk (l := PySem.Challenge.rw_pilepass_k04_whole_meanings_of_changed_w) rfl rfl (fun w h Y => PySem.W.kIn_of Y) ?F
  case F =>
    intro w mg fa h KX G hmg
    refine' K4.all_mk KX G hmg ?a0 ?l0 ?c0 ?k0 ?a1 ?l1 ?c1 ?k1 ?a2 ?l2 ?c2 ?k2 ?a3 ?l3 ?c3 ?k3 ?a4 ?l4 ?c4 ?k4 ?a5 ?l5 ?c5 ?k5 ?a6 ?l6 ?c6 ?k6 ?a7 ?l7 ?c7 ?k7 ?a8 ?l8 ?c8 ?k8 ?a9 ?l9 ?c9 ?k9 ?a10 ?l10 ?c10 ?k10 ?a11 ?l11 ?c11 ?k11 ?a12 ?l12 ?c12 ?k12 ?a13 ?l13 ?c13 ?k13 ?a14 ?l14 ?c14 ?k14 ?a15 ?l15 ?c15 ?k15 ?a16 ?l16 ?c16 ?k16 ?a17 ?l17 ?c17 ?k17 ?a18 ?l18 ?c18 ?k18 ?a19 ?l19 ?c19 ?k19 ?a20 ?l20 ?c20 ?k20 ?a21 ?l21 ?c21 ?k21 ?a22 ?l22 ?c22 ?k22 ?z_all ?z_bool ?z_enumerate ?z_int ?z_isinstance ?z_len ?z_range ?z_set ?z_sorted ?z_tuple ?z_list ?z_max ?z_dict ?z_zip ?z_abs ?g_MAX_STEPS ?g_IN ?g_NEG ?g_PICK
    (case a0 => k_is)
    (case l0 => k_is)
    (case c0 => k_is)
    (case k0 => k_is)
    (case a1 => k_is)
    (case l1 => k_is)
    (case c1 => k_is)
    (case k1 => k_is)
    (case a2 => k_is)
    (case l2 => k_is)
    (case c2 => k_is)
    (case k2 => k_is)
    (case a3 => k_is)
    (case l3 => k_is)
    (case c3 => k_is)
    (case k3 => k_is)
    (case a4 => k_is)
    (case l4 => k_is)
    (case c4 => k_is)
    (case k4 => k_is)
    (case a5 => k_is)
    (case l5 => k_is)
    (case c5 => k_is)
    (case k5 => k_is)
    (case a6 => k_is)
    (case l6 => k_is)
    (case c6 => k_is)
    (case k6 => k_is)
    (case a7 => k_is)
    (case l7 => k_is)
    (case c7 => k_is)
    (case k7 => k_is)
    (case a8 => k_is)
    (case l8 => k_is)
    (case c8 => k_is)
    (case k8 => k_is)
    (case a9 => k_is)
    (case l9 => k_is)
    (case c9 => k_is)
    (case k9 => k_is)
    (case a10 => k_is)
    (case l10 => k_is)
    (case c10 => k_is)
    (case k10 => k_is)
    (case a11 => k_is)
    (case l11 => k_is)
    (case c11 => k_is)
    (case k11 => k_is)
    (case a12 => k_is)
    (case l12 => k_is)
    (case c12 => k_is)
    (case k12 => k_is)
    (case a13 => k_is)
    (case l13 => k_is)
    (case c13 => k_is)
    (case k13 => k_is)
    (case a14 => k_is)
    (case l14 => k_is)
    (case c14 => k_is)
    (case k14 => k_is)
    (case a15 => k_is)
    (case l15 => k_is)
    (case c15 => k_is)
    (case k15 => k_is)
    (case a16 => k_is)
    (case l16 => k_is)
    (case c16 => k_is)
    (case k16 => k_is)
    (case a17 => k_is)
    (case l17 => k_is)
    (case c17 => k_is)
    (case k17 => k_is)
    (case a18 => k_is)
    (case l18 => k_is)
    (case c18 => k_is)
    (case k18 => k_is)
    (case a19 => k_is)
    (case l19 => k_is)
    (case c19 => k_is)
    (case k19 => k_is)
    (case a20 => k_is)
    (case l20 => k_is)
    (case c20 => k_is)
    (case k20 => k_is)
    (case a21 => k_is)
    (case l21 => k_is)
    (case c21 => k_is)
    (case k21 => k_is)
    (case a22 => k_is)
    (case l22 => k_is)
    (case c22 => k_is)
    (case k22 => k_is)
    (case z_all => k_is)
    (case z_bool => k_is)
    (case z_enumerate => k_is)
    (case z_int => k_is)
    (case z_isinstance => k_is)
    (case z_len => k_is)
    (case z_range => k_is)
    (case z_set => k_is)
    (case z_sorted => k_is)
    (case z_tuple => k_is)
    (case z_list => k_is)
    (case z_max => k_is)
    (case z_dict => k_is)
    (case z_zip => k_is)
    (case z_abs => k_is)
    (case g_MAX_STEPS => k_is)
    (case g_IN => k_is)
    (case g_NEG => k_is)
    (case g_PICK => k_is)
