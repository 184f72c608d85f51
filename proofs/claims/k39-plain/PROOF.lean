import PyProof.Rows.All
import Wide.All
import OpenK.AllK
import Wide.FinOn
import HandS.ForMost
import HandS.ForExc
import HandS.TupAny
import KE.KIndexOf
import HandS.IsInst
import HandS.Deep
import HandS.Wide
import HandS.WideBits
import HandS.Style
import HandS.Conv
import HandS.Flow
import KE.GoesMore
import KE.GoesEnum
import HandS.Zip
import HandS.TupSets
import HandS.SetFor
import KE.KDictZip
import KE.KTurns
import HandS.ExcOwn
import HandS.TryOnly
import HandS.ExcInit
import HandS.WordsExc
import HandS.DictComp
import HandS.CallLocal
import HandS.More
import PyProof.ReprRoads
import PyProof.FitsInt
import PySem.Challenge.RW_pilepass_k39_whole_plain_programs_and_ri
set_option Elab.async false
set_option linter.all false
set_option maxRecDepth 100000
set_option maxHeartbeats 4000000
set_option autoImplicit false
/-! Tuples that are made here, with their own objects known (they have no dict of their own). -/
namespace PL
open PySem PySem.Spec PyProof.Rows HT L2
def TObj (o : Obj) : Prop := o.cls = .type "tuple" ∧ o.dict = none
/-- a new tuple of xs, wherever it stands -/
def newT (xs : List V) (H : Hp) (Q : VK) : Prop := ∀ p o, H p = none → TObj o → Q (.ref p) (upd H p (.frz o (.tup xs)))
section
variable {X : Cx} {pins : List (Addr × Obj)} {σ : L2.St} {H : Hp} {s : Shared} {xs : List V} {us : List Value}
theorem laidT {Q : VK} {h' : Heap} {t' : Nat} (I : L2.Inv X pins σ H s) (r : Vals xs us) (z : xs.length ≤ sizeLine) (k : ∀ b u, s.heap.get? b = some u → h'.get? b = some u) (hs : s.heap.objs.size = h'.objs.size)
    (q : newT xs H Q) : EP X pins σ Q (.ref h'.objs.size) { s with heap := h'.push { cls := .type "tuple", data := .seq us.toArray }, toks := t' } := by
  refine ⟨.ref h'.objs.size, _, I.laid (t' := t') (o := .frz { cls := .type "tuple", data := .seq us.toArray } (.tup xs)) (fun b u e => Heap.get?_push_of_some _ (k b u e)) (Nat.le_of_eq hs) ?_, rfl, q h'.objs.size _ (I.hok.fresh (Nat.le_of_eq hs)) ⟨rfl, rfl⟩⟩
  exact ⟨Heap.get?_push_size _ rfl, z, us, r, IsTup.new _ _⟩
end
section
variable {X : Cx} {e : Expr} {es : List Expr} {te : TE} {t : TA} {pos : Pos}
def tTupF (t : TA) : TE := fun σ H Q => t σ H fun xs H1 => xs.length ≤ sizeLine ∧ newT xs H1 Q
theorem pe_tupF {x1} (h : PA X es t) : PE X (.Tuple es x1 pos) (tTupF t) := by
  refine ⟨fun pins s σ H Q I hq => ?_⟩
  refine wpAny_Tuple_spliced (thn (h.run pos pins s σ H _ I hq) fun us s1 ⟨xs, H1, I1, r, z, q⟩ => ⟨by rw [← r.length]; exact z, ?_⟩)
  exact laidT (t' := s1.toks) I1 r z (fun _ _ e => e) rfl q
def rSlF (K : PySem.W.Frag) : V → Option Int → Option Int → Hp → VK → Prop := fun x lo hi H Q => ∃ a xs, x = .ref a ∧ SqT K H a xs ∧
  (HT.sIx xs.length 0 lo = 0 ∧ HT.sIx xs.length xs.length hi = xs.length → Q (.ref a) H) ∧ (¬ (HT.sIx xs.length 0 lo = 0 ∧ HT.sIx xs.length xs.length hi = xs.length) → newT (cutV xs lo hi) H Q)
theorem sl_tupF : L2.SlR X (rSlF X.K) := by
  intro pins s σ H x v vl vu lo hi sl Q I rx hs pl pu h
  obtain ⟨a, xs, rfl, hx, q1, q⟩ := h
  cases rx
  obtain ⟨its, r, ht, hz⟩ := I.tuple hx
  have hlen : its.toArray.size = xs.length := by rw [List.size_toArray]; exact r.length.symm
  refine ⟨"tuple", _, PyProof.Rows.slot_tuple_getitem.lookup, ht.typeIs, ?_⟩
  by_cases hw : HT.sIx xs.length 0 lo = 0 ∧ HT.sIx xs.length xs.length hi = xs.length
  · exact getItem_tuple_whole ht hs pl pu (by rw [hlen]; exact hw) ⟨.ref a, H, I, rfl, q1 hw⟩
  · refine HT.getItem_tuple_cut ht hs pl pu (by rw [hlen]; exact hw) ?_ (by rw [hlen]; exact hz)
    rw [hlen]
    exact laidT (t' := s.toks) I ((r.drop _).take _) (Nat.le_trans (cutV_length xs lo hi) hz) (fun _ _ e => e) rfl (q hw)
def rCatF (K : PySem.W.Frag) : R2 := fun x y H Q => ∃ a b xs ys, x = .ref a ∧ y = .ref b ∧ SqT K H a xs ∧ SqT K H b ys ∧ xs.length + ys.length ≤ sizeLine ∧
  (xs = [] → Q (.ref b) H) ∧ (xs ≠ [] → ys = [] → Q (.ref a) H) ∧ (xs ≠ [] → ys ≠ [] → newT (xs ++ ys) H Q)
theorem op_catF : OpR X (binaryOp .Add) (rCatF X.K) := by
  intro pins s σ H x y v u Q I rx ry h
  obtain ⟨a, b, xs, ys, rfl, rfl, ha, hb, hz, q0, q1, q2⟩ := h
  cases rx
  cases ry
  obtain ⟨its, r1, p1, _⟩ := I.tuple ha
  obtain ⟨its2, r2, p2, _⟩ := I.tuple hb
  by_cases hx : xs = []
  · subst hx
    cases r1
    exact cat_tup0 p1 p2 ⟨.ref b, H, I, rfl, q0 rfl⟩
  · refine HT.cat_tup p1 p2 (fun z => hx (r1.nil_iff.mp z)) (fun z => ⟨.ref a, H, I, rfl, q1 hx (r2.nil_iff.mp z)⟩) (fun z => ?_) (by rw [← r1.length, ← r2.length]; exact hz)
    exact laidT (t' := s.toks) I (r1.append r2) (by rw [List.length_append]; exact hz) (fun _ _ e => e) rfl (q2 hx fun w => z (r2.nil_iff.mpr w))
theorem call_tupleF : CallR X (.type "tuple") (fun xs H Q => ∃ p ys, xs = [.ref p] ∧ ((SqL X.K H p ys ∧ newT ys H Q) ∨ (SqT X.K H p ys ∧ Q (.ref p) H))) := by
  intro pins s σ H xs us Q I r h
  obtain ⟨p, ys, rfl, h⟩ := h
  obtain ⟨u, rfl, rx⟩ := vals1 r
  cases rx
  rcases h with ⟨hq, q⟩ | ⟨hq, q⟩
  · obtain ⟨its, r', pl, hz⟩ := I.list hq
    have hlen := r'.length
    refine call_tuple_list pl.isList (fun h' kp => ?_) (by simp only [List.size_toArray] <;> omega)
    have I1 : L2.Inv X pins σ H { s with heap := h' } := I.kept (t' := s.toks) kp
    exact laidT (s := { s with heap := h' }) (h' := h') (t' := s.toks) I1 r' hz (fun _ _ e => e) rfl q
  · obtain ⟨its, r', pl, hz⟩ := I.tuple hq
    exact call_tuple_same pl ⟨.ref p, H, I, rfl, q⟩
end
/-! t.index(k) of ints, l.index(k) of ints -/
section
variable {X : Cx}
/-- where a tuple without a dict of its own stands -/
def TupR (K : PySem.W.Frag) (H : Hp) (a : Addr) (xs : List V) : Prop :=
  (∃ o, H a = some (.frz o (.tup xs)) ∧ TObj o) ∨
    ∃ (o : Obj) (its : Array Value) (n : Nat), K.lookup a = some o ∧ o.cls = .type "tuple" ∧ o.dict = none ∧ o.data = .seq its n ∧ its.size ≤ sizeLine ∧ Vals xs its.toList
theorem TupR.sqt {K : PySem.W.Frag} {H : Hp} {a : Addr} {xs : List V} (h : TupR K H a xs) : SqT K H a xs := by
  rcases h with ⟨o, h, _⟩ | ⟨o, its, n, h1, h2, h3, h4, h5, h6⟩
  · exact .inl (.inr ⟨o, h⟩)
  · exact .inr ⟨o, its, n, h1, h2, h4, h5, h6⟩
theorem TupR.obj {K : PySem.W.Frag} {H : Hp} {a : Addr} {xs : List V} {X : Cx} {pins : List (Addr × Obj)} {σ : L2.St} {s : Shared} (I : L2.Inv X pins σ H s) (h : TupR X.K H a xs) : ∃ o, s.heap.get? a = some o ∧ o.cls = .type "tuple" ∧ o.dict = none := by
  rcases h with ⟨o, h, ho⟩ | ⟨o, its, n, h1, h2, h3, h4, h5, h6⟩
  · exact ⟨o, (I.hok a _ h).1, ho⟩
  · exact ⟨o, I.kIn a o h1, h2, h3⟩
def rTIdx (K : PySem.W.Frag) : V → List V → Hp → VK → Prop := fun x xs H Q => ∃ (a : Addr) (ns : List Int) (k : Int), x = .ref a ∧ xs = [.int k] ∧ TupR K H a (ns.map V.int) ∧ k ∈ ns ∧ Q (.int (ns.idxOf k : Nat)) H
def tTM (K : PySem.W.Frag) (r : V → List V → Hp → VK → Prop) (to : TE) (t : TA) : TE := fun σ H Q => to σ H fun x H1 => (∃ a xs, x = .ref a ∧ TupR K H1 a xs) ∧ t σ H1 fun xs H2 => r x xs H2 Q
theorem intsAre_vals {ns : List Int} : ∀ {us : List Value}, Vals (ns.map V.int) us → IntsAre us ns := intsAre_of
theorem mt_tidx : MtR X "tuple.index" (rTIdx X.K) := by
  intro pins s σ H x xs v us Q I rx rxs ⟨a, ns, k, ex, exs, ha, hk, q⟩
  subst ex exs
  cases rx
  obtain ⟨u, rfl, t, rfl⟩ := Vals.one rxs
  obtain ⟨its, r, p, hz⟩ := I.tuple ha.sqt
  exact SeqAt.tuple_index_ints p (intsAre_of r) hk ⟨.int _, H, I.tok _, ⟨_, rfl⟩, q⟩
/-- t.m(e, ..), t a tuple -/
theorem pe_tm {o e : Expr} {es : List Expr} {to : TE} {t : TA} {name : Str} {apos cpos : Pos} {id : String} {r : V → List V → Hp → VK → Prop} (slot : Slot "tuple" name id) (hty : typeOf (.builtin id) = pure (.type "method_descriptor")) (hm : MtR X id r) (ho : PE X o to) (ha : PA X (e :: es) t)
    (hbase : attributeBase o name X.env (eval o X.env) = eval o X.env := by rfl)
    (hfew : ((backTo cpos (starEach (e :: es) X.env)).all (fun x => !x.1) && (backToKw cpos (keywordEach [] X.env)).all (fun x => x.1.isSome)
      && decide ((e :: es).length + ([] : List Keyword).length + (if ([] : List Keyword).isEmpty then 0 else 1) < 30)) = true := by rfl)
    (hline : (apos.endLine == cpos.line) = true := by rfl) (hs : starEach (e :: es) X.env = (false, eval e X.env) :: starEach es X.env := by rfl) (hplain : (backTo cpos (starEach es X.env)).any (·.1) = false := by rfl) :
    PE X (.Call (.Attribute o name apos) (e :: es) [] cpos) (tTM X.K r to t) := by
  refine ⟨fun pins s σ H Q I h => ?_⟩
  refine wpAny_Call_method_late hbase hfew hline rfl (thn (ho.run pins s σ H _ I h) fun v s1 ⟨x, H1, I1, r1, ⟨a, xs, ex, ty⟩, q1⟩ => ?_)
  subst ex
  cases r1
  obtain ⟨ob, h1, h2, h3⟩ := TupR.obj (K := X.K) I1 ty
  refine ⟨"tuple", id, PySem.F.plainAttrs_tuple, slot, hty, ⟨ob, h1, h2⟩, fun b hb => (by cases hb; exact ⟨ob, h1, h3⟩), ?_⟩
  have hA := ha.run cpos pins s1 σ H1 _ I1 q1
  rw [hs] at hA ⊢
  refine Calls.callWith_builtin (by show (false || (backTo cpos (starEach es X.env)).any (·.1)) = false; rw [hplain] <;> rfl) (Calls.evalArgs_plain ?_)
  exact thn hA fun us s2 ⟨vs, H2, I2, r2, q2⟩ => hm pins s2 σ H2 (.ref a) vs (.ref a) us Q I2 rfl r2 q2
end
end PL

/-! A pure layer over HandS: values as data, frozen and owned parts of the heap. -/
namespace PL
open PySem L2

abbrev D := PyData
def Ex (F H : Hp) : Prop := ∀ a o, F a = some o → H a = some o
theorem Ex.refl (H : Hp) : Ex H H := fun _ _ h => h
theorem Ex.trans {F G H : Hp} (a : Ex F G) (b : Ex G H) : Ex F H := fun x o h => b x o (a x o h)
theorem Ex.rd {F H : Hp} {a : Addr} {u : HO} (e : Ex F H) (h : Rd F a u) : Rd H a u := by
  rcases h with h | ⟨o, h⟩
  · exact .inl (e a _ h)
  · exact .inr ⟨o, e a _ h⟩
theorem Ex.sqt {K : PySem.W.Frag} {F H : Hp} {a : Addr} {xs : List V} (e : Ex F H) (h : SqT K F a xs) : SqT K H a xs := by
  rcases h with h | h
  · exact .inl (e.rd h)
  · exact .inr h
theorem Ex.tup {K : PySem.W.Frag} {F H : Hp} {a : Addr} {xs : List V} (e : Ex F H) (h : TupR K F a xs) : TupR K H a xs := by
  rcases h with ⟨o, h, ho⟩ | h
  · exact .inl ⟨o, e _ _ h, ho⟩
  · exact .inr h

/-- what is known by its place alone -/
def rawD (a : Addr) : D := .dict [(.none, .int a)]
def keyD : Key → D
  | .inl i => .int i
  | .inr x => .str x
def dicD (kvs : List (Key × D)) : D := .dict (kvs.map fun kv => (keyD kv.1, kv.2))
mutual
inductive RD (K : PySem.W.Frag) (F : Hp) : V → D → Prop
  | non : RD K F .non .none
  | bl (b : Bool) : RD K F (.bl b) (.bool b)
  | int (i : Int) : RD K F (.int i) (.int i)
  | str (x : Str) : RD K F (.str x) (.str x)
  | lst {a : Addr} {xs : List V} {ds : List D} : F a = some (.lst xs) → RDs K F xs ds → RD K F (.ref a) (.list ds)
  | tup {a : Addr} {xs : List V} {ds : List D} : TupR K F a xs → RDs K F xs ds → RD K F (.ref a) (.tuple ds)
  | raw (a : Addr) : RD K F (.ref a) (rawD a)
  | dic {a : Addr} {vs : List (Key × V)} {kvs : List (Key × D)} : F a = some (.dK vs) → vs.map (·.1) = kvs.map (·.1) → RDs K F (vs.map (·.2)) (kvs.map (·.2)) → RD K F (.ref a) (dicD kvs)
inductive RDs (K : PySem.W.Frag) (F : Hp) : List V → List D → Prop
  | nil : RDs K F [] []
  | cons {v : V} {vs : List V} {d : D} {ds : List D} : RD K F v d → RDs K F vs ds → RDs K F (v :: vs) (d :: ds)
end
section
variable {K : PySem.W.Frag} {F H : Hp}
mutual
theorem RD.ext (e : Ex F H) : ∀ {v : V} {d : D}, RD K F v d → RD K H v d
  | _, _, .non => .non
  | _, _, .bl b => .bl b
  | _, _, .int i => .int i
  | _, _, .str x => .str x
  | _, _, .lst h t => .lst (e _ _ h) (RDs.ext e t)
  | _, _, .tup h t => .tup (e.tup h) (RDs.ext e t)
  | _, _, .raw a => .raw a
  | _, _, .dic h k t => .dic (e _ _ h) k (RDs.ext e t)
theorem RDs.ext (e : Ex F H) : ∀ {vs : List V} {ds : List D}, RDs K F vs ds → RDs K H vs ds
  | _, _, .nil => .nil
  | _, _, .cons h t => .cons (RD.ext e h) (RDs.ext e t)
end
mutual
theorem RD.dp : ∀ {v : V} {d : D}, RD K F v d → d.canLay0 = true → Dp K F v d
  | _, _, .non, _ => .non
  | _, _, .bl b, _ => .bl b
  | _, _, .int i, _ => .int i
  | _, _, .str x, _ => .str x
  | _, _, .lst h t, c => .lst (SqL.of h) (RDs.dp t (by simpa [PyData.canLay0] using c))
  | _, _, .tup h t, c => .tup h.sqt (RDs.dp t (by simpa [PyData.canLay0] using c))
  | _, _, .raw a, c => by simp [rawD, PyData.canLay0] at c
  | _, _, .dic _ _ _, c => by simp [dicD, PyData.canLay0] at c
theorem RDs.dp : ∀ {vs : List V} {ds : List D}, RDs K F vs ds → PyData.canLayAll0 ds = true → DpAll K F vs ds
  | _, _, .nil, _ => .nil
  | _ :: _, d :: ds, .cons h t, c => by
    have c' : PyData.canLay0 d = true ∧ PyData.canLayAll0 ds = true := by simpa [PyData.canLayAll0] using c
    exact .cons (RD.dp h c'.1) (RDs.dp t c'.2)
end
theorem RDs.length {vs : List V} {ds : List D} (h : RDs K F vs ds) : vs.length = ds.length := by
  induction ds generalizing vs with
  | nil => cases h; rfl
  | cons d ds ih => cases h with | cons h t => simp [ih t]
theorem RDs.get {vs : List V} {ds : List D} (h : RDs K F vs ds) {i : Nat} {d : D} (e : ds[i]? = some d) : ∃ v, vs[i]? = some v ∧ RD K F v d := by
  induction ds generalizing vs i with
  | nil => simp at e
  | cons d' ds ih =>
    cases h with
    | cons h t =>
      cases i with
      | zero => simp at e; subst e; exact ⟨_, rfl, h⟩
      | succ i => simp at e; simpa using ih t e
theorem RDs.getV {vs : List V} {ds : List D} (h : RDs K F vs ds) {i : Nat} {v : V} (e : vs[i]? = some v) : ∃ d, ds[i]? = some d ∧ RD K F v d := by
  induction ds generalizing vs i with
  | nil => cases h; simp at e
  | cons d' ds ih =>
    cases h with
    | cons h t =>
      cases i with
      | zero => simp at e; subst e; exact ⟨_, rfl, h⟩
      | succ i => simp at e; simpa using ih t e
theorem RDs.append {vs ws : List V} {ds es : List D} (h : RDs K F vs ds) (k : RDs K F ws es) : RDs K F (vs ++ ws) (ds ++ es) := by
  induction ds generalizing vs with
  | nil => cases h; exact k
  | cons d ds ih => cases h with | cons h t => exact .cons h (ih t)
theorem RDs.take {vs : List V} {ds : List D} (h : RDs K F vs ds) (n : Nat) : RDs K F (vs.take n) (ds.take n) := by
  induction ds generalizing vs n with
  | nil => cases h; simp; exact .nil
  | cons d ds ih =>
    cases h with
    | cons h t =>
      cases n with
      | zero => exact .nil
      | succ n => exact .cons h (ih t n)
theorem RDs.drop {vs : List V} {ds : List D} (h : RDs K F vs ds) (n : Nat) : RDs K F (vs.drop n) (ds.drop n) := by
  induction ds generalizing vs n with
  | nil => cases h; simp; exact .nil
  | cons d ds ih =>
    cases h with
    | cons h t =>
      cases n with
      | zero => exact .cons h t
      | succ n => exact ih t n
theorem RDs.set {vs : List V} {ds : List D} {v : V} {d : D} (h : RDs K F vs ds) (k : RD K F v d) (n : Nat) : RDs K F (vs.set n v) (ds.set n d) := by
  induction ds generalizing vs n with
  | nil => cases h; simp; exact .nil
  | cons d ds ih =>
    cases h with
    | cons h t =>
      cases n with
      | zero => exact .cons k t
      | succ n => exact .cons h (ih t n)
theorem RDs.reverse {vs : List V} {ds : List D} (h : RDs K F vs ds) : RDs K F vs.reverse ds.reverse := by
  induction ds generalizing vs with
  | nil => cases h; exact .nil
  | cons d ds ih => cases h with | cons h t => simp; exact (ih t).append (.cons h .nil)
theorem RDs.ints : ∀ {vs : List V} {is : List Int}, RDs K F vs (is.map PyData.int) → vs = is.map V.int
  | _, [], .nil => rfl
  | _, i :: is, .cons (.int _) t => by rw [RDs.ints t]; rfl
theorem RDs.of_ints : ∀ (is : List Int), RDs K F (is.map V.int) (is.map PyData.int)
  | [] => .nil
  | i :: is => .cons (.int i) (RDs.of_ints is)
theorem RDs.bls : ∀ {vs : List V} {bs : List Bool}, RDs K F vs (bs.map PyData.bool) → vs = bs.map V.bl
  | _, [], .nil => rfl
  | _, b :: bs, .cons (.bl _) t => by rw [RDs.bls t]; rfl
end

/-- pairs of a dict -/
def KvR (K : PySem.W.Frag) (F : Hp) : List (Key × V) → List (Key × D) → Prop := Paired fun a b => a.1 = b.1 ∧ RD K F a.2 b.2
theorem KvR.ext {K : PySem.W.Frag} {F H : Hp} (e : Ex F H) {vs : List (Key × V)} {ds : List (Key × D)} (h : KvR K F vs ds) : KvR K H vs ds := Paired.mapP h fun _ _ z => ⟨z.1, z.2.ext e⟩

inductive Av where
  | dat (d : D)
  | dic (kvs : List (Key × D))
  | raw (v : V)
inductive Ow where
  | lst (ds : List D)
  | dic (kvs : List (Key × D))
inductive Sl where
  | un
  | im (a : Av)
  | ow (o : Ow)
/-- an object: where it stands, its class, its dict, its attributes (what an attribute refers to may be a container of the ambient: .raw) -/
structure ObS where
  ad : Addr
  cl : Addr
  dx : Addr
  fs : List (Str × Av)
/-- what moves beside the names: a count, objects, their own lists and dicts -/
structure Gh where
  k : Nat := 0
  os : List ObS := []
  cs : List (Addr × Ow) := []
structure En where
  sl : List Sl
  n : Gh
inductive Rs where
  | val (a : Av)
  | new (o : Ow)
  | loan (i : Nat) (o : Ow)
  | lent (p : Addr) (j : Nat) (o : Ow)
def Ow.av : Ow → Av
  | .lst ds => .dat (.list ds)
  | .dic kvs => .dic kvs
def Rs.av : Rs → Av
  | .val a => a
  | .new o => o.av
  | .loan _ o => o.av
  | .lent _ _ o => o.av

structure Amb where
  rs : Gh → List Addr
  RI : Gh → Hp → Hp → Prop
  st : ∀ n F F' H H', Ex F F' → (∀ a ∈ rs n, H' a = H a) → RI n F H → RI n F' H'
  hs : ∀ n F H, RI n F H → ∀ a ∈ rs n, H a ≠ none

section
variable (K : PySem.W.Frag)
def RelA (F : Hp) (v : V) : Av → Prop
  | .dat d => RD K F v d
  | .dic kvs => ∃ p vs, v = .ref p ∧ F p = some (.dK vs) ∧ KvR K F vs kvs
  | .raw u => v = u
def OwR (F : Hp) : HO → Ow → Prop
  | o, .lst ds => ∃ vs, o = .lst vs ∧ RDs K F vs ds
  | o, .dic kvs => ∃ vs, o = .dK vs ∧ KvR K F vs kvs
def SlotR (F H : Hp) (x : Option (Option V)) : Sl → Prop
  | .un => True
  | .im a => ∃ v, x = some (some v) ∧ RelA K F v a
  | .ow o => ∃ p ho, x = some (some (.ref p)) ∧ F p = none ∧ H p = some ho ∧ OwR K F ho o
end
def Owns (e : En) (σ : St) (i : Nat) (p : Addr) : Prop := (∃ o, e.sl[i]? = some (.ow o)) ∧ σ[i]? = some (some (.ref p))

/-- the ambient's own, with its lists and dicts as data -/
structure RIx (A : Amb) (K : PySem.W.Frag) (g : Gh) (F H : Hp) : Prop where
  ri : A.RI g F H
  cs : ∀ c ∈ g.cs, c.1 ∈ A.rs g ∧ F c.1 = none ∧ ∃ ho, H c.1 = some ho ∧ OwR K F ho c.2
structure Sta (A : Amb) (K : PySem.W.Frag) (σ : St) (F H : Hp) (e : En) : Prop where
  len : e.sl.length = σ.length
  ex : Ex F H
  at_ : ∀ (i : Nat) (s : Sl), e.sl[i]? = some s → SlotR K F H σ[i]? s
  sep : ∀ i j p, Owns e σ i p → Owns e σ j p → i = j
  ri : RIx A K e.n F H
  rsF : ∀ a ∈ A.rs e.n, F a = none
  rsO : ∀ i p, Owns e σ i p → p ∉ A.rs e.n

structure Stp (A : Amb) (σ : St) (F H : Hp) (e : En) (F' H' : Hp) (e' : En) : Prop where
  ex : Ex F F'
  keep : ∀ a o, H a = some o → a ∉ A.rs e.n → (∀ i, ¬ Owns e σ i a) → H' a = some o ∧ F' a = F a
  own : ∀ i p, Owns e' σ i p → Owns e σ i p
  liv : ∀ a, H a ≠ none → H' a ≠ none
  rsn : ∀ a ∈ A.rs e'.n, a ∈ A.rs e.n ∨ H a = none

section
variable {A : Amb} {K : PySem.W.Frag} {σ : St} {F F' F1 F2 H H' H0 H1 H2 : Hp} {e e' e1 e2 : En} {v u : V} {a b : Av} {o : Ow} {r : Rs}
theorem Stp.refl : Stp A σ F H e F H e := ⟨Ex.refl _, fun _ _ h _ _ => ⟨h, rfl⟩, fun _ _ h => h, fun _ h => h, fun _ h => .inl h⟩
theorem Stp.trans (x : Stp A σ F H e F1 H1 e1) (y : Stp A σ F1 H1 e1 F2 H2 e2) : Stp A σ F H e F2 H2 e2 where
  ex := x.ex.trans y.ex
  keep := fun a o h hr ho => by
    obtain ⟨h1, g1⟩ := x.keep a o h hr ho
    obtain ⟨h2, g2⟩ := y.keep a o h1 (fun z => (x.rsn a z).elim hr fun z => by rw [z] at h; cases h) fun i q => ho i (x.own i a q)
    exact ⟨h2, g2.trans g1⟩
  own := fun i p h => x.own i p (y.own i p h)
  liv := fun a h => y.liv a (x.liv a h)
  rsn := fun a h => (y.rsn a h).elim (x.rsn a) fun z => .inr (by
    cases q : H a with
    | none => rfl
    | some w => exact absurd z (x.liv a (by rw [q]; simp)))
theorem RelA.ext (x : Ex F H) : ∀ {a : Av}, RelA K F v a → RelA K H v a
  | .dat d, h => RD.ext x h
  | .dic kvs, ⟨p, vs, e, h, q⟩ => ⟨p, vs, e, x _ _ h, q.ext x⟩
  | .raw u, h => h
theorem OwR.ext (x : Ex F H) : ∀ {o : Ow} {ho : HO}, OwR K F ho o → OwR K H ho o
  | .lst ds, _, ⟨vs, e, h⟩ => ⟨vs, e, h.ext x⟩
  | .dic kvs, _, ⟨vs, e, h⟩ => ⟨vs, e, h.ext x⟩
/-- what a result is -/
def RsR (K : PySem.W.Frag) (A : Amb) (σ : St) (H0 F H : Hp) (e : En) (v : V) : Rs → Prop
  | .val a => RelA K F v a
  | .new o => ∃ p ho, v = .ref p ∧ H0 p = none ∧ F p = none ∧ H p = some ho ∧ OwR K F ho o ∧ p ∉ A.rs e.n ∧ ∀ i, ¬ Owns e σ i p
  | .loan i o => e.sl[i]? = some (.ow o) ∧ σ[i]? = some (some v)
  | .lent p j o => v = .ref p ∧ e.n.cs[j]? = some (p, o)
/-- what is needed for a result to be the same behind a further step -/
def Rs.kept (r : Rs) (e : En) : Prop := match r with
  | .loan i o => e.sl[i]? = some (.ow o)
  | .lent p j o => e.n.cs[j]? = some (p, o)
  | _ => True
/-- k, and what is needed for r to be the same in e -/
def Rs.keepIn (r : Rs) (e : En) (k : Prop) : Prop := match r with
  | .loan i o => e.sl[i]? = some (.ow o) ∧ k
  | .lent p j o => e.n.cs[j]? = some (p, o) ∧ k
  | _ => k
theorem Rs.keepIn_iff {r : Rs} {e : En} {k : Prop} : r.keepIn e k ↔ r.kept e ∧ k := by cases r <;> simp [Rs.keepIn, Rs.kept]
theorem RsR.step (h : RsR K A σ H0 F1 H1 e1 v r) (t : Stp A σ F1 H1 e1 F2 H2 e2) (k : r.kept e2) : RsR K A σ H0 F2 H2 e2 v r := by
  cases r with
  | val a => exact RelA.ext t.ex h
  | new o =>
    obtain ⟨p, ho, e, h0, f, g, q, nr, no⟩ := h
    obtain ⟨g2, f2⟩ := t.keep p ho g nr no
    exact ⟨p, ho, e, h0, f2.trans f, g2, q.ext t.ex, fun z => (t.rsn p z).elim nr (fun z => by rw [z] at g; cases g), fun i z => no i (t.own i p z)⟩
  | loan i o => exact ⟨k, h.2⟩
  | lent p j o => exact ⟨h.1, k⟩
theorem RsR.early (h : RsR K A σ H1 F2 H2 e2 v r) (t : Stp A σ F H e F1 H1 e1) : RsR K A σ H F2 H2 e2 v r := by
  cases r with
  | val a => exact h
  | new o =>
    obtain ⟨p, ho, e, h0, q⟩ := h
    refine ⟨p, ho, e, ?_, q⟩
    cases z : H p with
    | none => rfl
    | some w => exact absurd h0 (t.liv p (by rw [z]; simp))
  | loan i o => exact h
  | lent p j o => exact h
/-- a value at the top: a list or dict as it stands now, all else frozen -/
def TopR (K : PySem.W.Frag) (F H : Hp) (v : V) : Av → Prop
  | .dat (.list ds) => ∃ p vs, v = .ref p ∧ H p = some (.lst vs) ∧ RDs K F vs ds
  | .dat d => RD K F v d
  | .dic kvs => ∃ p vs, v = .ref p ∧ H p = some (.dK vs) ∧ KvR K F vs kvs
  | .raw u => v = u
theorem TopR.of (x : Ex F H) : ∀ {a : Av}, RelA K F v a → TopR K F H v a
  | .dat .none, h => h
  | .dat (.bool b), h => h
  | .dat (.int i), h => h
  | .dat (.str i), h => h
  | .dat (.tuple i), h => h
  | .dat (.dict i), h => h
  | .dat (.list ds), h => by
    cases h with
    | lst h t => exact ⟨_, _, rfl, x _ _ h, t⟩
  | .dic kvs, ⟨p, vs, e, h, q⟩ => ⟨p, vs, e, x _ _ h, q⟩
  | .raw u, h => h
theorem RsR.top (h : RsR K A σ H0 F H e v r) (S : Sta A K σ F H e) : TopR K F H v r.av := by
  cases r with
  | val a => exact TopR.of S.ex h
  | new o =>
    obtain ⟨p, ho, e, _, f, g, q, _⟩ := h
    cases o with
    | lst ds => obtain ⟨vs, e2, q⟩ := q; subst e2; exact ⟨p, vs, e, g, q⟩
    | dic ds => obtain ⟨vs, e2, q⟩ := q; subst e2; exact ⟨p, vs, e, g, q⟩
  | loan i o =>
    obtain ⟨h1, h2⟩ := h
    obtain ⟨p, ho, e, f, g, q⟩ := S.at_ i _ h1
    rw [h2] at e
    have e' : v = .ref p := by simpa using e
    cases o with
    | lst ds => obtain ⟨vs, e2, q⟩ := q; subst e2; exact ⟨p, vs, e', g, q⟩
    | dic ds => obtain ⟨vs, e2, q⟩ := q; subst e2; exact ⟨p, vs, e', g, q⟩
  | lent p j o =>
    obtain ⟨h1, h2⟩ := h
    obtain ⟨_, f, ho, g, q⟩ := S.ri.cs _ (List.mem_of_getElem? h2)
    cases o with
    | lst ds => obtain ⟨vs, e2, q⟩ := q; subst e2; exact ⟨p, vs, h1, g, q⟩
    | dic ds => obtain ⟨vs, e2, q⟩ := q; subst e2; exact ⟨p, vs, h1, g, q⟩
end

/-! ### the judgement of an expression -/
abbrev WE := En → (Rs → En → Prop) → Prop
def ER (A : Amb) (K : PySem.W.Frag) (te : TE) (w : WE) : Prop :=
  ∀ (σ : St) (F H : Hp) (e : En) (post : Rs → En → Prop), Sta A K σ F H e → w e post → ∀ Q : VK,
    (∀ v r F' H' e', Stp A σ F H e F' H' e' → Sta A K σ F' H' e' → RsR K A σ H F' H' e' v r → post r e' → Q v H') → te σ H Q
structure PD (X : Cx) (A : Amb) (ex : Expr) (te : TE) (w : WE) : Prop where
  pe : PE X ex te
  er : ER A X.K te w

section
variable {A : Amb} {K : PySem.W.Frag} {σ : St} {F H : Hp} {e : En} {v : V} {a : Av}
theorem Sta.rsr {H0 : Hp} (h : RelA K F v a) : RsR K A σ H0 F H e v (.val a) := h
end

/-- what a rule may hand back: a value that is frozen already, a new list or dict, a new tuple -/
structure Okr (K : PySem.W.Frag) (F H : Hp) (post : Rs → Prop) (Q : VK) : Prop where
  val : ∀ v a, RelA K F v a → post (.val a) → Q v H
  new : ∀ p ho o, H p = none → OwR K F ho o → post (.new o) → Q (.ref p) (upd H p ho)
  tup : ∀ vs ds, RDs K F vs ds → post (.val (.dat (.tuple ds))) → newT vs H Q

section
variable {A : Amb} {K : PySem.W.Frag} {σ : St} {F F' F1 F2 H H' H0 H1 H2 : Hp} {e e' e1 e2 : En} {v u : V} {a b : Av} {o : Ow} {r : Rs}
theorem upd_old {p : Addr} {ho : HO} (h : H p = none) : Ex H (upd H p ho) := fun a o q => by rw [upd_ne (ne_of_none q h)]; exact q
theorem Sta.rsA (S : Sta A K σ F H e) {p : Addr} (h : H p = none) : p ∉ A.rs e.n := fun z => A.hs _ _ _ S.ri.ri p z h
theorem Sta.noO (S : Sta A K σ F H e) {p : Addr} (h : H p = none) (i : Nat) : ¬ Owns e σ i p := fun ⟨⟨o, h1⟩, h2⟩ => by
  obtain ⟨p', ho, e', _, g, _⟩ := S.at_ i _ h1
  rw [h2] at e'
  have : p = p' := by simpa using e'
  subst this
  rw [h] at g; cases g
theorem SlotR.ext {x : Option (Option V)} {s : Sl} (h : SlotR K F H x s) (f : Ex F F') (g : ∀ p, x = some (some (.ref p)) → (∃ o, s = .ow o) → F p = none → H p ≠ none → F' p = none ∧ H' p = H p) : SlotR K F' H' x s := by
  cases s with
  | un => trivial
  | im a => obtain ⟨v, e, q⟩ := h; exact ⟨v, e, RelA.ext f q⟩
  | ow o =>
    obtain ⟨p, ho, e, f0, g0, q⟩ := h
    obtain ⟨h1, h2⟩ := g p e ⟨o, rfl⟩ f0 (by rw [g0]; simp)
    exact ⟨p, ho, e, h1, h2.trans g0, q.ext f⟩
theorem RIx.st {g : Gh} (r : RIx A K g F H) (x : Ex F F') (hF : ∀ a ∈ A.rs g, F' a = none) (h : ∀ a ∈ A.rs g, H' a = H a) : RIx A K g F' H' :=
  ⟨A.st _ _ _ _ _ x h r.ri, fun c hc => by
    obtain ⟨h1, h2, ho, h3, h4⟩ := r.cs c hc
    exact ⟨h1, hF _ h1, ho, (h _ h1).trans h3, h4.ext x⟩⟩
/-- a new object that stays with the evaluation -/
theorem Sta.push (S : Sta A K σ F H e) {p : Addr} {ho : HO} (h : H p = none) : Sta A K σ F (upd H p ho) e ∧ Stp A σ F H e F (upd H p ho) e := by
  have hr := S.rsA h
  refine ⟨⟨S.len, S.ex.trans (upd_old h), fun i s hs => (S.at_ i s hs).ext (Ex.refl _) fun q _ _ f g => ⟨f, upd_ne fun z => by subst z; exact g h⟩, S.sep, S.ri.st (Ex.refl _) S.rsF (fun a ha => upd_ne fun z => by subst z; exact hr ha), S.rsF, S.rsO⟩, ⟨Ex.refl _, fun a o q _ _ => ⟨upd_old h a o q, rfl⟩, fun _ _ q => q, fun a q z => q (by
    by_cases c : a = p
    · subst c; rw [upd_same] at z; cases z
    · rw [upd_ne c] at z; exact z), fun _ h => .inl h⟩⟩
/-- a new object that is frozen at once -/
theorem Sta.pushF (S : Sta A K σ F H e) {p : Addr} {ho : HO} (h : H p = none) : Sta A K σ (upd F p ho) (upd H p ho) e ∧ Stp A σ F H e (upd F p ho) (upd H p ho) e := by
  have hF : F p = none := by
    cases z : F p with
    | none => rfl
    | some w => rw [S.ex p w z] at h; cases h
  have hr := S.rsA h
  refine ⟨⟨S.len, fun a o q => ?_, fun i s hs => (S.at_ i s hs).ext (upd_old hF) fun q _ _ f g => ?_, S.sep, S.ri.st (upd_old hF) (fun a ha => by rw [upd_ne fun z => by subst z; exact hr ha]; exact S.rsF a ha) (fun a ha => upd_ne fun z => by subst z; exact hr ha), fun a ha => ?_, S.rsO⟩, ⟨upd_old hF, fun a o q _ _ => ⟨upd_old h a o q, upd_ne (ne_of_none q h)⟩, fun _ _ q => q, fun a q z => q (by
    by_cases c : a = p
    · subst c; rw [upd_same] at z; cases z
    · rw [upd_ne c] at z; exact z), fun _ h => .inl h⟩⟩
  · by_cases c : a = p
    · subst c; rw [upd_same] at q ⊢; exact q
    · rw [upd_ne c] at q ⊢; exact S.ex a o q
  · have c : q ≠ p := fun z => by subst z; exact g h
    exact ⟨by rw [upd_ne c]; exact f, upd_ne c⟩
  · rw [upd_ne fun z => by subst z; exact hr ha]; exact S.rsF a ha
theorem Sta.okr (S : Sta A K σ F H e) {post : Rs → Prop} {Q : VK} (q : ∀ v r F' H', Stp A σ F H e F' H' e → Sta A K σ F' H' e → RsR K A σ H F' H' e v r → post r → Q v H') : Okr K F H post Q where
  val := fun v a h p => q v (.val a) F H Stp.refl S h p
  new := fun p ho o h r k => by
    obtain ⟨S', T⟩ := S.push (ho := ho) h
    refine q _ (.new o) F _ T S' ⟨p, ho, rfl, h, ?_, upd_same, r, S.rsA h, S.noO h⟩ k
    cases z : F p with
    | none => rfl
    | some w => rw [S.ex p w z] at h; cases h
  tup := fun vs ds r k p o h ho => by
    obtain ⟨S', T⟩ := S.pushF (ho := .frz o (.tup vs)) h
    exact q _ (.val (.dat (.tuple ds))) _ _ T S' (RD.tup (.inl ⟨o, upd_same, ho⟩) (r.ext T.ex)) k
end
end PL

namespace PL
open PySem L2

/-! ### names and constants -/
def wVar (i : Nat) : WE := fun e post => match e.sl[i]? with
  | some (.im a) => post (.val a) e
  | some (.ow o) => post (.loan i o) e
  | _ => False
def wC (d : D) : WE := fun e post => post (.val (.dat d)) e
def wRaw (v : V) : WE := fun e post => post (.val (.raw v)) e
section
variable {X : Cx} {A : Amb} {a b c : Expr} {ta tb tc : TE} {wa wb wc : WE} {pos : Pos}
theorem er_var {K : PySem.W.Frag} {i : Nat} : ER A K (tVar i) (wVar i) := by
  intro σ F H e post S h Q q
  unfold wVar at h
  split at h
  · rename_i a ha
    obtain ⟨v, e1, r⟩ := S.at_ i _ ha
    exact ⟨v, e1, q v (.val a) F H e Stp.refl S r h⟩
  · rename_i o ho
    obtain ⟨p, _, e1, _⟩ := S.at_ i _ ho
    exact ⟨.ref p, e1, q _ (.loan i o) F H e Stp.refl S ⟨ho, e1⟩ h⟩
  · exact h.elim
theorem pd_var (i : Nat) {x : Str} {pos : Pos} (hN : X.N[i]? = some x := by rfl) (hv : Vis X.env.scope x := by first | exact Or.inl rfl | exact Or.inr (Or.inl rfl) | exact Or.inr (Or.inr rfl)) (hd : (x == ("__debug__" : Str)) = false := by decide)
    (hcd : (x == ("__classdict__" : Str)) = false := by decide) : PD X A (.Name x pos) (tVar i) (wVar i) := ⟨pe_var hN hv hd hcd, er_var⟩
theorem er_c {K : PySem.W.Frag} {v : V} {d : D} (r : ∀ F : Hp, RD K F v d) : ER A K (tC v) (wC d) := by
  intro σ F H e post S h Q q
  exact q v (.val (.dat d)) F H e Stp.refl S (r F) h
theorem pd_int {i j pos} : PD X A (.Constant (.int i) j pos) (tC (.int i)) (wC (.int i)) := ⟨pe_int, er_c fun _ => .int i⟩
theorem pd_bl {b j pos} : PD X A (.Constant (.bool b) j pos) (tC (.bl b)) (wC (.bool b)) := ⟨pe_bl, er_c fun _ => .bl b⟩
theorem pd_non {j pos} : PD X A (.Constant .none j pos) (tC .non) (wC .none) := ⟨pe_non, er_c fun _ => .non⟩
theorem pd_str {x j pos} : PD X A (.Constant (.str x) j pos) (tC (.str x)) (wC (.str x)) := ⟨pe_str, er_c fun _ => .str x⟩
/-- a module's constant -/
theorem pd_glob {x : Str} {v : V} {d : D} {u : Value} {pos : Pos} (hg : Gl X x) (hm : X.mg x = some u) (r : RelV v u) (rd : ∀ F : Hp, RD X.K F v d) (hd : (x == ("__debug__" : Str)) = false := by decide) : PD X A (.Name x pos) (tC v) (wC d) := ⟨pe_glob hg hm r hd, er_c rd⟩
theorem er_raw {K : PySem.W.Frag} {v : V} : ER A K (tC v) (wRaw v) := by
  intro σ F H e post S h Q q
  exact q v (.val (.raw v)) F H e Stp.refl S rfl h
theorem pd_globR {x : Str} {v : V} {u : Value} {pos : Pos} (hg : Gl X x) (hm : X.mg x = some u) (r : RelV v u) (hd : (x == ("__debug__" : Str)) = false := by decide) : PD X A (.Name x pos) (tC v) (wRaw v) := ⟨pe_glob hg hm r hd, er_raw⟩
theorem pd_bltn {x : Str} {v : V} {u : Value} {pos : Pos} (hg : Gl X x) (hm : X.mg x = none) (hv : bootBuiltins x = some u) (r : RelV v u) (hn : x ≠ "__name__" := by decide) (hd : (x == ("__debug__" : Str)) = false := by decide) : PD X A (.Name x pos) (tC v) (wRaw v) := ⟨pe_bltn hg hm hv r hn hd, er_raw⟩
end

/-! ### operators by data -/
abbrev F1 := Av → (Rs → Prop) → Prop
abbrev F2 := Av → Av → (Rs → Prop) → Prop
abbrev FL := List Av → (Rs → Prop) → Prop
def R2D (K : PySem.W.Frag) (f : F2) : R2 := fun x y H Q => ∃ (F : Hp) (a b : Av) (post : Rs → Prop), Ex F H ∧ TopR K F H x a ∧ TopR K F H y b ∧ f a b post ∧ Okr K F H post Q
def R1D (K : PySem.W.Frag) (f : F1) : V → Hp → VK → Prop := fun x H Q => ∃ (F : Hp) (a : Av) (post : Rs → Prop), Ex F H ∧ TopR K F H x a ∧ f a post ∧ Okr K F H post Q
def TopRs (K : PySem.W.Frag) (F H : Hp) : List V → List Av → Prop := Paired (TopR K F H)
def RLD (K : PySem.W.Frag) (f : FL) : List V → Hp → VK → Prop := fun xs H Q => ∃ (F : Hp) (as : List Av) (post : Rs → Prop), Ex F H ∧ TopRs K F H xs as ∧ f as post ∧ Okr K F H post Q
def RMD (K : PySem.W.Frag) (f : Av → FL) : V → List V → Hp → VK → Prop := fun x xs H Q => ∃ (F : Hp) (a : Av) (as : List Av) (post : Rs → Prop), Ex F H ∧ TopR K F H x a ∧ TopRs K F H xs as ∧ f a as post ∧ Okr K F H post Q

def wOp (f : F2) (wa wb : WE) : WE := fun e post => wa e fun r e1 => wb e1 fun s e2 => r.keepIn e2 (f r.av s.av fun t => post t e2)
def wUn (f : F1) (wa : WE) : WE := fun e post => wa e fun r e1 => f r.av fun t => post t e1
section
variable {X : Cx} {A : Amb} {K : PySem.W.Frag} {a b c : Expr} {ta tb tc : TE} {wa wb wc : WE} {pos : Pos} {f : F2} {g : F1}
theorem er_op (ha : ER A K ta wa) (hb : ER A K tb wb) : ER A K (tOp (R2D K f) ta tb) (wOp f wa wb) := by
  intro σ F H e post S h Q q
  refine ha σ F H e _ S h _ fun v r F1 H1 e1 T1 S1 R1 h1 => ?_
  refine hb σ F1 H1 e1 _ S1 h1 _ fun u t F2 H2 e2 T2 S2 R2 h2 => ?_
  obtain ⟨hk, h3⟩ := Rs.keepIn_iff.mp h2
  have R1' := R1.step T2 hk
  refine ⟨F2, r.av, t.av, _, S2.ex, R1'.top S2, R2.top S2, h3, S2.okr fun v' r' F' H' T3 S3 R3 p3 => ?_⟩
  exact q v' r' F' H' e2 ((T1.trans T2).trans T3) S3 (R3.early (T1.trans T2)) p3
theorem er_un (ha : ER A K ta wa) : ER A K (tUn (R1D K g) ta) (wUn g wa) := by
  intro σ F H e post S h Q q
  refine ha σ F H e _ S h _ fun v r F1 H1 e1 T1 S1 R1 h1 => ?_
  refine ⟨F1, r.av, _, S1.ex, R1.top S1, h1, S1.okr fun v' r' F' H' T3 S3 R3 p3 => ?_⟩
  exact q v' r' F' H' e1 (T1.trans T3) S3 (R3.early T1) p3
theorem pd_op {op : Operator} (ho : OpR X (binaryOp op) (R2D X.K f)) (ha : PD X A a ta wa) (hb : PD X A b tb wb) : PD X A (.BinOp a op b pos) (tOp (R2D X.K f) ta tb) (wOp f wa wb) := ⟨pe_op ho ha.pe hb.pe, er_op ha.er hb.er⟩
theorem pd_un {op : UnaryOp} (ho : UnR X (unaryOp op) (R1D X.K g)) (ha : PD X A a ta wa) : PD X A (.UnaryOp op a pos) (tUn (R1D X.K g) ta) (wUn g wa) := ⟨pe_un ho ha.pe, er_un ha.er⟩
theorem pd_cmp {op : CmpOp} (ho : OpR X (compareOp op) (R2D X.K f)) (ha : PD X A a ta wa) (hb : PD X A b tb wb) (hm : behindInMarks op b = false) : PD X A (.Compare a [op] [b] pos) (tOp (R2D X.K f) ta tb) (wOp f wa wb) := ⟨pe_cmpR ho ha.pe hb.pe hm, er_op ha.er hb.er⟩
theorem pd_ix (ho : IxR X (R2D X.K f)) (ha : PD X A a ta wa) (hb : PD X A b tb wb) (hs : PlainIx b) : PD X A (.Subscript a b pos) (tOp (R2D X.K f) ta tb) (wOp f wa wb) := ⟨pe_ix ho ha.pe hb.pe hs, er_op ha.er hb.er⟩
end

/-! ### what the operators do to data -/
def vInt (i : Int) : Rs := .val (.dat (.int i))
def vBl (b : Bool) : Rs := .val (.dat (.bool b))
section
variable {X : Cx} {K : PySem.W.Frag} {F H : Hp} {v : V} {d : D} {ds : List D}
theorem Okr.int {post : Rs → Prop} {Q : VK} (o : Okr K F H post Q) {i : Int} (h : post (vInt i)) : Q (.int i) H := o.val _ (.dat (.int i)) (.int i) h
theorem Okr.bl {post : Rs → Prop} {Q : VK} (o : Okr K F H post Q) {i : Bool} (h : post (vBl i)) : Q (.bl i) H := o.val _ (.dat (.bool i)) (.bl i) h
theorem TopR.dp (e : Ex F H) : ∀ {d : D}, TopR K F H v (.dat d) → SeqAt.shaped d = true → Dp K H v d
  | .none, h, c => (RD.ext e h).dp (SeqAt.canLay_of_shaped c)
  | .bool b, h, c => (RD.ext e h).dp (SeqAt.canLay_of_shaped c)
  | .int i, h, c => (RD.ext e h).dp (SeqAt.canLay_of_shaped c)
  | .str i, h, c => (RD.ext e h).dp (SeqAt.canLay_of_shaped c)
  | .tuple i, h, c => (RD.ext e h).dp (SeqAt.canLay_of_shaped c)
  | .dict i, h, c => (RD.ext e h).dp (SeqAt.canLay_of_shaped c)
  | .list ds, ⟨p, vs, e1, h, t⟩, c => by subst e1; exact .lst (SqL.of h) (RDs.dp (t.ext e) (by have := SeqAt.canLay_of_shaped c; simpa [PyData.canLay0] using this))
theorem TopR.vint {i : Int} (h : TopR K F H v (.dat (.int i))) : v = .int i := by cases h; rfl
theorem TopR.vbl {i : Bool} (h : TopR K F H v (.dat (.bool i))) : v = .bl i := by cases h; rfl
theorem TopR.vstr {i : Str} (h : TopR K F H v (.dat (.str i))) : v = .str i := by cases h; rfl
theorem TopR.vnon (h : TopR K F H v (.dat .none)) : v = .non := by cases h; rfl
theorem TopR.vlst (h : TopR K F H v (.dat (.list ds))) : ∃ p vs, v = .ref p ∧ H p = some (.lst vs) ∧ RDs K F vs ds := h
theorem TopR.vtup (e : Ex F H) (h : TopR K F H v (.dat (.tuple ds))) : ∃ p vs, v = .ref p ∧ TupR K F p vs ∧ SqT K H p vs ∧ RDs K F vs ds := by
  have h' : RD K F v (.tuple ds) := h
  cases h' with
  | tup h1 t => exact ⟨_, _, rfl, h1, e.sqt h1.sqt, t⟩
theorem line5 : (100000 : Nat) ≤ sizeLine := by decide

def ii (g : Int → Int → Int) : F2 := fun a b k => match a, b with
  | .dat (.int i), .dat (.int j) => k (vInt (g i j))
  | _, _ => False
def iC (C : Int → Int → Prop) (g : Int → Int → Int) : F2 := fun a b k => match a, b with
  | .dat (.int i), .dat (.int j) => C i j ∧ k (vInt (g i j))
  | _, _ => False
def iB (g : Int → Int → Bool) : F2 := fun a b k => match a, b with
  | .dat (.int i), .dat (.int j) => k (vBl (g i j))
  | _, _ => False
theorem opd_i {f : Value → Value → Sem Value} {g : Int → Int → Int} (h : OpR X f (rI0 fun i j => .int (g i j))) : OpR X f (R2D X.K (ii g)) := by
  intro pins s σ H x y v u Q I rx ry ⟨F, a, b, post, ex, ta, tb, q, ok⟩
  unfold ii at q
  split at q
  · exact h pins s σ H x y v u Q I rx ry ⟨_, _, ta.vint, tb.vint, ok.int q⟩
  · exact q.elim
theorem opd_iC {f : Value → Value → Sem Value} {C : Int → Int → Prop} {g : Int → Int → Int} (h : OpR X f (rI C fun i j => .int (g i j))) : OpR X f (R2D X.K (iC C g)) := by
  intro pins s σ H x y v u Q I rx ry ⟨F, a, b, post, ex, ta, tb, q, ok⟩
  unfold iC at q
  split at q
  · exact h pins s σ H x y v u Q I rx ry ⟨_, _, ta.vint, tb.vint, q.1, ok.int q.2⟩
  · exact q.elim
theorem opd_iB {f : Value → Value → Sem Value} {g : Int → Int → Bool} (h : OpR X f (rI0 fun i j => .bl (g i j))) : OpR X f (R2D X.K (iB g)) := by
  intro pins s σ H x y v u Q I rx ry ⟨F, a, b, post, ex, ta, tb, q, ok⟩
  unfold iB at q
  split at q
  · exact h pins s σ H x y v u Q I rx ry ⟨_, _, ta.vint, tb.vint, ok.bl q⟩
  · exact q.elim
def oAdd : F2 := fun a b k => match a, b with
  | .dat (.int i), .dat (.int j) => k (vInt (i + j))
  | .dat (.list xs), .dat (.list ys) => xs.length + ys.length ≤ 100000 ∧ k (.new (.lst (xs ++ ys)))
  | .dat (.tuple xs), .dat (.tuple ys) => xs.length + ys.length ≤ 100000 ∧ k (.val (.dat (.tuple (xs ++ ys))))
  | _, _ => False
theorem op_add' : OpR X (binaryOp .Add) (R2D X.K oAdd) := by
  intro pins s σ H x y v u Q I rx ry ⟨F, a, b, post, ex, ta, tb, q, ok⟩
  unfold oAdd at q
  split at q
  · exact op_add pins s σ H x y v u Q I rx ry ⟨_, _, ta.vint, tb.vint, ok.int q⟩
  · obtain ⟨p, vs, e1, h1, r1⟩ := ta.vlst
    obtain ⟨p', vs', e1', h1', r1'⟩ := tb.vlst
    have l1 := r1.length
    have l2 := r1'.length
    exact op_cat pins s σ H x y v u Q I rx ry ⟨p, p', vs, vs', e1, e1', h1, h1', Nat.le_trans (by omega) line5, fun p np => ok.new p _ (.lst _) np ⟨_, rfl, r1.append r1'⟩ q.2⟩
  · obtain ⟨p, vs, e1, f1, h1, r1⟩ := ta.vtup ex
    obtain ⟨p', vs', e1', f1', h1', r1'⟩ := tb.vtup ex
    have l1 := r1.length
    have l2 := r1'.length
    refine op_catF pins s σ H x y v u Q I rx ry ⟨p, p', vs, vs', e1, e1', h1, h1', Nat.le_trans (by omega) line5, fun z => ?_, fun z1 z2 => ?_, fun z1 z2 => ok.tup _ _ (r1.append r1') q.2⟩
    · subst z
      cases r1
      exact ok.val _ (.dat (.tuple _)) (.tup f1' r1') q.2
    · subst z2
      cases r1'
      rename_i q
      simp only [List.append_nil] at q
      exact ok.val _ (.dat (.tuple _)) (.tup f1 r1) q.2
  · exact q.elim
def oSub : F2 := ii fun i j => i - j
theorem op_sub' : OpR X (binaryOp .Sub) (R2D X.K oSub) := opd_i op_sub
/-- * of ints (one factor below 2^64), of a list and an int -/
def oMul : F2 := fun a b k => match a, b with
  | .dat (.int i), .dat (.int j) => CMul i j ∧ k (vInt (i * j))
  | .dat (.list xs), .dat (.int j) => -(2 ^ 63) ≤ j ∧ j < 2 ^ 63 ∧ xs.length * j.toNat ≤ 100000 ∧ k (.new (.lst (List.replicate j.toNat xs).flatten))
  | _, _ => False
theorem RDs.flat {vs : List V} {ds : List D} (h : RDs K F vs ds) : ∀ n : Nat, RDs K F (List.replicate n vs).flatten (List.replicate n ds).flatten
  | 0 => .nil
  | n + 1 => by
    rw [List.replicate_succ, List.replicate_succ, List.flatten_cons, List.flatten_cons]
    exact h.append (RDs.flat h n)
theorem op_mul' : OpR X (binaryOp .Mult) (R2D X.K oMul) := by
  intro pins s σ H x y v u Q I rx ry ⟨F, a, b, post, ex, ta, tb, q, ok⟩
  unfold oMul at q
  split at q
  · exact op_mul pins s σ H x y v u Q I rx ry ⟨_, _, ta.vint, tb.vint, q.1, ok.int q.2⟩
  · obtain ⟨p, vs, e1, h1, r1⟩ := ta.vlst
    have l1 := r1.length
    exact op_rep pins s σ H x y v u Q I rx ry ⟨p, _, vs, e1, tb.vint, h1, q.1, q.2.1, Nat.le_trans (by rw [l1]; exact q.2.2.1) line5, fun p np => ok.new p _ (.lst _) np ⟨_, rfl, r1.flat _⟩ q.2.2.2⟩
  · exact q.elim
/-- * of great ints: both together below a million bits -/
def oMulW : F2 := iC CMulW fun i j => i * j
theorem op_mulW' : OpR X (binaryOp .Mult) (R2D X.K oMulW) := opd_iC op_mulW
def oFdiv : F2 := iC CDivN fun i j => i.fdiv j
theorem op_fdiv' : OpR X (binaryOp .FloorDiv) (R2D X.K oFdiv) := opd_iC op_fdivN
def oFdivW : F2 := iC CDivW fun i j => i / j
theorem op_fdivW' : OpR X (binaryOp .FloorDiv) (R2D X.K oFdivW) := opd_iC op_fdivW
def oMod : F2 := iC (fun _ j => 0 < j) fun i j => i % j
theorem op_mod' : OpR X (binaryOp .Mod) (R2D X.K oMod) := opd_iC op_mod
def oPow : F2 := iC CPow fun i j => i ^ j.toNat
theorem op_pow' : OpR X (binaryOp .Pow) (R2D X.K oPow) := opd_iC op_pow
def oShl : F2 := iC CPow fun i j => i * 2 ^ j.toNat
theorem op_shl' : OpR X (binaryOp .LShift) (R2D X.K oShl) := opd_iC op_shl
def oShr : F2 := iC (fun _ j => 0 ≤ j) fun i j => i / 2 ^ j.toNat
theorem op_shr' : OpR X (binaryOp .RShift) (R2D X.K oShr) := opd_iC op_shr
def oAnd : F2 := ii Builtin.bitAnd
theorem op_and' : OpR X (binaryOp .BitAnd) (R2D X.K oAnd) := opd_i op_and
def oOr : F2 := ii Builtin.bitOr
theorem op_or' : OpR X (binaryOp .BitOr) (R2D X.K oOr) := opd_i op_or
def oLt : F2 := iB fun i j => decide (i < j)
theorem op_lt' : OpR X (compareOp .Lt) (R2D X.K oLt) := opd_iB op_lt
def oLe : F2 := iB fun i j => decide (i ≤ j)
theorem op_le' : OpR X (compareOp .LtE) (R2D X.K oLe) := opd_iB op_le
def oGt : F2 := iB fun i j => decide (j < i)
theorem op_gt' : OpR X (compareOp .Gt) (R2D X.K oGt) := opd_iB op_gt
def oGe : F2 := iB fun i j => decide (j ≤ i)
theorem op_ge' : OpR X (compareOp .GtE) (R2D X.K oGe) := opd_iB op_ge
/-- == and != of data -/
def oEq : F2 := fun a b k => match a, b with
  | .dat d, .dat e => SeqAt.shaped d = true ∧ SeqAt.shaped e = true ∧ k (vBl (PyData.eqv d e))
  | _, _ => False
def oNe : F2 := fun a b k => match a, b with
  | .dat d, .dat e => SeqAt.shaped d = true ∧ SeqAt.shaped e = true ∧ k (vBl (!PyData.eqv d e))
  | _, _ => False
theorem op_eq' (hu : X.A.units + 64 < cLine) : OpR X (compareOp .Eq) (R2D X.K oEq) := by
  intro pins s σ H x y v u Q I rx ry ⟨F, a, b, post, ex, ta, tb, q, ok⟩
  unfold oEq at q
  split at q
  · exact op_eqD hu pins s σ H x y v u Q I rx ry ⟨_, _, ta.dp ex q.1, tb.dp ex q.2.1, q.1, q.2.1, ok.bl q.2.2⟩
  · exact q.elim
theorem op_ne' (hu : X.A.units + 64 < cLine) : OpR X (compareOp .NotEq) (R2D X.K oNe) := by
  intro pins s σ H x y v u Q I rx ry ⟨F, a, b, post, ex, ta, tb, q, ok⟩
  unfold oNe at q
  split at q
  · exact op_neD hu pins s σ H x y v u Q I rx ry ⟨_, _, ta.dp ex q.1, tb.dp ex q.2.1, q.1, q.2.1, ok.bl q.2.2⟩
  · exact q.elim
/-- is None -/
def isNon : D → Bool
  | .none => true
  | _ => false
def oIsN : F2 := fun a b k => match a, b with
  | .dat d, .dat .none => k (vBl (isNon d))
  | _, _ => False
def oNotN : F2 := fun a b k => match a, b with
  | .dat d, .dat .none => k (vBl (!isNon d))
  | _, _ => False
theorem TopR.isN (h : TopR K F H v (.dat d)) : decide (v = .non) = isNon d := by
  cases d with
  | none => rw [h.vnon]; rfl
  | bool b => rw [h.vbl]; rfl
  | int b => rw [h.vint]; rfl
  | str b => rw [h.vstr]; rfl
  | list b => obtain ⟨p, vs, e1, _⟩ := h.vlst; rw [e1]; rfl
  | tuple b =>
    have h' : RD K F v (.tuple b) := h
    cases h'; rfl
  | dict b =>
    have h' : RD K F v (.dict b) := h
    cases h' <;> exact decide_eq_false (by intro z; cases z)
theorem op_isN' : OpR X (compareOp .Is) (R2D X.K oIsN) := by
  intro pins s σ H x y v u Q I rx ry ⟨F, a, b, post, ex, ta, tb, q, ok⟩
  unfold oIsN at q
  split at q
  · exact op_isN pins s σ H x y v u Q I rx ry ⟨tb.vnon, ok.bl (by rw [ta.isN]; exact q)⟩
  · exact q.elim
theorem op_notN' : OpR X (compareOp .IsNot) (R2D X.K oNotN) := by
  intro pins s σ H x y v u Q I rx ry ⟨F, a, b, post, ex, ta, tb, q, ok⟩
  unfold oNotN at q
  split at q
  · exact op_notN pins s σ H x y v u Q I rx ry ⟨tb.vnon, ok.bl (by rw [ta.isN]; exact q)⟩
  · exact q.elim
/-- in: lists, tuples, dicts -/
def keyOf? : D → Option Key
  | .int i => some (.inl i)
  | .str x => some (.inr x)
  | _ => none
def lookD (kvs : List (Key × D)) (k : Key) : Option D := (kvs.find? fun kv => decide (kv.1 = k)).map (·.2)
def oIn : F2 := fun a b k => match a, b with
  | .dat d, .dat (.list ds) => SeqAt.shaped d = true ∧ SeqAt.shaped (.list ds) = true ∧ k (vBl (ds.any fun z => PyData.eqv z d))
  | .dat d, .dat (.tuple ds) => SeqAt.shaped d = true ∧ SeqAt.shaped (.tuple ds) = true ∧ k (vBl (ds.any fun z => PyData.eqv z d))
  | .dat d, .dic kvs => ∃ y, keyOf? d = some y ∧ k (vBl (lookD kvs y).isSome)
  | _, _ => False
def oNotIn : F2 := fun a b k => match a, b with
  | .dat d, .dat (.list ds) => SeqAt.shaped d = true ∧ SeqAt.shaped (.list ds) = true ∧ k (vBl (!ds.any fun z => PyData.eqv z d))
  | .dat d, .dat (.tuple ds) => SeqAt.shaped d = true ∧ SeqAt.shaped (.tuple ds) = true ∧ k (vBl (!ds.any fun z => PyData.eqv z d))
  | .dat d, .dic kvs => ∃ y, keyOf? d = some y ∧ k (vBl (!(lookD kvs y).isSome))
  | _, _ => False
theorem keyOf_kV {y : Key} (h : TopR K F H v (.dat d)) (e : keyOf? d = some y) : v = kV y := by
  cases d with
  | int i => simp [keyOf?] at e; subst e; exact h.vint
  | str i => simp [keyOf?] at e; subst e; exact h.vstr
  | _ => simp [keyOf?] at e
theorem KvR.look : ∀ {vs : List (Key × V)} {kvs : List (Key × D)} {y : Key}, KvR K F vs kvs → (∀ d, lookD kvs y = some d → ∃ v, valV vs y = some v ∧ RD K F v d) ∧ (lookD kvs y = none → valV vs y = none)
  | _, _, y, .nil => ⟨fun d h => by simp [lookD] at h, fun _ => rfl⟩
  | (k1, v1) :: vs, (k2, d2) :: kvs, y, .cons ⟨e, r⟩ t => by
    have e' : k1 = k2 := e
    subst e'
    by_cases c : k1 = y
    · subst c
      refine ⟨fun d h => ⟨v1, ?_, ?_⟩, fun h => ?_⟩
      · simp [valV]
      · simp [lookD] at h; subst h; exact r
      · simp [lookD] at h
    · obtain ⟨h1, h2⟩ := KvR.look (y := y) t
      have a1 : lookD ((k1, d2) :: kvs) y = lookD kvs y := by simp [lookD, c]
      have a2 : valV ((k1, v1) :: vs) y = valV vs y := by simp [valV, c]
      rw [a1, a2]
      exact ⟨h1, h2⟩
theorem KvR.isSome {vs : List (Key × V)} {kvs : List (Key × D)} (h : KvR K F vs kvs) (y : Key) : (valV vs y).isSome = (lookD kvs y).isSome := by
  obtain ⟨h1, h2⟩ := h.look (y := y)
  cases e : lookD kvs y with
  | none => rw [h2 e]; rfl
  | some d => obtain ⟨w, ew, _⟩ := h1 d e; rw [ew]; rfl
theorem op_in' (hu : X.A.units + 65 < cLine) : OpR X (compareOp .In) (R2D X.K oIn) := by
  intro pins s σ H x y v u Q I rx ry ⟨F, a, b, post, ex, ta, tb, q, ok⟩
  unfold oIn at q
  split at q
  · exact op_inD hu pins s σ H x y v u Q I rx ry ⟨_, _, ta.dp ex q.1, tb.dp ex q.2.1, q.1, q.2.1, ok.bl q.2.2⟩
  · obtain ⟨sd, se, q⟩ := q
    obtain ⟨as, r1⟩ := Dp.reads I _ x v (ta.dp ex sd) rx
    obtain ⟨bs, r2⟩ := Dp.reads I _ y u (tb.dp ex se) ry
    exact SeqAt.in_tuple_reads r2 r1 (SeqAt.canLay_of_shaped se) (SeqAt.canLay_of_shaped sd) (PyProof.Rows.room_in_shaped sd hu) ⟨.bl _, H, I, rfl, ok.bl q⟩
  · obtain ⟨y', ky, q⟩ := q
    obtain ⟨p, vs, e1, h1, r1⟩ := tb
    subst e1
    cases ry
    have e2 := keyOf_kV ta ky
    subst e2
    exact d_in (by omega) I (DGet.k h1) rx fun s3 I3 => ⟨.bl _, H, I3, rfl, ok.bl (by rw [r1.isSome]; exact q)⟩
  · exact q.elim
theorem op_notIn' (hu : X.A.units + 65 < cLine) : OpR X (compareOp .NotIn) (R2D X.K oNotIn) := by
  intro pins s σ H x y v u Q I rx ry ⟨F, a, b, post, ex, ta, tb, q, ok⟩
  unfold oNotIn at q
  split at q
  · exact op_notInD hu pins s σ H x y v u Q I rx ry ⟨_, _, ta.dp ex q.1, tb.dp ex q.2.1, q.1, q.2.1, ok.bl q.2.2⟩
  · obtain ⟨sd, se, q⟩ := q
    obtain ⟨as, r1⟩ := Dp.reads I _ x v (ta.dp ex sd) rx
    obtain ⟨bs, r2⟩ := Dp.reads I _ y u (tb.dp ex se) ry
    exact SeqAt.notIn_tuple_reads r2 r1 (SeqAt.canLay_of_shaped se) (SeqAt.canLay_of_shaped sd) (PyProof.Rows.room_in_shaped sd hu) ⟨.bl _, H, I, rfl, ok.bl q⟩
  · obtain ⟨y', ky, q⟩ := q
    obtain ⟨p, vs, e1, h1, r1⟩ := tb
    subst e1
    cases ry
    have e2 := keyOf_kV ta ky
    subst e2
    exact d_notIn (by omega) I (DGet.k h1) rx fun s3 I3 => ⟨.bl _, H, I3, rfl, ok.bl (by rw [r1.isSome]; exact q)⟩
  · exact q.elim
/-- an index, of any sign -/
def oIx : F2 := fun a b k => match a, b with
  | .dat (.list ds), .dat (.int i) => ∃ d, atI ds i = some d ∧ k (.val (.dat d))
  | .dat (.tuple ds), .dat (.int i) => ∃ d, atI ds i = some d ∧ k (.val (.dat d))
  | .dic kvs, .dat d => ∃ y e, keyOf? d = some y ∧ lookD kvs y = some e ∧ k (.val (.dat e))
  | _, _ => False
theorem RDs.atI {vs : List V} {ds : List D} (h : RDs K F vs ds) {i : Int} {d : D} (e : L2.atI ds i = some d) : ∃ v, L2.atI vs i = some v ∧ RD K F v d := by
  unfold L2.atI at e ⊢
  rw [h.length]
  obtain ⟨j, hj, e⟩ := Option.bind_eq_some_iff.mp e
  obtain ⟨v, hv, r⟩ := h.get e
  exact ⟨v, by rw [hj]; exact hv, r⟩
theorem ix' (hu : X.A.units + 1 < cLine) : IxR X (R2D X.K oIx) := by
  intro value slice pins s σ H x y v u Q I rx ry ⟨F, a, b, post, ex, ta, tb, q, ok⟩ hs
  unfold oIx at q
  split at q
  · obtain ⟨d, hd, q⟩ := q
    obtain ⟨p, vs, e1, h1, r1⟩ := ta.vlst
    obtain ⟨w, hw, rw'⟩ := r1.atI hd
    exact ix_list value slice pins s σ H x y v u Q I rx ry ⟨p, vs, _, w, e1, tb.vint, SqL.of h1, hw, ok.val w (.dat d) rw' q⟩ hs
  · obtain ⟨d, hd, q⟩ := q
    obtain ⟨p, vs, e1, f1, h1, r1⟩ := ta.vtup ex
    obtain ⟨w, hw, rw'⟩ := r1.atI hd
    exact ix_tup value slice pins s σ H x y v u Q I rx ry ⟨p, vs, _, w, e1, tb.vint, h1, hw, ok.val w (.dat d) rw' q⟩ hs
  · obtain ⟨y', d, ky, hd, q⟩ := q
    obtain ⟨p, vs, e1, h1, r1⟩ := ta
    subst e1
    cases rx
    have e2 := keyOf_kV tb ky
    subst e2
    obtain ⟨w, hw, rw'⟩ := r1.look.1 d hd
    have g : DGet H p (kV y') (some w) := by rw [← hw]; exact DGet.k h1
    exact PyProof.Rows.tail_any (dict_typeIs I g) PySem.F.slot_dict_getitem.lookup (d_getItem hu I g ry fun w' s3 I3 rw2 => ⟨w, H, I3, rw2, ok.val w (.dat d) rw' q⟩) hs
  · exact q.elim
def oNeg : F1 := fun a k => match a with
  | .dat (.int i) => k (vInt (-i))
  | _ => False
theorem un_neg' : UnR X (unaryOp .USub) (R1D X.K oNeg) := by
  intro pins s σ H x v Q I rx ⟨F, a, post, ex, ta, q, ok⟩
  unfold oNeg at q
  split at q
  · exact un_neg pins s σ H x v Q I rx ⟨_, ta.vint, ok.int q⟩
  · exact q.elim
end
end PL

namespace PL
open PySem L2

/-! ### tests -/
abbrev WT := En → (Bool → En → Prop) → Prop
def ETR (A : Amb) (K : PySem.W.Frag) (tt : TT) (w : WT) : Prop :=
  ∀ (σ : St) (F H : Hp) (e : En) (post : Bool → En → Prop), Sta A K σ F H e → w e post → ∀ Q : Bool → Hp → Prop,
    (∀ b F' H' e', Stp A σ F H e F' H' e' → Sta A K σ F' H' e' → post b e' → Q b H') → tt σ H Q
structure PDT (X : Cx) (A : Amb) (ex : Expr) (tt : TT) (w : WT) : Prop where
  pt : PT X ex tt
  er : ETR A X.K tt w
structure PDW (X : Cx) (A : Amb) (ex : Expr) (tt : TT) (w : WT) : Prop where
  pw : PW X ex tt
  er : ETR A X.K tt w
theorem PDW.pdt {X : Cx} {A : Amb} {ex : Expr} {tt : TT} {w : WT} (h : PDW X A ex tt w) : PDT X A ex tt w := ⟨h.pw.pt, h.er⟩
def wTest (we : WE) : WT := fun e post => we e fun r e1 => match r.av with
  | .dat (.bool b) => post b e1
  | _ => False
def wAnd (wa wb : WT) : WT := fun e post => wa e fun b e1 => if b = true then wb e1 post else post false e1
def wOr (wa wb : WT) : WT := fun e post => wa e fun b e1 => if b = true then post true e1 else wb e1 post
def wNot (wa : WT) : WT := fun e post => wa e fun b e1 => post (!b) e1
section
variable {X : Cx} {A : Amb} {K : PySem.W.Frag} {a b c : Expr} {rest : List Expr} {ta tb tc : TE} {wa wb wc : WE} {sa sb : TT} {va vb : WT} {pos : Pos} {f f' : F2}
theorem RsR.vbool {σ : St} {F H0 H : Hp} {e : En} {v : V} {r : Rs} {k : Bool} (h : RsR K A σ H0 F H e v r) (S : Sta A K σ F H e) (q : r.av = .dat (.bool k)) : v = .bl k := by
  have t := h.top S
  rw [q] at t
  exact t.vbl
theorem er_test (h : ER A K ta wa) : ETR A K (tTest ta) (wTest wa) := by
  intro σ F H e post S q Q k
  refine h σ F H e _ S q _ fun v r F1 H1 e1 T1 S1 R1 h1 => ?_
  revert h1
  cases ha : r.av with
  | dat d =>
    cases d with
    | bool b => exact fun h1 => ⟨b, R1.vbool S1 ha, k b F1 H1 e1 T1 S1 h1⟩
    | _ => exact fun h1 => h1.elim
  | _ => exact fun h1 => h1.elim
theorem er_B (h : ER A K ta wa) : ETR A K (tB ta) (wTest wa) := er_test h
theorem pdt_val (h : PD X A a ta wa) (he : ∀ whole, isTrue a X.env whole = (do let v ← whole; standAt a.pos; holding [v] (truthy v)) := by intro _; rfl) : PDT X A a (tB ta) (wTest wa) := ⟨pt_val h.pe he, er_B h.er⟩
theorem pdt_cmp {op : CmpOp} (ho : OpR X (compareOp op) (R2D X.K f)) (ha : PD X A a ta wa) (hb : PD X A b tb wb) (hm : behindInMarks op b = false) : PDT X A (.Compare a [op] [b] pos) (tTest (tOp (R2D X.K f) ta tb)) (wTest (wOp f wa wb)) := ⟨pt_cmpR ho ha.pe hb.pe hm, er_test (er_op ha.er hb.er)⟩
theorem er_not (h : ETR A K sa va) : ETR A K (tNot sa) (wNot va) := by
  intro σ F H e post S q Q k
  exact h σ F H e _ S q _ fun b F1 H1 e1 T1 S1 h1 => k _ F1 H1 e1 T1 S1 h1
theorem pdt_not (h : PDT X A a sa va) : PDT X A (.UnaryOp .Not a pos) (tNot sa) (wNot va) := ⟨pt_not h.pt, er_not h.er⟩
theorem er_and (ha : ETR A K sa va) (hb : ETR A K sb vb) : ETR A K (tAnd sa sb) (wAnd va vb) := by
  intro σ F H e post S q Q k
  refine ha σ F H e _ S q _ fun b F1 H1 e1 T1 S1 h1 => ?_
  cases b with
  | true => exact hb σ F1 H1 e1 _ S1 h1 _ fun b F2 H2 e2 T2 S2 h2 => k b F2 H2 e2 (T1.trans T2) S2 h2
  | false => exact k false F1 H1 e1 T1 S1 h1
theorem er_or (ha : ETR A K sa va) (hb : ETR A K sb vb) : ETR A K (tOr sa sb) (wOr va vb) := by
  intro σ F H e post S q Q k
  refine ha σ F H e _ S q _ fun b F1 H1 e1 T1 S1 h1 => ?_
  cases b with
  | false => exact hb σ F1 H1 e1 _ S1 h1 _ fun b F2 H2 e2 T2 S2 h2 => k b F2 H2 e2 (T1.trans T2) S2 h2
  | true => exact k true F1 H1 e1 T1 S1 h1
theorem pdw_and1 (h : PDT X A a sa va) : PDW X A (.BoolOp .And [a] pos) sa va := ⟨pw_and1 h.pt, h.er⟩
theorem pdw_or1 (h : PDT X A a sa va) : PDW X A (.BoolOp .Or [a] pos) sa va := ⟨pw_or1 h.pt, h.er⟩
theorem pdw_and (ha : PDT X A a sa va) (hb : PDW X A (.BoolOp .And (b :: rest) pos) sb vb) : PDW X A (.BoolOp .And (a :: b :: rest) pos) (tAnd sa sb) (wAnd va vb) := ⟨pw_and ha.pt hb.pw, er_and ha.er hb.er⟩
theorem pdw_or (ha : PDT X A a sa va) (hb : PDW X A (.BoolOp .Or (b :: rest) pos) sb vb) : PDW X A (.BoolOp .Or (a :: b :: rest) pos) (tOr sa sb) (wOr va vb) := ⟨pw_or ha.pt hb.pw, er_or ha.er hb.er⟩
/-! as values -/
def wAndV (wa wb : WE) : WE := fun e post => wa e fun r e1 => match r.av with
  | .dat (.bool b) => if b = true then wb e1 post else post (vBl false) e1
  | _ => False
def wOrV (wa wb : WE) : WE := fun e post => wa e fun r e1 => match r.av with
  | .dat (.bool b) => if b = true then post (vBl true) e1 else wb e1 post
  | _ => False
def wNotV (wa : WE) : WE := fun e post => wa e fun r e1 => match r.av with
  | .dat (.bool b) => post (vBl (!b)) e1
  | _ => False
theorem pd_one {op} (h : PD X A a ta wa) : PD X A (.BoolOp op [a] pos) ta wa := ⟨pe_one h.pe, h.er⟩
theorem er_andV (ha : ER A K ta wa) (hb : ER A K tb wb) : ER A K (tAndV ta tb) (wAndV wa wb) := by
  intro σ F H e post S q Q k
  refine ha σ F H e _ S q _ fun v r F1 H1 e1 T1 S1 R1 h1 => ?_
  revert h1
  cases hr : r.av with
  | dat d =>
    cases d with
    | bool b =>
      intro h1
      refine ⟨b, R1.vbool S1 hr, ?_⟩
      cases b with
      | true => exact hb σ F1 H1 e1 _ S1 h1 _ fun v r F2 H2 e2 T2 S2 R2 h2 => k v r F2 H2 e2 (T1.trans T2) S2 (R2.early T1) h2
      | false => exact k _ (vBl false) F1 H1 e1 T1 S1 (.bl false) h1
    | _ => exact fun h1 => h1.elim
  | _ => exact fun h1 => h1.elim
theorem er_orV (ha : ER A K ta wa) (hb : ER A K tb wb) : ER A K (tOrV ta tb) (wOrV wa wb) := by
  intro σ F H e post S q Q k
  refine ha σ F H e _ S q _ fun v r F1 H1 e1 T1 S1 R1 h1 => ?_
  revert h1
  cases hr : r.av with
  | dat d =>
    cases d with
    | bool b =>
      intro h1
      refine ⟨b, R1.vbool S1 hr, ?_⟩
      cases b with
      | false => exact hb σ F1 H1 e1 _ S1 h1 _ fun v r F2 H2 e2 T2 S2 R2 h2 => k v r F2 H2 e2 (T1.trans T2) S2 (R2.early T1) h2
      | true => exact k _ (vBl true) F1 H1 e1 T1 S1 (.bl true) h1
    | _ => exact fun h1 => h1.elim
  | _ => exact fun h1 => h1.elim
theorem er_notV (ha : ER A K ta wa) : ER A K (tNotV ta) (wNotV wa) := by
  intro σ F H e post S q Q k
  refine ha σ F H e _ S q _ fun v r F1 H1 e1 T1 S1 R1 h1 => ?_
  revert h1
  cases hr : r.av with
  | dat d =>
    cases d with
    | bool b => exact fun h1 => ⟨b, R1.vbool S1 hr, k _ (vBl (!b)) F1 H1 e1 T1 S1 (.bl _) h1⟩
    | _ => exact fun h1 => h1.elim
  | _ => exact fun h1 => h1.elim
theorem pd_and (ha : PD X A a ta wa) (hb : PD X A (.BoolOp .And (b :: rest) pos) tb wb) : PD X A (.BoolOp .And (a :: b :: rest) pos) (tAndV ta tb) (wAndV wa wb) := ⟨pe_and ha.pe hb.pe, er_andV ha.er hb.er⟩
theorem pd_or (ha : PD X A a ta wa) (hb : PD X A (.BoolOp .Or (b :: rest) pos) tb wb) : PD X A (.BoolOp .Or (a :: b :: rest) pos) (tOrV ta tb) (wOrV wa wb) := ⟨pe_or ha.pe hb.pe, er_orV ha.er hb.er⟩
theorem pd_not (ha : PD X A a ta wa) : PD X A (.UnaryOp .Not a pos) (tNotV ta) (wNotV wa) := ⟨pe_not ha.pe, er_notV ha.er⟩
/-! a if t else b -/
def wIf (t : WT) (wa wb : WE) : WE := fun e post => t e fun b e1 => if b = true then wa e1 post else wb e1 post
theorem er_if (ht : ETR A K sa va) (ha : ER A K ta wa) (hb : ER A K tb wb) : ER A K (tIf sa ta tb) (wIf va wa wb) := by
  intro σ F H e post S q Q k
  refine ht σ F H e _ S q _ fun b F1 H1 e1 T1 S1 h1 => ?_
  cases b with
  | true => exact ha σ F1 H1 e1 _ S1 h1 _ fun v r F2 H2 e2 T2 S2 R2 h2 => k v r F2 H2 e2 (T1.trans T2) S2 (R2.early T1) h2
  | false => exact hb σ F1 H1 e1 _ S1 h1 _ fun v r F2 H2 e2 T2 S2 R2 h2 => k v r F2 H2 e2 (T1.trans T2) S2 (R2.early T1) h2
theorem pd_ifExp (hc : PDT X A c sa va) (ha : PD X A a ta wa) (hb : PD X A b tb wb) : PD X A (.IfExp c a b pos) (tIf sa ta tb) (wIf va wa wb) := ⟨pe_ifExp hc.pt ha.pe hb.pe, er_if hc.er ha.er hb.er⟩
/-! a < b < c -/
def wChain (f f' : F2) (wa wb wc : WE) : WE := fun e post => wa e fun r e1 => wb e1 fun s e2 => r.keepIn e2 (f r.av s.av fun t => match t with
  | .val (.dat (.bool k)) => if k = true then wc e2 fun u e3 => s.keepIn e3 (f' s.av u.av fun t => post t e3) else post (vBl false) e2
  | _ => False)
theorem er_chain (ha : ER A K ta wa) (hb : ER A K tb wb) (hc : ER A K tc wc) : ER A K (tChain (R2D K f) (R2D K f') ta tb tc) (wChain f f' wa wb wc) := by
  intro σ F H e post S q Q k
  refine ha σ F H e _ S q _ fun x r F1 H1 e1 T1 S1 R1 h1 => ?_
  refine hb σ F1 H1 e1 _ S1 h1 _ fun y s F2 H2 e2 T2 S2 R2 h2 => ?_
  obtain ⟨hk, h3⟩ := Rs.keepIn_iff.mp h2
  have R1' := R1.step T2 hk
  refine ⟨F2, r.av, s.av, _, S2.ex, R1'.top S2, R2.top S2, h3, S2.okr fun v' r' F3 H3 T3 S3 R3 p3 => ?_⟩
  match r', R3, p3 with
  | .val (.dat (.bool b)), R3, p3 =>
    refine ⟨b, R3.vbool S3 rfl, ?_⟩
    cases b with
    | false => exact k _ (vBl false) F3 H3 e2 ((T1.trans T2).trans T3) S3 (.bl false) p3
    | true =>
      have R2' := R2.step T3 (by cases s with
        | loan i o => exact R2.1
        | lent p j o => exact R2.2
        | _ => trivial)
      refine hc σ F3 H3 e2 _ S3 p3 _ fun z u F4 H4 e4 T4 S4 R4 h4 => ?_
      obtain ⟨hk4, h4⟩ := Rs.keepIn_iff.mp h4
      have R2'' := R2'.step T4 hk4
      refine ⟨F4, s.av, u.av, _, S4.ex, R2''.top S4, R4.top S4, h4, S4.okr fun v' r' F' H' T5 S5 R5 p5 => ?_⟩
      exact k v' r' F' H' e4 ((((T1.trans T2).trans T3).trans T4).trans T5) S5 (R5.early (((T1.trans T2).trans T3).trans T4)) p5
theorem pd_chain {op op' : CmpOp} (ho : OpR X (compareOp op) (R2D X.K f)) (ho' : OpR X (compareOp op') (R2D X.K f')) (ha : PD X A a ta wa) (hb : PD X A b tb wb) (hc : PD X A c tc wc)
    (hm : lastMarks [op, op'] [b, c] = false := by with_unfolding_all rfl) : PD X A (.Compare a [op, op'] [b, c] pos) (tChain (R2D X.K f) (R2D X.K f') ta tb tc) (wChain f f' wa wb wc) := ⟨pe_chain ho ho' ha.pe hb.pe hc.pe hm, er_chain ha.er hb.er hc.er⟩
theorem pdt_chain {op op' : CmpOp} (ho : OpR X (compareOp op) (R2D X.K f)) (ho' : OpR X (compareOp op') (R2D X.K f')) (ha : PD X A a ta wa) (hb : PD X A b tb wb) (hc : PD X A c tc wc)
    (hm : lastMarks [op, op'] [b, c] = false := by with_unfolding_all rfl) : PDT X A (.Compare a [op, op'] [b, c] pos) (tTest (tChain (R2D X.K f) (R2D X.K f') ta tb tc)) (wTest (wChain f f' wa wb wc)) := ⟨pt_chain ho ho' ha.pe hb.pe hc.pe hm, er_test (er_chain ha.er hb.er hc.er)⟩
end

/-! ### argument lists -/
abbrev WA := En → (List Rs → En → Prop) → Prop
def RsRs (K : PySem.W.Frag) (A : Amb) (σ : St) (H0 F H : Hp) (e : En) : List V → List Rs → Prop := Paired (RsR K A σ H0 F H e)
def AER (A : Amb) (K : PySem.W.Frag) (ta : TA) (w : WA) : Prop :=
  ∀ (σ : St) (F H : Hp) (e : En) (post : List Rs → En → Prop), Sta A K σ F H e → w e post → ∀ Q : List V → Hp → Prop,
    (∀ vs rs F' H' e', Stp A σ F H e F' H' e' → Sta A K σ F' H' e' → RsRs K A σ H F' H' e' vs rs → post rs e' → Q vs H') → ta σ H Q
structure PAD (X : Cx) (A : Amb) (es : List Expr) (ta : TA) (w : WA) : Prop where
  pa : PA X es ta
  er : AER A X.K ta w
def wNil : WA := fun e post => post [] e
def wCons (we : WE) (wa : WA) : WA := fun e post => we e fun r e1 => wa e1 fun rs e2 => r.keepIn e2 (post (r :: rs) e2)
section
variable {X : Cx} {A : Amb} {K : PySem.W.Frag} {a : Expr} {es : List Expr} {te : TE} {ta : TA} {we : WE} {wa : WA} {pos : Pos} {σ : St} {F F0 F' H H0 H' : Hp} {e e0 e' : En}
theorem aer_nil : AER A K tNil wNil := fun σ F H e post S h Q q => q [] [] F H e Stp.refl S .nil h
theorem aer_cons (h1 : ER A K te we) (h2 : AER A K ta wa) : AER A K (tCons te ta) (wCons we wa) := by
  intro σ F H e post S h Q q
  refine h1 σ F H e _ S h _ fun v r F1 H1 e1 T1 S1 R1 k1 => ?_
  refine h2 σ F1 H1 e1 _ S1 k1 _ fun vs rs F2 H2 e2 T2 S2 R2 k2 => ?_
  obtain ⟨hk, k3⟩ := Rs.keepIn_iff.mp k2
  exact q (v :: vs) (r :: rs) F2 H2 e2 (T1.trans T2) S2 (.cons (R1.step T2 hk) (Paired.mapP R2 fun _ _ z => z.early T1)) k3
theorem pad_nil : PAD X A [] tNil wNil := ⟨pa_nil, aer_nil⟩
theorem pad_cons (h1 : PD X A a te we) (h2 : PAD X A es ta wa) (hs : starEach (a :: es) X.env = (false, eval a X.env) :: starEach es X.env := by rfl) : PAD X A (a :: es) (tCons te ta) (wCons we wa) := ⟨pa_cons h1.pe h2.pa hs, aer_cons h1.er h2.er⟩
theorem RsRs.top {vs : List V} {rs : List Rs} (h : RsRs K A σ H0 F H e vs rs) (S : Sta A K σ F H e) : TopRs K F H vs (rs.map Rs.av) := by
  induction rs generalizing vs with
  | nil => cases h; exact .nil
  | cons r rs ih => cases h with | cons h t => exact .cons (h.top S) (ih t)

/-! ### freezing -/
def En.set (e : En) (i : Nat) (s : Sl) : En := ⟨e.sl.set i s, e.n⟩
def frz1 (e : En) : Rs → En
  | .loan i o => (match e.sl[i]? with
    | some (.ow _) => e.set i (.im o.av)
    | _ => e)
  | _ => e
def frz (e : En) : List Rs → En
  | [] => e
  | r :: rs => frz (frz1 e r) rs
/-- no list or dict of an object's -/
def Rs.free : Rs → Prop
  | .lent _ _ _ => False
  | _ => True
/-- P, of what is free -/
def Rs.fre (r : Rs) (P : Prop) : Prop := match r with
  | .lent _ _ _ => False
  | .val _ => P
  | .new _ => P
  | .loan _ _ => P
def frees : List Rs → Prop → Prop
  | [], P => P
  | r :: rs, P => r.fre (frees rs P)
theorem Rs.fre_iff {r : Rs} {P : Prop} : r.fre P ↔ r.free ∧ P := by cases r <;> simp [Rs.fre, Rs.free]
theorem frees_iff : ∀ {rs : List Rs} {P : Prop}, frees rs P ↔ (∀ r ∈ rs, r.free) ∧ P
  | [], P => by simp [frees]
  | r :: rs, P => by
    show r.fre _ ↔ _
    rw [Rs.fre_iff, frees_iff]
    simp [and_assoc]
/-- a result, or what it has become -/
def Rs.settled (e : En) : Rs → Prop
  | .loan i _ => ∀ o', e.sl[i]? ≠ some (.ow o')
  | _ => True
def RsX (K : PySem.W.Frag) (A : Amb) (σ : St) (H0 F H : Hp) (e : En) (v : V) (r : Rs) : Prop := (RelA K F v r.av ∧ r.settled e) ∨ RsR K A σ H0 F H e v r
theorem OwR.av {ho : HO} {o : Ow} {p : Addr} (h : OwR K F ho o) (e : F p = some ho) : RelA K F (.ref p) o.av := by
  cases o with
  | lst ds => obtain ⟨vs, e1, r⟩ := h; subst e1; exact .lst e r
  | dic kvs => obtain ⟨vs, e1, r⟩ := h; subst e1; exact ⟨p, vs, rfl, e, r⟩
theorem freeze1 {v : V} {r : Rs} (hf : r.free) (B : Stp A σ F0 H0 e0 F H e) (S : Sta A K σ F H e) (h : RsX K A σ H0 F H e v r) :
    ∃ F', Stp A σ F0 H0 e0 F' H (frz1 e r) ∧ Sta A K σ F' H (frz1 e r) ∧ Ex F F' ∧ RelA K F' v r.av ∧ ∀ u s, RsX K A σ H0 F H e u s → RsX K A σ H0 F' H (frz1 e r) u s := by
  have frzLoan : ∀ (i : Nat) (o : Ow), e.sl[i]? = some (Sl.ow o) → ∃ p ho, σ[i]? = some (some (V.ref p)) ∧ F p = none ∧ H p = some ho ∧ OwR K F ho o := fun i o hi => S.at_ i _ hi
  match r, h with
  | .lent p j o, h => exact hf.elim
  | .val a, h =>
    refine ⟨F, B, S, Ex.refl _, ?_, fun u s z => z⟩
    rcases h with h | h
    · exact h.1
    · exact h
  | .new o, .inl h => exact ⟨F, B, S, Ex.refl _, h.1, fun u s z => z⟩
  | .new o, .inr ⟨p, ho, ev, h0, f, g, q, nr, no⟩ =>
    subst ev
    have ex : Ex F (upd F p ho) := upd_old f
    have B' : Stp A σ F0 H0 e0 (upd F p ho) H e := ⟨B.ex.trans ex, fun a o' x y z => by
      obtain ⟨b1, b2⟩ := B.keep a o' x y z
      exact ⟨b1, by rw [upd_ne (ne_of_none x h0)]; exact b2⟩, B.own, B.liv, B.rsn⟩
    have S' : Sta A K σ (upd F p ho) H e := ⟨S.len, fun a o' z => by
      by_cases c : a = p
      · subst c; rw [upd_same] at z; cases z; exact g
      · rw [upd_ne c] at z; exact S.ex a o' z, fun i s hs => (S.at_ i s hs).ext ex fun q' e' ⟨o', hw⟩ f' g' => ⟨by
        rw [upd_ne]
        · exact f'
        · intro z; subst z; exact no i ⟨⟨o', by rw [hs, hw]⟩, e'⟩, rfl⟩, S.sep, S.ri.st ex (fun a ha => by rw [upd_ne fun z => by subst z; exact nr ha]; exact S.rsF a ha) (fun _ _ => rfl), fun a ha => by rw [upd_ne fun z => by subst z; exact nr ha]; exact S.rsF a ha, S.rsO⟩
    have rel : RelA K (upd F p ho) (.ref p) o.av := (q.ext ex).av upd_same
    refine ⟨_, B', S', ex, rel, fun u s z => ?_⟩
    rcases z with z | z
    · exact .inl ⟨z.1.ext ex, z.2⟩
    · match s, z with
      | .val a, z => exact .inl ⟨RelA.ext ex z, trivial⟩
      | .new o', ⟨p', ho', ev', h0', f', g', q', nr', no'⟩ =>
        by_cases c : p' = p
        · subst c
          rw [g] at g'; cases g'
          subst ev'
          exact .inl ⟨(q'.ext ex).av upd_same, trivial⟩
        · exact .inr ⟨p', ho', ev', h0', by rw [upd_ne c]; exact f', g', q'.ext ex, nr', no'⟩
      | .loan j o', z => exact .inr z
      | .lent p' j o', z => exact .inr z
  | .loan i o, .inl ⟨h, hs⟩ =>
    have e1 : frz1 e (.loan i o) = e := by
      show (match e.sl[i]? with | some (.ow _) => e.set i (.im o.av) | _ => e) = e
      split
      · rename_i o' ho'; exact absurd ho' (hs o')
      · rfl
    rw [e1]
    exact ⟨F, B, S, Ex.refl _, h, fun u s z => z⟩
  | .loan i o, .inr ⟨h1, h2⟩ =>
    have e1 : frz1 e (.loan i o) = e.set i (.im o.av) := by
      show (match e.sl[i]? with | some (.ow _) => e.set i (.im o.av) | _ => e) = _
      rw [h1]
    rw [e1]
    obtain ⟨p, ho, e1, f, g, q⟩ := frzLoan i o h1
    rw [h2] at e1
    have ev : v = .ref p := by simpa using e1
    subst ev
    have own : Owns e σ i p := ⟨⟨o, h1⟩, h2⟩
    have own0 := B.own i p own
    have nr := S.rsO i p own
    have ex : Ex F (upd F p ho) := upd_old f
    have li : i < e.sl.length := (List.getElem?_eq_some_iff.mp h1).1
    have gs : ∀ (j : Nat) (s : Sl), (e.set i (.im o.av)).sl[j]? = some s → (j = i ∧ s = .im o.av) ∨ (j ≠ i ∧ e.sl[j]? = some s) := fun j s z => by
      have z' : (e.sl.set i (.im o.av))[j]? = some s := z
      by_cases c : j = i
      · subst c
        rw [List.getElem?_set_self li] at z'
        exact .inl ⟨rfl, (Option.some.inj z').symm⟩
      · rw [List.getElem?_set_ne (Ne.symm c)] at z'
        exact .inr ⟨c, z'⟩
    have gn : ∀ (j : Nat), j ≠ i → (e.set i (.im o.av)).sl[j]? = e.sl[j]? := fun j c => by
      show (e.sl.set i _)[j]? = _
      rw [List.getElem?_set_ne (Ne.symm c)]
    have owns' : ∀ j q', Owns (e.set i (.im o.av)) σ j q' → Owns e σ j q' ∧ j ≠ i := fun j q' ⟨⟨o', z⟩, z2⟩ => by
      rcases gs j _ z with ⟨_, z3⟩ | ⟨c, z3⟩
      · cases z3
      · exact ⟨⟨⟨o', z3⟩, z2⟩, c⟩
    have rel : RelA K (upd F p ho) (.ref p) o.av := (q.ext ex).av upd_same
    refine ⟨upd F p ho, ⟨B.ex.trans ex, fun a o' x y z => ?_, fun j q' z => B.own j q' (owns' j q' z).1, B.liv, B.rsn⟩, ⟨?_, fun a o' z => ?_, fun j s z => ?_, fun j k q' z1 z2 => S.sep j k q' (owns' j q' z1).1 (owns' k q' z2).1, S.ri.st ex (fun a ha => by rw [upd_ne fun z => by subst z; exact nr ha]; exact S.rsF a ha) (fun _ _ => rfl), fun a ha => by rw [upd_ne fun z => by subst z; exact nr ha]; exact S.rsF a ha, fun j q' z => S.rsO j q' (owns' j q' z).1⟩, ex, rel, fun u s z => ?_⟩
    · obtain ⟨b1, b2⟩ := B.keep a o' x y z
      refine ⟨b1, ?_⟩
      rw [upd_ne fun c => z i (by subst c; exact own0)]
      exact b2
    · show (e.sl.set i _).length = _
      rw [List.length_set]; exact S.len
    · by_cases c : a = p
      · subst c; rw [upd_same] at z; cases z; exact g
      · rw [upd_ne c] at z; exact S.ex a o' z
    · rcases gs j s z with ⟨c, z3⟩ | ⟨c, z3⟩
      · subst c z3; exact ⟨.ref p, h2, rel⟩
      · refine (S.at_ j s z3).ext ex fun q' e' ⟨o', hw⟩ f' g' => ⟨?_, rfl⟩
        rw [upd_ne]
        · exact f'
        · intro z4; subst z4; exact c (S.sep j i q' ⟨⟨o', by rw [z3, hw]⟩, e'⟩ own)
    · rcases z with ⟨z, zs⟩ | z
      · refine .inl ⟨z.ext ex, ?_⟩
        match s, zs with
        | .val a, _ => trivial
        | .new a, _ => trivial
        | .lent _ _ _, _ => trivial
        | .loan j o', zs =>
          intro o2 z2
          rcases gs j _ z2 with ⟨_, z3⟩ | ⟨_, z3⟩
          · cases z3
          · exact zs o2 z3
      · match s, z with
        | .val a, z => exact .inl ⟨RelA.ext ex z, trivial⟩
        | .new o', ⟨p', ho', ev', h0', f', g', q', nr', no'⟩ =>
          have c : p' ≠ p := fun z => by subst z; exact no' i own
          exact .inr ⟨p', ho', ev', h0', by rw [upd_ne c]; exact f', g', q'.ext ex, nr', fun j z => no' j (owns' j p' z).1⟩
        | .loan j o', ⟨z1, z2⟩ =>
          by_cases c : j = i
          · subst c
            rw [h1] at z1; cases z1
            rw [h2] at z2
            have eu : u = .ref p := by simpa using z2.symm
            subst eu
            refine .inl ⟨rel, fun o2 z3 => ?_⟩
            rcases gs j _ z3 with ⟨_, z4⟩ | ⟨z4, _⟩
            · cases z4
            · exact z4 rfl
          · exact .inr ⟨by rw [gn j c]; exact z1, z2⟩
        | .lent p' j o', z => exact .inr z
theorem freeze : ∀ {rs : List Rs} {vs : List V} {F : Hp} {e : En}, (∀ r ∈ rs, r.free) → Stp A σ F0 H0 e0 F H e → Sta A K σ F H e → Paired (RsX K A σ H0 F H e) vs rs →
    ∃ F', Stp A σ F0 H0 e0 F' H (frz e rs) ∧ Sta A K σ F' H (frz e rs) ∧ Ex F F' ∧ Paired (RelA K F') vs (rs.map Rs.av)
  | [], _, F, e, _, B, S, .nil => ⟨F, B, S, Ex.refl _, .nil⟩
  | r :: rs, _, F, e, hf, B, S, .cons h t => by
    obtain ⟨F1, B1, S1, x1, r1, m1⟩ := freeze1 (hf r (by simp)) B S h
    obtain ⟨F2, B2, S2, x2, r2⟩ := freeze (fun z hz => hf z (by simp [hz])) B1 S1 (Paired.mapP t fun u s z => m1 u s z)
    exact ⟨F2, B2, S2, x1.trans x2, .cons (r1.ext x2) r2⟩
theorem freezeR {rs : List Rs} {vs : List V} (hf : ∀ r ∈ rs, r.free) (B : Stp A σ F0 H0 e0 F H e) (S : Sta A K σ F H e) (h : RsRs K A σ H0 F H e vs rs) :
    ∃ F', Stp A σ F0 H0 e0 F' H (frz e rs) ∧ Sta A K σ F' H (frz e rs) ∧ Ex F F' ∧ Paired (RelA K F') vs (rs.map Rs.av) := freeze hf B S (Paired.mapP h fun _ _ z => .inr z)
end
end PL

namespace PL
open PySem L2

/-! ### displays -/
def dats : List Av → Option (List D)
  | [] => some []
  | .dat d :: r => (dats r).map (d :: ·)
  | _ => none
def wTup (wa : WA) : WE := fun e post => wa e fun rs e1 => frees rs (∃ ds, dats (rs.map Rs.av) = some ds ∧ ds.length ≤ 100000 ∧ post (.val (.dat (.tuple ds))) (frz e1 rs))
def wLst (wa : WA) : WE := fun e post => wa e fun rs e1 => frees rs (∃ ds, dats (rs.map Rs.av) = some ds ∧ ds.length ≤ 100000 ∧ post (.new (.lst ds)) (frz e1 rs))
section
variable {X : Cx} {A : Amb} {K : PySem.W.Frag} {a : Expr} {es : List Expr} {te : TE} {ta : TA} {we : WE} {wa : WA} {pos : Pos} {σ : St} {F F0 F' H H0 H' : Hp} {e e0 e' : En}
theorem dats_rds : ∀ {as : List Av} {vs : List V} {ds : List D}, Paired (RelA K F) vs as → dats as = some ds → RDs K F vs ds
  | [], _, _, .nil, h => by cases h; exact .nil
  | .dat d :: r, _, ds, .cons h t, e => by
    unfold dats at e
    cases z : dats r with
    | none => rw [z] at e; cases e
    | some es =>
      rw [z] at e
      cases e
      exact .cons h (dats_rds t z)
theorem er_tup (h : AER A K ta wa) : ER A K (tTupF ta) (wTup wa) := by
  intro σ F H e post S q Q k
  refine h σ F H e _ S q _ fun vs rs F1 H1 e1 T1 S1 R1 hh => ?_
  obtain ⟨hf, ds, hd, hl, hp⟩ := frees_iff.mp hh
  obtain ⟨F2, B2, S2, x2, r2⟩ := freezeR hf T1 S1 R1
  have rd := dats_rds r2 hd
  refine ⟨Nat.le_trans (by rw [rd.length]; exact hl) line5, ?_⟩
  exact (S2.okr (post := fun r => post r (frz e1 rs)) fun v r F3 H3 T3 S3 R3 p3 => k v r F3 H3 _ (B2.trans T3) S3 (R3.early B2) p3).tup vs ds rd hp
theorem er_lst (h : AER A K ta wa) : ER A K (tLst ta) (wLst wa) := by
  intro σ F H e post S q Q k
  refine h σ F H e _ S q _ fun vs rs F1 H1 e1 T1 S1 R1 hh => ?_
  obtain ⟨hf, ds, hd, hl, hp⟩ := frees_iff.mp hh
  obtain ⟨F2, B2, S2, x2, r2⟩ := freezeR hf T1 S1 R1
  have rd := dats_rds r2 hd
  refine ⟨Nat.le_trans (by rw [rd.length]; exact hl) line5, fun p np => ?_⟩
  exact (S2.okr (post := fun r => post r (frz e1 rs)) fun v r F3 H3 T3 S3 R3 p3 => k v r F3 H3 _ (B2.trans T3) S3 (R3.early B2) p3).new p (.lst vs) (.lst ds) np ⟨vs, rfl, rd⟩ hp
theorem pd_tup {x1} (h : PAD X A es ta wa) : PD X A (.Tuple es x1 pos) (tTupF ta) (wTup wa) := ⟨pe_tupF h.pa, er_tup h.er⟩
theorem pd_lst (h : PAD X A es ta wa) : PD X A (.List es pos) (tLst ta) (wLst wa) := ⟨pe_lst h.pa, er_lst h.er⟩
end

/-! ### slices -/
abbrev WO := En → (Option Int → En → Prop) → Prop
def OER (A : Amb) (K : PySem.W.Frag) (to : TO) (w : WO) : Prop :=
  ∀ (σ : St) (F H : Hp) (e : En) (post : Option Int → En → Prop), Sta A K σ F H e → w e post → ∀ Q : Option Int → Hp → Prop,
    (∀ o F' H' e', Stp A σ F H e F' H' e' → Sta A K σ F' H' e' → post o e' → Q o H') → to σ H Q
structure POD (X : Cx) (A : Amb) (ex : Option Expr) (to : TO) (w : WO) : Prop where
  po : PO X ex to
  er : OER A X.K to w
def wNoPart : WO := fun e post => post none e
def wPart (we : WE) : WO := fun e post => we e fun r e1 => match r.av with
  | .dat (.int i) => post (some i) e1
  | _ => False
def cutD (xs : List D) (lo hi : Option Int) : List D := (xs.drop (HT.sIx xs.length 0 lo)).take (HT.sIx xs.length xs.length hi - HT.sIx xs.length 0 lo)
def oSl (a : Av) (lo hi : Option Int) (k : Rs → Prop) : Prop := match a with
  | .dat (.list ds) => k (.new (.lst (cutD ds lo hi)))
  | .dat (.tuple ds) => k (.val (.dat (.tuple (cutD ds lo hi))))
  | _ => False
def wSl (we : WE) (wl wh : WO) : WE := fun e post => we e fun r e1 => wl e1 fun lo e2 => wh e2 fun hi e3 => r.keepIn e2 (r.keepIn e3 (oSl r.av lo hi fun t => post t e3))
def RSl (K : PySem.W.Frag) : V → Option Int → Option Int → Hp → VK → Prop := fun x lo hi H Q => ∃ (F : Hp) (a : Av) (post : Rs → Prop), Ex F H ∧ TopR K F H x a ∧ oSl a lo hi post ∧ Okr K F H post Q
section
variable {X : Cx} {A : Amb} {K : PySem.W.Frag} {a b c : Expr} {ea eb : Option Expr} {te : TE} {ta tb : TO} {we : WE} {wa wb : WO} {pos p2 : Pos} {F H : Hp}
theorem pod_none : POD X A none tNoPart wNoPart := ⟨po_none, fun σ F H e post S h Q q => q none F H e Stp.refl S h⟩
theorem er_part (h : ER A K te we) : OER A K (tPart te) (wPart we) := by
  intro σ F H e post S q Q k
  refine h σ F H e _ S q _ fun v r F1 H1 e1 T1 S1 R1 h1 => ?_
  revert h1
  cases hr : r.av with
  | dat d =>
    cases d with
    | int i => exact fun h1 => ⟨i, by have t := R1.top S1; rw [hr] at t; exact t.vint, k _ F1 H1 e1 T1 S1 h1⟩
    | _ => exact fun h1 => h1.elim
  | _ => exact fun h1 => h1.elim
theorem pod_some (h : PD X A a te we) : POD X A (some a) (tPart te) (wPart we) := ⟨po_some h.pe, er_part h.er⟩
theorem RDs.cut {vs : List V} {ds : List D} (h : RDs K F vs ds) (lo hi : Option Int) : RDs K F (cutV vs lo hi) (cutD ds lo hi) := by
  unfold cutV cutD
  rw [h.length]
  exact (h.drop _).take _
theorem sl' : SlR X (RSl X.K) := by
  intro pins s σ H x v vl vu lo hi sl Q I rx hs pl pu ⟨F, a, post, ex, ta, q, ok⟩
  unfold oSl at q
  split at q
  · obtain ⟨p, vs, e1, h1, r1⟩ := ta.vlst
    exact sl_list pins s σ H x v vl vu lo hi sl Q I rx hs pl pu ⟨p, vs, e1, SqL.of h1, fun p' np => ok.new p' _ (.lst _) np ⟨_, rfl, r1.cut lo hi⟩ q⟩
  · rename_i ds
    obtain ⟨p, vs, e1, f1, h1, r1⟩ := ta.vtup ex
    refine sl_tupF pins s σ H x v vl vu lo hi sl Q I rx hs pl pu ⟨p, vs, e1, h1, fun hw => ?_, fun hw => ok.tup _ _ (r1.cut lo hi) q⟩
    have e2 : cutD ds lo hi = ds := by
      unfold cutD
      rw [← r1.length, hw.1, hw.2, List.drop_zero, Nat.sub_zero, r1.length, List.take_length]
    rw [e2] at q
    exact ok.val _ (.dat (.tuple _)) (.tup f1 r1) q
  · exact q.elim
theorem er_sl (h : ER A K te we) (ha : OER A K ta wa) (hb : OER A K tb wb) : ER A K (tSl (RSl K) te ta tb) (wSl we wa wb) := by
  intro σ F H e post S q Q k
  refine h σ F H e _ S q _ fun v r F1 H1 e1 T1 S1 R1 h1 => ?_
  refine ha σ F1 H1 e1 _ S1 h1 _ fun lo F2 H2 e2 T2 S2 h2 => ?_
  refine hb σ F2 H2 e2 _ S2 h2 _ fun hi F3 H3 e3 T3 S3 h3 => ?_
  obtain ⟨k1, h4⟩ := Rs.keepIn_iff.mp h3
  obtain ⟨k2, h5⟩ := Rs.keepIn_iff.mp h4
  have R3 := (R1.step T2 k1).step T3 k2
  exact ⟨F3, r.av, _, S3.ex, R3.top S3, h5, S3.okr fun v' r' F' H' T4 S4 R4 p4 => k v' r' F' H' e3 (((T1.trans T2).trans T3).trans T4) S4 (R4.early ((T1.trans T2).trans T3)) p4⟩
theorem pd_slice (h : PD X A a te we) (ha : POD X A ea ta wa) (hb : POD X A eb tb wb) : PD X A (.Subscript a (.Slice ea eb none p2) pos) (tSl (RSl X.K) te ta tb) (wSl we wa wb) := ⟨pe_slice sl' h.pe ha.po hb.po, er_sl h.er ha.er hb.er⟩
end

/-! ### calls of what is built in -/
def wCB (f : FL) (wa : WA) : WE := fun e post => wa e fun rs e1 => f (rs.map Rs.av) fun t => post t e1
section
variable {X : Cx} {A : Amb} {K : PySem.W.Frag} {x : Str} {p pos : Pos} {a : Expr} {es : List Expr} {ta : TA} {wa : WA} {f : FL} {id T : String}
theorem er_cb (h : AER A K ta wa) : ER A K (tCB (RLD K f) ta) (wCB f wa) := by
  intro σ F H e post S q Q k
  refine h σ F H e _ S q _ fun vs rs F1 H1 e1 T1 S1 R1 h1 => ?_
  exact ⟨F1, _, _, S1.ex, R1.top S1, h1, S1.okr fun v' r' F' H' T4 S4 R4 p4 => k v' r' F' H' e1 (T1.trans T4) S4 (R4.early T1) p4⟩
theorem pd_callB (hc : CallR X (.builtin id) (RLD X.K f)) (hg : Gl X x) (hm : X.mg x = none) (hv : bootBuiltins x = some (.builtin id)) (ha : PAD X A (a :: es) ta wa) (hn : x ≠ "__name__" := by decide) (hdb : (x == ("__debug__" : Str)) = false := by decide)
    (he : starEach (a :: es) X.env = (false, eval a X.env) :: starEach es X.env := by rfl) (hpl : (backTo pos (starEach es X.env)).any (·.1) = false := by rfl) : PD X A (.Call (.Name x p) (a :: es) [] pos) (tCB (RLD X.K f) ta) (wCB f wa) :=
  ⟨pe_callB hc hg hm hv ha.pa hn hdb he hpl, er_cb ha.er⟩
theorem pd_callTy (hc : CallR X (.type T) (RLD X.K f)) (hg : Gl X x) (hm : X.mg x = none) (hv : bootBuiltins x = some (.type T)) (ha : PAD X A (a :: es) ta wa) (hn : x ≠ "__name__" := by decide) (hdb : (x == ("__debug__" : Str)) = false := by decide)
    (he : starEach (a :: es) X.env = (false, eval a X.env) :: starEach es X.env := by rfl) (hpl : (backTo pos (starEach es X.env)).any (·.1) = false := by rfl) : PD X A (.Call (.Name x p) (a :: es) [] pos) (tCB (RLD X.K f) ta) (wCB f wa) :=
  ⟨pe_callTy hc hg hm hv ha.pa hn hdb he hpl, er_cb ha.er⟩
end
/-- methods of built-in types that change nothing -/
def wBM (f : Av → FL) (we : WE) (wa : WA) : WE := fun e post => we e fun r e1 => wa e1 fun rs e2 => r.keepIn e2 (f r.av (rs.map Rs.av) fun t => post t e2)

/-! ### what the built-in functions do to data -/
def fLen : FL := fun as k => match as with
  | [.dat (.list ds)] => k (vInt ds.length)
  | [.dat (.tuple ds)] => k (vInt ds.length)
  | [.dat (.str x)] => x.length ≤ 100000 ∧ k (vInt x.length)
  | [.dic kvs] => k (vInt kvs.length)
  | _ => False
def f1I (g : Int → Int) : FL := fun as k => match as with
  | [.dat (.int i)] => k (vInt (g i))
  | _ => False
def f2I (g : Int → Int → Int) : FL := fun as k => match as with
  | [.dat (.int i), .dat (.int j)] => k (vInt (g i j))
  | _ => False
def fInt : FL := fun as k => match as with
  | [.dat (.int i)] => k (vInt i)
  | [.dat (.bool b)] => k (vInt (if b then 1 else 0))
  | _ => False
def ints? : List D → Option (List Int)
  | [] => some []
  | .int i :: r => (ints? r).map (i :: ·)
  | _ => none
def bls? : List D → Option (List Bool)
  | [] => some []
  | .bool i :: r => (bls? r).map (i :: ·)
  | _ => none
theorem ints?_eq : ∀ {ds : List D} {is : List Int}, ints? ds = some is → ds = is.map PyData.int
  | [], is, h => by cases h; rfl
  | d :: r, is, h => by
    cases d with
    | int i =>
      simp only [ints?] at h
      cases z : ints? r with
      | none => rw [z] at h; cases h
      | some js => rw [z] at h; cases h; rw [ints?_eq z]; rfl
    | _ => simp [ints?] at h
theorem ints?_map : ∀ (is : List Int), ints? (is.map PyData.int) = some is
  | [] => rfl
  | i :: is => by simp [ints?, ints?_map is]
theorem bls?_eq : ∀ {ds : List D} {is : List Bool}, bls? ds = some is → ds = is.map PyData.bool
  | [], is, h => by cases h; rfl
  | d :: r, is, h => by
    cases d with
    | bool i =>
      simp only [bls?] at h
      cases z : bls? r with
      | none => rw [z] at h; cases h
      | some js => rw [z] at h; cases h; rw [bls?_eq z]; rfl
    | _ => simp [bls?] at h
theorem bls?_map : ∀ (is : List Bool), bls? (is.map PyData.bool) = some is
  | [] => rfl
  | i :: is => by simp [bls?, bls?_map is]
def fSum : FL := fun as k => match as with
  | [.dat (.list ds)] => ∃ is, ints? ds = some is ∧ k (vInt is.sum)
  | _ => False
def fAny : FL := fun as k => match as with
  | [.dat (.list ds)] => ∃ is, bls? ds = some is ∧ k (vBl (is.any id))
  | _ => False
def fAll : FL := fun as k => match as with
  | [.dat (.list ds)] => ∃ is, bls? ds = some is ∧ k (vBl (is.all id))
  | _ => False
def fMinMax (less : Int → Int → Prop) : FL := fun as k => match as with
  | [.dat (.int i), .dat (.int j)] => ∀ m, (m = i ∨ m = j) → ¬ less i m → ¬ less j m → k (vInt m)
  | [.dat (.list ds)] => ∃ is, ints? ds = some is ∧ is ≠ [] ∧ ∀ m, m ∈ is → (∀ y ∈ is, ¬ less y m) → k (vInt m)
  | _ => False
def fMin : FL := fMinMax fun i j => i < j
def fMax : FL := fMinMax fun i j => j < i
def fTuple : FL := fun as k => match as with
  | [.dat (.list ds)] => k (.val (.dat (.tuple ds)))
  | [.dat (.tuple ds)] => k (.val (.dat (.tuple ds)))
  | _ => False
def fList : FL := fun as k => match as with
  | [.dat (.list ds)] => k (.new (.lst ds))
  | [.dat (.tuple ds)] => k (.new (.lst ds))
  | _ => False
/-- sorted of ints -/
def fSortedI : FL := fun as k => match as with
  | [.dat (.list ds)] => ∃ is, ints? ds = some is ∧ is.length < 64 ∧ ∀ js : List Int, js.Perm is → js.Pairwise (· ≤ ·) → k (.new (.lst (js.map PyData.int)))
  | _ => False
/-- isinstance of data and a built-in class -/
def tyD : D → Value
  | .none => .type "NoneType"
  | .bool _ => .type "bool"
  | .int _ => .type "int"
  | .str _ => .type "str"
  | .list _ => .type "list"
  | .tuple _ => .type "tuple"
  | .dict _ => .type "dict"
def isD (T : String) : D → Bool
  | .none => T == "NoneType"
  | .bool _ => T == "bool" || T == "int"
  | .int _ => T == "int"
  | .str _ => T == "str"
  | .list _ => T == "list"
  | .tuple _ => T == "tuple"
  | .dict _ => T == "dict"
def dInt : D → Bool
  | .int _ => true
  | .bool _ => true
  | _ => false
def dBool : D → Bool
  | .bool _ => true
  | _ => false
def dStr : D → Bool
  | .str _ => true
  | _ => false
def dTup : D → Bool
  | .tuple _ => true
  | _ => false
/-- P, for what is no dict and no object -/
def guardD (d : D) (P : Prop) : Prop := match d with
  | .dict _ => False
  | .none => P
  | .bool _ => P
  | .int _ => P
  | .str _ => P
  | .list _ => P
  | .tuple _ => P
theorem guardD_iff {d : D} {P : Prop} : guardD d P ↔ (∀ kvs, d ≠ .dict kvs) ∧ P := by cases d <;> simp [guardD]
def fIsi (T : String) (g : D → Bool) : FL := fun as k => match as with
  | [.dat d, .raw (.ty T')] => T' = T ∧ guardD d (k (vBl (g d)))
  | _ => False
section
variable {X : Cx} {K : PySem.W.Frag} {F H : Hp} {v : V}
theorem call_len' : CallR X (.builtin "len") (RLD X.K fLen) := by
  intro pins s σ H xs us Q I r ⟨F, as, post, ex, ta, q, ok⟩
  unfold fLen at q
  split at q
  · cases ta with | cons ta tn => cases tn; obtain ⟨p, vs, e1, h1, r1⟩ := ta.vlst; exact call_len_seq pins s σ H _ us Q I r ⟨p, vs, by rw [e1], .inl (SqL.of h1), by rw [r1.length]; exact ok.int q⟩
  · cases ta with | cons ta tn => cases tn; obtain ⟨p, vs, e1, f1, h1, r1⟩ := ta.vtup ex; exact call_len_seq pins s σ H _ us Q I r ⟨p, vs, by rw [e1], .inr h1, by rw [r1.length]; exact ok.int q⟩
  · cases ta with | cons ta tn => cases tn; exact call_len_str pins s σ H _ us Q I r ⟨_, by rw [ta.vstr], Nat.le_trans q.1 line5, ok.int q.2⟩
  · cases ta with
    | cons ta tn =>
      cases tn
      obtain ⟨p, vs, e1, h1, r1⟩ := ta
      have l : vs.length = _ := Paired.length r1
      exact call_lenD pins s σ H _ us Q I r ⟨p, vs, by rw [e1], h1, by rw [l]; exact ok.int q⟩
  · exact q.elim
theorem call_abs' : CallR X (.builtin "abs") (RLD X.K (f1I fun i => if i < 0 then -i else i)) := by
  intro pins s σ H xs us Q I r ⟨F, as, post, ex, ta, q, ok⟩
  unfold f1I at q
  split at q
  · cases ta with | cons ta tn => cases tn; exact call_abs pins s σ H _ us Q I r ⟨_, by rw [ta.vint], ok.int q⟩
  · exact q.elim
theorem call_int' : CallR X (.type "int") (RLD X.K fInt) := by
  intro pins s σ H xs us Q I r ⟨F, as, post, ex, ta, q, ok⟩
  unfold fInt at q
  split at q
  · cases ta with | cons ta tn => cases tn; exact call_int1 pins s σ H _ us Q I r (.inl ⟨_, by rw [ta.vint], ok.int q⟩)
  · cases ta with | cons ta tn => cases tn; exact call_int1 pins s σ H _ us Q I r (.inr ⟨_, by rw [ta.vbl], ok.int q⟩)
  · exact q.elim
theorem TopR.ints {ds : List D} {is : List Int} (h : TopR K F H v (.dat (.list ds))) (e : ints? ds = some is) : ∃ p, v = .ref p ∧ H p = some (.lst (is.map V.int)) := by
  obtain ⟨p, vs, e1, h1, r1⟩ := h.vlst
  have e2 := ints?_eq e
  subst e2
  exact ⟨p, e1, by rw [← r1.ints]; exact h1⟩
theorem TopR.bls {ds : List D} {is : List Bool} (h : TopR K F H v (.dat (.list ds))) (e : bls? ds = some is) : ∃ p, v = .ref p ∧ H p = some (.lst (is.map V.bl)) := by
  obtain ⟨p, vs, e1, h1, r1⟩ := h.vlst
  have e2 := bls?_eq e
  subst e2
  exact ⟨p, e1, by rw [← r1.bls]; exact h1⟩
theorem call_sum' (hc : X.calm = true) : CallR X (.builtin "sum") (RLD X.K fSum) := by
  intro pins s σ H xs us Q I r ⟨F, as, post, ex, ta, q, ok⟩
  unfold fSum at q
  split at q
  · cases ta with
    | cons ta tn =>
      cases tn
      obtain ⟨is, hi, q⟩ := q
      obtain ⟨p, e1, h1⟩ := ta.ints hi
      exact cr_sum hc pins s σ H _ us Q I r ⟨p, is, by rw [e1], SqL.of h1, ok.int q⟩
  · exact q.elim
theorem call_any' (hc : X.calm = true) : CallR X (.builtin "any") (RLD X.K fAny) := by
  intro pins s σ H xs us Q I r ⟨F, as, post, ex, ta, q, ok⟩
  unfold fAny at q
  split at q
  · cases ta with
    | cons ta tn =>
      cases tn
      obtain ⟨is, hi, q⟩ := q
      obtain ⟨p, e1, h1⟩ := ta.bls hi
      exact cr_any hc pins s σ H _ us Q I r ⟨p, is, by rw [e1], SqL.of h1, ok.bl q⟩
  · exact q.elim
theorem call_all' (hc : X.calm = true) : CallR X (.builtin "all") (RLD X.K fAll) := by
  intro pins s σ H xs us Q I r ⟨F, as, post, ex, ta, q, ok⟩
  unfold fAll at q
  split at q
  · cases ta with
    | cons ta tn =>
      cases tn
      obtain ⟨is, hi, q⟩ := q
      obtain ⟨p, e1, h1⟩ := ta.bls hi
      exact cr_all hc pins s σ H _ us Q I r ⟨p, is, by rw [e1], SqL.of h1, ok.bl q⟩
  · exact q.elim
theorem call_max' (hc : X.calm = true) : CallR X (.builtin "max") (RLD X.K fMax) := by
  intro pins s σ H xs us Q I r ⟨F, as, post, ex, ta, q, ok⟩
  unfold fMax fMinMax at q
  split at q
  · cases ta with
    | cons ta tn =>
      cases tn with
      | cons tb tn =>
        cases tn
        refine call_max2 hc pins s σ H _ us Q I r ⟨_, _, by rw [ta.vint, tb.vint], ok.int (q _ ?_ ?_ ?_)⟩
        all_goals (split <;> first | omega | simp)
  · cases ta with
    | cons ta tn =>
      cases tn
      obtain ⟨is, hi, hne, q⟩ := q
      obtain ⟨p, e1, h1⟩ := ta.ints hi
      exact cr_max hc pins s σ H _ us Q I r ⟨p, is, by rw [e1], SqL.of h1, List.length_pos_iff.mpr hne, fun m hm hy => ok.int (q m hm fun y z => Int.not_lt.mpr (hy y z))⟩
  · exact q.elim
theorem call_min' (hc : X.calm = true) : CallR X (.builtin "min") (RLD X.K fMin) := by
  intro pins s σ H xs us Q I r ⟨F, as, post, ex, ta, q, ok⟩
  unfold fMin fMinMax at q
  split at q
  · cases ta with
    | cons ta tn =>
      cases tn with
      | cons tb tn =>
        cases tn
        refine call_min2 hc pins s σ H _ us Q I r ⟨_, _, by rw [ta.vint, tb.vint], ok.int (q _ ?_ ?_ ?_)⟩
        all_goals (split <;> first | omega | simp)
  · cases ta with
    | cons ta tn =>
      cases tn
      obtain ⟨is, hi, hne, q⟩ := q
      obtain ⟨p, e1, h1⟩ := ta.ints hi
      exact cr_min hc pins s σ H _ us Q I r ⟨p, is, by rw [e1], SqL.of h1, List.length_pos_iff.mpr hne, fun m hm hy => ok.int (q m hm fun y z => Int.not_lt.mpr (hy y z))⟩
  · exact q.elim
theorem call_tuple' : CallR X (.type "tuple") (RLD X.K fTuple) := by
  intro pins s σ H xs us Q I r ⟨F, as, post, ex, ta, q, ok⟩
  unfold fTuple at q
  split at q
  · cases ta with | cons ta tn => cases tn; obtain ⟨p, vs, e1, h1, r1⟩ := ta.vlst; exact call_tupleF pins s σ H _ us Q I r ⟨p, vs, by rw [e1], .inl ⟨SqL.of h1, ok.tup vs _ r1 q⟩⟩
  · cases ta with | cons ta tn => cases tn; obtain ⟨p, vs, e1, f1, h1, r1⟩ := ta.vtup ex; exact call_tupleF pins s σ H _ us Q I r ⟨p, vs, by rw [e1], .inr ⟨h1, ok.val _ (.dat (.tuple _)) (.tup f1 r1) q⟩⟩
  · exact q.elim
theorem call_list' : CallR X (.type "list") (RLD X.K fList) := by
  intro pins s σ H xs us Q I r ⟨F, as, post, ex, ta, q, ok⟩
  unfold fList at q
  split at q
  · cases ta with | cons ta tn => cases tn; obtain ⟨p, vs, e1, h1, r1⟩ := ta.vlst; exact call_list_of pins s σ H _ us Q I r ⟨p, vs, by rw [e1], .inl (SqL.of h1), fun l nl => ok.new l _ (.lst _) nl ⟨vs, rfl, r1⟩ q⟩
  · cases ta with | cons ta tn => cases tn; obtain ⟨p, vs, e1, f1, h1, r1⟩ := ta.vtup ex; exact call_list_of pins s σ H _ us Q I r ⟨p, vs, by rw [e1], .inr h1, fun l nl => ok.new l _ (.lst _) nl ⟨vs, rfl, r1⟩ q⟩
  · exact q.elim
theorem call_sortedI' : CallR X (.builtin "sorted") (RLD X.K fSortedI) := by
  intro pins s σ H xs us Q I r ⟨F, as, post, ex, ta, q, ok⟩
  unfold fSortedI at q
  split at q
  · cases ta with
    | cons ta tn =>
      cases tn
      obtain ⟨is, hi, hl, q⟩ := q
      obtain ⟨p, e1, h1⟩ := ta.ints hi
      exact cr_sorted pins s σ H _ us Q I r ⟨p, is, by rw [e1], SqL.of h1, hl, fun js l h1 h2 nl => ok.new l _ (.lst _) nl ⟨_, rfl, RDs.of_ints js⟩ (q js h1 h2)⟩
  · exact q.elim
/-- the built-in class of data -/
theorem TopR.tyx (ex : Ex F H) : ∀ {d : D}, TopR K F H v (.dat d) → (∀ kvs, d ≠ .dict kvs) → TyX K H v (tyD d)
  | .none, h, _ => by rw [h.vnon]; exact .base .non
  | .bool b, h, _ => by rw [h.vbl]; exact .base (.bl _)
  | .int b, h, _ => by rw [h.vint]; exact .base (.int _)
  | .str b, h, _ => by rw [h.vstr]; exact .base (.str _)
  | .list b, h, _ => by obtain ⟨p, vs, e1, h1, _⟩ := h.vlst; rw [e1]; exact .base (.lst h1)
  | .tuple b, h, _ => by
    obtain ⟨p, vs, e1, _, h1, _⟩ := h.vtup ex
    rw [e1]
    rcases h1 with (h1 | ⟨o, h1⟩) | ⟨o, its, n, hk, hc, _⟩
    · exact .base (.tup h1)
    · exact .fTuple h1
    · exact .kTuple hk hc
  | .dict b, h, c => absurd rfl (c b)
theorem kit_none (K : PySem.W.Frag) : (∀ b : D, PySem.W.kitOne K (tyD b) (.type "int") = some (isD "int" b)) ∧ (∀ b : D, PySem.W.kitOne K (tyD b) (.type "bool") = some (isD "bool" b)) ∧ (∀ b : D, PySem.W.kitOne K (tyD b) (.type "str") = some (isD "str" b)) ∧ ∀ b : D, PySem.W.kitOne K (tyD b) (.type "tuple") = some (isD "tuple" b) := by
  refine ⟨fun b => ?_, fun b => ?_, fun b => ?_, fun b => ?_⟩ <;> cases b <;> first | rfl | exact PySem.W.kit_ty (by decide +kernel) | skip
end
end PL

namespace PL
open PySem L2 PyProof.Rows
open AutoSeq1 (wpAny_loadPart')

theorem meets_enumT (l : Addr) (items : Array Value) :
    Meets (Builtin.«enumerate.__new__» ⟨[.type "enumerate", .ref l], []⟩) (fun _ R s => s.heap.IsTuple l items ∧
      R (.ok (.ret (.ref (s.heap.push { cls := .type "tuple_iterator", data := .fields #[.ref l, .int 0 0] }).objs.size)))
        { s with heap := (s.heap.push { cls := .type "tuple_iterator", data := .fields #[.ref l, .int 0 0] }).push { cls := .type "enumerate", data := .fields #[.none, .bool false, .ref s.heap.objs.size, rawInt 0, .none, .none] } }) :=
  .of_wp fun prog w A R s h => by
    obtain ⟨hp, g, d, tk, os⟩ := s; obtain ⟨hl, h⟩ := h
    have hsub := sub_enumerate
    have q1 : ∀ {A' : Around} {E : Value → Shared → Prop} {Q : Value → Shared → Prop}, Q (.ref hp.objs.size) ⟨hp.push { cls := .type "tuple_iterator", data := .fields #[.ref l, .int 0 0] }, g, d, tk, os⟩ → wpAny (model prog w) A' (pyIter (.ref l)) Q E ⟨hp, g, d, tk, os⟩ :=
      fun q => (begins_tuple l items).iter prog w _ _ ⟨hp, g, d, tk, os⟩ _ hl q
    wp_walk using q1
    refine wpAny_stack_any fun st => wpAny_pure ?_
    split
    · rename_i c _ _ _ _ _
      cases (c == Value.type "enumerate")
      · wp_walk using q1
        exact ⟨_, rfl, h⟩
      · wp_walk using q1
        exact ⟨_, rfl, h⟩
    · wp_walk using q1
      exact ⟨_, rfl, h⟩
section
variable {prog : Program} {w : World} {A : Around} {E : Value → Shared → Prop} {s : Shared}
theorem call_enumT {l : Addr} {items : Array Value} {Q : Value → Shared → Prop} (hL : s.heap.IsTuple l items)
    (h : ∀ h', IsEnum h' (s.heap.objs.size + 1) s.heap.objs.size 0 .none → h'.IsTupleIter s.heap.objs.size l 0 → h'.objs.size = s.heap.objs.size + 2 →
      (∀ b o, s.heap.get? b = some o → h'.get? b = some o) → Q (.ref (s.heap.objs.size + 1)) { s with heap := h' }) :
    wpAny (model prog w) A (call (.type "enumerate") [.ref l]) Q E s := by
  refine callType_new F.called_enumerate (by decide) (F.typeCall_enumerate_1 _) (F.newCall_enumerate_1 _) (fun obj => F.args_object_init_2 obj _) F.entry_enumerate_new
    (meets_enumT l items) ⟨hL, ?_⟩
  have hz : (s.heap.push { cls := .type "tuple_iterator", data := .fields #[.ref l, .int 0 0] }).objs.size = s.heap.objs.size + 1 := Heap.size_push ..
  show _ ∧ _
  rw [hz]
  have he : IsEnum ((s.heap.push { cls := .type "tuple_iterator", data := .fields #[.ref l, .int 0 0] }).push
      { cls := .type "enumerate", data := .fields #[.none, .bool false, .ref s.heap.objs.size, rawInt 0, .none, .none] }) (s.heap.objs.size + 1) s.heap.objs.size 0 .none := by
    have := Heap.get?_push_size (s.heap.push { cls := .type "tuple_iterator", data := .fields #[.ref l, .int 0 0] })
      (o := { cls := .type "enumerate", data := .fields #[.none, .bool false, .ref s.heap.objs.size, rawInt 0, .none, .none] }) rfl
    rw [hz] at this; exact this
  refine ⟨⟨_, he, rfl⟩, h _ he ⟨_, Heap.get?_push_of_some _ (Heap.get?_push_size _ rfl), rfl, rfl⟩ (by rw [Heap.size_push, hz]) fun b o x => Heap.get?_push_of_some _ (Heap.get?_push_of_some _ x)⟩
end
/-- the tuple at a, each item in a new pair -/
def IteT (K : PySem.W.Frag) (a : Addr) : It :=
  ⟨fun i H => ∃ (xs : List V) (x : V), SqT K H a xs ∧ xs[i]? = some x, fun i H v H' => ∃ T x, v = .ref T ∧ H T = none ∧ H' = upd H T (.tup [.int (i : Nat), x]) ∧ ∀ xs, SqT K H a xs → xs[i]? = some x, fun i H => ∃ xs : List V, SqT K H a xs ∧ xs.length ≤ i⟩
theorem turn_enumT {P : Program} {w : World} {K : PySem.W.Frag} {elts : List Expr} {kk : Nat} {tpos : Pos} (a e it : Addr) :
    Turn P w K (.Tuple elts kk tpos) (IteT K a) [e, it] e (fun i h => (∃ old, IsEnum h e it ((i : Nat) : Int) old) ∧ h.IsTupleIter it a i ∧ e ≠ it) where
  mem := by simp
  obj := fun i h st b hb => by
    obtain ⟨⟨old, he⟩, ⟨o, ho, hc, hd⟩, _⟩ := st
    have e' : b = e ∨ b = it := by simpa using hb
    rcases e' with z | z
    · rw [z]; exact ⟨_, he, fun v q => nomatch q⟩
    · rw [z]; exact ⟨o, ho, fun v q => by rw [hd] at q; cases q⟩
  keep := fun i h h' st k => let ⟨⟨old, he⟩, hi, hne⟩ := st; ⟨⟨old, k e (by simp) _ he⟩, hi.at fun o q => k it (by simp) o q, hne⟩
  item := by
    intro X hP hw hK hc i pins s σ H E I hf st hg
    subst hP hw hK
    obtain ⟨⟨old, he⟩, hit, hne⟩ := st
    obtain ⟨xs, x, hq, hx⟩ := hg
    obtain ⟨its, rv, p, hz⟩ := I.tuple hq
    obtain ⟨u, hu, ru⟩ := rv.get hx
    have hel : e < s.heap.objs.size := Heap.lt_size he
    have hil : it < s.heap.objs.size := by obtain ⟨_, q, _⟩ := hit; exact Heap.lt_size q
    have hai : a ≠ it := by
      rintro rfl
      obtain ⟨o, h1, h2, _⟩ := p
      obtain ⟨o', h1', h2', _⟩ := hit
      rw [h1] at h1'; cases h1'
      rw [h2] at h2'; exact absurd h2' (by decide)
    have hea : e ∉ [it, a] := by
      intro z
      have z' : e = it ∨ e = a := by simpa using z
      rcases z' with z' | z'
      · exact hne z'
      · subst z'
        obtain ⟨o, h1, h2, _⟩ := p
        have h3 : s.heap.get? e = _ := he
        rw [h1] at h3; cases h3
        exact absurd (Value.type.inj h2) (by decide)
    have hh : X.A.in1.handled = none := I.ok.hd hc
    have hlt : i < its.toArray.size := by
      have := (List.getElem?_eq_some_iff.mp hu).1
      simpa using this
    refine wpAny_pyNext_enum_itemD (Draws.tuple hh it a hai its.toArray) he ⟨hit, p⟩ hlt hne hea fun y h' tk hy ho hst hT hsz hk => ?_
    have ey : u = y := by
      have h1 : its.toArray[i]? = some u := by simpa using hu
      rw [h1] at hy
      exact Option.some.inj hy
    subst ey
    refine ⟨_, rfl, wpAny_letOwnedTupleGo_enum (s := { s with heap := h', toks := tk + 1 }) ho fun h'' he' sb => ?_⟩
    have hT2 : h''.get? s.heap.objs.size = some { cls := .type "tuple", data := .seq #[.int i tk, u] } := (sb.2 _ (Nat.ne_of_gt hel)).trans hT
    have new : ObjOk X.prog X.w (upd H s.heap.objs.size (.tup [.int (i : Nat), x])) h'' s.heap.objs.size (.tup [.int (i : Nat), x]) :=
      ⟨by show 2 ≤ sizeLine; decide, [.int i tk, u], .cons ⟨_, rfl⟩ (.cons ru .nil), ⟨_, hT2, rfl, _, rfl⟩⟩
    have I1 : L2.Inv X pins σ (upd H s.heap.objs.size (.tup [.int (i : Nat), x])) { s with heap := h'', toks := tk + 1 } :=
      I.turnedNew (ch := [e, it]) (fun b ob hb q => (sb.2 b (fun z => hb (by simp [z]))).trans (hk b ob (fun z => hb (by simp [z])) (fun z => hb (by simp [z])) q)) hf (Nat.le_refl _) new
    refine ⟨.ref s.heap.objs.size, _, I1, rfl, ⟨_, x, rfl, I.hok.fresh (Nat.le_refl _), rfl, fun ys hy => by rw [I.tuple_inj hy hq]; exact hx⟩, ⟨⟨u, ?_⟩, hst.1.at fun o q => (sb.2 it (Ne.symm hne)).trans q, hne⟩, fun b hb => ?_⟩
    · have e1 : ((i + 1 : Nat) : Int) = (i : Int) + 1 := by omega
      rw [e1]; exact he'
    · have hb' : b < s.heap.objs.size := by
        have e' : b = e ∨ b = it := by simpa using hb
        rcases e' with z | z
        · rw [z]; exact hel
        · rw [z]; exact hil
      rw [upd_ne (Nat.ne_of_lt hb')]
      exact (hf b hb).1
  done := by
    intro X hP hw hK hc i pins s σ H E I hf st hg
    subst hP hw hK
    obtain ⟨⟨old, he⟩, hit, hne⟩ := st
    obtain ⟨xs, hq, hx⟩ := hg
    obtain ⟨its, rv, p, hz⟩ := I.tuple hq
    obtain ⟨f0, f1, f2, f3, f4, f5⟩ := hf it (by simp)
    have hl := rv.length
    have hh : X.A.in1.handled = none := I.ok.hd hc
    have hT : s.TypeIs (.ref e) "enumerate" := ⟨_, he, rfl⟩
    unfold pyNext
    refine wpAny_bind (wpAny_attempt (wpAny_callSpecial?_slot (name := Str.ofString "__next__") hT F.slot_enumerate_next
      (wpAny_call_entry F.slot_enumerate_next hT F.entry_enumerate_next ?_ (F.args_enumerate_next_1 _))))
    show wpAny _ _ (field (.ref e) 2 >>= _) _ _ _
    refine wpAny_bind (wpAny_field he rfl (x := .ref it) rfl ?_)
    refine wpAny_bind (wpAny_nextOf_tuple_end hh hit p (by simp; omega) fun h' x he' hx' => ?_)
    obtain ⟨o, ho, hc⟩ := hx'
    refine wpAny_bind (wpAny_isInstance (T := "StopIteration") (b := true) ⟨o, ho, hc⟩ isSubtype_stop ?_)
    exact wpAny_pure ⟨rfl, I.turned (t' := s.toks) (fun b o hb q => he' b o hb q) f0 f1 f3 f4 f5⟩
  self := fun A i s Q E st h => let ⟨⟨_, he⟩, _⟩ := st; wpAny_pyIter_enum he h
def iEnumT (K : PySem.W.Frag) (ta : TA) : TI := fun σ H R => ta σ H fun vs H1 => ∃ a xs, vs = [.ref a] ∧ SqT K H1 a xs ∧ R (IteT K a) H1
theorem pi_enumT {X : Cx} {e : Expr} {ta : TA} {p pos tpos : Pos} {elts : List Expr} {kk : Nat} (hg : Gl X "enumerate") (hm : X.mg "enumerate" = none) (ha : PA X [e] ta) (hs : starEach [e] X.env = [(false, eval e X.env)] := by rfl) :
    PI X (.Tuple elts kk tpos) (.Call (.Name "enumerate" p) [e] [] pos) (iEnumT X.K ta) := by
  refine ⟨fun pins s σ H R I h => ?_⟩
  refine Call_ (ld_blt I hg hm boot_enumerate (PyProof.Rows.callWith_type1 (thn (ha.run pos pins s σ H _ I h) fun us s1 ⟨vs, H1, I1, r1, q1⟩ => ?_) hs rfl))
  obtain ⟨a, xs, ex, hq, q⟩ := q1
  subst ex
  cases r1 with
  | cons r rr =>
    cases rr
    cases r
    obtain ⟨its, rv, p', hz⟩ := I1.tuple hq
    refine call_enumT p' fun h' he hit hsz hk => wpAny_pyIter_enum he ?_
    have I2 : L2.Inv X pins σ H1 { s1 with heap := h' } := I1.kept (t' := s1.toks) hk
    refine ⟨s1.heap.objs.size + 1, [s1.heap.objs.size + 1, s1.heap.objs.size], _, _, H1, rfl, I2, turn_enumT a (s1.heap.objs.size + 1) s1.heap.objs.size, ⟨⟨.none, he⟩, hit, Nat.succ_ne_self _⟩, fun b hb => ?_, q⟩
    have e' : b = s1.heap.objs.size + 1 ∨ b = s1.heap.objs.size := by simpa using hb
    have hle : s1.heap.objs.size ≤ b := by
      rcases e' with z | z
      · rw [z]; exact Nat.le_add_right _ _
      · rw [z]; exact Nat.le_refl _
    exact I1.fpOk hle (I1.hok.fresh hle)
end PL

namespace PL
open PySem L2

/-! ### targets -/
/-- what a store to names leaves: slots ks may differ, all else is as it was -/
structure GS (ks : List Nat) (σ : St) (e : En) (σ' : St) (e' : En) : Prop where
  own : ∀ i p, Owns e' σ' i p → Owns e σ i p
  same : ∀ j, j ∉ ks → σ'[j]? = σ[j]? ∧ e'.sl[j]? = e.sl[j]?
  len : σ'.length = σ.length
  n : e'.n = e.n
  none : ∀ j p, j ∈ ks → ¬ Owns e' σ' j p
theorem GS.refl {ks : List Nat} {σ : St} {e : En} (h : ∀ j p, j ∈ ks → ¬ Owns e σ j p) : GS ks σ e σ e := ⟨fun _ _ h => h, fun _ _ => ⟨rfl, rfl⟩, rfl, rfl, h⟩
abbrev WG := D → En → (En → Prop) → Prop
abbrev WGs := List D → En → (En → Prop) → Prop
/-- a pair that is only taken apart -/
def RDu (K : PySem.W.Frag) (F : Hp) (u : Bool) (v : V) (d : D) : Prop := match u with
  | false => RD K F v d
  | true => ∃ a vs ds, v = .ref a ∧ SqT K F a vs ∧ RDs K F vs ds ∧ d = .tuple ds
def GER (A : Amb) (K : PySem.W.Frag) (ks : List Nat) (u : Bool) (g : TG) (w : WG) : Prop :=
  ∀ (σ : St) (F H : Hp) (e : En) (d : D) (v : V) (post : En → Prop), Sta A K σ F H e → RDu K F u v d → (∀ j p, j ∈ ks → ¬ Owns e σ j p) → w d e post → ∀ Q : St → Hp → Prop,
    (∀ σ' e', GS ks σ e σ' e' → Sta A K σ' F H e' → post e' → Q σ' H) → g v σ H Q
def GERs (A : Amb) (K : PySem.W.Frag) (ks : List Nat) (g : TGs) (w : WGs) : Prop :=
  ∀ (σ : St) (F H : Hp) (e : En) (ds : List D) (vs : List V) (post : En → Prop), Sta A K σ F H e → RDs K F vs ds → (∀ j p, j ∈ ks → ¬ Owns e σ j p) → w ds e post → ∀ Q : St → Hp → Prop,
    (∀ σ' e', GS ks σ e σ' e' → Sta A K σ' F H e' → post e' → Q σ' H) → g vs σ H Q
structure PGD (X : Cx) (A : Amb) (tg : Expr) (ks : List Nat) (u : Bool) (g : TG) (w : WG) : Prop where
  pg : PG X tg g
  er : GER A X.K ks u g w
structure PGDs (X : Cx) (A : Amb) (tg : List Expr) (ks : List Nat) (g : TGs) (w : WGs) : Prop where
  pg : PGs X tg g
  er : GERs A X.K ks g w
def wgName (i : Nat) : WG := fun d e post => post (e.set i (.im (.dat d)))
def wgNil : WGs := fun ds e post => ds = [] ∧ post e
def wgCons (w : WG) (ws : WGs) : WGs := fun ds e post => match ds with
  | d :: ds => w d e fun e1 => ws ds e1 post
  | [] => False
def wgTup (n : Nat) (ws : WGs) : WG := fun d e post => match d with
  | .tuple ds => ds.length = n ∧ ws ds e post
  | _ => False
section
variable {X : Cx} {A : Amb} {K : PySem.W.Frag} {σ σ' : St} {F F' H H' F0 H0 : Hp} {g0 : Gh} {e e' : En} {v : V} {a : Av} {ks : List Nat} {g : TG} {gs : TGs} {w : WG} {ws : WGs}
theorem set_get {α : Type} {l : List α} {i j : Nat} {x y : α} (h : (l.set i x)[j]? = some y) : (j = i ∧ y = x) ∨ (j ≠ i ∧ l[j]? = some y) := by
  by_cases c : j = i
  · subst c
    have hl : j < l.length := by
      have := (List.getElem?_eq_some_iff.mp h).1
      simpa using this
    rw [List.getElem?_set_self hl] at h
    exact .inl ⟨rfl, (Option.some.inj h).symm⟩
  · rw [List.getElem?_set_ne (Ne.symm c)] at h
    exact .inr ⟨c, h⟩
/-- a slot gets a frozen value -/
theorem Sta.setIm (S : Sta A K σ F H e) (i : Nat) (h : RelA K F v a) : Sta A K (σ.set i (some v)) F H (e.set i (.im a)) ∧ (∀ j p, Owns (e.set i (.im a)) (σ.set i (some v)) j p → Owns e σ j p ∧ j ≠ i) := by
  have ow : ∀ j p, Owns (e.set i (.im a)) (σ.set i (some v)) j p → Owns e σ j p ∧ j ≠ i := fun j p ⟨⟨o, h1⟩, h2⟩ => by
    have h1' : (e.sl.set i (.im a))[j]? = some (Sl.ow o) := h1
    rcases set_get h1' with ⟨_, z⟩ | ⟨c, z⟩
    · cases z
    · rw [List.getElem?_set_ne (Ne.symm c)] at h2
      exact ⟨⟨⟨o, z⟩, h2⟩, c⟩
  refine ⟨⟨?_, S.ex, fun j s hs => ?_, fun j k p h1 h2 => S.sep j k p (ow j p h1).1 (ow k p h2).1, S.ri, S.rsF, fun j p h => S.rsO j p (ow j p h).1⟩, ow⟩
  · show (e.sl.set i _).length = (σ.set i _).length
    rw [List.length_set, List.length_set]; exact S.len
  · have hs' : (e.sl.set i (.im a))[j]? = some s := hs
    rcases set_get hs' with ⟨c, z⟩ | ⟨c, z⟩
    · subst c z
      have hl : j < σ.length := by
        have := (List.getElem?_eq_some_iff.mp hs').1
        rw [List.length_set, S.len] at this
        exact this
      exact ⟨v, by rw [List.getElem?_set_self hl], h⟩
    · rw [List.getElem?_set_ne (Ne.symm c)]
      exact S.at_ j s z
/-- a slot gets a new object that it owns -/
theorem Sta.setOw (S : Sta A K σ F H e) (i : Nat) {p : Addr} {ho : HO} {o : Ow} (f : F p = none) (g : H p = some ho) (q : OwR K F ho o) (nr : p ∉ A.rs e.n) (no : ∀ i, ¬ Owns e σ i p) :
    Sta A K (σ.set i (some (.ref p))) F H (e.set i (.ow o)) ∧ (∀ j p', Owns (e.set i (.ow o)) (σ.set i (some (.ref p))) j p' → (j = i ∧ p' = p) ∨ (Owns e σ j p' ∧ j ≠ i)) := by
  have ow : ∀ j p', Owns (e.set i (.ow o)) (σ.set i (some (.ref p))) j p' → (j = i ∧ p' = p) ∨ (Owns e σ j p' ∧ j ≠ i) := fun j p' ⟨⟨o', h1⟩, h2⟩ => by
    have h1' : (e.sl.set i (.ow o))[j]? = some (Sl.ow o') := h1
    rcases set_get h1' with ⟨c, z⟩ | ⟨c, z⟩
    · subst c
      rcases set_get h2 with ⟨_, z2⟩ | ⟨c, _⟩
      · refine .inl ⟨rfl, ?_⟩
        have := Option.some.inj z2
        exact V.ref.inj this
      · exact absurd rfl c
    · rw [List.getElem?_set_ne (Ne.symm c)] at h2
      exact .inr ⟨⟨⟨o', z⟩, h2⟩, c⟩
  refine ⟨⟨?_, S.ex, fun j s hs => ?_, fun j k p' h1 h2 => ?_, S.ri, S.rsF, fun j p' h => ?_⟩, ow⟩
  · show (e.sl.set i _).length = (σ.set i _).length
    rw [List.length_set, List.length_set]; exact S.len
  · have hs' : (e.sl.set i (.ow o))[j]? = some s := hs
    rcases set_get hs' with ⟨c, z⟩ | ⟨c, z⟩
    · subst c z
      have hl : j < σ.length := by
        have := (List.getElem?_eq_some_iff.mp hs').1
        rw [List.length_set, S.len] at this
        exact this
      exact ⟨p, ho, by rw [List.getElem?_set_self hl], f, g, q⟩
    · rw [List.getElem?_set_ne (Ne.symm c)]
      exact S.at_ j s z
  · rcases ow j p' h1 with ⟨c1, z1⟩ | ⟨z1, c1⟩
    · subst z1
      rcases ow k _ h2 with ⟨c2, z2⟩ | ⟨z2, c2⟩
      · rw [c1, c2]
      · exact absurd z2 (no k)
    · rcases ow k p' h2 with ⟨c2, z2⟩ | ⟨z2, c2⟩
      · subst z2; exact absurd z1 (no j)
      · exact S.sep j k p' z1 z2
  · rcases ow j p' h with ⟨c1, z1⟩ | ⟨z1, c1⟩
    · subst z1; exact nr
    · exact S.rsO j p' z1
theorem ger_name {i : Nat} (hi : i ∈ ks) : GER A K ks false (gName i) (wgName i) := by
  intro σ F H e d v post S h hn hp Q k
  obtain ⟨S', ow⟩ := S.setIm i (a := .dat d) h
  exact k _ _ ⟨fun j p z => (ow j p z).1, fun j hj => by
    have c : i ≠ j := fun z => hj (by subst z; exact hi)
    exact ⟨List.getElem?_set_ne c, List.getElem?_set_ne c⟩, List.length_set, rfl, fun j p hj z => hn j p hj (ow j p z).1⟩ S' hp
theorem ger_nil : GERs A K ks gNil wgNil := by
  intro σ F H e ds vs post S h hn hp Q k
  obtain ⟨rfl, hp⟩ := hp
  cases h
  exact ⟨rfl, k σ e (GS.refl hn) S hp⟩
theorem ger_cons (h1 : GER A K ks false g w) (h2 : GERs A K ks gs ws) : GERs A K ks (gCons g gs) (wgCons w ws) := by
  intro σ F H e ds vs post S h hn hp Q k
  cases h with
  | nil => exact hp.elim
  | cons h t =>
    refine ⟨_, _, rfl, h1 σ F H e _ _ _ S h hn hp _ fun σ1 e1 G1 S1 p1 => ?_⟩
    refine h2 σ1 F H e1 _ _ _ S1 t (fun j p hj => G1.none j p hj) p1 _ fun σ2 e2 G2 S2 p2 => ?_
    exact k σ2 e2 ⟨fun i p z => G1.own i p (G2.own i p z), fun j hj => ⟨(G2.same j hj).1.trans (G1.same j hj).1, (G2.same j hj).2.trans (G1.same j hj).2⟩, G2.len.trans G1.len, G2.n.trans G1.n, G2.none⟩ S2 p2
theorem RDu.of_tup {u : Bool} {ds : List D} (h : RDu K F u v (.tuple ds)) : ∃ a vs, v = .ref a ∧ SqT K F a vs ∧ RDs K F vs ds := by
  cases u with
  | true => obtain ⟨a, vs, ds', h1, h2, h3, h4⟩ := h; cases h4; exact ⟨a, vs, h1, h2, h3⟩
  | false =>
    have h' : RD K F v (.tuple ds) := h
    cases h' with
    | tup h1 t => exact ⟨_, _, rfl, h1.sqt, t⟩
theorem ger_tup {n : Nat} {u : Bool} (h : GERs A K ks gs ws) : GER A K ks u (gTup K n gs) (wgTup n ws) := by
  intro σ F H e d v post S hd hn hp Q k
  match d, hp with
  | .tuple ds, ⟨hl, hp⟩ =>
    obtain ⟨a, vs, e1, h1, t⟩ := hd.of_tup
    exact ⟨a, vs, e1, S.ex.sqt h1, t.length.trans hl, h σ F H e ds _ post S t hn hp Q k⟩
theorem pgd_name {i : Nat} {x : Str} {pos : Pos} (hi' : i ∈ ks) (hN : X.N.Nodup) (hi : X.N[i]? = some x) (hx : Loc X.env.scope x) (hf : X.fn x = true ∨ X.env.scope.names.lookup x = some .local := by first | exact .inl rfl | exact .inr rfl | assumption) : PGD X A (.Name x pos) ks false (gName i) (wgName i) := ⟨pg_name hN hi hx hf, ger_name hi'⟩
theorem pgds_nil : PGDs X A [] ks gNil wgNil := ⟨pgs_nil, ger_nil⟩
theorem pgds_cons {e : Expr} {es : List Expr} (h1 : PGD X A e ks false g w) (h2 : PGDs X A es ks gs ws) (hs : (assignEach (e :: es) X.env).map (·.2) = assign e X.env :: (assignEach es X.env).map (·.2) := by rfl) : PGDs X A (e :: es) ks (gCons g gs) (wgCons w ws) := ⟨pgs_cons h1.pg h2.pg hs, ger_cons h1.er h2.er⟩
theorem pgd_tup {es : List Expr} {k : Nat} {n : Nat} {u : Bool} {pos : Pos} (hc : X.calm = true) (h : PGDs X A es ks gs ws) (hn : (assignEach es X.env).length = n := by rfl) (hst : (assignEach es X.env).findIdx? (·.1) = none := by rfl) : PGD X A (.Tuple es k pos) ks u (gTup X.K n gs) (wgTup n ws) := ⟨pg_tup hc h.pg hn hst, ger_tup h.er⟩
end

/-! ### statements -/
structure Fin (A : Amb) (g0 : Gh) (F0 H0 : Hp) (g : Gh) (F H : Hp) : Prop where
  ex : Ex F0 F
  keep : ∀ a o, H0 a = some o → a ∉ A.rs g0 → H a = some o ∧ F a = F0 a
  liv : ∀ a, H0 a ≠ none → H a ≠ none
  rsn : ∀ a ∈ A.rs g, a ∈ A.rs g0 ∨ H0 a = none
structure SSt (A : Amb) (K : PySem.W.Frag) (g0 : Gh) (F0 H0 : Hp) (σ : St) (F H : Hp) (e : En) : Prop where
  sta : Sta A K σ F H e
  fin : Fin A g0 F0 H0 e.n F H
  fr : ∀ i p, Owns e σ i p → H0 p = none
structure EndsP where
  nx : En → Prop
  rt : Rs → Gh → Prop
  bk : En → Prop := fun _ => False
  ct : En → Prop := fun _ => False
  ex : Value → List (Str × D) → En → Prop := fun _ _ _ => False
abbrev WS := EndsP → En → Prop
def RvR (K : PySem.W.Frag) (A : Amb) (H0 : Hp) (n : Gh) (F H : Hp) (v : V) : Rs → Prop
  | .val a => RelA K F v a
  | .new o => ∃ p ho, v = .ref p ∧ H0 p = none ∧ F p = none ∧ H p = some ho ∧ OwR K F ho o ∧ p ∉ A.rs n
  | .loan _ _ => False
  | .lent _ _ _ => False
def Rs.out : Rs → Rs
  | .loan _ o => .new o
  | r => r
/-- an exception's dict: new, with fields as told -/
def XdR (K : PySem.W.Frag) (A : Amb) (H0 : Hp) (n : Gh) (F H : Hp) : Option Addr → List (Str × D) → Prop
  | none, fs => fs = []
  | some d, fs => H0 d = none ∧ d ∉ A.rs n ∧ ∃ vs, H d = some (.xd vs) ∧ Paired (fun (x : Str × V) (y : Str × D) => x.1 = y.1 ∧ RD K F x.2 y.2) vs fs
/-- what the ends of the caller owe to the ends of the data -/
structure EndsR (A : Amb) (K : PySem.W.Frag) (W : WX) (g0 : Gh) (F0 H0 Fn : Hp) (E : EndsP) (D : Ends) : Prop where
  nx : ∀ σ F H e, SSt A K g0 F0 H0 σ F H e → Ex Fn F → E.nx e → D.nx σ H
  rt : ∀ v r F H n, Fin A g0 F0 H0 n F H → Ex F H → RIx A K n F H → (∀ a ∈ A.rs n, F a = none) → RvR K A H0 n F H v r → E.rt r n → D.rt v H
  bk : ∀ σ F H e, SSt A K g0 F0 H0 σ F H e → Ex Fn F → E.bk e → D.bk σ H
  ct : ∀ σ F H e, SSt A K g0 F0 H0 σ F H e → Ex Fn F → E.ct e → D.ct σ H
  ex : ∀ σ F H e c d fs, SSt A K g0 F0 H0 σ F H e → Ex Fn F → XdR K A H0 e.n F H d fs → E.ex c fs e → W c d σ H
def SR (A : Amb) (K : PySem.W.Frag) (W : WX) (ts : TS) (w : WS) : Prop :=
  ∀ (g0 : Gh) (F0 H0 : Hp) (σ : St) (F H : Hp) (e : En) (E : EndsP) (D : Ends), SSt A K g0 F0 H0 σ F H e → w E e → EndsR A K W g0 F0 H0 F E D → ts D σ H
structure PSD (X : Cx) (A : Amb) (W : WX) (st : Stmt) (ts : TS) (w : WS) : Prop where
  ps : PS X st ts
  sr : SR A X.K W ts w
structure PSDs (X : Cx) (A : Amb) (W : WX) (st : List Stmt) (ts : TS) (w : WS) : Prop where
  ps : PSs X st ts
  sr : SR A X.K W ts w
section
variable {X : Cx} {A : Amb} {K : PySem.W.Frag} {σ σ' : St} {F F' F1 H H' H1 F0 H0 Fn : Hp} {g0 : Gh} {e e' : En} {v : V} {a : Av} {st : Stmt} {sts : List Stmt} {W : WX} {t u : TS} {w z : WS} {ex : Expr} {te : TE} {we : WE} {tt : TT} {wt : WT} {pos : Pos} {E : EndsP} {D : Ends}
theorem SSt.step (S : SSt A K g0 F0 H0 σ F H e) (T : Stp A σ F H e F' H' e') (S' : Sta A K σ F' H' e') : SSt A K g0 F0 H0 σ F' H' e' :=
  ⟨S', ⟨S.fin.ex.trans T.ex, fun a o h hr => by
    obtain ⟨h1, g1⟩ := S.fin.keep a o h hr
    obtain ⟨h2, g2⟩ := T.keep a o h1 (fun z => (S.fin.rsn a z).elim hr fun z => by rw [z] at h; cases h) fun i z => by
      have := S.fr i a z
      rw [h] at this; cases this
    exact ⟨h2, g2.trans g1⟩, fun a h => T.liv a (S.fin.liv a h), fun a h => (T.rsn a h).elim (S.fin.rsn a) fun z => .inr (by
      cases q : H0 a with
      | none => rfl
      | some w => exact absurd z (S.fin.liv a (by rw [q]; simp)))⟩, fun i p h => S.fr i p (T.own i p h)⟩
theorem SSt.nil0 (S : SSt A K g0 F0 H0 σ F H e) {p : Addr} (h : H p = none) : H0 p = none := by
  cases z : H0 p with
  | none => rfl
  | some w => exact absurd h (S.fin.liv p (by rw [z]; simp))
theorem EndsR.mono (R : EndsR A K W g0 F0 H0 Fn E D) (x : Ex Fn F) : EndsR A K W g0 F0 H0 F E D := ⟨fun σ F1 H e S y => R.nx σ F1 H e S (x.trans y), R.rt, fun σ F1 H e S y => R.bk σ F1 H e S (x.trans y), fun σ F1 H e S y => R.ct σ F1 H e S (x.trans y), fun σ F1 H e c d fs S y => R.ex σ F1 H e c d fs S (x.trans y)⟩
/-! a block -/
def wSkip : WS := fun E e => E.nx e
def wSeq (w z : WS) : WS := fun E e => w { E with nx := fun e' => z E e' } e
theorem sr_next : SR A K W tNext wSkip := fun g0 F0 H0 σ F H e E D S h R => R.nx σ F H e S (Ex.refl _) h
theorem sr_seq (h1 : SR A K W t w) (h2 : SR A K W u z) : SR A K W (tSeq t u) (wSeq w z) := fun g0 F0 H0 σ F H e E D S h R =>
  h1 g0 F0 H0 σ F H e _ _ S h ⟨fun σ1 F1 H1 e1 S1 x1 q => h2 g0 F0 H0 σ1 F1 H1 e1 E D S1 q (R.mono x1), R.rt, R.bk, R.ct, R.ex⟩
theorem psds_nil : PSDs X A W [] tNext wSkip := ⟨pss_nil, sr_next⟩
theorem psds_cons (h1 : PSD X A W st t w) (h2 : PSDs X A W sts u z) : PSDs X A W (st :: sts) (tSeq t u) (wSeq w z) := ⟨pss_cons h1.ps h2.ps, sr_seq h1.sr h2.sr⟩
theorem psds_one (h1 : PSD X A W st t w) : PSDs X A W [st] t w := ⟨pss_one h1.ps, h1.sr⟩
theorem psd_pass : PSD X A W (.Pass pos) tNext wSkip := ⟨ps_pass, sr_next⟩
/-! e -/
def wDrop (we : WE) : WS := fun E e => we e fun _ e1 => E.nx e1
theorem sr_drop (h : ER A K te we) : SR A K W (tDrop te) (wDrop we) := fun g0 F0 H0 σ F H e E D S q R =>
  h σ F H e _ S.sta q _ fun v r F1 H1 e1 T1 S1 R1 p1 => R.nx σ F1 H1 e1 (S.step T1 S1) T1.ex p1
theorem psd_expr (h : PD X A ex te we) (hs : swapsWith ex none pos.line X.env = pure false := by rfl) : PSD X A W (.Expr ex pos) (tDrop te) (wDrop we) := ⟨ps_expr h.pe hs, sr_drop h.er⟩
/-! return -/
def wRet (we : WE) : WS := fun E e => we e fun r e1 => r.fre (E.rt r.out e1.n)
theorem RsR.out {r : Rs} (hf : r.free) (S : SSt A K g0 F0 H0 σ F H e) (h : RsR K A σ H1 F H e v r) (hn : ∀ p, H1 p = none → H0 p = none) : RvR K A H0 e.n F H v r.out := by
  cases r with
  | val a => exact h
  | new o => obtain ⟨p, ho, e1, h0, f, g, q, nr, _⟩ := h; exact ⟨p, ho, e1, hn p h0, f, g, q, nr⟩
  | loan i o =>
    obtain ⟨h1, h2⟩ := h
    obtain ⟨p, ho, e1, f, g, q⟩ := S.sta.at_ i _ h1
    rw [h2] at e1
    have ev : v = .ref p := by simpa using e1
    subst ev
    have own : Owns e σ i p := ⟨⟨o, h1⟩, h2⟩
    exact ⟨p, ho, rfl, S.fr i p own, f, g, q, S.sta.rsO i p own⟩
  | lent p j o => exact hf.elim
theorem sr_ret (h : ER A K te we) : SR A K W (tRet te) (wRet we) := fun g0 F0 H0 σ F H e E D S q R =>
  h σ F H e _ S.sta q _ fun v r F1 H1 e1 T1 S1 R1 p1 =>
    have S' := S.step T1 S1
    R.rt v r.out F1 H1 e1.n S'.fin S1.ex S1.ri S1.rsF (R1.out (Rs.fre_iff.mp p1).1 S' fun p hp => S.nil0 hp) (Rs.fre_iff.mp p1).2
theorem psd_ret (h : PD X A ex te we) : PSD X A W (.Return (some ex) pos) (tRet te) (wRet we) := ⟨ps_ret h.pe, sr_ret h.er⟩
def wRetN : WS := fun E e => E.rt (.val (.dat .none)) e.n
theorem sr_retN : SR A K W tRetN wRetN := fun g0 F0 H0 σ F H e E D S q R => R.rt .non (.val (.dat .none)) F H e.n S.fin S.sta.ex S.sta.ri S.sta.rsF .non q
theorem psd_retN : PSD X A W (.Return none pos) tRetN wRetN := ⟨ps_retN, sr_retN⟩
/-! break, continue -/
def wBrk : WS := fun E e => E.bk e
def wCnt : WS := fun E e => E.ct e
theorem psd_break : PSD X A W (.Break pos) tBreak wBrk := ⟨ps_break, fun g0 F0 H0 σ F H e E D S q R => R.bk σ F H e S (Ex.refl _) q⟩
theorem psd_continue : PSD X A W (.Continue pos) tCont wCnt := ⟨ps_continue, fun g0 F0 H0 σ F H e E D S q R => R.ct σ F H e S (Ex.refl _) q⟩
/-! a statement that is never reached -/
def wNever : WS := fun _ _ => False
theorem psd_never : PSD X A W st tNever wNever := ⟨ps_never, fun g0 F0 H0 σ F H e E D S q R => q.elim⟩
/-! if -/
def wIfS (c : WT) (w z : WS) : WS := fun E e => c e fun b e1 => if b = true then w E e1 else z E e1
theorem sr_if (hc : ETR A K tt wt) (h1 : SR A K W t w) (h2 : SR A K W u z) : SR A K W (tIfS tt t u) (wIfS wt w z) := fun g0 F0 H0 σ F H e E D S q R =>
  hc σ F H e _ S.sta q _ fun b F1 H1 e1 T1 S1 p1 => by
    cases b with
    | true => exact h1 g0 F0 H0 σ F1 H1 e1 E D (S.step T1 S1) p1 (R.mono T1.ex)
    | false => exact h2 g0 F0 H0 σ F1 H1 e1 E D (S.step T1 S1) p1 (R.mono T1.ex)
theorem psd_if {c : Expr} {s1 s2 : List Stmt} (hc : PDT X A c tt wt) (h1 : PSDs X A W s1 t w) (h2 : PSDs X A W s2 u z) : PSD X A W (.If c s1 s2 pos) (tIfS tt t u) (wIfS wt w z) := ⟨ps_if hc.pt h1.ps h2.ps, sr_if hc.er h1.sr h2.sr⟩
/-! x = e -/
def wSet (i : Nat) (we : WE) : WS := fun E e => we e fun r e1 => match r with
  | .val a => E.nx (e1.set i (.im a))
  | .new o => E.nx (e1.set i (.ow o))
  | .loan _ _ => False
  | .lent _ _ _ => False
theorem SSt.setIm (S : SSt A K g0 F0 H0 σ F H e) (i : Nat) (h : RelA K F v a) : SSt A K g0 F0 H0 (σ.set i (some v)) F H (e.set i (.im a)) :=
  let ⟨S', ow⟩ := S.sta.setIm i h
  ⟨S', S.fin, fun j p z => S.fr j p (ow j p z).1⟩
theorem sr_set {i : Nat} (h : ER A K te we) : SR A K W (tAsg te (gName i)) (wSet i we) := fun g0 F0 H0 σ F H e E D S q R =>
  h σ F H e _ S.sta q _ fun v r F1 H1 e1 T1 S1 R1 p1 => by
    have S' := S.step T1 S1
    match r, R1, p1 with
    | .val a, R1, p1 => exact R.nx _ F1 H1 _ (S'.setIm i R1) T1.ex p1
    | .new o, ⟨p, ho, ev, h0, f, g, q, nr, no⟩, p1 =>
      subst ev
      obtain ⟨S2, ow⟩ := S1.setOw i f g q nr no
      exact R.nx _ F1 H1 _ ⟨S2, S'.fin, fun j p' z => by
        rcases ow j p' z with ⟨_, z2⟩ | ⟨z2, _⟩
        · subst z2; exact S.nil0 h0
        · exact S'.fr j p' z2⟩ T1.ex p1
theorem psd_set {i : Nat} {x : Str} {px : Pos} (hN : X.N.Nodup) (hi : X.N[i]? = some x) (hx : Loc X.env.scope x) (h : PD X A ex te we) (hs : swapsWith ex (some (.Name x px)) pos.line X.env = pure false := by rfl)
    (hf : X.fn x = true ∨ X.env.scope.names.lookup x = some .local := by first | exact .inl rfl | exact .inr rfl | assumption) : PSD X A W (.Assign [.Name x px] ex pos) (tAsg te (gName i)) (wSet i we) := ⟨ps_set hN hi hx h.pe hs hf, sr_set h.er⟩
end
end PL

namespace PL
open PySem L2

/-! ### stores to several names -/
/-- no slot of its own -/
def nOw : Sl → Prop
  | .ow _ => False
  | _ => True
def noOw (e : En) : List Nat → Prop
  | [] => True
  | k :: ks => (match e.sl[k]? with
    | some s => nOw s
    | none => True) ∧ noOw e ks
theorem noOw.owns {A : Amb} {K : PySem.W.Frag} {σ : St} {e : En} : ∀ {ks : List Nat}, noOw e ks → ∀ j p, j ∈ ks → ¬ Owns e σ j p
  | [], _, j, p, h => by cases h
  | k :: ks, ⟨h1, h2⟩, j, p, h => by
    rcases List.mem_cons.mp h with rfl | h
    · rintro ⟨⟨o, z⟩, _⟩
      rw [z] at h1
      exact h1
    · exact noOw.owns (A := A) (K := K) h2 j p h
def wAsg (ks : List Nat) (wg : WG) (we : WE) : WS := fun E e => we e fun r e1 => match r with
  | .val (.dat d) => noOw e1 ks ∧ wg d e1 E.nx
  | _ => False
section
variable {X : Cx} {A : Amb} {K : PySem.W.Frag} {σ σ' : St} {F F' F1 H H' H1 F0 H0 Fn : Hp} {g0 : Gh} {e e' : En} {v : V} {a : Av} {W : WX} {t u : TS} {w z : WS} {ex : Expr} {te : TE} {we : WE} {tt : TT} {wt : WT} {pos : Pos} {g : TG} {wg : WG} {ks : List Nat} {ta : TA} {wa : WA} {tb : TS} {wb : WS}
theorem SSt.gs (S : SSt A K g0 F0 H0 σ F H e) (G : GS ks σ e σ' e') (S' : Sta A K σ' F H e') : SSt A K g0 F0 H0 σ' F H e' := ⟨S', (by rw [G.n]; exact S.fin), fun i p h => S.fr i p (G.own i p h)⟩
theorem sr_asg (h : ER A K te we) (hg : GER A K ks false g wg) : SR A K W (tAsg te g) (wAsg ks wg we) := fun g0 F0 H0 σ F H e E D S q R =>
  h σ F H e _ S.sta q _ fun v r F1 H1 e1 T1 S1 R1 p1 => by
    have S' := S.step T1 S1
    match r, R1, p1 with
    | .val (.dat d), R1, ⟨hn, p1⟩ =>
      exact hg σ F1 H1 e1 d v _ S1 R1 (hn.owns (A := A) (K := K)) p1 _ fun σ2 e2 G2 S2 p2 => R.nx σ2 F1 H1 e2 (S'.gs G2 S2) T1.ex p2
theorem psd_asg {tg : Expr} (h : PD X A ex te we) (hg : PGD X A tg ks false g wg) (hs : swapsWithSole [tg] ex pos.line X.env = pure false := by rfl) (hw : swappedStores [tg] ex X.env = pure none := by rfl)
    (h1 : (assignEach [tg] X.env).map (·.2) = [assign tg X.env] := by rfl) : PSD X A W (.Assign [tg] ex pos) (tAsg te g) (wAsg ks wg we) := ⟨ps_asg h.pe hg.pg hs hw h1, sr_asg h.er hg.er⟩
/-! a, b = x, y -/
def Rs.sl : Rs → Option Sl
  | .val a => some (.im a)
  | .new o => some (.ow o)
  | .loan _ _ => none
  | .lent _ _ _ => none
/-- a result is put into a slot; other results stay what they are -/
theorem SSt.put {r : Rs} {x : Sl} {i : Nat} (S : SSt A K g0 F0 H0 σ F H e) (h : RsR K A σ H1 F H e v r) (hn : ∀ p, H1 p = none → H0 p = none) (hx : r.sl = some x) : SSt A K g0 F0 H0 (σ.set i (some v)) F H (e.set i x) ∧
    (∀ p, (∀ j, ¬ Owns e σ j p) → (∀ o, r = .new o → v ≠ .ref p) → ∀ j, ¬ Owns (e.set i x) (σ.set i (some v)) j p) := by
  match r, h, hx with
  | .val a, h, hx =>
    cases hx
    obtain ⟨S', ow⟩ := S.sta.setIm i h
    exact ⟨S.setIm i h, fun p hp _ j z => hp j (ow j p z).1⟩
  | .new o, ⟨p, ho, ev, h0, f, g, q, nr, no⟩, hx =>
    cases hx
    subst ev
    obtain ⟨S2, ow⟩ := S.sta.setOw i f g q nr no
    refine ⟨⟨S2, S.fin, fun j p' z => ?_⟩, fun p' hp hne j z => ?_⟩
    · rcases ow j p' z with ⟨_, z2⟩ | ⟨z2, _⟩
      · subst z2; exact hn _ h0
      · exact S.fr j p' z2
    · rcases ow j p' z with ⟨_, z2⟩ | ⟨z2, _⟩
      · subst z2; exact hne o rfl rfl
      · exact hp j z2
/-- two results are not the same new object: at most one is new, or the second was made later (told by the values) -/
def wPar (i j : Nat) (we wf : WE) : WS := fun E e => we e fun r e1 => wf e1 fun s e2 => match r.sl, s.sl with
  | some x, some y => E.nx ((e2.set i x).set j y)
  | _, _ => False
theorem RsR.ne {r s : Rs} {H2 : Hp} {e1 e2 : En} {x y : V} {F2 : Hp} {o o' : Ow} (h1 : RsR K A σ H0 F1 H1 e1 x (.new o)) (h2 : RsR K A σ H1 F2 H2 e2 y (.new o')) (p : Addr) (hx : x = .ref p) : y ≠ .ref p := by
  obtain ⟨p1, ho1, ev1, h01, f1, g1, _⟩ := h1
  obtain ⟨p2, ho2, ev2, h02, _⟩ := h2
  intro z
  rw [hx] at ev1
  rw [z] at ev2
  cases ev1; cases ev2
  rw [g1] at h02; cases h02
theorem sr_par {i j : Nat} {tf : TE} {wf : WE} (h1 : ER A K te we) (h2 : ER A K tf wf) : SR A K W (tPar i j (tCons te (tCons tf tNil))) (wPar i j we wf) := fun g0 F0 H0 σ F H e E D S q R =>
  h1 σ F H e _ S.sta q _ fun x r F1 H1 e1 T1 S1 R1 p1 => h2 σ F1 H1 e1 _ S1 p1 _ fun y s F2 H2 e2 T2 S2 R2 p2 => by
    have S' := (S.step T1 S1).step T2 S2
    refine ⟨x, y, rfl, ?_⟩
    revert p2
    cases hr : r.sl with
    | none => exact fun p2 => p2.elim
    | some sx =>
      cases hs : s.sl with
      | none => exact fun p2 => p2.elim
      | some sy =>
        intro p2
        have hn1 : ∀ p, H1 p = none → H p = none := fun p hp => by
          cases z : H p with
          | none => rfl
          | some w => exact absurd hp (T1.liv p (by rw [z]; simp))
        have R1' : RsR K A σ H F2 H2 e2 x r := R1.step T2 (by cases r with
          | loan i o => cases hr
          | lent p j o => cases hr
          | _ => trivial)
        obtain ⟨S3, no3⟩ := S'.put (i := i) R1' (fun p hp => S.nil0 hp) hr
        have R2' : RsR K A (σ.set i (some x)) H1 F2 H2 (e2.set i sx) y s := by
          match s, R2, hs with
          | .val a, R2, _ => exact R2
          | .new o, R2, _ =>
            obtain ⟨p, ho, ev, h0, f, g, q, nr, no⟩ := id R2
            refine ⟨p, ho, ev, h0, f, g, q, nr, no3 p no fun o' e' z => ?_⟩
            subst e'
            exact RsR.ne (r := .new o') (s := .new o) R1 R2 p z ev
        obtain ⟨S4, _⟩ := S3.put (i := j) R2' (fun p hp => S.nil0 (hn1 p hp)) hs
        exact R.nx _ F2 H2 _ S4 (T1.ex.trans T2.ex) p2
theorem psd_par {i j : Nat} {x y : Str} {a b : Expr} {tf : TE} {wf : WE} {px py pt : Pos} {kt k2 pt2} (hc : X.calm = true) (hN : X.N.Nodup) (hi : X.N[i]? = some x) (hj : X.N[j]? = some y) (hij : i ≠ j)
    (hx : X.env.scope.names.lookup x = some .local) (hy : X.env.scope.names.lookup y = some .local) (ha : PD X A a te we) (hb : PD X A b tf wf)
    (hw : swappedStores [.Tuple [.Name x px, .Name y py] kt pt] (.Tuple [a, b] k2 pt2) X.env = pure (some [x, y]))
    (hs1 : starEach [a, b] X.env = (false, eval a X.env) :: starEach [b] X.env := by rfl) (hs2 : starEach [b] X.env = (false, eval b X.env) :: starEach [] X.env := by rfl)
    (hs : swapsWithSole [.Tuple [.Name x px, .Name y py] kt pt] (.Tuple [a, b] k2 pt2) pos.line X.env = pure false := by rfl) :
    PSD X A W (.Assign [.Tuple [.Name x px, .Name y py] kt pt] (.Tuple [a, b] k2 pt2) pos) (tPar i j (tCons te (tCons tf tNil))) (wPar i j we wf) :=
  ⟨ps_par hc hN hi hj hij hx hy (pa_cons ha.pe (pa_cons hb.pe pa_nil hs2) hs1) hw hs, sr_par ha.er hb.er⟩
def wPar3 (i j l : Nat) (we wf wh : WE) : WS := fun E e => we e fun r e1 => wf e1 fun s e2 => wh e2 fun t e3 => match r.sl, s.sl, t.sl with
  | some x, some y, some z => E.nx (((e3.set i x).set j y).set l z)
  | _, _, _ => False
theorem sr_par3 {i j l : Nat} {tf th : TE} {wf wh : WE} (h1 : ER A K te we) (h2 : ER A K tf wf) (h3 : ER A K th wh) : SR A K W (tPar3 i j l (tCons te (tCons tf (tCons th tNil)))) (wPar3 i j l we wf wh) := fun g0 F0 H0 σ F H e E D S q R =>
  h1 σ F H e _ S.sta q _ fun x r F1 H1 e1 T1 S1 R1 p1 => h2 σ F1 H1 e1 _ S1 p1 _ fun y s F2 H2 e2 T2 S2 R2 p2 => h3 σ F2 H2 e2 _ S2 p2 _ fun z t F3 H3 e3 T3 S3 R3 p3 => by
    have S' := ((S.step T1 S1).step T2 S2).step T3 S3
    refine ⟨x, y, z, rfl, ?_⟩
    revert p3
    cases hr : r.sl with
    | none => exact fun p2 => p2.elim
    | some sx =>
      cases hs : s.sl with
      | none => exact fun p2 => p2.elim
      | some sy =>
        cases ht : t.sl with
        | none => exact fun p2 => p2.elim
        | some sz =>
          intro p3
          have back : ∀ {H H1 : Hp}, (∀ a, H a ≠ none → H1 a ≠ none) → ∀ p, H1 p = none → H p = none := fun {H H1} h p hp => by
            cases z : H p with
            | none => rfl
            | some w => exact absurd hp (h p (by rw [z]; simp))
          have kp : ∀ {r : Rs} {s : Sl} {e : En}, r.sl = some s → r.kept e := fun {r s e} h => by
            cases r with
            | loan i o => cases h
            | lent p j o => cases h
            | _ => trivial
          have R1' := (R1.step T2 (kp hr)).step T3 (kp hr)
          have R2' := R2.step T3 (kp hs)
          obtain ⟨S4, no4⟩ := S'.put (i := i) R1' (fun p hp => S.nil0 hp) hr
          have R2a : RsR K A (σ.set i (some x)) H1 F3 H3 (e3.set i sx) y s := by
            match s, R2, R2', hs with
            | .val a, _, R2', _ => exact R2'
            | .new o, R2, R2', _ =>
              obtain ⟨p, ho, ev, h0, f, g, q, nr, no⟩ := id R2'
              refine ⟨p, ho, ev, h0, f, g, q, nr, no4 p no fun o' e' z => ?_⟩
              subst e'
              exact RsR.ne (r := .new o') (s := .new o) R1 R2 p z ev
          obtain ⟨S5, no5⟩ := S4.put (i := j) R2a (fun p hp => S.nil0 (back T1.liv p hp)) hs
          have R3a : RsR K A ((σ.set i (some x)).set j (some y)) H2 F3 H3 ((e3.set i sx).set j sy) z t := by
            match t, R3, ht with
            | .val a, R3, _ => exact R3
            | .new o, R3, _ =>
              obtain ⟨p, ho, ev, h0, f, g, q, nr, no⟩ := id R3
              refine ⟨p, ho, ev, h0, f, g, q, nr, no5 p (no4 p no fun o' e' z => ?_) fun o' e' z => ?_⟩
              · subst e'
                exact RsR.ne (r := .new o') (s := .new o) (R1.step T2 trivial) R3 p z ev
              · subst e'
                exact RsR.ne (r := .new o') (s := .new o) R2 R3 p z ev
          obtain ⟨S6, _⟩ := S5.put (i := l) R3a (fun p hp => S.nil0 (back T1.liv p (back T2.liv p hp))) ht
          exact R.nx _ F3 H3 _ S6 ((T1.ex.trans T2.ex).trans T3.ex) p3
theorem psd_par3 {i j l : Nat} {x y z : Str} {a b c : Expr} {tf th : TE} {wf wh : WE} {px py pz pt : Pos} {kt k2 pt2} (hc : X.calm = true) (hN : X.N.Nodup) (hi : X.N[i]? = some x) (hj : X.N[j]? = some y) (hl : X.N[l]? = some z) (hij : i ≠ j) (hil : i ≠ l) (hjl : j ≠ l)
    (hx : X.env.scope.names.lookup x = some .local) (hy : X.env.scope.names.lookup y = some .local) (hz : X.env.scope.names.lookup z = some .local) (ha : PD X A a te we) (hb : PD X A b tf wf) (hd : PD X A c th wh)
    (hw : swappedStores [.Tuple [.Name x px, .Name y py, .Name z pz] kt pt] (.Tuple [a, b, c] k2 pt2) X.env = pure (some [x, y, z]))
    (hs1 : starEach [a, b, c] X.env = (false, eval a X.env) :: starEach [b, c] X.env := by rfl) (hs2 : starEach [b, c] X.env = (false, eval b X.env) :: starEach [c] X.env := by rfl) (hs3 : starEach [c] X.env = (false, eval c X.env) :: starEach [] X.env := by rfl)
    (hs : swapsWithSole [.Tuple [.Name x px, .Name y py, .Name z pz] kt pt] (.Tuple [a, b, c] k2 pt2) pos.line X.env = pure false := by rfl) :
    PSD X A W (.Assign [.Tuple [.Name x px, .Name y py, .Name z pz] kt pt] (.Tuple [a, b, c] k2 pt2) pos) (tPar3 i j l (tCons te (tCons tf (tCons th tNil)))) (wPar3 i j l we wf wh) :=
  ⟨ps_par3 hc hN hi hj hl hij hil hjl hx hy hz (pa_cons ha.pe (pa_cons hb.pe (pa_cons hd.pe pa_nil hs3) hs2) hs1) hw hs, sr_par3 ha.er hb.er hd.er⟩

/-! ### while -/
def wWhile (c : WT) (wb : WS) : WS := fun E e => ∃ I : Nat → En → Prop, (∃ m, I m e) ∧ ∀ m e, I m e → c e fun b e1 =>
  if b = true then wb { nx := fun e' => ∃ m', m' < m ∧ I m' e', ct := fun e' => ∃ m', m' < m ∧ I m' e', bk := E.nx, rt := E.rt, ex := E.ex } e1 else E.nx e1
theorem sr_while (hc : ETR A K tt wt) (hb : SR A K W tb wb) : SR A K W (tWhile tt tb) (wWhile wt wb) := fun g0 F0 H0 σ F H e E D S ⟨I, ⟨m0, i0⟩, turn⟩ R => by
  refine ⟨fun m σ H => ∃ F' e, SSt A K g0 F0 H0 σ F' H e ∧ Ex F F' ∧ I m e, ⟨m0, F, e, S, Ex.refl _, i0⟩, ?_⟩
  rintro m σ H ⟨F', e, S, x, hi⟩
  refine hc σ F' H e _ S.sta (turn m e hi) _ fun b F1 H1 e1 T1 S1 p1 => ?_
  have S' := S.step T1 S1
  cases b with
  | false => exact R.nx σ F1 H1 e1 S' (x.trans T1.ex) p1
  | true =>
    refine ⟨fun σ' H' => ∃ m', m' < m ∧ ∃ F' e, SSt A K g0 F0 H0 σ' F' H' e ∧ Ex F F' ∧ I m' e, fun σ' H' z => z, ?_⟩
    refine hb g0 F0 H0 σ F1 H1 e1 _ _ S' p1 ⟨fun σ2 F2 H2 e2 S2 x2 ⟨m', h1, h2⟩ => ⟨m', h1, F2, e2, S2, (x.trans T1.ex).trans x2, h2⟩, R.rt, fun σ2 F2 H2 e2 S2 x2 h2 => R.nx σ2 F2 H2 e2 S2 ((x.trans T1.ex).trans x2) h2, fun σ2 F2 H2 e2 S2 x2 ⟨m', h1, h2⟩ => ⟨m', h1, F2, e2, S2, (x.trans T1.ex).trans x2, h2⟩, fun σ2 F2 H2 e2 c d fs S2 x2 => R.ex σ2 F2 H2 e2 c d fs S2 ((x.trans T1.ex).trans x2)⟩
theorem psd_while {c : Expr} {body : List Stmt} (hp : PassesOwn (model X.prog X.w) X.A X.env X.xe) (hc : PDT X A c tt wt) (hb : PSDs X A W body tb wb) : PSD X A W (.While c body [] pos) (tWhile tt tb) (wWhile wt wb) := ⟨ps_while hp hc.pt hb.ps, sr_while hc.er hb.sr⟩

/-! ### what a loop walks -/
structure ItR (K : PySem.W.Frag) (u : Bool) (J : It) (F : Hp) (ds : List D) : Prop where
  go : ∀ i F1 H1, Ex F F1 → Ex F1 H1 → i < ds.length → J.go i H1
  yld : ∀ i F1 H1 x H2 d, Ex F F1 → Ex F1 H1 → J.yld i H1 x H2 → ds[i]? = some d → (H2 = H1 ∧ RDu K F1 u x d) ∨ ∃ p ho, H1 p = none ∧ H2 = upd H1 p ho ∧ RDu K (upd F1 p ho) u x d
  stop : ∀ F1 H1, Ex F F1 → Ex F1 H1 → J.stop ds.length H1
abbrev WI := En → (List D → En → Prop) → Prop
def IER (A : Amb) (K : PySem.W.Frag) (u : Bool) (wi : TI) (w : WI) : Prop :=
  ∀ (σ : St) (F H : Hp) (e : En) (post : List D → En → Prop), Sta A K σ F H e → w e post → ∀ R : It → Hp → Prop,
    (∀ J ds F' H' e', Stp A σ F H e F' H' e' → Sta A K σ F' H' e' → ItR K u J F' ds → post ds e' → R J H') → wi σ H R
structure PID (X : Cx) (A : Amb) (tg iter : Expr) (u : Bool) (wi : TI) (w : WI) : Prop where
  pi : PI X tg iter wi
  er : IER A X.K u wi w
/-- over a list or a tuple -/
def iSeq (K : PySem.W.Frag) (tl : TE) : TI := fun σ H R => tl σ H fun x H1 => ∃ a, x = .ref a ∧ (((∃ xs, SqL K H1 a xs) ∧ R (Itl K a) H1) ∨ ((∃ xs, SqT K H1 a xs) ∧ R (Itt K a) H1))
theorem pi_seq {tg l : Expr} {tl : TE} (hl : PE X l tl) : PI X tg l (iSeq X.K tl) := by
  refine ⟨fun pins s σ H R I h => ?_⟩
  refine thn (hl.run pins s σ H _ I h) fun v s1 ⟨x, H1, I1, r1, a, e, q1⟩ => ?_
  subst e
  cases r1
  rcases q1 with ⟨⟨xs, hq⟩, q⟩ | ⟨⟨xs, hq⟩, q⟩
  · obtain ⟨its, rv, p, hz⟩ := I1.list hq
    refine wpAny_pyIter_list p.isList ?_
    refine ⟨s1.heap.objs.size, [s1.heap.objs.size], _, _, H1, rfl, I1.kept (t' := s1.toks) fun b o e => Heap.get?_push_of_some _ e, turn_list a _, ⟨_, Heap.get?_push_size _ rfl, rfl, rfl⟩, fun b hb => ?_, q⟩
    have e : b = s1.heap.objs.size := by simpa using hb
    subst e
    exact I1.fpOk (Nat.le_refl _) (I1.hok.fresh (Nat.le_refl _))
  · obtain ⟨its, rv, p, hz⟩ := I1.tuple hq
    refine wpAny_pyIter_tuple (show s1.heap.IsTuple a its.toArray from p) ?_
    refine ⟨s1.heap.objs.size, [s1.heap.objs.size], _, _, H1, rfl, I1.kept (t' := s1.toks) fun b o e => Heap.get?_push_of_some _ e, turn_tuple a _, ⟨_, Heap.get?_push_size _ rfl, rfl, rfl⟩, fun b hb => ?_, q⟩
    have e : b = s1.heap.objs.size := by simpa using hb
    subst e
    exact I1.fpOk (Nat.le_refl _) (I1.hok.fresh (Nat.le_refl _))
def wiSeq (we : WE) : WI := fun e post => we e fun r e1 => r.fre (match r.av with
  | .dat (.list ds) => post ds (frz1 e1 r)
  | .dat (.tuple ds) => post ds (frz1 e1 r)
  | _ => False)
theorem itr_list {a : Addr} {vs : List V} {ds : List D} (h : F a = some (.lst vs)) (r : RDs K F vs ds) : ItR K false (Itl K a) F ds := by
  have l := r.length
  refine ⟨fun i F1 H1 x y hi => ?_, fun i F1 H1 v H2 d x y ⟨hH, hv⟩ hd => .inl ⟨hH, ?_⟩, fun F1 H1 x y => ⟨vs, SqL.of (y _ _ (x _ _ h)), Nat.le_of_eq l⟩⟩
  · exact ⟨vs, vs[i], SqL.of (y _ _ (x _ _ h)), by simp [l, hi]⟩
  · obtain ⟨v', hv', rd⟩ := r.get hd
    have := hv vs (SqL.of (y _ _ (x _ _ h)))
    rw [hv'] at this; cases this
    exact rd.ext x
theorem itr_tup {a : Addr} {vs : List V} {ds : List D} (h : TupR K F a vs) (r : RDs K F vs ds) : ItR K false (Itt K a) F ds := by
  have l := r.length
  refine ⟨fun i F1 H1 x y hi => ?_, fun i F1 H1 v H2 d x y ⟨hH, hv⟩ hd => .inl ⟨hH, ?_⟩, fun F1 H1 x y => ⟨vs, y.sqt (x.sqt h.sqt), Nat.le_of_eq l⟩⟩
  · exact ⟨vs, vs[i], y.sqt (x.sqt h.sqt), by simp [l, hi]⟩
  · obtain ⟨v', hv', rd⟩ := r.get hd
    have := hv vs (y.sqt (x.sqt h.sqt))
    rw [hv'] at this; cases this
    exact rd.ext x
/-- a list or a tuple, frozen -/
theorem frzSeq {r : Rs} {e0 : En} (hf : r.free) (B : Stp A σ F0 H0 e0 F H e) (S : Sta A K σ F H e) (h : RsR K A σ H0 F H e v r) {ds : List D} (hr : r.av = .dat (.list ds) ∨ r.av = .dat (.tuple ds)) :
    ∃ F', Stp A σ F0 H0 e0 F' H (frz1 e r) ∧ Sta A K σ F' H (frz1 e r) ∧ ∃ a vs, v = .ref a ∧ RDs K F' vs ds ∧ ((r.av = .dat (.list ds) ∧ F' a = some (.lst vs)) ∨ (r.av = .dat (.tuple ds) ∧ TupR K F' a vs)) := by
  obtain ⟨F', B', S', x, rel, _⟩ := freeze1 hf B S (.inr h)
  refine ⟨F', B', S', ?_⟩
  rcases hr with hr | hr
  · rw [hr] at rel
    have rel : RD K F' v (.list ds) := rel
    cases rel with
    | lst h1 h2 => exact ⟨_, _, rfl, h2, .inl ⟨hr, h1⟩⟩
  · rw [hr] at rel
    have rel : RD K F' v (.tuple ds) := rel
    cases rel with
    | tup h1 h2 => exact ⟨_, _, rfl, h2, .inr ⟨hr, h1⟩⟩
theorem ier_seq (h : ER A K te we) : IER A K false (iSeq K te) (wiSeq we) := by
  intro σ F H e post S q R k
  refine h σ F H e _ S q _ fun v r F1 H1 e1 T1 S1 R1 h1 => ?_
  obtain ⟨hf, h1⟩ := Rs.fre_iff.mp h1
  have go : ∀ ds, (r.av = .dat (.list ds) ∨ r.av = .dat (.tuple ds)) → post ds (frz1 e1 r) → ∃ a, v = .ref a ∧ (((∃ xs, SqL K H1 a xs) ∧ R (Itl K a) H1) ∨ ((∃ xs, SqT K H1 a xs) ∧ R (Itt K a) H1)) := fun ds hr hp => by
    obtain ⟨F2, B2, S2, a, vs, ev, rd, q⟩ := frzSeq hf T1 S1 R1 hr
    refine ⟨a, ev, ?_⟩
    rcases q with ⟨_, q⟩ | ⟨_, q⟩
    · exact .inl ⟨⟨vs, SqL.of (S2.ex _ _ q)⟩, k _ ds F2 H1 _ B2 S2 (itr_list q rd) hp⟩
    · exact .inr ⟨⟨vs, S2.ex.sqt q.sqt⟩, k _ ds F2 H1 _ B2 S2 (itr_tup q rd) hp⟩
  revert h1
  cases hr : r.av with
  | dat d =>
    cases d with
    | list ds => exact fun h1 => go ds (.inl hr) h1
    | tuple ds => exact fun h1 => go ds (.inr hr) h1
    | _ => exact fun h1 => h1.elim
  | _ => exact fun h1 => h1.elim
theorem pid_seq {tg l : Expr} (h : PD X A l te we) : PID X A tg l false (iSeq X.K te) (wiSeq we) := ⟨pi_seq h.pe, ier_seq h.er⟩
/-! range -/
def rngD (lo : Int) (n : Nat) : List D := (List.range n).map fun (i : Nat) => PyData.int (lo + (i : Int))
def wiRng1 (we : WE) : WI := fun e post => we e fun r e1 => match r.av with
  | .dat (.int j) => -(2 ^ 62) ≤ j ∧ j < 2 ^ 62 ∧ post (rngD 0 j.toNat) e1
  | _ => False
def wiRng2 (we wf : WE) : WI := fun e post => we e fun r e1 => wf e1 fun s e2 => match r, s.av with
  | .val (.dat (.int i)), .dat (.int j) => -(2 ^ 62) ≤ i ∧ i < 2 ^ 62 ∧ -(2 ^ 62) ≤ j ∧ j < 2 ^ 62 ∧ post (rngD i (j - i).toNat) e2
  | _, _ => False
theorem itr_rng (lo : Int) (n : Nat) : ItR K false (Itr lo n) F (rngD lo n) := by
  have l : (rngD lo n).length = n := by simp [rngD]
  refine ⟨fun i F1 H1 x y hi => by rw [l] at hi; exact hi, fun i F1 H1 v H2 d x y ⟨hH, hv⟩ hd => .inl ⟨hH, ?_⟩, fun F1 H1 x y => Nat.le_of_eq l.symm⟩
  have hi : i < n := by
    have := (List.getElem?_eq_some_iff.mp hd).1
    rw [l] at this; exact this
  have e1 : d = .int (lo + (i : Int)) := by
    have h2 : (rngD lo n)[i]? = some (PyData.int (lo + (i : Int))) := by simp [rngD, hi]
    rw [h2] at hd; exact (Option.some.inj hd).symm
  rw [hv, e1]
  exact .int _
theorem RsR.vint {r : Rs} {i : Int} (h : RsR K A σ H0 F H e v r) (S : Sta A K σ F H e) (q : r.av = .dat (.int i)) : v = .int i := by
  have t := h.top S
  rw [q] at t
  exact t.vint
theorem ier_rng1 (h : ER A K te we) : IER A K false (iRng1 (tCons te tNil)) (wiRng1 we) := by
  intro σ F H e post S q R k
  refine h σ F H e _ S q _ fun v r F1 H1 e1 T1 S1 R1 h1 => ?_
  revert h1
  cases hr : r.av with
  | dat d =>
    cases d with
    | int j => exact fun ⟨h1, h2, h3⟩ => ⟨j, by rw [R1.vint S1 hr], h1, h2, k _ _ F1 H1 e1 T1 S1 (itr_rng 0 j.toNat) h3⟩
    | _ => exact fun h1 => h1.elim
  | _ => exact fun h1 => h1.elim
theorem ier_rng2 {tf : TE} {wf : WE} (h : ER A K te we) (h2 : ER A K tf wf) : IER A K false (iRng2 (tCons te (tCons tf tNil))) (wiRng2 we wf) := by
  intro σ F H e post S q R k
  refine h σ F H e _ S q _ fun v r F1 H1 e1 T1 S1 R1 h1 => ?_
  refine h2 σ F1 H1 e1 _ S1 h1 _ fun u s F2 H2 e2 T2 S2 R2 h2 => ?_
  match r, R1, h2 with
  | .val (.dat (.int i)), R1, h2 =>
    revert h2
    cases hs : s.av with
    | dat d =>
      cases d with
      | int j => exact fun ⟨a1, a2, a3, a4, h3⟩ => ⟨i, j, by rw [R1.vint S1 rfl, R2.vint S2 hs], ⟨a1, a2, a3, a4⟩, k _ _ F2 H2 e2 (T1.trans T2) S2 (itr_rng i (j - i).toNat) h3⟩
      | _ => exact fun h1 => h1.elim
    | _ => exact fun h1 => h1.elim
theorem pid_rng1 {tg x : Expr} {p : Pos} (hg : Gl X "range") (hm : X.mg "range" = none) (h : PD X A x te we) (hs : starEach [x] X.env = [(false, eval x X.env)] := by rfl) : PID X A tg (.Call (.Name "range" p) [x] [] pos) false (iRng1 (tCons te tNil)) (wiRng1 we) := ⟨pi_range1 hg hm (pa_cons h.pe pa_nil hs) hs, ier_rng1 h.er⟩
theorem pid_rng2 {tg x y : Expr} {tf : TE} {wf : WE} {p : Pos} (hg : Gl X "range") (hm : X.mg "range" = none) (h : PD X A x te we) (h2 : PD X A y tf wf) (hs : starEach [x, y] X.env = [(false, eval x X.env), (false, eval y X.env)] := by rfl) (hs2 : starEach [y] X.env = [(false, eval y X.env)] := by rfl) : PID X A tg (.Call (.Name "range" p) [x, y] [] pos) false (iRng2 (tCons te (tCons tf tNil))) (wiRng2 we wf) :=
  ⟨pi_range2 hg hm (pa_cons h.pe (pa_cons h2.pe pa_nil hs2) (by rw [hs, hs2])) hs hs2, ier_rng2 h.er h2.er⟩
/-! enumerate -/
def iEnumA (K : PySem.W.Frag) (ta : TA) : TI := fun σ H R => ta σ H fun vs H1 => ∃ a xs, vs = [.ref a] ∧ ((SqL K H1 a xs ∧ R (Ite K a) H1) ∨ (SqT K H1 a xs ∧ R (IteT K a) H1))
theorem pi_enumA {x : Expr} {p tpos : Pos} {elts : List Expr} {kk : Nat} (hg : Gl X "enumerate") (hm : X.mg "enumerate" = none) (ha : PA X [x] ta) (hs : starEach [x] X.env = [(false, eval x X.env)] := by rfl) :
    PI X (.Tuple elts kk tpos) (.Call (.Name "enumerate" p) [x] [] pos) (iEnumA X.K ta) := by
  refine ⟨fun pins s σ H R I h => ?_⟩
  refine PyProof.Rows.Call_ (ld_blt I hg hm PyProof.Rows.boot_enumerate (PyProof.Rows.callWith_type1 (thn (ha.run pos pins s σ H _ I h) fun us s1 ⟨vs, H1, I1, r1, q1⟩ => ?_) hs rfl))
  obtain ⟨a, xs, ex, q⟩ := q1
  subst ex
  cases r1 with
  | cons r rr =>
    cases rr
    cases r
    have fresh2 : ∀ b, b ∈ [s1.heap.objs.size + 1, s1.heap.objs.size] → FpOk X pins H1 b := fun b hb => by
      have e' : b = s1.heap.objs.size + 1 ∨ b = s1.heap.objs.size := by simpa using hb
      have hle : s1.heap.objs.size ≤ b := by
        rcases e' with z | z
        · rw [z]; exact Nat.le_add_right _ _
        · rw [z]; exact Nat.le_refl _
      exact I1.fpOk hle (I1.hok.fresh hle)
    rcases q with ⟨hq, q⟩ | ⟨hq, q⟩
    · obtain ⟨its, rv, p', hz⟩ := I1.list hq
      refine call_enumerate_list p'.isList fun h' he hit hsz hk => wpAny_pyIter_enum he ?_
      have I2 : L2.Inv X pins σ H1 { s1 with heap := h' } := I1.kept (t' := s1.toks) hk
      exact ⟨s1.heap.objs.size + 1, [s1.heap.objs.size + 1, s1.heap.objs.size], _, _, H1, rfl, I2, turn_enum a (s1.heap.objs.size + 1) s1.heap.objs.size, ⟨⟨.none, he⟩, hit, Nat.succ_ne_self _⟩, fresh2, q⟩
    · obtain ⟨its, rv, p', hz⟩ := I1.tuple hq
      refine call_enumT p' fun h' he hit hsz hk => wpAny_pyIter_enum he ?_
      have I2 : L2.Inv X pins σ H1 { s1 with heap := h' } := I1.kept (t' := s1.toks) hk
      exact ⟨s1.heap.objs.size + 1, [s1.heap.objs.size + 1, s1.heap.objs.size], _, _, H1, rfl, I2, turn_enumT a (s1.heap.objs.size + 1) s1.heap.objs.size, ⟨⟨.none, he⟩, hit, Nat.succ_ne_self _⟩, fresh2, q⟩
def enumD (ds : List D) : List D := ds.mapIdx fun i d => .tuple [.int (i : Nat), d]
def wiEnum (we : WE) : WI := fun e post => we e fun r e1 => r.fre (match r.av with
  | .dat (.list ds) => post (enumD ds) (frz1 e1 r)
  | .dat (.tuple ds) => post (enumD ds) (frz1 e1 r)
  | _ => False)
theorem enumD_get {ds : List D} {i : Nat} {d : D} (h : (enumD ds)[i]? = some d) : ∃ x, ds[i]? = some x ∧ d = .tuple [.int (i : Nat), x] := by
  unfold enumD at h
  rw [List.getElem?_mapIdx] at h
  obtain ⟨x, hx, e⟩ := Option.map_eq_some_iff.mp h
  exact ⟨x, hx, e.symm⟩
theorem enumD_len (ds : List D) : (enumD ds).length = ds.length := List.length_mapIdx
theorem rdu_pair {p : Addr} {i : Int} {x : V} {d : D} (r : RD K F x d) (h : F p = some (.tup [.int i, x])) : RDu K F true (.ref p) (.tuple [.int i, d]) :=
  ⟨p, _, _, rfl, .inl (.inl h), .cons (.int i) (.cons r .nil), rfl⟩
theorem itr_enumL {a : Addr} {vs : List V} {ds : List D} (h : F a = some (.lst vs)) (r : RDs K F vs ds) : ItR K true (Ite K a) F (enumD ds) := by
  have l := r.length
  refine ⟨fun i F1 H1 x y hi => ?_, fun i F1 H1 v H2 d x y ⟨T, w, ev, hT, hH, hv⟩ hd => .inr ⟨T, _, hT, hH, ?_⟩, fun F1 H1 x y => ⟨vs, SqL.of (y _ _ (x _ _ h)), by rw [enumD_len]; exact Nat.le_of_eq l⟩⟩
  · rw [enumD_len] at hi
    exact ⟨vs, vs[i], SqL.of (y _ _ (x _ _ h)), by simp [l, hi]⟩
  · obtain ⟨d', hd', e1⟩ := enumD_get hd
    obtain ⟨v', hv', rd⟩ := r.get hd'
    have := hv vs (SqL.of (y _ _ (x _ _ h)))
    rw [hv'] at this; cases this
    rw [ev, e1]
    have hF : F1 T = none := by
      cases z : F1 T with
      | none => rfl
      | some w => rw [y T w z] at hT; cases hT
    exact rdu_pair (rd.ext (x.trans (upd_old hF))) upd_same
theorem itr_enumT {a : Addr} {vs : List V} {ds : List D} (h : TupR K F a vs) (r : RDs K F vs ds) : ItR K true (IteT K a) F (enumD ds) := by
  have l := r.length
  refine ⟨fun i F1 H1 x y hi => ?_, fun i F1 H1 v H2 d x y ⟨T, w, ev, hT, hH, hv⟩ hd => .inr ⟨T, _, hT, hH, ?_⟩, fun F1 H1 x y => ⟨vs, y.sqt (x.sqt h.sqt), by rw [enumD_len]; exact Nat.le_of_eq l⟩⟩
  · rw [enumD_len] at hi
    exact ⟨vs, vs[i], y.sqt (x.sqt h.sqt), by simp [l, hi]⟩
  · obtain ⟨d', hd', e1⟩ := enumD_get hd
    obtain ⟨v', hv', rd⟩ := r.get hd'
    have := hv vs (y.sqt (x.sqt h.sqt))
    rw [hv'] at this; cases this
    rw [ev, e1]
    have hF : F1 T = none := by
      cases z : F1 T with
      | none => rfl
      | some w => rw [y T w z] at hT; cases hT
    exact rdu_pair (rd.ext (x.trans (upd_old hF))) upd_same
theorem ier_enum (h : ER A K te we) : IER A K true (iEnumA K (tCons te tNil)) (wiEnum we) := by
  intro σ F H e post S q R k
  refine h σ F H e _ S q _ fun v r F1 H1 e1 T1 S1 R1 h1 => ?_
  obtain ⟨hf, h1⟩ := Rs.fre_iff.mp h1
  have go : ∀ ds, (r.av = .dat (.list ds) ∨ r.av = .dat (.tuple ds)) → post (enumD ds) (frz1 e1 r) → ∃ a xs, [v] = [.ref a] ∧ ((SqL K H1 a xs ∧ R (Ite K a) H1) ∨ (SqT K H1 a xs ∧ R (IteT K a) H1)) := fun ds hr hp => by
    obtain ⟨F2, B2, S2, a, vs, ev, rd, q⟩ := frzSeq hf T1 S1 R1 hr
    refine ⟨a, vs, by rw [ev], ?_⟩
    rcases q with ⟨_, q⟩ | ⟨_, q⟩
    · exact .inl ⟨SqL.of (S2.ex _ _ q), k _ _ F2 H1 _ B2 S2 (itr_enumL q rd) hp⟩
    · exact .inr ⟨S2.ex.sqt q.sqt, k _ _ F2 H1 _ B2 S2 (itr_enumT q rd) hp⟩
  revert h1
  cases hr : r.av with
  | dat d =>
    cases d with
    | list ds => exact fun h1 => go ds (.inl hr) h1
    | tuple ds => exact fun h1 => go ds (.inr hr) h1
    | _ => exact fun h1 => h1.elim
  | _ => exact fun h1 => h1.elim
theorem pid_enum {x : Expr} {p tpos : Pos} {elts : List Expr} {kk : Nat} (hg : Gl X "enumerate") (hm : X.mg "enumerate" = none) (h : PD X A x te we) (hs : starEach [x] X.env = [(false, eval x X.env)] := by rfl) :
    PID X A (.Tuple elts kk tpos) (.Call (.Name "enumerate" p) [x] [] pos) true (iEnumA X.K (tCons te tNil)) (wiEnum we) := ⟨pi_enumA hg hm (pa_cons h.pe pa_nil hs) hs, ier_enum h.er⟩
end
end PL

namespace PL
open PySem L2

/-! ### changing what a slot owns -/
section
variable {X : Cx} {A : Amb} {K : PySem.W.Frag} {σ σ' : St} {F F' F1 H H' H1 F0 H0 Fn : Hp} {g0 : Gh} {e e' e0 : En} {v : V} {a : Av} {t u : TS} {w z : WS} {ex : Expr} {te : TE} {we : WE} {tt : TT} {wt : WT} {pos cpos apos : Pos} {ta : TA} {wa : WA} {o o' : Ow}
theorem Sta.owAt (S : Sta A K σ F H e) {i : Nat} (hi : e.sl[i]? = some (.ow o)) : ∃ p ho, σ[i]? = some (some (.ref p)) ∧ F p = none ∧ H p = some ho ∧ OwR K F ho o ∧ Owns e σ i p :=
  let ⟨p, ho, h1, h2, h3, h4⟩ := S.at_ i _ hi
  ⟨p, ho, h1, h2, h3, h4, ⟨o, hi⟩, h1⟩
theorem Sta.mut (S : Sta A K σ F H e) {i : Nat} {p : Addr} {ho' : HO} (own : Owns e σ i p) (hH : H p ≠ none) (q : OwR K F ho' o') : Sta A K σ F (upd H p ho') (e.set i (.ow o')) ∧ Stp A σ F H e F (upd H p ho') (e.set i (.ow o')) := by
  have nr := S.rsO i p own
  have fp : F p = none := by
    obtain ⟨⟨o, h1⟩, h2⟩ := own
    obtain ⟨p', ho, e1, f, _⟩ := S.at_ i _ h1
    rw [h2] at e1
    have : p = p' := by simpa using e1
    subst this
    exact f
  have ow : ∀ j p', Owns (e.set i (.ow o')) σ j p' → Owns e σ j p' := fun j p' ⟨⟨o2, h1⟩, h2⟩ => by
    have h1' : (e.sl.set i (.ow o'))[j]? = some (Sl.ow o2) := h1
    rcases set_get h1' with ⟨c, _⟩ | ⟨c, z⟩
    · subst c
      exact ⟨own.1, h2⟩
    · exact ⟨⟨o2, z⟩, h2⟩
  refine ⟨⟨?_, fun a o q => ?_, fun j s hs => ?_, fun j k p' h1 h2 => S.sep j k p' (ow j p' h1) (ow k p' h2), S.ri.st (Ex.refl _) S.rsF (fun a ha => upd_ne fun z => by subst z; exact nr ha), S.rsF, fun j p' h => S.rsO j p' (ow j p' h)⟩,
    ⟨Ex.refl _, fun a o q hr hn => ⟨?_, rfl⟩, ow, fun a h => ?_, fun _ h => .inl h⟩⟩
  · show (e.sl.set i _).length = _
    rw [List.length_set]; exact S.len
  · rw [upd_ne (ne_of_none q fp)]; exact S.ex a o q
  · have hs' : (e.sl.set i (.ow o'))[j]? = some s := hs
    rcases set_get hs' with ⟨c, z⟩ | ⟨c, z⟩
    · subst c z
      exact ⟨p, ho', own.2, fp, upd_same, q⟩
    · refine (S.at_ j s z).ext (Ex.refl _) fun q' e1 ⟨o2, h2⟩ f g => ⟨f, upd_ne ?_⟩
      intro z2
      subst z2
      exact c (S.sep j i q' ⟨⟨o2, by rw [z, h2]⟩, e1⟩ own)
  · rw [upd_ne fun z => by subst z; exact hn i own]; exact q
  · by_cases c : a = p
    · subst c; rw [upd_same]; simp
    · rw [upd_ne c]; exact h
end

/-! ### methods of an owned list -/
def wAppend (i : Nat) (we : WE) : WE := fun e post => match e.sl[i]? with
  | some (.ow (.lst _)) => we e fun r e1 => r.fre (match r.av, (frz1 e1 r).sl[i]? with
    | .dat d, some (.ow (.lst ds)) => ds.length < 100000 ∧ post (.val (.dat .none)) ((frz1 e1 r).set i (.ow (.lst (ds ++ [d]))))
    | _, _ => False)
  | _ => False
def wExtend (i : Nat) (we : WE) : WE := fun e post => match e.sl[i]? with
  | some (.ow (.lst _)) => we e fun r e1 => match r.av, e1.sl[i]? with
    | .dat (.list zs), some (.ow (.lst ds)) => ds.length + zs.length ≤ 100000 ∧ post (.val (.dat .none)) (e1.set i (.ow (.lst (ds ++ zs))))
    | _, _ => False
  | _ => False
def wPop (i : Nat) : WE := fun e post => match e.sl[i]? with
  | some (.ow (.lst ds)) => ∃ d, ds.getLast? = some d ∧ post (.val (.dat d)) (e.set i (.ow (.lst ds.dropLast)))
  | _ => False
def wPopAt (i : Nat) (we : WE) : WE := fun e post => match e.sl[i]? with
  | some (.ow (.lst _)) => we e fun r e1 => match r.av, e1.sl[i]? with
    | .dat (.int j), some (.ow (.lst ds)) => ∃ d, 0 ≤ j ∧ j < 2 ^ 63 ∧ ds[j.toNat]? = some d ∧ post (.val (.dat d)) (e1.set i (.ow (.lst (ds.eraseIdx j.toNat))))
    | _, _ => False
  | _ => False
section
variable {W : WX} {X : Cx} {A : Amb} {K : PySem.W.Frag} {σ σ' : St} {F F' F1 H H' H1 F0 H0 Fn : Hp} {g0 : Gh} {e e' e0 : En} {v : V} {a : Av} {ex : Expr} {te : TE} {we : WE} {pos cpos apos npos : Pos} {x : Str}
theorem tyV_lst {p : Addr} {vs : List V} (h : H p = some (.lst vs)) : tyV K "list" (.ref p) H := .inl ⟨rfl, vs, SqL.of h⟩
theorem OwR.lst {ho : HO} {ds : List D} (h : OwR K F ho (.lst ds)) : ∃ vs, ho = .lst vs ∧ RDs K F vs ds := h
theorem er_append {i : Nat} (h : ER A K te we) : ER A K (tBM K "list" rAppend (tVar i) (tCons te tNil)) (wAppend i we) := by
  intro σ F H e post S q Q k
  unfold wAppend at q
  split at q
  · rename_i ds0 hi
    obtain ⟨p, ho, h1, h2, h3, h4, own⟩ := S.owAt hi
    obtain ⟨vs, ev, rd⟩ := h4.lst
    subst ev
    refine ⟨.ref p, h1, tyV_lst h3, h σ F H e _ S q _ fun y r F1 H1 e1 T1 S1 R1 q1 => ?_⟩
    obtain ⟨hf, q1⟩ := Rs.fre_iff.mp q1
    split at q1
    · rename_i d ds hr hi2
      obtain ⟨q1, q2⟩ := q1
      obtain ⟨F2, B2, S2, x2, rel, _⟩ := freeze1 hf T1 S1 (.inr R1)
      obtain ⟨p', ho', g1, g2, g3, g4, own'⟩ := S2.owAt hi2
      rw [h1] at g1
      have ep : p = p' := by simpa using g1
      subst ep
      obtain ⟨vs', ev', rd'⟩ := g4.lst
      subst ev'
      rw [hr] at rel
      have o' : OwR K F2 (.lst (vs' ++ [y])) (.lst (ds ++ [d])) := ⟨_, rfl, rd'.append (.cons rel .nil)⟩
      obtain ⟨S3, T3⟩ := S2.mut own' (by rw [g3]; simp) o'
      refine ⟨p, vs', y, rfl, rfl, g3, Nat.lt_of_lt_of_le (by rw [rd'.length]; exact q1) line5, ?_⟩
      exact k .non (.val (.dat .none)) F2 _ _ (B2.trans T3) S3 .non q2
    · exact q1.elim
  · exact q.elim
theorem er_extend {i : Nat} (h : ER A K te we) : ER A K (tBM K "list" rExtend (tVar i) (tCons te tNil)) (wExtend i we) := by
  intro σ F H e post S q Q k
  unfold wExtend at q
  split at q
  · rename_i ds0 hi
    obtain ⟨p, ho, h1, h2, h3, h4, own⟩ := S.owAt hi
    obtain ⟨vs, ev, rd⟩ := h4.lst
    subst ev
    refine ⟨.ref p, h1, tyV_lst h3, h σ F H e _ S q _ fun y r F1 H1 e1 T1 S1 R1 q1 => ?_⟩
    split at q1
    · rename_i zs ds hr hi2
      obtain ⟨q1, q2⟩ := q1
      obtain ⟨p', ho', g1, g2, g3, g4, own'⟩ := S1.owAt hi2
      rw [h1] at g1
      have ep : p = p' := by simpa using g1
      subst ep
      obtain ⟨vs', ev', rd'⟩ := g4.lst
      subst ev'
      have tp := R1.top S1
      rw [hr] at tp
      obtain ⟨b, ws, eb, hb, rb⟩ := tp.vlst
      have o' : OwR K F1 (.lst (vs' ++ ws)) (.lst (ds ++ zs)) := ⟨_, rfl, rd'.append rb⟩
      obtain ⟨S3, T3⟩ := S1.mut own' (by rw [g3]; simp) o'
      refine ⟨p, b, vs', ws, rfl, by rw [eb], g3, hb, Nat.le_trans (by rw [rd'.length, rb.length]; exact q1) line5, ?_⟩
      exact k .non (.val (.dat .none)) F1 _ _ (T1.trans T3) S3 .non q2
    · exact q1.elim
  · exact q.elim
theorem RDs.dropLast {vs : List V} {ds : List D} (h : RDs K F vs ds) : RDs K F vs.dropLast ds.dropLast := by
  rw [List.dropLast_eq_take, List.dropLast_eq_take, h.length]
  exact h.take _
theorem RDs.eraseIdx {vs : List V} {ds : List D} (h : RDs K F vs ds) (n : Nat) : RDs K F (vs.eraseIdx n) (ds.eraseIdx n) := by
  rw [List.eraseIdx_eq_take_drop_succ, List.eraseIdx_eq_take_drop_succ]
  exact (h.take _).append (h.drop _)
theorem er_pop {i : Nat} : ER A K (tBM0 K "list" rPop (tVar i)) (wPop i) := by
  intro σ F H e post S q Q k
  unfold wPop at q
  split at q
  · rename_i ds hi
    obtain ⟨d, hd, q⟩ := q
    obtain ⟨p, ho, h1, h2, h3, h4, own⟩ := S.owAt hi
    obtain ⟨vs, ev, rd⟩ := h4.lst
    subst ev
    rw [List.getLast?_eq_getElem?] at hd
    obtain ⟨v, hv, rv⟩ := rd.get hd
    have o' : OwR K F (.lst vs.dropLast) (.lst ds.dropLast) := ⟨_, rfl, rd.dropLast⟩
    obtain ⟨S3, T3⟩ := S.mut own (by rw [h3]; simp) o'
    exact ⟨.ref p, h1, tyV_lst h3, p, vs, v, rfl, rfl, h3, by rw [rd.length]; exact hv, k v (.val (.dat d)) F _ _ T3 S3 rv q⟩
  · exact q.elim
theorem seqIndex_nat {j : Int} {n : Nat} (h0 : 0 ≤ j) (h : j.toNat < n) : seqIndex? j n = some j.toNat := by
  unfold seqIndex?
  have e : (if j < 0 then j + (n : Int) else j) = j := if_neg (by omega)
  show (if (decide (0 ≤ (if j < 0 then j + (n : Int) else j)) && decide ((if j < 0 then j + (n : Int) else j) < (n : Int))) = true then some (if j < 0 then j + (n : Int) else j).toNat else none) = _
  rw [e, if_pos (by simp; omega)]
theorem er_popAt {i : Nat} (h : ER A K te we) : ER A K (tBM K "list" rPopAt (tVar i) (tCons te tNil)) (wPopAt i we) := by
  intro σ F H e post S q Q k
  unfold wPopAt at q
  split at q
  · rename_i ds0 hi
    obtain ⟨p, ho, h1, h2, h3, h4, own⟩ := S.owAt hi
    obtain ⟨vs, ev, rd⟩ := h4.lst
    subst ev
    refine ⟨.ref p, h1, tyV_lst h3, h σ F H e _ S q _ fun y r F1 H1 e1 T1 S1 R1 q1 => ?_⟩
    split at q1
    · rename_i j ds hr hi2
      obtain ⟨d, j0, j1, hd, q2⟩ := q1
      obtain ⟨p', ho', g1, g2, g3, g4, own'⟩ := S1.owAt hi2
      rw [h1] at g1
      have ep : p = p' := by simpa using g1
      subst ep
      obtain ⟨vs', ev', rd'⟩ := g4.lst
      subst ev'
      obtain ⟨w, hw, rw'⟩ := rd'.get hd
      have o' : OwR K F1 (.lst (vs'.eraseIdx j.toNat)) (.lst (ds.eraseIdx j.toNat)) := ⟨_, rfl, rd'.eraseIdx _⟩
      obtain ⟨S3, T3⟩ := S1.mut own' (by rw [g3]; simp) o'
      refine ⟨p, vs', j, j.toNat, w, rfl, by rw [R1.vint S1 hr], g3, by omega, j1, seqIndex_nat j0 (List.getElem?_eq_some_iff.mp hw).1, hw, ?_⟩
      exact k w (.val (.dat d)) F1 _ _ (T1.trans T3) S3 rw' q2
    · exact q1.elim
  · exact q.elim

theorem pd_append {i : Nat} (hN : X.N[i]? = some x) (hv : Vis X.env.scope x) (h : PD X A ex te we) (hb : attributeBase (.Name x npos) "append" X.env (eval (.Name x npos) X.env) = eval (.Name x npos) X.env := by rfl)
    (hfew : ((backTo cpos (starEach [ex] X.env)).all (fun x => !x.1) && (backToKw cpos (keywordEach [] X.env)).all (fun x => x.1.isSome)
      && decide (([ex] : List Expr).length + ([] : List Keyword).length + (if ([] : List Keyword).isEmpty then 0 else 1) < 30)) = true := by rfl)
    (hline : (apos.endLine == cpos.line) = true := by rfl) (hs : starEach [ex] X.env = (false, eval ex X.env) :: starEach [] X.env := by rfl) (hplain : (backTo cpos (starEach [] X.env)).any (·.1) = false := by rfl)
    (hd : (x == ("__debug__" : Str)) = false := by decide) (hcd : (x == ("__classdict__" : Str)) = false := by decide) :
    PD X A (.Call (.Attribute (.Name x npos) "append" apos) [ex] [] cpos) (tBM X.K "list" rAppend (tVar i) (tCons te tNil)) (wAppend i we) :=
  ⟨pe_bm PySem.F.plainAttrs_list PySem.F.slot_list_append PySem.F.type_list_append mt_append (pe_var hN hv hd hcd) (pa_cons h.pe pa_nil hs) hb hfew hline hs hplain, er_append h.er⟩
theorem pd_extend {i : Nat} (hN : X.N[i]? = some x) (hv : Vis X.env.scope x) (h : PD X A ex te we) (hb : attributeBase (.Name x npos) "extend" X.env (eval (.Name x npos) X.env) = eval (.Name x npos) X.env := by rfl)
    (hfew : ((backTo cpos (starEach [ex] X.env)).all (fun x => !x.1) && (backToKw cpos (keywordEach [] X.env)).all (fun x => x.1.isSome)
      && decide (([ex] : List Expr).length + ([] : List Keyword).length + (if ([] : List Keyword).isEmpty then 0 else 1) < 30)) = true := by rfl)
    (hline : (apos.endLine == cpos.line) = true := by rfl) (hs : starEach [ex] X.env = (false, eval ex X.env) :: starEach [] X.env := by rfl) (hplain : (backTo cpos (starEach [] X.env)).any (·.1) = false := by rfl)
    (hd : (x == ("__debug__" : Str)) = false := by decide) (hcd : (x == ("__classdict__" : Str)) = false := by decide) :
    PD X A (.Call (.Attribute (.Name x npos) "extend" apos) [ex] [] cpos) (tBM X.K "list" rExtend (tVar i) (tCons te tNil)) (wExtend i we) :=
  ⟨pe_bm PySem.F.plainAttrs_list PySem.F.slot_list_extend PySem.F.type_list_extend mt_extend (pe_var hN hv hd hcd) (pa_cons h.pe pa_nil hs) hb hfew hline hs hplain, er_extend h.er⟩
theorem pd_pop {i : Nat} (hN : X.N[i]? = some x) (hv : Vis X.env.scope x) (hb : attributeBase (.Name x npos) "pop" X.env (eval (.Name x npos) X.env) = eval (.Name x npos) X.env := by rfl) (hline : (apos.endLine == cpos.line) = true := by rfl)
    (hd : (x == ("__debug__" : Str)) = false := by decide) (hcd : (x == ("__classdict__" : Str)) = false := by decide) :
    PD X A (.Call (.Attribute (.Name x npos) "pop" apos) [] [] cpos) (tBM0 X.K "list" rPop (tVar i)) (wPop i) :=
  ⟨pe_bm0 PySem.F.plainAttrs_list PySem.F.slot_list_pop PySem.F.type_list_pop mt_pop (pe_var hN hv hd hcd) hb hline, er_pop⟩
theorem pd_popAt {i : Nat} (hN : X.N[i]? = some x) (hv : Vis X.env.scope x) (h : PD X A ex te we) (hb : attributeBase (.Name x npos) "pop" X.env (eval (.Name x npos) X.env) = eval (.Name x npos) X.env := by rfl)
    (hfew : ((backTo cpos (starEach [ex] X.env)).all (fun x => !x.1) && (backToKw cpos (keywordEach [] X.env)).all (fun x => x.1.isSome)
      && decide (([ex] : List Expr).length + ([] : List Keyword).length + (if ([] : List Keyword).isEmpty then 0 else 1) < 30)) = true := by rfl)
    (hline : (apos.endLine == cpos.line) = true := by rfl) (hs : starEach [ex] X.env = (false, eval ex X.env) :: starEach [] X.env := by rfl) (hplain : (backTo cpos (starEach [] X.env)).any (·.1) = false := by rfl)
    (hd : (x == ("__debug__" : Str)) = false := by decide) (hcd : (x == ("__classdict__" : Str)) = false := by decide) :
    PD X A (.Call (.Attribute (.Name x npos) "pop" apos) [ex] [] cpos) (tBM X.K "list" rPopAt (tVar i) (tCons te tNil)) (wPopAt i we) :=
  ⟨pe_bm PySem.F.plainAttrs_list PySem.F.slot_list_pop PySem.F.type_list_pop mt_popAt (pe_var hN hv hd hcd) (pa_cons h.pe pa_nil hs) hb hfew hline hs hplain, er_popAt h.er⟩
end

/-! ### index of ints in a list, a tuple -/
section
variable {W : WX} {X : Cx} {A : Amb} {K : PySem.W.Frag} {σ σ' : St} {F F' F1 H H' H1 F0 H0 Fn : Hp} {g0 : Gh} {e e' e0 : En} {v : V} {a : Av} {ex ey : Expr} {te tf : TE} {we wf : WE} {pos cpos apos npos : Pos} {x : Str}
theorem RDs.ints' {vs : List V} {ds : List D} {is : List Int} (h : RDs K F vs ds) (e : ints? ds = some is) : vs = is.map V.int := by
  have e2 := ints?_eq e
  subst e2
  exact h.ints
/-- t.index(k) on a tuple -/
def wTIdx (we wf : WE) : WE := fun e post => we e fun r e1 => match r with
  | .val (.dat (.tuple ds)) => wf e1 fun s e2 => match s.av with
    | .dat (.int j) => ∃ is, ints? ds = some is ∧ j ∈ is ∧ post (vInt (is.idxOf j : Nat)) e2
    | _ => False
  | _ => False
theorem er_tidx (h : ER A K te we) (h2 : ER A K tf wf) : ER A K (tTM K (rTIdx K) te (tCons tf tNil)) (wTIdx we wf) := by
  intro σ F H e post S q Q k
  refine h σ F H e _ S q _ fun v r F1 H1 e1 T1 S1 R1 q1 => ?_
  match r, R1, q1 with
  | .val (.dat (.tuple ds)), R1, q1 =>
    obtain ⟨p, vs, ev0, h1, _, h2'⟩ := TopR.vtup (v := v) (ds := ds) S1.ex (R1.top S1)
    subst ev0
    refine ⟨⟨p, vs, rfl, S1.ex.tup h1⟩, ?_⟩
    refine h2 σ F1 H1 e1 _ S1 q1 _ fun u s F2 H2 e2 T2 S2 R2 q2 => ?_
    cases hs : s.av with
    | dat d =>
      cases d with
      | int j =>
        simp only [hs] at q2
        obtain ⟨is, hi, hj, q2⟩ := q2
        have ev := h2'.ints' hi
        subst ev
        exact ⟨p, is, j, rfl, by rw [R2.vint S2 hs], S2.ex.tup (T2.ex.tup h1), hj, k _ (vInt _) F2 H2 e2 (T1.trans T2) S2 (.int _) q2⟩
      | _ => simp only [hs] at q2
    | _ => simp only [hs] at q2
theorem pd_tidx (ho : PD X A ex te we) (h : PD X A ey tf wf) (hb : attributeBase ex "index" X.env (eval ex X.env) = eval ex X.env := by rfl)
    (hfew : ((backTo cpos (starEach [ey] X.env)).all (fun x => !x.1) && (backToKw cpos (keywordEach [] X.env)).all (fun x => x.1.isSome)
      && decide (([ey] : List Expr).length + ([] : List Keyword).length + (if ([] : List Keyword).isEmpty then 0 else 1) < 30)) = true := by rfl)
    (hline : (apos.endLine == cpos.line) = true := by rfl) (hs : starEach [ey] X.env = (false, eval ey X.env) :: starEach [] X.env := by rfl) (hplain : (backTo cpos (starEach [] X.env)).any (·.1) = false := by rfl) :
    PD X A (.Call (.Attribute ex "index" apos) [ey] [] cpos) (tTM X.K (rTIdx X.K) te (tCons tf tNil)) (wTIdx we wf) :=
  ⟨pe_tm PySem.F.slot_tuple_index PySem.F.type_tuple_index mt_tidx ho.pe (pa_cons h.pe pa_nil hs) hb hfew hline hs hplain, er_tidx ho.er h.er⟩
/-- l.index(k) on a list of ints -/
def rLIdx (K : PySem.W.Frag) : V → List V → Hp → VK → Prop := fun x xs H Q => ∃ (a : Addr) (ns : List Int) (k : Int), x = .ref a ∧ xs = [.int k] ∧ SqL K H a (ns.map V.int) ∧ k ∈ ns ∧ Q (.int (ns.idxOf k : Nat)) H
theorem mt_lidx : MtR X "list.index" (rLIdx X.K) := by
  intro pins s σ H x xs v us Q I rx rxs ⟨a, ns, k, ex, exs, ha, hk, q⟩
  subst ex exs
  cases rx
  obtain ⟨u, rfl, t, rfl⟩ := Vals.one rxs
  obtain ⟨its, r, p, hz⟩ := I.list ha
  have hz' : ns.length ≤ sizeLine := by
    rw [List.length_map] at hz; exact hz
  exact SeqAt.call_list_index p.isList (SeqAt.ItemsEq.ints (intsAre_of r)) hz' hk ⟨.int _, H, I.tok _, ⟨_, rfl⟩, q⟩
def wLIdx (we wf : WE) : WE := fun e post => we e fun r e1 => match r.av with
  | .dat (.list ds) => wf e1 fun s e2 => r.keepIn e2 (match s.av with
    | .dat (.int j) => ∃ is, ints? ds = some is ∧ j ∈ is ∧ post (vInt (is.idxOf j : Nat)) e2
    | _ => False)
  | _ => False
theorem er_lidx (h : ER A K te we) (h2 : ER A K tf wf) : ER A K (tBM K "list" (rLIdx K) te (tCons tf tNil)) (wLIdx we wf) := by
  intro σ F H e post S q Q k
  refine h σ F H e _ S q _ fun v r F1 H1 e1 T1 S1 R1 q1 => ?_
  cases hr : r.av with
  | dat d =>
    cases d with
    | list ds =>
      simp only [hr] at q1
      have tp := R1.top S1
      rw [hr] at tp
      obtain ⟨p, vs, ev, hp, rd⟩ := tp.vlst
      subst ev
      refine ⟨tyV_lst hp, ?_⟩
      refine h2 σ F1 H1 e1 _ S1 q1 _ fun u s F2 H2 e2 T2 S2 R2 q2 => ?_
      obtain ⟨hk, q2⟩ := Rs.keepIn_iff.mp q2
      have tp := (R1.step T2 hk).top S2
      rw [hr] at tp
      obtain ⟨p', vs', ev', hp', rd'⟩ := tp.vlst
      cases ev'
      cases hs : s.av with
      | dat d =>
        cases d with
        | int j =>
          simp only [hs] at q2
          obtain ⟨is, hi, hj, q2⟩ := q2
          have ev := rd'.ints' hi
          subst ev
          exact ⟨p, is, j, rfl, by rw [R2.vint S2 hs], SqL.of hp', hj, k _ (vInt _) F2 H2 e2 (T1.trans T2) S2 (.int _) q2⟩
        | _ => simp only [hs] at q2
      | _ => simp only [hs] at q2
    | _ => simp only [hr] at q1
  | _ => simp only [hr] at q1
theorem pd_lidx (ho : PD X A ex te we) (h : PD X A ey tf wf) (hb : attributeBase ex "index" X.env (eval ex X.env) = eval ex X.env := by rfl)
    (hfew : ((backTo cpos (starEach [ey] X.env)).all (fun x => !x.1) && (backToKw cpos (keywordEach [] X.env)).all (fun x => x.1.isSome)
      && decide (([ey] : List Expr).length + ([] : List Keyword).length + (if ([] : List Keyword).isEmpty then 0 else 1) < 30)) = true := by rfl)
    (hline : (apos.endLine == cpos.line) = true := by rfl) (hs : starEach [ey] X.env = (false, eval ey X.env) :: starEach [] X.env := by rfl) (hplain : (backTo cpos (starEach [] X.env)).any (·.1) = false := by rfl) :
    PD X A (.Call (.Attribute ex "index" apos) [ey] [] cpos) (tBM X.K "list" (rLIdx X.K) te (tCons tf tNil)) (wLIdx we wf) :=
  ⟨pe_bm PySem.F.plainAttrs_list PySem.F.slot_list_index PySem.F.type_list_index mt_lidx ho.pe (pa_cons h.pe pa_nil hs) hb hfew hline hs hplain, er_lidx ho.er h.er⟩
end

/-! ### a store into an owned list, an owned dict -/
def putD (kvs : List (Key × D)) (k : Key) (d : D) : List (Key × D) := if (kvs.any fun kv => decide (kv.1 = k)) = true then kvs.map (fun kv => if kv.1 = k then (kv.1, d) else kv) else kvs ++ [(k, d)]
section
variable {W : WX} {X : Cx} {A : Amb} {K : PySem.W.Frag} {σ σ' : St} {F F' F1 H H' H1 F0 H0 Fn : Hp} {g0 : Gh} {e e' e0 : En} {v : V} {a : Av} {ex ey : Expr} {te tf : TE} {we wf : WE} {pos cpos apos npos pos' : Pos} {x : Str}
theorem KvR.any {k : Key} : ∀ {vs : List (Key × V)} {kvs : List (Key × D)}, KvR K F vs kvs → (vs.any fun kv => decide (kv.1 = k)) = (kvs.any fun kv => decide (kv.1 = k))
  | _, _, .nil => rfl
  | _, _, .cons h t => by rw [List.any_cons, List.any_cons, h.1, KvR.any t]
theorem KvR.mapPut {k : Key} {d : D} (r : RD K F v d) : ∀ {vs : List (Key × V)} {kvs : List (Key × D)}, KvR K F vs kvs → KvR K F (vs.map fun kv => if kv.1 = k then (kv.1, v) else kv) (kvs.map fun kv => if kv.1 = k then (kv.1, d) else kv)
  | _, _, .nil => .nil
  | a :: _, b :: _, .cons h t => by
    refine .cons ?_ (KvR.mapPut r t)
    obtain ⟨h1, h2⟩ := h
    show (if a.1 = k then (a.1, v) else a).1 = (if b.1 = k then (b.1, d) else b).1 ∧ RD K F (if a.1 = k then (a.1, v) else a).2 (if b.1 = k then (b.1, d) else b).2
    by_cases c : a.1 = k
    · rw [if_pos c, if_pos (h1 ▸ c)]; exact ⟨h1, r⟩
    · rw [if_neg c, if_neg (h1 ▸ c)]; exact ⟨h1, h2⟩
theorem KvR.app {k : Key} {d : D} (r : RD K F v d) : ∀ {vs : List (Key × V)} {kvs : List (Key × D)}, KvR K F vs kvs → KvR K F (vs ++ [(k, v)]) (kvs ++ [(k, d)])
  | _, _, .nil => .cons ⟨rfl, r⟩ .nil
  | _, _, .cons h t => .cons h (KvR.app r t)
theorem KvR.put {vs : List (Key × V)} {kvs : List (Key × D)} {k : Key} {d : D} (h : KvR K F vs kvs) (r : RD K F v d) : KvR K F (putK vs k v) (putD kvs k d) := by
  unfold putK putD
  rw [h.any]
  split
  · exact h.mapPut r
  · exact h.app r
/-- d[k] = v, d owned by slot i -/
def wSetD (i : Nat) (wk wv : WE) : WS := fun E e => wv e fun r e1 => r.fre (match r.av, (frz1 e1 r).sl[i]? with
  | .dat d, some (.ow (.dic _)) => wk (frz1 e1 r) fun s e2 => match s.av, e2.sl[i]? with
    | .dat y, some (.ow (.dic kvs)) => ∃ k, keyOf? y = some k ∧ kvs.length < 100000 ∧ E.nx (e2.set i (.ow (.dic (putD kvs k d))))
    | _, _ => False
  | _, _ => False)
theorem sr_setD {i : Nat} (hk : ER A K te we) (hv : ER A K tf wf) : SR A K W (sDPut (tVar i) te tf) (wSetD i we wf) := fun g0 F0 H0 σ F H e E D S q R =>
  hv σ F H e _ S.sta q _ fun y r F1 H1 e1 T1 S1 R1 q1 => by
    obtain ⟨hf, q1⟩ := Rs.fre_iff.mp q1
    obtain ⟨F2, B2, S2, x2, rel, _⟩ := freeze1 hf T1 S1 (.inr R1)
    split at q1
    · rename_i d kv0 hr hi0
      obtain ⟨p0, ho0, g1, _⟩ := S2.owAt hi0
      refine ⟨.ref p0, g1, hk σ F2 H1 _ _ S2 q1 _ fun z s F3 H3 e3 T3 S3 R3 q3 => ?_⟩
      split at q3
      · rename_i yd kvs hs hi
        obtain ⟨k, hk', hl, q3⟩ := q3
        obtain ⟨p, ho, k1, k2, k3, k4, own⟩ := S3.owAt hi
        rw [g1] at k1
        have ep : p0 = p := by simpa using k1
        subst ep
        obtain ⟨vs, ev, kr⟩ : ∃ vs, ho = .dK vs ∧ KvR K F3 vs kvs := k4
        subst ev
        rw [hr] at rel
        have rel' : RD K F3 y d := (RelA.ext T3.ex rel : RelA K F3 y (.dat d))
        have o' : OwR K F3 (.dK (putK vs k y)) (.dic (putD kvs k d)) := ⟨_, rfl, kr.put rel'⟩
        obtain ⟨S4, T4⟩ := S3.mut own (by rw [k3]; simp) o'
        have tz := R3.top S3
        rw [hs] at tz
        have ez := keyOf_kV tz hk'
        subst ez
        have l : vs.length = kvs.length := Paired.length kr
        refine ⟨p0, _, rfl, DPut.k k3 (Nat.lt_of_lt_of_le (by rw [l]; exact hl) line5), ?_⟩
        have B4 := (B2.trans T3).trans T4
        exact R.nx σ F3 _ _ (S.step B4 S4) B4.ex q3
      · exact q3.elim
    · exact q1.elim
theorem psd_setD {i : Nat} (hu : X.A.units + 1 < cLine) (hN : X.N[i]? = some x) (hvs : Vis X.env.scope x) (hk : PD X A ex te we) (hv : PD X A ey tf wf)
    (hs : swapsWith ey (some (.Subscript (.Name x npos) ex pos')) pos.line X.env = pure false := by rfl) (hd : (x == ("__debug__" : Str)) = false := by decide) (hcd : (x == ("__classdict__" : Str)) = false := by decide) :
    PSD X A W (.Assign [.Subscript (.Name x npos) ex pos'] ey pos) (sDPut (tVar i) te tf) (wSetD i we wf) := ⟨ps_dput hu (pe_var hN hvs hd hcd) hk.pe hv.pe hs, sr_setD hk.er hv.er⟩
/-- l[k] = v, l owned by slot i -/
def wSetL (i : Nat) (wk wv : WE) : WS := fun E e => wv e fun r e1 => r.fre (match r.av, (frz1 e1 r).sl[i]? with
  | .dat d, some (.ow (.lst _)) => wk (frz1 e1 r) fun s e2 => match s.av, e2.sl[i]? with
    | .dat (.int j), some (.ow (.lst ds)) => 0 ≤ j ∧ j.toNat < ds.length ∧ E.nx (e2.set i (.ow (.lst (ds.set j.toNat d))))
    | _, _ => False
  | _, _ => False)
theorem sr_setL {i : Nat} (hk : ER A K te we) (hv : ER A K tf wf) : SR A K W (tAsg tf (gSub (tVar i) te rSetL)) (wSetL i we wf) := fun g0 F0 H0 σ F H e E D S q R =>
  hv σ F H e _ S.sta q _ fun y r F1 H1 e1 T1 S1 R1 q1 => by
    obtain ⟨hf, q1⟩ := Rs.fre_iff.mp q1
    obtain ⟨F2, B2, S2, x2, rel, _⟩ := freeze1 hf T1 S1 (.inr R1)
    split at q1
    · rename_i d kv0 hr hi0
      obtain ⟨p0, ho0, g1, _⟩ := S2.owAt hi0
      refine ⟨.ref p0, g1, hk σ F2 H1 _ _ S2 q1 _ fun z s F3 H3 e3 T3 S3 R3 q3 => ?_⟩
      split at q3
      · rename_i j ds hs hi
        obtain ⟨h0, hl, q3⟩ := q3
        obtain ⟨p, ho, k1, k2, k3, k4, own⟩ := S3.owAt hi
        rw [g1] at k1
        have ep : p0 = p := by simpa using k1
        subst ep
        obtain ⟨vs, ev, kr⟩ := k4.lst
        subst ev
        rw [hr] at rel
        have rel' : RD K F3 y d := (RelA.ext T3.ex rel : RelA K F3 y (.dat d))
        have o' : OwR K F3 (.lst (vs.set j.toNat y)) (.lst (ds.set j.toNat d)) := ⟨_, rfl, kr.set rel' _⟩
        obtain ⟨S4, T4⟩ := S3.mut own (by rw [k3]; simp) o'
        have B4 := (B2.trans T3).trans T4
        refine ⟨p0, vs, j, j.toNat, rfl, R3.vint S3 hs, k3, ?_, R.nx σ F3 _ _ (S.step B4 S4) B4.ex q3⟩
        unfold ixN
        rw [if_pos h0, if_pos (by rw [kr.length]; omega)]
      · exact q3.elim
    · exact q1.elim
theorem psd_setL {i : Nat} (hN : X.N[i]? = some x) (hvs : Vis X.env.scope x) (hk : PD X A ex te we) (hv : PD X A ey tf wf) (hp : PS X (.Assign [.Subscript (.Name x npos) ex pos'] ey pos) (tAsg tf (gSub (tVar i) te rSetL))) :
    PSD X A W (.Assign [.Subscript (.Name x npos) ex pos'] ey pos) (tAsg tf (gSub (tVar i) te rSetL)) (wSetL i we wf) := ⟨hp, sr_setL hk.er hv.er⟩
end

/-! ### defs: what is promised over data, and the call -/
abbrev FS := List Av → Gh → (Rs → Gh → Prop) → Prop
def spD (A : Amb) (K : PySem.W.Frag) (fs : FS) : Sp := fun vs H Q _ => ∃ (F : Hp) (as : List Av) (n : Gh) (p : Rs → Gh → Prop), Ex F H ∧ Paired (RelA K F) vs as ∧ RIx A K n F H ∧ (∀ a ∈ A.rs n, F a = none) ∧
  fs as n p ∧ ∀ r n', p r n' → ∀ v F' H', Fin A n F H n' F' H' → Ex F' H' → RIx A K n' F' H' → (∀ a ∈ A.rs n', F' a = none) → RvR K A H n' F' H' v r → Q v H'
def wCall (fs : FS) (wa : WA) : WE := fun e post => wa e fun rs e1 => frees rs (fs (rs.map Rs.av) e1.n fun r n' => post r ⟨(frz e1 rs).sl, n'⟩)
section
variable {X : Cx} {A : Amb} {K : PySem.W.Frag} {σ σ' : St} {F F' F1 H H' H1 F0 H0 Fn : Hp} {g0 : Gh} {e e' e0 : En} {v : V} {a : Av} {ex ey : Expr} {es : List Expr} {te tf : TE} {we wf : WE} {ta : TA} {wa : WA} {pos p : Pos} {x : Str} {fs : FS} {E : XK} {CX : CXT} {k : Nat} {f : Addr} {fd : FuncData} {ps : List Str}
theorem frz1_n (e : En) (r : Rs) : (frz1 e r).n = e.n := by
  match r with
  | .loan i o =>
    show (match e.sl[i]? with | some (.ow _) => e.set i (.im o.av) | _ => e).n = e.n
    split <;> rfl
  | .val _ => rfl
  | .new _ => rfl
  | .lent _ _ _ => rfl
theorem frz_n : ∀ (rs : List Rs) (e : En), (frz e rs).n = e.n
  | [], e => rfl
  | r :: rs, e => by
    show (frz (frz1 e r) rs).n = e.n
    rw [frz_n rs, frz1_n]
theorem RvR.noloan {r : Rs} (h : RvR K A H0 e.n F H v r) (S : Sta A K σ F H e) (hn : ∀ p, H0 p = none → H1 p = none) (ho : ∀ p, H0 p = none → ∀ i, ¬ Owns e σ i p) : RsR K A σ H1 F H e v r := by
  cases r with
  | val a => exact h
  | new o => obtain ⟨p, ho', e1, h0, f, g, q, nr⟩ := h; exact ⟨p, ho', e1, hn p h0, f, g, q, nr, ho p h0⟩
  | loan i o => exact h.elim
  | lent p j o => exact h.elim
theorem Fin.stp (S : Sta A K σ F H e) {n : Gh} (f : Fin A e.n F H n F' H') (x : Ex F' H') (ri : RIx A K n F' H') (rf : ∀ a ∈ A.rs n, F' a = none) : Sta A K σ F' H' ⟨e.sl, n⟩ ∧ Stp A σ F H e F' H' ⟨e.sl, n⟩ := by
  refine ⟨⟨S.len, x, fun i s hs => (S.at_ i s hs).ext f.ex fun p e1 ⟨o, ho⟩ fp hp => ?_, S.sep, ri, rf, fun i p h z => (f.rsn p z).elim (S.rsO i p h) fun z => S.noO z i h⟩, ⟨f.ex, fun a o h hr _ => f.keep a o h hr, fun _ _ h => h, f.liv, f.rsn⟩⟩
  cases z : H p with
  | none => exact absurd z hp
  | some w =>
    have own : Owns e σ i p := ⟨⟨o, by rw [← ho]; exact hs⟩, e1⟩
    obtain ⟨g1, g2⟩ := f.keep p w z (S.rsO i p own)
    exact ⟨g2.trans fp, g1⟩
theorem er_call (h : AER A K ta wa) : ER A K (tCall (spD A K fs) [] E ta) (wCall fs wa) := by
  intro σ F H e post S q Q k
  refine h σ F H e _ S q _ fun vs rs F1 H1 e1 T1 S1 R1 q1 => ?_
  obtain ⟨hf, q1⟩ := frees_iff.mp q1
  obtain ⟨F2, B2, S2, x2, rel⟩ := freezeR hf T1 S1 R1
  rw [List.append_nil]
  refine ⟨F2, rs.map Rs.av, e1.n, _, S2.ex, rel, by rw [← frz_n rs e1]; exact S2.ri, by rw [← frz_n rs e1]; exact S2.rsF, q1, fun r n' p v F' H' fin x ri rf rv => ?_⟩
  obtain ⟨S3, T3⟩ := Fin.stp S2 (by rw [frz_n rs e1]; exact fin) x ri rf
  refine k v r F' H' _ (B2.trans T3) S3 (rv.noloan S3 (fun p hp => ?_) fun p hp i => S2.noO hp i) p
  cases z : H p with
  | none => rfl
  | some w => exact absurd hp (T1.liv p (by rw [z]; simp))
theorem pd_call (G : FnOk X.prog X.w X.K X.mg X.base CX k f fd ps (spD A X.K fs)) (hr : Room k X.A) (hg : Gl X x) (hm : X.mg x = some (.ref f)) (hk : PySem.W.keepIn X.K (.ref f) = true) (hb : Binds X.K fd ps []) (hx : Passes CX X E)
    (ha : PAD X A (ex :: es) ta wa) (hdb : (x == ("__debug__" : Str)) = false := by decide) (he : starEach (ex :: es) X.env = (false, eval ex X.env) :: starEach es X.env := by rfl) (hpl : (backTo pos (starEach es X.env)).any (·.1) = false := by rfl) :
    PD X A (.Call (.Name x p) (ex :: es) [] pos) (tCall (spD A X.K fs) [] E ta) (wCall fs wa) := ⟨pe_call G hr hg hm hk hb .nil hx ha.pa hdb he hpl, er_call ha.er⟩
end
section
variable {P : Program} {w : World} {K : PySem.W.Frag} {mg : Str → Option Value} {base : Heap} {A : Amb} {fs : FS}
theorem start_at {N : List Str} {vs : List V} {i : Nat} : (L2.start N vs)[i]? = if i < vs.length then (vs[i]?).map some else if i < N.length then some none else none := by
  unfold L2.start
  by_cases h : i < vs.length
  · rw [if_pos h, List.getElem?_append_left (by simpa using h), List.getElem?_map]
  · rw [if_neg h, List.getElem?_append_right (by simpa using h), List.getElem?_replicate, List.length_map]
    by_cases h2 : i < N.length
    · rw [if_pos h2, if_pos (by omega)]
    · rw [if_neg h2, if_neg (by omega)]
/-- the names at a def's start -/
def enStart (m : Nat) (as : List Av) (n : Gh) : En := ⟨as.map Sl.im ++ List.replicate (m - as.length) Sl.un, n⟩
theorem sst_start {N : List Str} {vs : List V} {as : List Av} {F H : Hp} {n : Gh} (x : Ex F H) (r : Paired (RelA K F) vs as) (ri : RIx A K n F H) (rf : ∀ a ∈ A.rs n, F a = none) (hl : vs.length ≤ N.length) :
    SSt A K n F H (L2.start N vs) F H (enStart N.length as n) := by
  have l : vs.length = as.length := Paired.length r
  have no : ∀ i p, ¬ Owns (enStart N.length as n) (L2.start N vs) i p := fun i p ⟨⟨o, h⟩, _⟩ => by
    have h' : (as.map Sl.im ++ List.replicate (N.length - as.length) Sl.un)[i]? = some (Sl.ow o) := h
    have m := List.mem_of_getElem? h'
    rcases List.mem_append.mp m with m | m
    · obtain ⟨a, _, e⟩ := List.mem_map.mp m; cases e
    · cases (List.mem_replicate.mp m).2
  refine ⟨⟨?_, x, fun i s hs => ?_, fun i j p h _ => absurd h (no i p), ri, rf, fun i p h => absurd h (no i p)⟩, ⟨Ex.refl _, fun a o h _ => ⟨h, rfl⟩, fun _ h => h, fun _ h => .inl h⟩, fun i p h => absurd h (no i p)⟩
  · show (as.map Sl.im ++ List.replicate (N.length - as.length) Sl.un).length = (L2.start N vs).length
    unfold L2.start
    simp only [List.length_append, List.length_map, List.length_replicate]
    omega
  · have hs' : (as.map Sl.im ++ List.replicate (N.length - as.length) Sl.un)[i]? = some s := hs
    by_cases h : i < as.length
    · rw [List.getElem?_append_left (by simpa using h), List.getElem?_map] at hs'
      obtain ⟨a, ha, e⟩ := Option.map_eq_some_iff.mp hs'
      subst e
      have hp : ∀ {vs : List V} {as : List Av} {i : Nat} {a : Av}, Paired (RelA K F) vs as → as[i]? = some a → ∃ v, vs[i]? = some v ∧ RelA K F v a := by
        intro vs as
        induction as generalizing vs with
        | nil => intro i a _ h; simp at h
        | cons b as ih =>
          intro i a r h
          cases r with
          | cons r t =>
            cases i with
            | zero => simp at h; subst h; exact ⟨_, rfl, r⟩
            | succ i => simp at h; simpa using ih t h
      obtain ⟨v, hv, rv⟩ := hp r ha
      exact ⟨v, by rw [start_at, if_pos (by omega), hv]; rfl, rv⟩
    · rw [List.getElem?_append_right (by simpa using h), List.getElem?_replicate] at hs'
      split at hs'
      · cases hs'; trivial
      · cases hs'
/-- THE RULE for a def over data -/
theorem Fun.okD {x qual : Str} {st : Stmt} {f : Addr} {fd : FuncData} {N ps : List Str} {k : Nat} (G : Fun K x qual st f fd) (S : FnScope N ps (defScope st)) (hps : ps.length ≤ N.length) (len : ∀ as n p, fs as n p → as.length = ps.length)
    (hbody : ∀ (cdv : Value) (A' : Around) (outer : List Env) (s : Shared) (H : Hp) (E : XK), Room k (A'.deeper (PyProof.Rows.envOfC qual (defScope st) s.heap.objs.size f cdv)) →
      ∃ t w', PSDs (cxOf CX0 P w K mg base N qual (defScope st) f cdv A' outer s H E).nox A (fun _ _ _ _ => False) (defBody st) t w' ∧
        ∀ as n p, fs as n p → w' { nx := fun e => p (.val (.dat .none)) e.n, rt := p } (enStart N.length as n)) : FnOk P w K mg base CX0 (k + 1) f fd ps (spD A K fs) := by
  refine G.ok S (fun vs H Q E ⟨F, as, n, p, _, r, _, _, q, _⟩ => (Paired.length r).trans (len as n p q)) fun cdv A' outer s H vs Q E hr ⟨F, as, n, p, x, r, ri, rf, q, k⟩ => ?_
  obtain ⟨t, w', hb, hw⟩ := hbody cdv A' outer s H E hr
  refine ⟨t, hb.ps, hb.sr n F H _ F H _ _ _ (sst_start (N := N) x r ri rf (by rw [Paired.length r, len as n p q]; exact hps)) (hw as n p q) ⟨fun σ F' H' e S _ q => ?_, fun v r F' H' n' fin x ri rf rv q => k r n' q v F' H' fin x ri rf rv, fun _ _ _ _ _ _ q => q.elim, fun _ _ _ _ _ _ q => q.elim, fun _ _ _ _ _ _ _ _ _ _ q => q.elim⟩⟩
  exact k _ _ q .non F' H' S.fin S.sta.ex S.sta.ri S.sta.rsF .non
end
end PL

namespace PL
open PySem L2

/-! ### for -/
structure ForOk (ks : List Nat) (wg : WG) (wb : WS) (E : EndsP) (ds : List D) (e1 : En) : Prop where
  ex : ∃ I : Nat → En → Prop, I 0 e1 ∧ (∀ i d e, ds[i]? = some d → I i e → noOw e ks ∧ wg d e fun e2 => wb { nx := I (i + 1), ct := I (i + 1), bk := E.nx, rt := E.rt, ex := E.ex } e2) ∧ ∀ e, I ds.length e → E.nx e
def wFor (ks : List Nat) (wi : WI) (wg : WG) (wb : WS) : WS := fun E e => wi e fun ds e1 => ForOk ks wg wb E ds e1
section
variable {W : WX} {X : Cx} {A : Amb} {K : PySem.W.Frag} {σ σ' : St} {F F' F1 H H' H1 F0 H0 Fn : Hp} {g0 : Gh} {e e' : En} {v : V} {a : Av} {wi : TI} {vi : WI} {g : TG} {wg : WG} {tb : TS} {wb : WS} {ks : List Nat} {u : Bool} {pos : Pos}
theorem SSt.grow (S : SSt A K g0 F0 H0 σ F H e) {x : V} {H2 : Hp} {d : D} (h : (H2 = H ∧ RDu K F u x d) ∨ ∃ p ho, H p = none ∧ H2 = upd H p ho ∧ RDu K (upd F p ho) u x d) :
    ∃ F2, SSt A K g0 F0 H0 σ F2 H2 e ∧ Ex F F2 ∧ RDu K F2 u x d ∧ Stp A σ F H e F2 H2 e := by
  rcases h with ⟨h, r⟩ | ⟨p, ho, hp, h, r⟩
  · subst h; exact ⟨F, S, Ex.refl _, r, Stp.refl⟩
  · subst h
    obtain ⟨S', T⟩ := S.sta.pushF (ho := ho) hp
    exact ⟨_, S.step T S', T.ex, r, T⟩
theorem sr_for (hi : IER A K u wi vi) (hg : GER A K ks u g wg) (hb : SR A K W tb wb) : SR A K W (tFor wi g tb) (wFor ks vi wg wb) := fun g0 F0 H0 σ F H e E D S q R =>
  hi σ F H e _ S.sta q _ fun J ds F1 H1 e1 T1 S1 J1 ⟨I, i0, turn, fin⟩ => by
    have S' := S.step T1 S1
    refine ⟨fun i m σ H => ∃ F' e, SSt A K g0 F0 H0 σ F' H e ∧ Ex F1 F' ∧ I i e ∧ i ≤ ds.length ∧ m = ds.length - i, ⟨_, F1, e1, S', Ex.refl _, i0, Nat.zero_le _, rfl⟩, ?_⟩
    rintro i m σ H ⟨F', e, S, x, hI, hle, hm⟩
    by_cases hlt : i < ds.length
    · right
      refine ⟨J1.go i F' H x S.sta.ex hlt, fun σ' H' => ∃ m', m' < m ∧ ∃ F' e, SSt A K g0 F0 H0 σ' F' H' e ∧ Ex F1 F' ∧ I (i + 1) e ∧ i + 1 ≤ ds.length ∧ m' = ds.length - (i + 1), fun σ' H' z => z, fun y H2 hy => ?_⟩
      have hd : ds[i]? = some ds[i] := List.getElem?_eq_getElem hlt
      obtain ⟨F2, S2, x2, rd, _⟩ := S.grow (J1.yld i F' H y H2 _ x S.sta.ex hy hd)
      obtain ⟨hn, hw⟩ := turn i _ e hd hI
      refine hg σ F2 H2 e _ y _ S2.sta rd (hn.owns (A := A) (K := K)) hw _ fun σ3 e3 G3 S3 p3 => ?_
      have S3' := S2.gs G3 S3
      have again : ∀ σ4 F4 H4 e4, SSt A K g0 F0 H0 σ4 F4 H4 e4 → Ex F2 F4 → I (i + 1) e4 → ∃ m', m' < m ∧ ∃ F' e, SSt A K g0 F0 H0 σ4 F' H4 e ∧ Ex F1 F' ∧ I (i + 1) e ∧ i + 1 ≤ ds.length ∧ m' = ds.length - (i + 1) := fun σ4 F4 H4 e4 S4 x4 h4 =>
        ⟨ds.length - (i + 1), by omega, F4, e4, S4, (x.trans x2).trans x4, h4, hlt, rfl⟩
      exact hb g0 F0 H0 σ3 F2 H2 e3 _ _ S3' p3 ⟨again, R.rt, fun σ4 F4 H4 e4 S4 x4 h4 => R.nx σ4 F4 H4 e4 S4 ((T1.ex.trans (x.trans x2)).trans x4) h4, again, fun σ4 F4 H4 e4 c d fs S4 x4 => R.ex σ4 F4 H4 e4 c d fs S4 ((T1.ex.trans (x.trans x2)).trans x4)⟩
    · left
      have ei : i = ds.length := by omega
      subst ei
      exact ⟨J1.stop F' H x S.sta.ex, R.nx σ F' H e S (T1.ex.trans x) (fin e hI)⟩
theorem psd_for {tg iter : Expr} {body : List Stmt} (hp : PassesOwn (model X.prog X.w) X.A X.env X.xe) (hc : X.calm = true) (hi : PID X A tg iter u wi vi) (hg : PGD X A tg ks u g wg) (hb : PSDs X A W body tb wb)
    (hs : ∀ x, foldedSetIterable iter X.env x = pure x := by intro _; rfl) : PSD X A W (.For tg iter body [] pos) (tFor wi g tb) (wFor ks vi wg wb) := ⟨ps_for hp hc hi.pi hg.pg hb.ps hs, sr_for hi.er hg.er hb.sr⟩
end

/-! ### list comprehensions -/
def ewipe (e : En) : List Nat → En
  | [] => e
  | k :: ks => (ewipe e ks).set k .un
/-- the slots ks as they were in e0 -/
def erest (e0 e : En) : List Nat → En
  | [] => e
  | k :: ks => match e0.sl[k]? with
    | some s => (erest e0 e ks).set k s
    | none => erest e0 e ks
def lcLoop (wg : WG) (wt : WT) (we : WE) (vs : List Nat) : List D → List D → En → (List D → En → Prop) → Prop
  | [], acc, e, k => k acc e
  | d :: ds, acc, e, k => wg d (ewipe e vs) fun e2 => wt e2 fun b e3 => if b = true then we e3 fun r e4 => r.fre (match r.av with
    | .dat d' => lcLoop wg wt we vs ds (acc ++ [d']) (frz1 e4 r) k
    | _ => False) else lcLoop wg wt we vs ds acc e3 k
structure LcOk (wg : WG) (wt : WT) (we : WE) (vs : List Nat) (post : Rs → En → Prop) (ds : List D) (e1 : En) : Prop where
  no : noOw e1 vs
  len : ds.length ≤ 100000
  loop : lcLoop wg wt we vs ds [] e1 fun acc e2 => post (.new (.lst acc)) (erest e1 e2 vs)
def wLc (wi : WI) (wg : WG) (wt : WT) (we : WE) (vs : List Nat) : WE := fun e post => wi e fun ds e1 => LcOk wg wt we vs post ds e1
def wYes : WT := fun e post => post true e
section
variable {W : WX} {X : Cx} {A : Amb} {K : PySem.W.Frag} {σ σ' : St} {F F' F1 H H' H1 F0 H0 Fn : Hp} {g0 : Gh} {e e' : En} {v : V} {a : Av} {wi : TI} {vi : WI} {g : TG} {wg : WG} {tt : TT} {wt : WT} {te : TE} {we : WE} {vs : List Nat} {u : Bool} {pos : Pos}
theorem ewipe_len (e : En) : ∀ ks : List Nat, (ewipe e ks).sl.length = e.sl.length
  | [] => rfl
  | k :: ks => by
    show ((ewipe e ks).sl.set k .un).length = _
    rw [List.length_set, ewipe_len]
theorem ewipe_n (e : En) : ∀ ks : List Nat, (ewipe e ks).n = e.n
  | [] => rfl
  | k :: ks => ewipe_n e ks
theorem ewipe_at (e : En) : ∀ (ks : List Nat) {j : Nat} {s : Sl}, (ewipe e ks).sl[j]? = some s → (j ∈ ks ∧ s = .un) ∨ (j ∉ ks ∧ e.sl[j]? = some s)
  | [], j, s, h => .inr ⟨by simp, h⟩
  | k :: ks, j, s, h => by
    rcases set_get (show ((ewipe e ks).sl.set k .un)[j]? = some s from h) with ⟨c, z⟩ | ⟨c, z⟩
    · exact .inl ⟨by simp [c], z⟩
    · rcases ewipe_at e ks z with ⟨h1, h2⟩ | ⟨h1, h2⟩
      · exact .inl ⟨List.mem_cons_of_mem _ h1, h2⟩
      · exact .inr ⟨by simp [c, h1], h2⟩
theorem wipe_len (σ : St) : ∀ ks : List Nat, (wipe σ ks).length = σ.length
  | [] => rfl
  | k :: ks => by
    show ((wipe σ ks).set k none).length = _
    rw [List.length_set, wipe_len]
theorem wipe_congr {σ σ' : St} (h : σ'.length = σ.length) : ∀ (ks : List Nat), (∀ j, j ∉ ks → σ'[j]? = σ[j]?) → wipe σ' ks = wipe σ ks := by
  intro ks hk
  apply List.ext_getElem?
  intro j
  have get : ∀ (τ : St) (ks : List Nat) (j : Nat), (wipe τ ks)[j]? = if j ∈ ks ∧ j < τ.length then some none else τ[j]? := by
    intro τ ks
    induction ks with
    | nil => intro j; simp [wipe]
    | cons k ks ih =>
      intro j
      show ((wipe τ ks).set k none)[j]? = _
      rw [List.getElem?_set, wipe_len, ih]
      by_cases c : k = j
      · subst c
        simp
        by_cases c2 : k < τ.length
        · simp [c2]
        · simp [c2]
      · rw [if_neg c]
        have : (j ∈ k :: ks) = (j ∈ ks) := by simp [Ne.symm c]
        simp only [this]
  rw [get, get, h]
  by_cases c : j ∈ ks
  · by_cases c2 : j < σ.length
    · simp [c, c2]
    · simp [c, c2]
      omega
  · simp [c, hk j c]
theorem wipe_idem (σ : St) (ks : List Nat) : wipe (wipe σ ks) ks = wipe σ ks :=
  wipe_congr (wipe_len σ ks) ks fun j hj => wipe_out hj
/-- Sta with slots forgotten; vs hold nothing owned -/
theorem Sta.wipe (S : Sta A K σ F H e) (hn : ∀ j p, j ∈ vs → ¬ Owns e σ j p) : Sta A K (L2.wipe σ vs) F H (ewipe e vs) ∧ ∀ i p, Owns (ewipe e vs) (L2.wipe σ vs) i p ↔ Owns e σ i p := by
  have ow : ∀ i p, Owns (ewipe e vs) (L2.wipe σ vs) i p → Owns e σ i p ∧ i ∉ vs := fun i p ⟨⟨o, h1⟩, h2⟩ => by
    rcases ewipe_at e vs h1 with ⟨_, z⟩ | ⟨c, z⟩
    · cases z
    · rw [wipe_out c] at h2
      exact ⟨⟨⟨o, z⟩, h2⟩, c⟩
  have ow' : ∀ i p, Owns e σ i p → Owns (ewipe e vs) (L2.wipe σ vs) i p := fun i p h => by
    have c : i ∉ vs := fun c => hn i p c h
    obtain ⟨⟨o, h1⟩, h2⟩ := h
    refine ⟨⟨o, ?_⟩, by rw [wipe_out c]; exact h2⟩
    have hl : i < (ewipe e vs).sl.length := by rw [ewipe_len]; exact (List.getElem?_eq_some_iff.mp h1).1
    have g := List.getElem?_eq_getElem hl
    rcases ewipe_at e vs g with ⟨z, _⟩ | ⟨_, z⟩
    · exact absurd z c
    · rw [g, ← z]; exact h1
  refine ⟨⟨by rw [ewipe_len, wipe_len]; exact S.len, S.ex, fun j s hs => ?_, fun i j p h1 h2 => S.sep i j p (ow i p h1).1 (ow j p h2).1, by rw [ewipe_n]; exact S.ri, by rw [ewipe_n]; exact S.rsF, fun i p h => by rw [ewipe_n]; exact S.rsO i p (ow i p h).1⟩, fun i p => ⟨fun h => (ow i p h).1, ow' i p⟩⟩
  rcases ewipe_at e vs hs with ⟨_, z⟩ | ⟨c, z⟩
  · subst z; trivial
  · rw [wipe_out c]; exact S.at_ j s z
theorem erest_len (e0 e : En) : ∀ ks : List Nat, (erest e0 e ks).sl.length = e.sl.length
  | [] => rfl
  | k :: ks => by
    unfold erest
    split
    · show ((erest e0 e ks).sl.set k _).length = _
      rw [List.length_set, erest_len]
    · exact erest_len e0 e ks
theorem erest_n (e0 e : En) : ∀ ks : List Nat, (erest e0 e ks).n = e.n
  | [] => rfl
  | k :: ks => by
    unfold erest
    split
    · exact erest_n e0 e ks
    · exact erest_n e0 e ks
theorem erest_at (e0 e : En) (hl : e.sl.length = e0.sl.length) : ∀ (ks : List Nat) {j : Nat} {s : Sl}, (erest e0 e ks).sl[j]? = some s → (j ∈ ks ∧ e0.sl[j]? = some s) ∨ (j ∉ ks ∧ e.sl[j]? = some s)
  | [], j, s, h => .inr ⟨by simp, h⟩
  | k :: ks, j, s, h => by
    unfold erest at h
    split at h
    · rename_i s0 h0
      rcases set_get (show ((erest e0 e ks).sl.set k s0)[j]? = some s from h) with ⟨c, z⟩ | ⟨c, z⟩
      · subst c z; exact .inl ⟨by simp, h0⟩
      · rcases erest_at e0 e hl ks z with ⟨h1, h2⟩ | ⟨h1, h2⟩
        · exact .inl ⟨List.mem_cons_of_mem _ h1, h2⟩
        · exact .inr ⟨by simp [c, h1], h2⟩
    · rename_i h0
      have c : j ≠ k := fun z => by
        subst z
        have l1 := (List.getElem?_eq_some_iff.mp h).1
        rw [erest_len, hl] at l1
        exact absurd h0 (by rw [List.getElem?_eq_getElem l1]; simp)
      rcases erest_at e0 e hl ks h with ⟨h1, h2⟩ | ⟨h1, h2⟩
      · exact .inl ⟨List.mem_cons_of_mem _ h1, h2⟩
      · exact .inr ⟨by simp [c, h1], h2⟩
/-- an object outside of all that is known may change -/
theorem Sta.other (S : Sta A K σ F H e) {D : Addr} {ho : HO} (hF : F D = none) (hr : D ∉ A.rs e.n) (ho' : ∀ i, ¬ Owns e σ i D) : Sta A K σ F (upd H D ho) e :=
  ⟨S.len, fun a o q => by rw [upd_ne (ne_of_none q hF)]; exact S.ex a o q, fun i s hs => (S.at_ i s hs).ext (Ex.refl _) fun q e1 ⟨o, h2⟩ f g => ⟨f, upd_ne fun z => by subst z; exact ho' i ⟨⟨o, by rw [← h2]; exact hs⟩, e1⟩⟩, S.sep, S.ri.st (Ex.refl _) S.rsF (fun a ha => upd_ne fun z => by subst z; exact hr ha), S.rsF, S.rsO⟩
theorem Stp.other {D : Addr} {ho : HO} (T : Stp A σ F H e F' H' e') (hD : H D = none) : Stp A σ F H e F' (upd H' D ho) e' :=
  ⟨T.ex, fun a o q hr hn => by
    obtain ⟨h1, h2⟩ := T.keep a o q hr hn
    exact ⟨by rw [upd_ne (ne_of_none q hD)]; exact h1, h2⟩, T.own, fun a h => by
    by_cases c : a = D
    · subst c; rw [upd_same]; simp
    · rw [upd_ne c]; exact T.liv a h, T.rsn⟩
theorem Sta.grow (S : Sta A K σ F H e) {x : V} {H2 : Hp} {d : D} (h : (H2 = H ∧ RDu K F u x d) ∨ ∃ p ho, H p = none ∧ H2 = upd H p ho ∧ RDu K (upd F p ho) u x d) :
    ∃ F2, Sta A K σ F2 H2 e ∧ RDu K F2 u x d ∧ Stp A σ F H e F2 H2 e := by
  rcases h with ⟨h, r⟩ | ⟨p, ho, hp, h, r⟩
  · subst h; exact ⟨F, S, r, Stp.refl⟩
  · subst h
    obtain ⟨S', T⟩ := S.pushF (ho := ho) hp
    exact ⟨_, S', r, T⟩
theorem Stp.unwipe {σ3 : St} {e3 e4 : En} {F2 F4 H2 H4 : Hp} (G : GS vs (L2.wipe σ vs) (ewipe e' vs) σ3 e3) (T : Stp A σ3 F2 H2 e3 F4 H4 e4) (hw : L2.wipe σ3 vs = L2.wipe σ vs) (iff : ∀ i p, Owns (ewipe e4 vs) (L2.wipe σ3 vs) i p ↔ Owns e4 σ3 i p) :
    Stp A (L2.wipe σ vs) F2 H2 (ewipe e' vs) F4 H4 (ewipe e4 vs) :=
  ⟨T.ex, fun a o q hr hn => T.keep a o q (by rw [G.n]; exact hr) fun i z => hn i (G.own i a z), fun i p h => by
    rw [← hw] at h
    exact G.own i p (T.own i p ((iff i p).mp h)), T.liv, fun a h => by
    rw [ewipe_n] at h
    have := T.rsn a h
    rw [G.n] at this
    exact this⟩
theorem er_lc (hi : IER A K u wi vi) (hg : GER A K vs u g wg) (ht : ETR A K tt wt) (he : ER A K te we) : ER A K (tLc wi g tt te vs) (wLc vi wg wt we vs) := by
  intro σ F H e post S q Q k
  refine hi σ F H e _ S q _ fun J ds F1 H1 e1 T1 S1 J1 ⟨hn, hlen, hloop⟩ => ?_
  intro D hD
  have no1 : ∀ j p, j ∈ vs → ¬ Owns e1 σ j p := hn.owns (A := A) (K := K)
  have hD0 : H D = none := by
    cases z : H D with
    | none => rfl
    | some w => exact absurd hD (T1.liv D (by rw [z]; simp))
  obtain ⟨S1w, iff1⟩ := S1.wipe no1
  have noW : ∀ (e' : En) j p, j ∈ vs → ¬ Owns (ewipe e' vs) (L2.wipe σ vs) j p := fun e' j p hj ⟨⟨o, h1⟩, _⟩ => by
    rcases ewipe_at e' vs h1 with ⟨_, z⟩ | ⟨z, _⟩
    · cases z
    · exact z hj
  let P : Nat → Hp → Prop := fun i H => ∃ (F' : Hp) (e' : En) (acc : List PyData) (ws : List V), Sta A K (L2.wipe σ vs) F' H (ewipe e' vs) ∧ Stp A (L2.wipe σ vs) F1 H1 (ewipe e1 vs) F' H (ewipe e' vs) ∧
    H D = some (.lst ws) ∧ RDs K F' ws acc ∧ F' D = none ∧ D ∉ A.rs (ewipe e' vs).n ∧ (∀ i, ¬ Owns (ewipe e' vs) (L2.wipe σ vs) i D) ∧ acc.length ≤ i ∧ i ≤ ds.length ∧
    lcLoop wg wt we vs (ds.drop i) acc e' fun acc e2 => post (.new (.lst acc)) (erest e1 e2 vs)
  have fin : ∀ H', P ds.length H' → Q (.ref D) H' := by
    rintro H' ⟨F', e', acc, ws, S', T', gD, rd, fD, nr, no, _, _, hl⟩
    rw [List.drop_length] at hl
    have hl : post (.new (.lst acc)) (erest e1 e' vs) := hl
    have hle : e'.sl.length = e1.sl.length := by
      have a := S'.len
      have b := S1.len
      rw [ewipe_len, wipe_len] at a
      omega
    have at' : ∀ (j : Nat) (s : Sl), (erest e1 e' vs).sl[j]? = some s → (j ∈ vs ∧ e1.sl[j]? = some s) ∨ (j ∉ vs ∧ e'.sl[j]? = some s) := fun j s h => erest_at e1 e' hle vs h
    have wat : ∀ (j : Nat) (s : Sl), j ∉ vs → e'.sl[j]? = some s → (ewipe e' vs).sl[j]? = some s := fun j s c h => by
      have hl : j < (ewipe e' vs).sl.length := by rw [ewipe_len]; exact (List.getElem?_eq_some_iff.mp h).1
      have g := List.getElem?_eq_getElem hl
      rcases ewipe_at e' vs g with ⟨z, _⟩ | ⟨_, z⟩
      · exact absurd z c
      · rw [g, ← z]; exact h
    have ow : ∀ i p, Owns (erest e1 e' vs) σ i p → Owns (ewipe e' vs) (L2.wipe σ vs) i p := fun i p ⟨⟨o, h1⟩, h2⟩ => by
      rcases at' i _ h1 with ⟨c, z⟩ | ⟨c, z⟩
      · exact absurd ⟨⟨o, z⟩, h2⟩ (no1 i p c)
      · exact ⟨⟨o, wat i _ c z⟩, by rw [wipe_out c]; exact h2⟩
    have S2 : Sta A K σ F' H' (erest e1 e' vs) := by
      refine ⟨by rw [erest_len, hle]; exact S1.len, S'.ex, fun j s hs => ?_, fun i j p h1 h2 => S'.sep i j p (ow i p h1) (ow j p h2), ?_, by have q := S'.rsF; rw [ewipe_n] at q; rw [erest_n]; exact q, fun i p h => by have q := S'.rsO i p (ow i p h); rw [ewipe_n] at q; rw [erest_n]; exact q⟩
      · rcases at' j s hs with ⟨c, z⟩ | ⟨c, z⟩
        · have h := S1.at_ j s z
          match s, z, h with
          | .un, _, _ => trivial
          | .im a, _, ⟨v, e1, r⟩ => exact ⟨v, e1, RelA.ext T'.ex r⟩
          | .ow o, z, ⟨p, ho, e1, _⟩ => exact absurd ⟨⟨o, z⟩, e1⟩ (no1 j p c)
        · have h := S'.at_ j s (wat j s c z)
          rw [wipe_out c] at h
          exact h
      · have h := S'.ri
        rw [ewipe_n] at h
        rw [erest_n]; exact h
    have T2 : Stp A σ F1 H1 e1 F' H' (erest e1 e' vs) := ⟨T'.ex, fun a o q hr hn => T'.keep a o q (by rw [ewipe_n]; exact hr) fun i z => hn i ((iff1 i a).mp z), fun i p h => (iff1 i p).mp (T'.own i p (ow i p h)), T'.liv, fun a h => by
      rw [erest_n] at h
      have q := T'.rsn a (by rw [ewipe_n]; exact h)
      rw [ewipe_n] at q
      exact q⟩
    exact k _ (.new (.lst acc)) F' H' _ (T1.trans T2) S2 ⟨D, _, rfl, hD0, fD, gD, ⟨ws, rfl, rd⟩, by rw [ewipe_n] at nr; rw [erest_n]; exact nr, fun i z => no i (ow i D z)⟩ hl
  refine ⟨fun i m H => P i H ∧ m = ds.length - i, ⟨_, ?_, rfl⟩, ?_⟩
  · obtain ⟨S2, T2⟩ := S1w.push (ho := .lst []) hD
    refine ⟨F1, e1, [], [], S2, T2, upd_same, .nil, ?_, S1w.rsA hD, S1w.noO hD, Nat.le_refl _, Nat.zero_le _, hloop⟩
    cases z : F1 D with
    | none => rfl
    | some w => rw [S1.ex D w z] at hD; cases hD
  · rintro i m H' ⟨p, hm⟩
    by_cases hlt : i < ds.length
    · right
      obtain ⟨F', e', acc, ws, S', T', gD, rd, fD, nr, no, hacc, _, hl⟩ := p
      have hd : ds[i]? = some ds[i] := List.getElem?_eq_getElem hlt
      refine ⟨J1.go i F' H' T'.ex S'.ex hlt, fun H2 => P (i + 1) H2, fun H2 p2 => ⟨ds.length - (i + 1), by omega, p2, rfl⟩, fun x H2 hy => ?_⟩
      obtain ⟨F2, S2, rdx, T2⟩ := S'.grow (J1.yld i F' H' x H2 _ T'.ex S'.ex hy hd)
      have hdrop : ds.drop i = ds[i] :: ds.drop (i + 1) := List.drop_eq_getElem_cons hlt
      rw [hdrop] at hl
      obtain ⟨gD2, fD2⟩ := T2.keep D _ gD nr no
      refine hg _ F2 H2 _ _ x _ S2 rdx (noW e') hl _ fun σ3 e3 G3 S3 p3 => ?_
      have hw : L2.wipe σ3 vs = L2.wipe σ vs := by
        rw [wipe_congr G3.len vs fun j hj => (G3.same j hj).1, wipe_idem]
      refine ⟨hw, ht σ3 F2 H2 e3 _ S3 p3 _ fun b F4 H4 e4 T4 S4 p4 => ?_⟩
      have no3 : ∀ i, ¬ Owns e3 σ3 i D := fun i z => no i (G3.own i D z)
      have nr3 : D ∉ A.rs e3.n := by rw [G3.n]; exact nr
      obtain ⟨gD4, fD4⟩ := T4.keep D _ gD2 nr3 no3
      have nr4 : D ∉ A.rs e4.n := fun z => (T4.rsn D z).elim nr3 fun z => by rw [z] at gD2; cases gD2
      cases b with
      | false =>
        have no4 : ∀ j p, j ∈ vs → ¬ Owns e4 σ3 j p := fun j p hj z => G3.none j p hj (T4.own j p z)
        obtain ⟨S4w, iff4⟩ := S4.wipe no4
        have T4w := Stp.unwipe G3 T4 hw iff4
        rw [hw] at S4w iff4
        refine ⟨F4, e4, acc, ws, S4w, (T'.trans T2).trans T4w, gD4, rd.ext (T2.ex.trans T4.ex), fD4.trans (fD2.trans fD), by rw [ewipe_n]; exact nr4, fun i z => no3 i (T4.own i D ((iff4 i D).mp z)), by omega, hlt, p4⟩
      | true =>
        refine he σ3 F4 H4 e4 _ S4 p4 _ fun y r F5 H5 e5 T5 S5 R5 p5 => ?_
        obtain ⟨hf, p5⟩ := Rs.fre_iff.mp p5
        obtain ⟨F6, B6, S6, x6, rel, _⟩ := freeze1 hf T5 S5 (.inr R5)
        have noE4 : ∀ i, ¬ Owns e4 σ3 i D := fun i z => no3 i (T4.own i D z)
        obtain ⟨gD6, fD6⟩ := B6.keep D _ gD4 nr4 noE4
        have nr6 : D ∉ A.rs (frz1 e5 r).n := fun z => (B6.rsn D z).elim nr4 fun z => by rw [z] at gD4; cases gD4
        cases hr : r.av with
        | dat d' =>
          simp only [hr] at p5
          rw [hr] at rel
          have rel : RD K F6 y d' := rel
          have no6 : ∀ j p, j ∈ vs → ¬ Owns (frz1 e5 r) σ3 j p := fun j p hj z => G3.none j p hj (T4.own j p (B6.own j p z))
          obtain ⟨S6w, iff6⟩ := S6.wipe no6
          have T6w := Stp.unwipe G3 (T4.trans B6) hw iff6
          rw [hw] at S6w iff6
          have noD : ∀ i, ¬ Owns (ewipe (frz1 e5 r) vs) (L2.wipe σ vs) i D := fun i z => noE4 i (B6.own i D ((iff6 i D).mp z))
          have fD' : F6 D = none := fD6.trans (fD4.trans (fD2.trans fD))
          refine ⟨ws, gD6, Nat.lt_of_lt_of_le (by rw [rd.length]; omega) line5, F6, frz1 e5 r, acc ++ [d'], ws ++ [y], S6w.other fD' (by rw [ewipe_n]; exact nr6) noD, ((T'.trans T2).trans T6w).other hD, upd_same,
            (rd.ext (T2.ex.trans (T4.ex.trans B6.ex))).append (.cons rel .nil), fD', by rw [ewipe_n]; exact nr6, noD, ?_, hlt, p5⟩
          rw [List.length_append, List.length_singleton]; omega
        | _ => simp only [hr] at p5
    · left
      have ei : i = ds.length := by
        obtain ⟨_, _, _, _, _, _, _, _, _, _, _, _, h, _⟩ := p
        omega
      subst ei
      refine ⟨?_, fin H' p⟩
      obtain ⟨F', e', acc, ws, S', T', _⟩ := p
      exact J1.stop F' H' T'.ex S'.ex
theorem er_yes : ETR A K tYes wYes := fun σ F H e post S q Q k => k true F H e Stp.refl S q
structure PDTs (X : Cx) (A : Amb) (ifs : List Expr) (tt : TT) (w : WT) : Prop where
  pts : PTs X ifs tt
  er : ETR A X.K tt w
theorem pdts_nil : PDTs X A [] tYes wYes := ⟨pts_nil, er_yes⟩
theorem pdts_one {c : Expr} (h : PDT X A c tt wt) : PDTs X A [c] tt wt := ⟨pts_one h.pt, h.er⟩
/-! the transformers that only say what the data layer asks -/
def cE (A : Amb) (K : PySem.W.Frag) (w : WE) : TE := fun σ H Q => ∃ F e post, Sta A K σ F H e ∧ w e post ∧ ∀ v r F' H' e', Stp A σ F H e F' H' e' → Sta A K σ F' H' e' → RsR K A σ H F' H' e' v r → post r e' → Q v H'
def cT (A : Amb) (K : PySem.W.Frag) (w : WT) : TT := fun σ H Q => ∃ F e post, Sta A K σ F H e ∧ w e post ∧ ∀ b F' H' e', Stp A σ F H e F' H' e' → Sta A K σ F' H' e' → post b e' → Q b H'
def cG (A : Amb) (K : PySem.W.Frag) (ks : List Nat) (u : Bool) (w : WG) : TG := fun v σ H Q => ∃ F e d post, Sta A K σ F H e ∧ RDu K F u v d ∧ (∀ j p, j ∈ ks → ¬ Owns e σ j p) ∧ w d e post ∧ ∀ σ' e', GS ks σ e σ' e' → Sta A K σ' F H e' → post e' → Q σ' H
theorem er_c' {w : WE} : ER A K (cE A K w) w := fun σ F H e post S q Q k => ⟨F, e, post, S, q, k⟩
theorem et_c' {w : WT} : ETR A K (cT A K w) w := fun σ F H e post S q Q k => ⟨F, e, post, S, q, k⟩
theorem eg_c' {ks : List Nat} {u : Bool} {w : WG} : GER A K ks u (cG A K ks u w) w := fun σ F H e d v post S r n q Q k => ⟨F, e, d, post, S, r, n, q, k⟩
theorem PD.c {e : Expr} {w : WE} (h : PD X A e te w) (hK : X.K = K) : PE X e (cE A K w) := by
  subst hK
  exact ⟨fun pins s σ H Q I ⟨F, e, post, S, q, k⟩ => h.pe.run pins s σ H Q I (h.er σ F H e post S q Q k)⟩
theorem PDTs.c {e : List Expr} {w : WT} (h : PDTs X A e tt w) (hK : X.K = K) : PTs X e (cT A K w) := by
  subst hK
  exact ⟨fun pins s σ H Q I ⟨F, e, post, S, q, k⟩ => h.pts.run pins s σ H Q I (h.er σ F H e post S q Q k)⟩
theorem PGD.c {e : Expr} {ks : List Nat} {u : Bool} {w : WG} (h : PGD X A e ks u g w) (hK : X.K = K) : PG X e (cG A K ks u w) := by
  subst hK
  exact ⟨fun pins s σ H v z Q I r ⟨F, e, d, post, S, rd, n, q, k⟩ => h.pg.run pins s σ H v z Q I r (h.er σ F H e d v post S rd n q Q k)⟩
/-- a part of a comprehension's block, whatever transformer carries it -/
abbrev BE (X : Cx) (A : Amb) (scope : Scope) (e : Expr) (w : WE) : Prop := ∀ (s : Shared) (H : Hp) (C : Addr) (cl : List (Str × Addr)) (fp : List Addr), ∃ te, PD (X.blk s H scope (compEnvC scope cl C X.env) fp) A e te w
abbrev BT (X : Cx) (A : Amb) (scope : Scope) (e : List Expr) (w : WT) : Prop := ∀ (s : Shared) (H : Hp) (C : Addr) (cl : List (Str × Addr)) (fp : List Addr), ∃ tt, PDTs (X.blk s H scope (compEnvC scope cl C X.env) fp) A e tt w
abbrev BG (X : Cx) (A : Amb) (scope : Scope) (e : Expr) (ks : List Nat) (u : Bool) (w : WG) : Prop := ∀ (s : Shared) (H : Hp) (C : Addr) (cl : List (Str × Addr)) (fp : List Addr), ∃ g, PGD (X.blk s H scope (compEnvC scope cl C X.env) fp) A e ks u g w
theorem pd_lc {elt tg iter : Expr} {ifs : List Expr} {scope : Scope} {own : List (Str × Nat)} (hc : X.calm = true) (hN : X.N.Nodup) (hi : PID X A tg iter u wi vi) (ok : BlkOk X.N X.env.scope scope own)
    (hg : BG X A scope tg (own.map (·.2)) u wg) (ht : BT X A scope ifs wt) (he : BE X A scope elt we) (hs : ∀ x, foldedSetIterable iter X.env x = pure x := by intro _; rfl) :
    PD X A (.ListComp elt [⟨tg, iter, ifs, 0⟩] scope pos) (tLc wi (cG A X.K (own.map (·.2)) u wg) (cT A X.K wt) (cE A X.K we) (own.map (·.2))) (wLc vi wg wt we (own.map (·.2))) :=
  ⟨pe_lc hc hN hi.pi ok (fun s H C cl fp => by obtain ⟨g, h⟩ := hg s H C cl fp; exact h.c rfl) (fun s H C cl fp => by obtain ⟨g, h⟩ := ht s H C cl fp; exact h.c rfl) (fun s H C cl fp => by obtain ⟨g, h⟩ := he s H C cl fp; exact h.c rfl) hs,
   er_lc hi.er eg_c' et_c' er_c'⟩
theorem psd_setLc {i : Nat} {y : Str} {py spos : Pos} {elt tg iter : Expr} {ifs : List Expr} {scope : Scope} {own : List (Str × Nat)} (hc : X.calm = true) (hN : X.N.Nodup) (hy : X.N[i]? = some y) (hyl : X.env.scope.names.lookup y = some .local)
    (hsw : swapsWith (.ListComp elt [⟨tg, iter, ifs, 0⟩] scope pos) (some (.Name y py)) spos.line X.env = pure true) (hi : PID X A tg iter u wi vi) (ok : BlkOk X.N X.env.scope scope own)
    (hg : BG X A scope tg (own.map (·.2)) u wg) (ht : BT X A scope ifs wt) (he : BE X A scope elt we) (hs : ∀ x, foldedSetIterable iter X.env x = pure x := by intro _; rfl) :
    PSD X A W (.Assign [.Name y py] (.ListComp elt [⟨tg, iter, ifs, 0⟩] scope pos) spos) (tAsg (tLc wi (cG A X.K (own.map (·.2)) u wg) (cT A X.K wt) (cE A X.K we) (own.map (·.2))) (gName i)) (wSet i (wLc vi wg wt we (own.map (·.2)))) :=
  ⟨ps_setLc hc hN hy hyl hsw hi.pi ok (fun s H C cl fp => by obtain ⟨g, h⟩ := hg s H C cl fp; exact h.c rfl) (fun s H C cl fp => by obtain ⟨g, h⟩ := ht s H C cl fp; exact h.c rfl) (fun s H C cl fp => by obtain ⟨g, h⟩ := he s H C cl fp; exact h.c rfl) hs,
   sr_set (er_lc hi.er eg_c' et_c' er_c')⟩
end
end PL

namespace PL
open PySem L2

/-! ### a def as it may be called -/
structure PFn (P : Program) (w : World) (K : PySem.W.Frag) (mg : Str → Option Value) (base : Heap) (A : Amb) (x : Str) (ps : List Str) (fs : FS) (k : Nat) : Prop where
  ex : ∃ f fd, mg x = some (.ref f) ∧ PySem.W.keepIn K (.ref f) = true ∧ Binds K fd ps [] ∧ FnOk P w K mg base CX0 k f fd ps (spD A K fs)
theorem pfn_mk {P : Program} {w : World} {K : PySem.W.Frag} {mg : Str → Option Value} {base : Heap} {A : Amb} {x : Str} {ps : List Str} {fs : FS} {k : Nat} {f : Addr} {fd : FuncData} {y q : Str} {st : Stmt} (G : Fun K y q st f fd) (hm : mg x = some (.ref f))
    (hb : ∀ (kV doc pm : Value) (an : Option Addr) (cdv ct : Value) (us : List Value), us.length = ps.length → bindArgs (PySem.W.fnOf y q (defArgs st) (defBody st) (defScope st) .none kV doc pm an cdv ct) ⟨us, []⟩ = pure (ps.zip us))
    (h : FnOk P w K mg base CX0 k f fd ps (spD A K fs)) : PFn P w K mg base A x ps fs k := ⟨f, fd, hm, G.kp, G.binds hb, h⟩
section
variable {X : Cx} {A : Amb} {x : Str} {ps : List Str} {fs : FS} {k j : Nat} {ex : Expr} {es : List Expr} {ta : TA} {wa : WA} {p pos : Pos}
/-- the transformer of a call, the promise alone -/
def tCallD (sp : Sp) (t : TA) : TE := fun σ H Q => t σ H fun vs H1 => sp (vs ++ []) H1 Q E0
theorem pd_fn (G : PFn X.prog X.w X.K X.mg X.base A x ps fs k) (hr : Room j X.A) (hj : k ≤ j) (hg : Gl X x) (ha : PAD X A (ex :: es) ta wa) (hdb : (x == ("__debug__" : Str)) = false := by decide)
    (he : starEach (ex :: es) X.env = (false, eval ex X.env) :: starEach es X.env := by rfl) (hpl : (backTo pos (starEach es X.env)).any (·.1) = false := by rfl) :
    PD X A (.Call (.Name x p) (ex :: es) [] pos) (tCallD (spD A X.K fs) ta) (wCall fs wa) := by
  obtain ⟨f, fd, hm, hk, hb, F⟩ := G.ex
  exact pd_call F (hr.mono hj) hg hm hk hb pass0 ha hdb he hpl
end
/-! ### constants of the module -/
section
variable {X : Cx} {A : Amb} {x : Str} {pos : Pos}
theorem pd_gInt {i : Int} (hm : ∃ t, X.mg x = some (.int i t)) (hg : Gl X x) (hd : (x == ("__debug__" : Str)) = false := by decide) : PD X A (.Name x pos) (tC (.int i)) (wC (.int i)) := by
  obtain ⟨t, hm⟩ := hm
  exact pd_glob hg hm ⟨t, rfl⟩ (fun _ => .int i) hd
theorem pd_gStr {z : Str} (hm : ∃ t, X.mg x = some (.str z t)) (hg : Gl X x) (hd : (x == ("__debug__" : Str)) = false := by decide) : PD X A (.Name x pos) (tC (.str z)) (wC (.str z)) := by
  obtain ⟨t, hm⟩ := hm
  exact pd_glob hg hm ⟨t, rfl⟩ (fun _ => .str z) hd
/-- a built-in class as a value -/
theorem pd_ty {T : String} (hm : X.mg x = none) (hv : bootBuiltins x = some (.type T)) (hg : Gl X x) (hn : x ≠ "__name__" := by decide) (hd : (x == ("__debug__" : Str)) = false := by decide) : PD X A (.Name x pos) (tC (.ty T)) (wRaw (.ty T)) := pd_bltn hg hm hv rfl hn hd
end
/-! ### isinstance, sorted of tuples, list(range), len(set) -/
def encI (ns : List Int) : D := .tuple (ns.map PyData.int)
def fSortedT (d : Nat) (B : Int) : FL := fun as k => match as with
  | [.dat (.list ds)] => ∃ ts : List (List Int), ds = ts.map encI ∧ ts.length < 64 ∧ (∀ t ∈ ts, t.length = d ∧ TS.Bd B t) ∧ ∀ ss : List (List Int), ss.Perm ts → ss.Pairwise (fun a b => TS.code B a ≤ TS.code B b) → k (.new (.lst (ss.map encI)))
  | _ => False
section
variable {X : Cx} {A : Amb} {K : PySem.W.Frag} {F H : Hp} {v : V}
theorem call_isi' {T : String} {g : D → Bool} (hk : ∀ d, PySem.W.kitOne X.K (tyD d) (.type T) = some (g d)) : CallR X (.builtin "isinstance") (RLD X.K (fIsi T g)) := by
  intro pins s σ H xs us Q I r ⟨F, as, post, ex, ta, q, ok⟩
  unfold fIsi at q
  split at q
  · rename_i d T'
    obtain ⟨rfl, q⟩ := q
    cases ta with
    | cons ta tn =>
      cases tn with
      | cons tb tn =>
        cases tn
        have e2 : _ = V.ty T' := tb
        obtain ⟨nd, q⟩ := guardD_iff.mp q
        exact call_isi pins s σ H _ us Q I r ⟨_, _, _, _, _, by rw [e2], .ty T', ta.tyx ex nd, hk d, ok.bl q⟩
  · exact q.elim
theorem RDs.perm {vs ws : List V} (h : ws.Perm vs) : ∀ {ts : List (List Int)}, RDs K F vs (ts.map encI) → ∃ ss : List (List Int), ss.Perm ts ∧ RDs K F ws (ss.map encI) := by
  induction h with
  | nil => intro ts r; exact ⟨ts, .refl _, r⟩
  | cons x h ih =>
    intro ts r
    cases ts with
    | nil => cases r
    | cons t ts =>
      cases r with
      | cons r1 r2 =>
        obtain ⟨ss, h1, h2⟩ := ih r2
        exact ⟨t :: ss, .cons _ h1, .cons r1 h2⟩
  | swap x y l =>
    intro ts r
    cases ts with
    | nil => cases r
    | cons t ts =>
      cases r with
      | cons r1 r2 =>
        cases ts with
        | nil => cases r2
        | cons t2 ts =>
          cases r2 with
          | cons r2 r3 => exact ⟨t2 :: t :: ts, .swap _ _ _, .cons r2 (.cons r1 r3)⟩
  | trans h1 h2 ih1 ih2 =>
    intro ts r
    obtain ⟨s2, p2, r2⟩ := ih2 r
    obtain ⟨s1, p1, r1⟩ := ih1 r2
    exact ⟨s1, p1.trans p2, r1⟩
theorem RD.tupI {t : List Int} (ex : Ex F H) (h : RD K F v (encI t)) : TupI K H v t := by
  unfold encI at h
  cases h with
  | tup h1 h2 =>
    have e := h2.ints
    subst e
    exact ⟨_, rfl, ex.sqt h1.sqt⟩
theorem RDs.tupP (ex : Ex F H) {B : Int} : ∀ {ws : List V} {ss : List (List Int)}, RDs K F ws (ss.map encI) → ws.Pairwise (fun x y => ∀ n m, TupI K H x n → TupI K H y m → TS.code B n ≤ TS.code B m) → ss.Pairwise (fun a b => TS.code B a ≤ TS.code B b)
  | _, [], _, _ => .nil
  | _, t :: ss, .cons r1 r2, .cons h1 h2 => by
    refine .cons (fun b hb => ?_) (RDs.tupP ex r2 h2)
    obtain ⟨j, hj⟩ := List.mem_iff_getElem?.mp hb
    obtain ⟨w, hw, rw'⟩ := r2.get (i := j) (d := encI b) (by rw [List.getElem?_map, hj]; rfl)
    exact h1 w (List.mem_of_getElem? hw) t b (r1.tupI ex) (rw'.tupI ex)
theorem call_sortedT' {d : Nat} {B : Int} (hd : 1 ≤ d) : CallR X (.builtin "sorted") (RLD X.K (fSortedT d B)) := by
  intro pins s σ H xs us Q I r ⟨F, as, post, ex, ta, q, ok⟩
  unfold fSortedT at q
  split at q
  · cases ta with
    | cons ta tn =>
      cases tn
      obtain ⟨ts, hts, hl, hb, q⟩ := q
      subst hts
      obtain ⟨p, vs, e1, h1, r1⟩ := ta.vlst
      have l1 := r1.length
      rw [List.length_map] at l1
      refine cr_sortT (B := B) hd pins s σ H _ us Q I r ⟨p, vs, by rw [e1], SqL.of h1, by omega, fun x hx => ?_, fun ys l hp hs nl => ?_⟩
      · obtain ⟨j, hj⟩ := List.mem_iff_getElem?.mp hx
        obtain ⟨e, he, re⟩ := r1.getV hj
        rw [List.getElem?_map] at he
        obtain ⟨t, ht, e2⟩ := Option.map_eq_some_iff.mp he
        subst e2
        exact ⟨t, re.tupI ex, hb t (List.mem_of_getElem? ht)⟩
      · obtain ⟨ss, h2, r2⟩ := RDs.perm hp r1
        exact ok.new l _ (.lst _) nl ⟨ys, rfl, r2⟩ (q ss h2 (r2.tupP ex hs))
  · exact q.elim
/-- list(range(..)) -/
def wLRg1 (we : WE) : WE := fun e post => we e fun r e1 => match r.av with
  | .dat (.int j) => -1000000 ≤ j ∧ j ≤ 1000000 ∧ post (.new (.lst (rngD 0 j.toNat))) e1
  | _ => False
def wLRg2 (we wf : WE) : WE := fun e post => we e fun r e1 => wf e1 fun s e2 => match r, s.av with
  | .val (.dat (.int i)), .dat (.int j) => -1000000 ≤ i ∧ i ≤ 1000000 ∧ -1000000 ≤ j ∧ j ≤ 1000000 ∧ post (.new (.lst (rngD i (j - i).toNat))) e2
  | _, _ => False
theorem rds_rng (a b : Int) : RDs K F (rgV a b) (rngD a (b - a).toNat) := by
  have e1 : rgV a b = ((List.range (b - a).toNat).map fun (i : Nat) => a + (i : Int)).map V.int := by simp [rgV, List.map_map, Function.comp_def]
  have e2 : rngD a (b - a).toNat = ((List.range (b - a).toNat).map fun (i : Nat) => a + (i : Int)).map PyData.int := by simp [rngD, List.map_map, Function.comp_def]
  rw [e1, e2]
  exact RDs.of_ints _
variable {te tf : TE} {we wf : WE} {x y : Expr} {p p2 q pos : Pos} {σ : St} {e : En}
theorem er_lrg1 (h : ER A K te we) : ER A K (tLstRg (tRg1 te)) (wLRg1 we) := by
  intro σ F H e post S q Q k
  refine h σ F H e _ S q _ fun v r F1 H1 e1 T1 S1 R1 h1 => ?_
  revert h1
  cases hr : r.av with
  | dat d =>
    cases d with
    | int j =>
      intro ⟨h1, h2, h3⟩
      refine ⟨j, R1.vint S1 hr, ⟨by omega, by omega, by omega, by omega, by omega⟩, fun q nq => ?_⟩
      have e0 : j.toNat = (j - 0).toNat := by simp
      rw [e0] at h3
      exact (S1.okr (post := fun r => post r e1) fun v r F3 H3 T3 S3 R3 p3 => k v r F3 H3 _ (T1.trans T3) S3 (R3.early T1) p3).new q _ (.lst _) nq ⟨_, rfl, rds_rng 0 j⟩ h3
    | _ => exact fun h1 => h1.elim
  | _ => exact fun h1 => h1.elim
theorem er_lrg2 (h : ER A K te we) (h2 : ER A K tf wf) : ER A K (tLstRg (tRg2 te tf)) (wLRg2 we wf) := by
  intro σ F H e post S q Q k
  refine h σ F H e _ S q _ fun v r F1 H1 e1 T1 S1 R1 h1 => ?_
  refine h2 σ F1 H1 e1 _ S1 h1 _ fun u s F2 H2 e2 T2 S2 R2 h2 => ?_
  match r, R1, h2 with
  | .val (.dat (.int i)), R1, h2 =>
    revert h2
    cases hs : s.av with
    | dat d =>
      cases d with
      | int j =>
        intro ⟨a1, a2, a3, a4, h3⟩
        refine ⟨i, j, R1.vint S1 rfl, R2.vint S2 hs, ⟨by omega, by omega, by omega, by omega, by omega⟩, fun q nq => ?_⟩
        exact (S2.okr (post := fun r => post r e2) fun v r F3 H3 T3 S3 R3 p3 => k v r F3 H3 _ ((T1.trans T2).trans T3) S3 (R3.early (T1.trans T2)) p3).new q _ (.lst _) nq ⟨_, rfl, rds_rng i j⟩ h3
      | _ => exact fun h1 => h1.elim
    | _ => exact fun h1 => h1.elim
theorem pd_lrg1 (hc : X.calm = true) (hg : Gl X "list") (hm : X.mg "list" = none) (hg2 : Gl X "range") (hm2 : X.mg "range" = none) (h : PD X A x te we)
    (na : starEach [x] X.env = (false, eval x X.env) :: starEach [] X.env := by rfl) (nb : starEach [.Call (.Name "range" p2) [x] [] q] X.env = (false, eval (.Call (.Name "range" p2) [x] [] q) X.env) :: starEach [] X.env := by rfl) :
    PD X A (.Call (.Name "list" p) [.Call (.Name "range" p2) [x] [] q] [] pos) (tLstRg (tRg1 te)) (wLRg1 we) := ⟨pe_listRg hc hg hm (prg_1 hg2 hm2 h.pe na) nb, er_lrg1 h.er⟩
theorem pd_lrg2 (hc : X.calm = true) (hg : Gl X "list") (hm : X.mg "list" = none) (hg2 : Gl X "range") (hm2 : X.mg "range" = none) (h : PD X A x te we) (h2 : PD X A y tf wf)
    (na : starEach [x, y] X.env = (false, eval x X.env) :: starEach [y] X.env := by rfl) (nb : starEach [y] X.env = (false, eval y X.env) :: starEach [] X.env := by rfl) (hp : (backTo q (starEach [y] X.env)).any (·.1) = false := by rfl)
    (nc : starEach [.Call (.Name "range" p2) [x, y] [] q] X.env = (false, eval (.Call (.Name "range" p2) [x, y] [] q) X.env) :: starEach [] X.env := by rfl) :
    PD X A (.Call (.Name "list" p) [.Call (.Name "range" p2) [x, y] [] q] [] pos) (tLstRg (tRg2 te tf)) (wLRg2 we wf) := ⟨pe_listRg hc hg hm (prg_2 hg2 hm2 h.pe h2.pe na nb hp) nc, er_lrg2 h.er h2.er⟩
/-- len(set(t)), t a tuple of ints: the number of its members -/
def tLenSet (K : PySem.W.Frag) (ta : TE) : TE := fun σ H Q => ta σ H fun x H1 => ∃ (l : Addr) (ns : List Int), x = V.ref l ∧ SqT K H1 l (ns.map V.int) ∧ ns.length < 64 ∧ ∀ ks : List Int, ks.Nodup → (∀ k, k ∈ ks ↔ k ∈ ns) → Q (.int ks.length) H1
theorem pe_lenSet' (hc : X.calm = true) (hg : Gl X "len") (hm : X.mg "len" = none) (hg2 : Gl X "set") (hm2 : X.mg "set" = none) (ha : PE X x te)
    (na : starEach [x] X.env = (false, eval x X.env) :: starEach [] X.env := by rfl) : PE X (.Call (.Name "len" p) [.Call (.Name "set" p2) [x] [] q] [] pos) (tLenSet X.K te) := by
  refine ⟨fun pins s σ H Q I h => ?_⟩
  refine PyProof.Rows.Call_ (ld_blt I hg hm PySem.boot_len ?_)
  refine PyProof.Rows.callWith_builtin1 (PyProof.Rows.args_cons ?_ rfl) rfl rfl
  refine PyProof.Rows.Call_ (ld_blt I hg2 hm2 PyProof.Rows.boot_set ?_)
  refine PyProof.Rows.callWith_type1 (PyProof.Rows.args_cons (thn (ha.run pins s σ H _ I h) fun v s1 ⟨x, H1, I1, r1, q1⟩ => PyProof.Rows.args_nil ?_) na) na rfl
  obtain ⟨l, ns, rfl, hq, h1, q1⟩ := q1
  cases r1
  obtain ⟨its, r, pl, hz⟩ := I1.tuple hq
  refine call_set_tupI ns (I1.ok.hd hc) pl (intsAre_of r) (by unfold scanBound; omega) fun h' tk c hR hcn hk => ?_
  refine PyProof.Rows.args_nil ?_
  obtain ⟨o, es, ep, t, ho, hex, hd, _, hnd, hmem, hlt, hf, hn, _⟩ := hR
  have I2 : L2.Inv X pins σ H1 { s1 with heap := h', toks := tk } := I1.kept fun b o e => hk b o e
  have e1 : (es.toList.map keyOf).length = c := by rw [List.length_map, Array.length_toList]; exact hn
  have q2 := q1 (es.toList.map keyOf) hnd fun k => by rw [← hmem k]; simp
  rw [e1] at q2
  refine call_len_set ho hex hd hf ?_ ⟨.int c, H1, I2.tok _, ⟨_, by rw [hn]⟩, q2⟩
  rw [hn]; omega
def wLenSet (we : WE) : WE := fun e post => we e fun r e1 => match r with
  | .val (.dat (.tuple ds)) => ∃ ns, ints? ds = some ns ∧ ns.length < 64 ∧ ∀ ks : List Int, ks.Nodup → (∀ k, k ∈ ks ↔ k ∈ ns) → post (vInt ks.length) e1
  | _ => False
theorem er_lenSet (h : ER A K te we) : ER A K (tLenSet K te) (wLenSet we) := by
  intro σ F H e post S q Q k
  refine h σ F H e _ S q _ fun v r F1 H1 e1 T1 S1 R1 h1 => ?_
  match r, R1, h1 with
  | .val (.dat (.tuple ds)), R1, ⟨ns, hi, hl, h1⟩ =>
    obtain ⟨p, vs, ev, f1, g1, rd⟩ := TopR.vtup (v := v) (ds := ds) S1.ex (R1.top S1)
    have e2 := rd.ints' hi
    subst e2
    exact ⟨p, ns, ev, g1, hl, fun ks h2 h3 => k _ (vInt _) F1 H1 e1 T1 S1 (.int _) (h1 ks h2 h3)⟩
theorem pd_lenSet (hc : X.calm = true) (hg : Gl X "len") (hm : X.mg "len" = none) (hg2 : Gl X "set") (hm2 : X.mg "set" = none) (h : PD X A x te we)
    (na : starEach [x] X.env = (false, eval x X.env) :: starEach [] X.env := by rfl) : PD X A (.Call (.Name "len" p) [.Call (.Name "set" p2) [x] [] q] [] pos) (tLenSet X.K te) (wLenSet we) := ⟨pe_lenSet' hc hg hm hg2 hm2 h.pe na, er_lenSet h.er⟩
end
end PL

namespace PL
open PySem L2
/-! ### small things that the derivations name -/
theorem vis {sc : Scope} {x : Str} (h : sc.names.lookup x = some .local) : Vis sc x := Or.inl h
theorem lcl {sc : Scope} {x : Str} (h : sc.names.lookup x = some .local) : Loc sc x := Or.inl h
theorem u1 {k : Nat} {A : Around} (r : Room k A) : A.units + 1 < cLine := by have := r.un; omega
theorem u65 {k : Nat} {A : Around} (r : Room k A) : A.units + 65 < cLine := by have := r.un; omega
theorem u64 {k : Nat} {A : Around} (r : Room k A) : A.units + 64 < cLine := by have := r.un; omega
theorem isi_int {K : PySem.W.Frag} : ∀ d : D, PySem.W.kitOne K (tyD d) (.type "int") = some (dInt d) := fun d => ((kit_none K).1 d).trans (congrArg some (by cases d <;> simp [isD, dInt, dBool, dStr, dTup]))
theorem isi_bool {K : PySem.W.Frag} : ∀ d : D, PySem.W.kitOne K (tyD d) (.type "bool") = some (dBool d) := fun d => ((kit_none K).2.1 d).trans (congrArg some (by cases d <;> simp [isD, dInt, dBool, dStr, dTup]))
theorem isi_str {K : PySem.W.Frag} : ∀ d : D, PySem.W.kitOne K (tyD d) (.type "str") = some (dStr d) := fun d => ((kit_none K).2.2.1 d).trans (congrArg some (by cases d <;> simp [isD, dInt, dBool, dStr, dTup]))
theorem isi_tuple {K : PySem.W.Frag} : ∀ d : D, PySem.W.kitOne K (tyD d) (.type "tuple") = some (dTup d) := fun d => ((kit_none K).2.2.2 d).trans (congrArg some (by cases d <;> simp [isD, dInt, dBool, dStr, dTup]))
section
variable {X : Cx} {A : Amb} {K : PySem.W.Frag} {σ : St} {F F1 H H1 : Hp} {e e1 : En} {te tf : TE} {we wf : WE} {pos : Pos}
/-- {} -/
def wDict0 : WE := fun e post => post (.new (.dic [])) e
theorem er_dict0 : ER A K tDNewK wDict0 := fun σ F H e post S q Q k p hp =>
  (S.okr (post := fun r => post r e) fun v r F3 H3 T3 S3 R3 p3 => k v r F3 H3 _ T3 S3 R3 p3).new p _ (.dic []) hp ⟨[], rfl, .nil⟩ q
theorem pd_dict0 : PD X A (.Dict [] [] pos) tDNewK wDict0 := ⟨pe_dnewK, er_dict0⟩
/-- over zip of two lists or two tuples -/
def zipD (xs ys : List D) : List D := List.zipWith (fun x y => .tuple [x, y]) xs ys
def wiZip (we wf : WE) : WI := fun e post => we e fun r e1 => wf e1 fun s e2 => s.fre (match r, s.av with
  | .val (.dat (.list xs)), .dat (.list ys) => xs.length = ys.length ∧ post (zipD xs ys) (frz1 e2 s)
  | .val (.dat (.tuple xs)), .dat (.tuple ys) => xs.length = ys.length ∧ post (zipD xs ys) (frz1 e2 s)
  | _, _ => False)
theorem zipD_get {xs ys : List D} {i : Nat} {d : D} (h : (zipD xs ys)[i]? = some d) : ∃ x y, xs[i]? = some x ∧ ys[i]? = some y ∧ d = .tuple [x, y] := by
  unfold zipD at h
  rw [List.getElem?_zipWith] at h
  cases hx : xs[i]? with
  | none => rw [hx] at h; simp at h
  | some x =>
    cases hy : ys[i]? with
    | none => rw [hx, hy] at h; simp at h
    | some y => rw [hx, hy] at h; exact ⟨x, y, rfl, rfl, (by simpa using h.symm)⟩
theorem itr_zip {a b : Addr} {vs ws : List V} {xs ys : List D} {J : It} {G : Hp → Addr → List V → Prop} (g1 : ∀ {F H : Hp} {a : Addr} {v : List V}, Ex F H → G F a v → G H a v)
    (h1 : G F a vs) (r1 : RDs K F vs xs) (h2 : G F b ws) (r2 : RDs K F ws ys) (hl : xs.length = ys.length)
    (go : ∀ i H, (∃ xs ys v w, G H a xs ∧ G H b ys ∧ xs[i]? = some v ∧ ys[i]? = some w) → J.go i H)
    (stop : ∀ i H, (∃ xs ys, G H a xs ∧ G H b ys ∧ (xs.length ≤ i ∨ ys.length ≤ i)) → J.stop i H)
    (yld : ∀ i H v H', J.yld i H v H' → ∃ T x y, v = .ref T ∧ H T = none ∧ H' = upd H T (.tup [x, y]) ∧ (∀ xs, G H a xs → xs[i]? = some x) ∧ ∀ ys, G H b ys → ys[i]? = some y) : ItR K true J F (zipD xs ys) := by
  have l1 := r1.length
  have l2 := r2.length
  have lz : (zipD xs ys).length = xs.length := by unfold zipD; rw [List.length_zipWith]; omega
  refine ⟨fun i F1 H1 x y hi => go i H1 ⟨vs, ws, vs[i]'(by omega), ws[i]'(by omega), g1 y (g1 x h1), g1 y (g1 x h2), by simp, by simp⟩, fun i F1 H1 v H2 d x y hy hd => .inr ?_,
    fun F1 H1 x y => stop _ H1 ⟨vs, ws, g1 y (g1 x h1), g1 y (g1 x h2), .inl (by omega)⟩⟩
  obtain ⟨T, v1, v2, ev, hT, hH, q1, q2⟩ := yld _ _ _ _ hy
  obtain ⟨d1, d2, e1, e2, ed⟩ := zipD_get hd
  obtain ⟨u1, hu1, s1⟩ := r1.get e1
  obtain ⟨u2, hu2, s2⟩ := r2.get e2
  have z1 := q1 vs (g1 y (g1 x h1))
  have z2 := q2 ws (g1 y (g1 x h2))
  rw [hu1] at z1; cases z1
  rw [hu2] at z2; cases z2
  have hF : F1 T = none := by
    cases z : F1 T with
    | none => rfl
    | some w => rw [y T w z] at hT; cases hT
  refine ⟨T, _, hT, hH, ?_⟩
  rw [ev, ed]
  have xx := x.trans (upd_old (ho := .tup [v1, v2]) hF)
  exact ⟨T, [v1, v2], [d1, d2], rfl, .inl (.inl upd_same), .cons (s1.ext xx) (.cons (s2.ext xx) .nil), rfl⟩
theorem ier_zip (h : ER A K te we) (h2 : ER A K tf wf) : IER A K true (RZ.iZipA K (tCons te (tCons tf tNil))) (wiZip we wf) := by
  intro σ F H e post S q R k
  refine h σ F H e _ S q _ fun v r F1 H1 e1 T1 S1 R1 h1 => ?_
  refine h2 σ F1 H1 e1 _ S1 h1 _ fun u s F2 H2 e2 T2 S2 R2 h2 => ?_
  obtain ⟨hf, h2⟩ := Rs.fre_iff.mp h2
  match r, R1, h2 with
  | .val (.dat (.list xs)), R1, h2 =>
    revert h2
    cases hs : s.av with
    | dat d =>
      cases d with
      | list ys =>
        intro ⟨hl, hp⟩
        obtain ⟨F3, B3, S3, b, ws, ev, rd, q⟩ := frzSeq hf T2 S2 R2 (.inl hs)
        have R1' : RD K F1 v (.list xs) := R1
        cases R1' with
        | lst f1 r1 =>
          rename_i a vs R0
          have f1' := B3.ex _ _ f1
          rcases q with ⟨_, q⟩ | ⟨q, _⟩
          · exact ⟨a, b, vs, ws, by rw [ev], .inl ⟨SqL.of (S3.ex _ _ f1'), SqL.of (S3.ex _ _ q), k _ _ F3 H2 _ (T1.trans B3) S3 (itr_zip (G := fun F a v => F a = some (.lst v)) (fun e h => e _ _ h) f1' (r1.ext B3.ex) q rd hl
              (fun i H ⟨xs, ys, v, w, g1, g2, q1, q2⟩ => ⟨xs, ys, v, w, SqL.of g1, SqL.of g2, q1, q2⟩) (fun i H ⟨xs, ys, g1, g2, q⟩ => ⟨xs, ys, SqL.of g1, SqL.of g2, q⟩)
              (fun i H v H' ⟨T, x, y, a1, a2, a3, a4, a5⟩ => ⟨T, x, y, a1, a2, a3, fun xs g => a4 xs (SqL.of g), fun ys g => a5 ys (SqL.of g)⟩)) hp⟩⟩
          · rw [hs] at q; cases q
      | _ => exact fun h => h.elim
    | _ => exact fun h => h.elim
  | .val (.dat (.tuple xs)), R1, h2 =>
    revert h2
    cases hs : s.av with
    | dat d =>
      cases d with
      | tuple ys =>
        intro ⟨hl, hp⟩
        obtain ⟨F3, B3, S3, b, ws, ev, rd, q⟩ := frzSeq hf T2 S2 R2 (.inr hs)
        have R1' : RD K F1 v (.tuple xs) := R1
        cases R1' with
        | tup f1 r1 =>
          rename_i a vs R0
          have f1' := B3.ex.tup f1
          rcases q with ⟨q, _⟩ | ⟨_, q⟩
          · rw [hs] at q; cases q
          · exact ⟨a, b, vs, ws, by rw [ev], .inr ⟨S3.ex.sqt f1'.sqt, S3.ex.sqt q.sqt, k _ _ F3 H2 _ (T1.trans B3) S3 (itr_zip (G := fun F a v => SqT K F a v) (fun e h => e.sqt h) f1'.sqt (r1.ext B3.ex) q.sqt rd hl
              (fun i H h => h) (fun i H h => h) (fun i H v H' h => h)) hp⟩⟩
      | _ => exact fun h => h.elim
    | _ => exact fun h => h.elim
theorem pid_zip {x y : Expr} {p tpos : Pos} {elts : List Expr} {kk : Nat} (hg : Gl X "zip") (hm : X.mg "zip" = none) (h : PD X A x te we) (h2 : PD X A y tf wf) (hs : starEach [x, y] X.env = (false, eval x X.env) :: starEach [y] X.env := by rfl) (hs2 : starEach [y] X.env = (false, eval y X.env) :: starEach [] X.env := by rfl)
    (hpl : (backTo pos (starEach [y] X.env)).any (·.1) = false := by rfl) : PID X A (.Tuple elts kk tpos) (.Call (.Name "zip" p) [x, y] [] pos) true (RZ.iZipA X.K (tCons te (tCons tf tNil))) (wiZip we wf) :=
  ⟨RZ.pi_zipA hg hm (pa_cons h.pe (pa_cons h2.pe pa_nil hs2) hs) hs hpl, ier_zip h.er h2.er⟩
end
theorem ite_b {c b : Bool} {P Q : Prop} (hc : b = c) (h1 : c = true → P) (h2 : c = false → Q) : if b = true then P else Q := by
  subst hc
  split
  · exact h1 ‹_›
  · exact h2 (Bool.eq_false_iff.mpr ‹_›)
/-! ### a name's list or dict is given up -/
def wFrz (i : Nat) (w : WE) : WE := fun e post => match e.sl[i]? with
  | some (.ow o) => w (e.set i (.im o.av)) post
  | _ => w e post
theorem er_frz {A : Amb} {K : PySem.W.Frag} {te : TE} {we : WE} {i : Nat} (h : ER A K te we) : ER A K te (wFrz i we) := by
  intro σ F H e post S q Q k
  unfold wFrz at q
  split at q
  · rename_i o ho
    obtain ⟨p, ho', e1, f, g, r⟩ := S.at_ i _ ho
    have R : RsR K A σ H F H e (.ref p) (.loan i o) := ⟨ho, e1⟩
    obtain ⟨F1, B1, S1, x1, rel, _⟩ := freeze1 (r := .loan i o) trivial Stp.refl S (.inr R)
    have ee : frz1 e (.loan i o) = e.set i (.im o.av) := by
      show (match e.sl[i]? with | some (.ow _) => e.set i (.im o.av) | _ => e) = _
      rw [ho]
    rw [ee] at B1 S1
    exact h σ F1 H _ _ S1 q Q fun v r F' H' e' T S2 R2 p2 => k v r F' H' e' (B1.trans T) S2 R2 p2
  · exact h σ F H e _ S q Q k
theorem pd_frz {X : Cx} {A : Amb} {ex : Expr} {te : TE} {we : WE} (i : Nat) (h : PD X A ex te we) : PD X A ex te (wFrz i we) := ⟨h.pe, er_frz h.er⟩
/-! ### reading a comprehension -/
/-- one turn of a comprehension: what it gives, if anything -/
def lcBody (wg : WG) (wt : WT) (we : WE) (d : D) (e : En) (k : Option D → En → Prop) : Prop := wg d e fun e2 => wt e2 fun b e3 => if b = true then we e3 fun r e4 => r.fre (match r.av with
    | .dat d' => k (some d') (frz1 e4 r)
    | _ => False) else k none e3
section
variable {wg : WG} {wt : WT} {we : WE} {vs : List Nat} {e e1 e2 : En}
theorem lcLoop_body {d : D} {ds acc : List D} {k : List D → En → Prop} (h : lcBody wg wt we d (ewipe e vs) fun o e' => match o with | some r => lcLoop wg wt we vs ds (acc ++ [r]) e' k | none => lcLoop wg wt we vs ds acc e' k) :
    lcLoop wg wt we vs (d :: ds) acc e k := h
theorem ewipe_get (e : En) (ks : List Nat) (j : Nat) (hj : j ∉ ks) : (ewipe e ks).sl[j]? = e.sl[j]? := by
  cases h : e.sl[j]? with
  | none =>
    rw [List.getElem?_eq_none_iff] at h ⊢
    rw [ewipe_len]; exact h
  | some s =>
    have hl : j < (ewipe e ks).sl.length := by rw [ewipe_len]; exact (List.getElem?_eq_some_iff.mp h).1
    have g := List.getElem?_eq_getElem hl
    rcases ewipe_at e ks g with ⟨z, _⟩ | ⟨_, z⟩
    · exact absurd z hj
    · rw [g, ← z, h]
theorem erest_eq (h : (ewipe e2 vs).sl = (ewipe e1 vs).sl) : erest e1 e2 vs = ⟨e1.sl, e2.n⟩ := by
  have l : e2.sl.length = e1.sl.length := by
    have := congrArg List.length h
    rwa [ewipe_len, ewipe_len] at this
  have hs : (erest e1 e2 vs).sl = e1.sl := by
    refine List.ext_getElem? fun j => ?_
    cases z : (erest e1 e2 vs).sl[j]? with
    | none =>
      rw [List.getElem?_eq_none_iff, erest_len, l] at z
      exact (List.getElem?_eq_none_iff.mpr z).symm
    | some s =>
      rcases erest_at e1 e2 l vs z with ⟨_, q⟩ | ⟨c, q⟩
      · exact q.symm
      · rw [← ewipe_get e1 vs j c, ← h, ewipe_get e2 vs j c, q]
  have hn := erest_n e1 e2 vs
  cases q : erest e1 e2 vs with
  | mk a b => rw [q] at hs hn; cases hs; cases hn; rfl
theorem lcLoop_pure {α : Type} {enc : α → D} {f : α → Option D} {e0 : En} : ∀ {xs : List α} {acc : List D} {e : En} {k : List D → En → Prop}, (∀ x ∈ xs, ∀ k : Option D → En → Prop, (∀ o e', f x = o → ewipe e' vs = e0 → k o e') → lcBody wg wt we (enc x) e0 k) →
    ewipe e vs = e0 → (∀ e', ewipe e' vs = e0 → k (acc ++ xs.filterMap f) e') → lcLoop wg wt we vs (xs.map enc) acc e k
  | [], acc, e, k, _, he, hk => by
    have := hk e he
    rw [List.filterMap_nil, List.append_nil] at this
    exact this
  | x :: xs, acc, e, k, h, he, hk => by
    refine lcLoop_body ?_
    rw [he]
    refine h x (by simp) _ fun o e' ho he' => ?_
    subst ho
    cases hf : f x with
    | none =>
      refine lcLoop_pure (fun y hy => h y (by simp [hy])) he' fun e2 h2 => ?_
      have := hk e2 h2
      rwa [List.filterMap_cons_none hf] at this
    | some r =>
      refine lcLoop_pure (fun y hy => h y (by simp [hy])) he' fun e2 h2 => ?_
      have := hk e2 h2
      rw [List.filterMap_cons_some hf] at this
      rwa [List.append_assoc]
/-- a comprehension whose turns change nothing -/
theorem lc_pure {α : Type} (enc : α → D) (f : α → Option D) (xs : List α) {ds : List D} {post : Rs → En → Prop} (hds : ds = xs.map enc) (hno : noOw e1 vs) (hl : xs.length ≤ 100000)
    (h : ∀ x ∈ xs, ∀ k : Option D → En → Prop, (∀ o e', f x = o → ewipe e' vs = ewipe e1 vs → k o e') → lcBody wg wt we (enc x) (ewipe e1 vs) k) (hk : post (.new (.lst (xs.filterMap f))) e1) :
    LcOk wg wt we vs post ds e1 := by
  subst hds
  refine ⟨hno, by rw [List.length_map]; exact hl, lcLoop_pure h rfl fun e' he' => ?_⟩
  have hn : e'.n = e1.n := by have := congrArg En.n he'; rwa [ewipe_n, ewipe_n] at this
  rw [erest_eq (congrArg En.sl he'), hn]
  exact hk
theorem lcLoop_inv {sl0 : List Sl} {I : Nat → List D → Gh → Prop} {k : List D → En → Prop} : ∀ {ds : List D} {i : Nat} {acc : List D} {e : En},
    (∀ j d acc n (k : Option D → En → Prop), ds[j]? = some d → I (i + j) acc n → (∀ o e', (ewipe e' vs).sl = sl0 → (match o with | some r => I (i + j + 1) (acc ++ [r]) e'.n | none => I (i + j + 1) acc e'.n) → k o e') → lcBody wg wt we d ⟨sl0, n⟩ k) →
    (ewipe e vs).sl = sl0 → I i acc e.n → (∀ acc e', (ewipe e' vs).sl = sl0 → I (i + ds.length) acc e'.n → k acc e') → lcLoop wg wt we vs ds acc e k
  | [], i, acc, e, _, he, hi, hk => hk acc e he hi
  | d :: ds, i, acc, e, h, he, hi, hk => by
    refine lcLoop_body ?_
    have ee : ewipe e vs = ⟨sl0, e.n⟩ := by
      cases q : ewipe e vs with
      | mk a b =>
        have hn := ewipe_n e vs
        rw [q] at he hn
        cases he; cases hn; rfl
    rw [ee]
    refine h 0 d acc e.n _ rfl hi fun o e' h1 h2 => ?_
    have hk' : ∀ acc e', (ewipe e' vs).sl = sl0 → I (i + 1 + ds.length) acc e'.n → k acc e' := fun acc e' a b => hk acc e' a (by rw [List.length_cons]; rw [show i + (ds.length + 1) = i + 1 + ds.length by omega]; exact b)
    have h' : ∀ j d' acc n (k : Option D → En → Prop), ds[j]? = some d' → I (i + 1 + j) acc n → (∀ o e', (ewipe e' vs).sl = sl0 → (match o with | some r => I (i + 1 + j + 1) (acc ++ [r]) e'.n | none => I (i + 1 + j + 1) acc e'.n) → k o e') → lcBody wg wt we d' ⟨sl0, n⟩ k := fun j d' acc n k hd hI hk => by
      rw [show i + 1 + j = i + (j + 1) by omega] at hI hk
      exact h (j + 1) d' acc n k (by simpa using hd) hI hk
    cases o with
    | none => exact lcLoop_inv h' h1 h2 hk'
    | some r => exact lcLoop_inv h' h1 h2 hk'
/-- a comprehension by an invariant: number of turns, what is gathered, the counter -/
theorem lc_inv (I : Nat → List D → Gh → Prop) {ds : List D} {post : Rs → En → Prop} (hno : noOw e1 vs) (hl : ds.length ≤ 100000) (i0 : I 0 [] e1.n)
    (h : ∀ j d acc n (k : Option D → En → Prop), ds[j]? = some d → I j acc n → (∀ o e', (ewipe e' vs).sl = (ewipe e1 vs).sl → (match o with | some r => I (j + 1) (acc ++ [r]) e'.n | none => I (j + 1) acc e'.n) → k o e') → lcBody wg wt we d ⟨(ewipe e1 vs).sl, n⟩ k)
    (hk : ∀ acc n, I ds.length acc n → post (.new (.lst acc)) ⟨e1.sl, n⟩) : LcOk wg wt we vs post ds e1 := by
  refine ⟨hno, hl, lcLoop_inv (sl0 := (ewipe e1 vs).sl) (I := I) (i := 0) (fun j d acc n k hd hI hk => ?_) rfl i0 fun acc e' he hI => ?_⟩
  · rw [Nat.zero_add] at hI hk
    exact h j d acc n k hd hI hk
  · rw [erest_eq he]
    rw [Nat.zero_add] at hI
    exact hk acc _ hI
end
end PL

namespace PL
open PySem L2
/-! ### data whose == is equality: no dict, no bool, nested n deep at most -/
mutual
def nice : Nat → D → Bool
  | _, .none => true
  | _, .bool _ => false
  | _, .int _ => true
  | _, .str x => PyData.strOk x
  | 0, .list _ => false
  | 0, .tuple _ => false
  | n + 1, .list xs => niceA n xs
  | n + 1, .tuple xs => niceA n xs
  | _, .dict _ => false
def niceA : Nat → List D → Bool
  | _, [] => true
  | n, x :: xs => nice n x && niceA n xs
end
theorem niceA_iff {n : Nat} : ∀ {xs : List D}, niceA n xs = true ↔ ∀ x ∈ xs, nice n x = true
  | [] => by simp [niceA]
  | x :: xs => by simp [niceA, niceA_iff (xs := xs)]
theorem nice_list {n : Nat} {xs : List D} (h : ∀ x ∈ xs, nice n x = true) : nice (n + 1) (.list xs) = true := by simp only [nice]; exact niceA_iff.mpr h
theorem nice_tup {n : Nat} {xs : List D} (h : ∀ x ∈ xs, nice n x = true) : nice (n + 1) (.tuple xs) = true := by simp only [nice]; exact niceA_iff.mpr h
theorem nice_int {n : Nat} {i : Int} : nice n (.int i) = true := by cases n <;> rfl
theorem nice_non {n : Nat} : nice n .none = true := by cases n <;> rfl
theorem nice_str {n : Nat} {x : Str} (h : PyData.strOk x = true) : nice n (.str x) = true := by cases n <;> simpa [nice] using h
mutual
theorem nice_mono {m n : Nat} (h : m ≤ n) : ∀ {d : D}, nice m d = true → nice n d = true
  | .none, _ => nice_non
  | .bool b, q => by cases m <;> simp [nice] at q
  | .int _, _ => nice_int
  | .str _, q => nice_str (by cases m <;> simpa [nice] using q)
  | .list xs, q => by
    cases m with
    | zero => simp [nice] at q
    | succ m =>
      cases n with
      | zero => omega
      | succ n =>
        simp only [nice] at q ⊢
        exact niceA_mono (by omega) q
  | .tuple xs, q => by
    cases m with
    | zero => simp [nice] at q
    | succ m =>
      cases n with
      | zero => omega
      | succ n =>
        simp only [nice] at q ⊢
        exact niceA_mono (by omega) q
  | .dict _, q => by cases m <;> simp [nice] at q
theorem niceA_mono {m n : Nat} (h : m ≤ n) : ∀ {xs : List D}, niceA m xs = true → niceA n xs = true
  | [], _ => rfl
  | x :: xs, q => by
    simp only [niceA, Bool.and_eq_true] at q ⊢
    exact ⟨nice_mono h q.1, niceA_mono h q.2⟩
end
mutual
theorem nice_lay : ∀ {n : Nat} {d : D}, nice n d = true → PyData.canLay0 d = true ∧ PyData.depth d ≤ n
  | _, .none, _ => ⟨rfl, by simp [PyData.depth]⟩
  | n, .bool b, q => by cases n <;> simp [nice] at q
  | _, .int _, _ => ⟨rfl, by simp [PyData.depth]⟩
  | n, .str x, q => ⟨by cases n <;> simpa [nice, PyData.canLay0] using q, by simp [PyData.depth]⟩
  | 0, .list xs, q => by simp [nice] at q
  | n + 1, .list xs, q => by
    simp only [nice] at q
    obtain ⟨h1, h2⟩ := niceA_lay q
    exact ⟨by simp only [PyData.canLay0]; exact h1, by simp only [PyData.depth]; omega⟩
  | 0, .tuple xs, q => by simp [nice] at q
  | n + 1, .tuple xs, q => by
    simp only [nice] at q
    obtain ⟨h1, h2⟩ := niceA_lay q
    exact ⟨by simp only [PyData.canLay0]; exact h1, by simp only [PyData.depth]; omega⟩
  | n, .dict _, q => by cases n <;> simp [nice] at q
theorem niceA_lay : ∀ {n : Nat} {xs : List D}, niceA n xs = true → PyData.canLayAll0 xs = true ∧ PyData.depthAll xs ≤ n
  | _, [], _ => ⟨rfl, by simp [PyData.depthAll]⟩
  | n, x :: xs, q => by
    simp only [niceA, Bool.and_eq_true] at q
    obtain ⟨h1, h2⟩ := nice_lay q.1
    obtain ⟨h3, h4⟩ := niceA_lay q.2
    exact ⟨by simp only [PyData.canLayAll0, Bool.and_eq_true]; exact ⟨h1, h3⟩, by simp only [PyData.depthAll]; omega⟩
end
theorem shaped_nice {n : Nat} {d : D} (h : nice n d = true) (hn : n ≤ 64 := by omega) : SeqAt.shaped d = true := by
  obtain ⟨h1, h2⟩ := nice_lay h
  unfold SeqAt.shaped
  rw [h1, Bool.true_and, decide_eq_true_eq]
  omega
theorem shaped_int {i : Int} : SeqAt.shaped (.int i) = true := shaped_nice (n := 0) nice_int
theorem shaped_str {x : Str} (h : PyData.strOk x = true) : SeqAt.shaped (.str x) = true := shaped_nice (n := 0) (nice_str h)
mutual
theorem eqv_nice : ∀ {n m : Nat} {a b : D}, nice n a = true → nice m b = true → (PyData.eqv a b = true ↔ a = b)
  | n, m, .bool _, b, h, _ => by cases n <;> simp [nice] at h
  | n, m, .dict _, b, h, _ => by cases n <;> simp [nice] at h
  | n, m, a, .bool _, _, h => by cases m <;> simp [nice] at h
  | n, m, a, .dict _, _, h => by cases m <;> simp [nice] at h
  | _, _, .none, .none, _, _ => by simp [PyData.eqv]
  | _, _, .none, .int _, _, _ => by simp [PyData.eqv]
  | _, _, .none, .str _, _, _ => by simp [PyData.eqv]
  | _, _, .none, .list _, _, _ => by simp [PyData.eqv]
  | _, _, .none, .tuple _, _, _ => by simp [PyData.eqv]
  | _, _, .int _, .none, _, _ => by simp [PyData.eqv]
  | _, _, .int _, .int _, _, _ => by simp [PyData.eqv]
  | _, _, .int _, .str _, _, _ => by simp [PyData.eqv]
  | _, _, .int _, .list _, _, _ => by simp [PyData.eqv]
  | _, _, .int _, .tuple _, _, _ => by simp [PyData.eqv]
  | _, _, .str _, .none, _, _ => by simp [PyData.eqv]
  | _, _, .str _, .int _, _, _ => by simp [PyData.eqv]
  | _, _, .str _, .str _, _, _ => by simp [PyData.eqv]
  | _, _, .str _, .list _, _, _ => by simp [PyData.eqv]
  | _, _, .str _, .tuple _, _, _ => by simp [PyData.eqv]
  | _, _, .list _, .none, _, _ => by simp [PyData.eqv]
  | _, _, .list _, .int _, _, _ => by simp [PyData.eqv]
  | _, _, .list _, .str _, _, _ => by simp [PyData.eqv]
  | _, _, .list _, .tuple _, _, _ => by simp [PyData.eqv]
  | _, _, .tuple _, .none, _, _ => by simp [PyData.eqv]
  | _, _, .tuple _, .int _, _, _ => by simp [PyData.eqv]
  | _, _, .tuple _, .str _, _, _ => by simp [PyData.eqv]
  | _, _, .tuple _, .list _, _, _ => by simp [PyData.eqv]
  | 0, _, .list _, .list _, h, _ => by simp [nice] at h
  | _, 0, .list _, .list _, _, h => by simp [nice] at h
  | 0, _, .tuple _, .tuple _, h, _ => by simp [nice] at h
  | _, 0, .tuple _, .tuple _, _, h => by simp [nice] at h
  | n + 1, m + 1, .list xs, .list ys, h, k => by
    simp only [nice] at h k
    rw [show PyData.eqv (.list xs) (.list ys) = PyData.eqvAll xs ys by simp [PyData.eqv], eqvA_nice h k]
    simp
  | n + 1, m + 1, .tuple xs, .tuple ys, h, k => by
    simp only [nice] at h k
    rw [show PyData.eqv (.tuple xs) (.tuple ys) = PyData.eqvAll xs ys by simp [PyData.eqv], eqvA_nice h k]
    simp
theorem eqvA_nice : ∀ {n m : Nat} {xs ys : List D}, niceA n xs = true → niceA m ys = true → (PyData.eqvAll xs ys = true ↔ xs = ys)
  | _, _, [], [], _, _ => by simp [PyData.eqvAll]
  | _, _, [], _ :: _, _, _ => by simp [PyData.eqvAll]
  | _, _, _ :: _, [], _, _ => by simp [PyData.eqvAll]
  | n, m, x :: xs, y :: ys, h, k => by
    simp only [niceA, Bool.and_eq_true] at h k
    rw [show PyData.eqvAll (x :: xs) (y :: ys) = (PyData.eqv x y && PyData.eqvAll xs ys) by simp [PyData.eqvAll], Bool.and_eq_true, eqv_nice h.1 k.1, eqvA_nice h.2 k.2]
    simp
end
theorem eqv_dec {n m : Nat} {a b : D} [Decidable (a = b)] (h : nice n a = true) (k : nice m b = true) : PyData.eqv a b = decide (a = b) := by
  cases q : PyData.eqv a b with
  | true => rw [eq_comm, decide_eq_true_eq]; exact (eqv_nice h k).mp q
  | false => rw [eq_comm, decide_eq_false_iff_not]; intro e; rw [(eqv_nice h k).mpr e] at q; cases q
theorem eqv_intD {i j : Int} : PyData.eqv (.int i) (.int j) = decide (i = j) := by
  rw [show PyData.eqv (.int i) (.int j) = (i == j) by simp [PyData.eqv]]
  rfl
/-- the naturals as data -/
def nD (i : Nat) : D := .int (i : Nat)
theorem any_nD {xs : List Nat} {s : Nat} : ((xs.map nD).any fun z => PyData.eqv z (nD s)) = decide (s ∈ xs) := by
  induction xs with
  | nil => simp
  | cons x xs ih =>
    rw [List.map_cons, List.any_cons, ih, show PyData.eqv (nD x) (nD s) = decide ((x : Int) = (s : Int)) from eqv_intD]
    by_cases h : x = s
    · subst h; simp
    · have h2 : ¬ (x : Int) = (s : Int) := by omega
      have h3 : ¬ s = x := fun z => h z.symm
      simp [h2, h3]
theorem nice_nats {n : Nat} {xs : List Nat} : ∀ d ∈ xs.map nD, nice n d = true := by
  intro d hd
  obtain ⟨i, _, e⟩ := List.mem_map.mp hd
  subst e
  exact nice_int
theorem rng_nats (n : Nat) : rngD 0 ((n : Int)).toNat = (List.range n).map nD := by
  unfold rngD
  rw [Int.toNat_natCast]
  refine List.map_congr_left fun i _ => ?_
  show PyData.int (0 + (i : Int)) = PyData.int (i : Int)
  rw [Int.zero_add]
end PL

namespace PL
open PySem L2
theorem le5 {n : Nat} (h : Nat.ble n 100000 = true) : n ≤ 100000 := Nat.le_of_ble_eq_true h
/-! ### webs as data -/
inductive Kd where
  | inp | neg | pick | add | sub | mul
  | con (i : Int)
  deriving DecidableEq
def Kd.d : Kd → D
  | .inp => .str "in"
  | .neg => .str "neg"
  | .pick => .str "pick"
  | .add => .str "+"
  | .sub => .str "-"
  | .mul => .str "*"
  | .con i => .int i
abbrev Sp1 := Kd × List Nat
def encN (l : List Nat) : D := .tuple (l.map nD)
def encS (s : Sp1) : D := .tuple [s.1.d, encN s.2]
def encW (w : List Sp1) : D := .tuple (w.map encS)
theorem Kd.nice (k : Kd) {n : Nat} : PL.nice n k.d = true := by
  cases k <;> first | exact nice_int | exact nice_str (by decide +kernel)
theorem nice_encN {n : Nat} {l : List Nat} : nice (n + 1) (encN l) = true := nice_tup nice_nats
theorem nice_encS {s : Sp1} : nice 2 (encS s) = true := nice_tup fun d hd => by
  rcases List.mem_cons.mp hd with e | hd
  · subst e; exact s.1.nice
  · rcases List.mem_cons.mp hd with e | hd
    · subst e; exact nice_encN
    · cases hd
theorem nice_encW {w : List Sp1} : nice 3 (encW w) = true := nice_tup fun d hd => by
  obtain ⟨s, _, e⟩ := List.mem_map.mp hd
  subst e
  exact nice_encS
theorem Kd.eqIn {k : Kd} : PyData.eqv k.d (.str "in") = decide (k = .inp) := by
  have := eqv_nice (n := 0) (m := 0) k.nice (Kd.nice .inp)
  cases q : PyData.eqv k.d (.str "in") with
  | true =>
    have e : k.d = Kd.inp.d := this.mp q
    cases k <;> first | rfl | exact absurd e (by simp only [Kd.d]; intro h; injection h with h; exact absurd h (by decide +kernel)) | exact absurd e (by simp [Kd.d])
  | false =>
    have e : ¬ k = .inp := fun z => by
      have q2 : PyData.eqv k.d Kd.inp.d = false := q
      rw [this.mpr (by rw [z])] at q2; cases q2
    simp [e]
/-- the ties of a web: giver, taker, place -/
def tiesOf (t : Nat) (l : List Nat) : List (List Int) := l.mapIdx fun p (g : Nat) => [(g : Int), (t : Int), (p : Int)]
def tiesL (w : List Sp1) : List (List Int) := (w.mapIdx fun t s => tiesOf t s.2).flatten
def resL (w : List Sp1) : List Nat := (List.range w.length).filter fun s => !decide (∃ x ∈ w, s ∈ x.2)
def rankN (w : List Sp1) (s : Nat) : Nat := ((w.take s).filter fun x => decide (x.1 = .inp)).length
/-- what ties needs of a web -/
structure TOk (w : List Sp1) : Prop where
  len : w.length < 64
  many : (tiesL w).length < 64
  giv : ∀ s ∈ w, ∀ i ∈ s.2, i < 64
  arity : ∀ s ∈ w, s.2.length < 64
theorem tiesL_mem {w : List Sp1} {t : List Int} (h : t ∈ tiesL w) : ∃ (a : Nat) (s : Sp1) (p g : Nat), w[a]? = some s ∧ s.2[p]? = some g ∧ t = [(g : Int), (a : Int), (p : Int)] := by
  unfold tiesL at h
  obtain ⟨l, h1, h2⟩ := List.mem_flatten.mp h
  obtain ⟨a, ha, e⟩ := List.mem_mapIdx.mp h1
  subst e
  unfold tiesOf at h2
  obtain ⟨p, hp, e⟩ := List.mem_mapIdx.mp h2
  exact ⟨a, w[a], p, w[a].2[p], List.getElem?_eq_getElem ha, List.getElem?_eq_getElem hp, e.symm⟩
theorem TOk.bd {w : List Sp1} (h : TOk w) {t : List Int} (ht : t ∈ tiesL w) : t.length = 3 ∧ TS.Bd 64 t := by
  obtain ⟨a, s, p, g, h1, h2, e⟩ := tiesL_mem ht
  subst e
  refine ⟨rfl, fun m hm => ?_⟩
  have ha := (List.getElem?_eq_some_iff.mp h1).1
  have hp := (List.getElem?_eq_some_iff.mp h2).1
  have hs := List.mem_of_getElem? h1
  have hg := h.giv s hs g (List.mem_of_getElem? h2)
  have hr := h.arity s hs
  have hl := h.len
  rcases List.mem_cons.mp hm with e | hm
  · omega
  · rcases List.mem_cons.mp hm with e | hm
    · omega
    · rcases List.mem_cons.mp hm with e | hm
      · omega
      · cases hm
theorem tiesL_giver {w : List Sp1} {g : Nat} : (∃ t ∈ tiesL w, t.head? = some (g : Int)) ↔ ∃ x ∈ w, g ∈ x.2 := by
  constructor
  · rintro ⟨t, ht, e⟩
    obtain ⟨a, s, p, g', h1, h2, e'⟩ := tiesL_mem ht
    subst e'
    have : (g' : Int) = (g : Int) := by simpa using e
    have : g' = g := by omega
    subst this
    exact ⟨s, List.mem_of_getElem? h1, List.mem_of_getElem? h2⟩
  · rintro ⟨x, hx, hg⟩
    obtain ⟨a, ha⟩ := List.mem_iff_getElem?.mp hx
    obtain ⟨p, hp⟩ := List.mem_iff_getElem?.mp hg
    refine ⟨[(g : Int), (a : Int), (p : Int)], ?_, rfl⟩
    unfold tiesL
    obtain ⟨la, ea⟩ := List.getElem?_eq_some_iff.mp ha
    obtain ⟨lp, ep⟩ := List.getElem?_eq_some_iff.mp hp
    refine List.mem_flatten.mpr ⟨tiesOf a x.2, List.mem_mapIdx.mpr ⟨a, la, by rw [ea]⟩, ?_⟩
    exact List.mem_mapIdx.mpr ⟨p, lp, by rw [ep]⟩
theorem tiesL_take (w : List Sp1) (i : Nat) (s : Sp1) (h : w[i]? = some s) : tiesL (w.take (i + 1)) = tiesL (w.take i) ++ tiesOf i s.2 := by
  obtain ⟨l, e⟩ := List.getElem?_eq_some_iff.mp h
  unfold tiesL
  rw [List.take_succ, h, Option.toList_some, List.mapIdx_append, List.flatten_append]
  simp [List.length_take, Nat.min_eq_left (Nat.le_of_lt l)]
theorem tiesL_take_le (w : List Sp1) (i : Nat) : (tiesL (w.take i)).length ≤ (tiesL w).length := by
  have e : tiesL w = tiesL (w.take i ++ w.drop i) := by rw [List.take_append_drop]
  rw [e]
  unfold tiesL
  rw [List.mapIdx_append, List.flatten_append, List.length_append]
  omega
theorem enumW (w : List Sp1) {i : Nat} {d : D} (h : (enumD (w.map encS))[i]? = some d) : ∃ s, w[i]? = some s ∧ d = .tuple [nD i, encS s] := by
  obtain ⟨x, h1, h2⟩ := enumD_get h
  rw [List.getElem?_map] at h1
  obtain ⟨s, hs, e⟩ := Option.map_eq_some_iff.mp h1
  exact ⟨s, hs, by rw [h2, e]; rfl⟩
theorem enumN (l : List Nat) : enumD (l.map nD) = (l.mapIdx fun p g => (p, g)).map fun x => .tuple [nD x.1, nD x.2] := by
  unfold enumD
  refine List.ext_getElem? fun i => ?_
  rw [List.getElem?_mapIdx, List.getElem?_map, List.getElem?_map, List.getElem?_mapIdx]
  cases l[i]? <;> rfl
theorem tiesOf_enc (t : Nat) (l : List Nat) : (tiesOf t l).map encI = (l.mapIdx fun p g => (p, g)).filterMap fun x => some (.tuple [nD x.2, nD t, nD x.1]) := by
  rw [List.filterMap_eq_map' ]
  unfold tiesOf
  refine List.ext_getElem? fun i => ?_
  rw [List.getElem?_map, List.getElem?_map, List.getElem?_mapIdx, List.getElem?_mapIdx]
  cases l[i]? <;> rfl
theorem resL_perm {w : List Sp1} {ss : List (List Int)} (h : ss.Perm (tiesL w)) (s : Nat) : s ∈ (ss.map fun t => (t.headD 0).toNat) ↔ ∃ x ∈ w, s ∈ x.2 := by
  rw [← tiesL_giver, List.mem_map]
  constructor
  · rintro ⟨t, ht, e⟩
    have ht' := h.mem_iff.mp ht
    refine ⟨t, ht', ?_⟩
    obtain ⟨a, x, p, g, _, _, e'⟩ := tiesL_mem ht'
    subst e'
    have : ((g : Int)).toNat = s := e
    rw [Int.toNat_natCast] at this
    subst this; rfl
  · rintro ⟨t, ht, e⟩
    refine ⟨t, h.mem_iff.mpr ht, ?_⟩
    obtain ⟨a, x, p, g, _, _, e'⟩ := tiesL_mem ht
    subst e'
    have : (g : Int) = (s : Int) := by simpa using e
    show ((g : Int)).toNat = s
    omega
theorem heads_perm {w : List Sp1} {ss : List (List Int)} (h : ss.Perm (tiesL w)) : ∀ t ∈ ss, ∃ g a p : Nat, t = [(g : Int), (a : Int), (p : Int)] := fun t ht => by
  obtain ⟨a, x, p, g, _, _, e'⟩ := tiesL_mem (h.mem_iff.mp ht)
  exact ⟨g, a, p, e'⟩
/-! ### a filter as a filterMap -/
theorem filterMap_ite {α β : Type} (p : α → Bool) (g : α → β) (l : List α) : (l.filterMap fun x => if p x = true then some (g x) else none) = (l.filter p).map g := by
  induction l with
  | nil => rfl
  | cons x l ih =>
    by_cases h : p x = true
    · rw [List.filterMap_cons_some (by rw [if_pos h]), List.filter_cons_of_pos h, List.map_cons, ih]
    · rw [List.filterMap_cons_none (by rw [if_neg h]), List.filter_cons_of_neg h, ih]
theorem filterMap_all {α β : Type} (g : α → β) (l : List α) : (l.filterMap fun x => some (g x)) = l.map g := by
  rw [List.filterMap_eq_map']
theorem Kd.d_inj {a b : Kd} (h : a.d = b.d) : a = b := by
  cases a <;> cases b <;> first | rfl | (exfalso; revert h; simp only [Kd.d]; intro h; injection h with h; exact absurd h (by decide +kernel)) | (exfalso; revert h; simp only [Kd.d]; intro h; cases h; done) | (injection h with h; rw [h])
theorem Kd.eqd (a b : Kd) : PyData.eqv a.d b.d = decide (a = b) := by
  have := eqv_nice (n := 0) (m := 0) a.nice b.nice
  cases q : PyData.eqv a.d b.d with
  | true => simp [Kd.d_inj (this.mp q)]
  | false =>
    have e : ¬ a = b := fun z => by rw [this.mpr (by rw [z])] at q; cases q
    simp [e]
theorem Kd.shp (k : Kd) : SeqAt.shaped k.d = true := shaped_nice (n := 0) k.nice
theorem cutD_take {xs : List D} {n : Nat} : cutD xs none (some (n : Int)) = xs.take n := by
  unfold cutD
  rw [HT.sIx_none, HT.sIx_nat, List.drop_zero, Nat.sub_zero]
  by_cases h : n ≤ xs.length
  · rw [Nat.min_eq_left h]
  · rw [Nat.min_eq_right (by omega), List.take_length, List.take_of_length_le (by omega)]
theorem cutD_drop {xs : List D} {n : Nat} : cutD xs (some (n : Int)) none = xs.drop n := by
  unfold cutD
  rw [HT.sIx_none, HT.sIx_nat]
  by_cases h : n ≤ xs.length
  · rw [Nat.min_eq_left h]
    exact List.take_of_length_le (by rw [List.length_drop]; exact Nat.le_refl _)
  · rw [Nat.min_eq_right (by omega), List.drop_length, List.drop_of_length_le (by omega), List.take_nil]
theorem bls_map : ∀ bs : List Bool, bls? (bs.map PyData.bool) = some bs
  | [] => rfl
  | b :: bs => by
    have := bls_map bs
    simp only [List.map_cons, bls?, this, Option.map_some]
theorem nodup_lt {a b : List Nat} {s : Nat} (ha : a.Nodup) (hb : b.Nodup) (h : ∀ k ∈ a, k ∈ b) (hs : s ∈ b) (hn : s ∉ a) : a.length < b.length := by
  have : (s :: a).Nodup := List.nodup_cons.mpr ⟨hn, ha⟩
  have := this.length_le_of_subset (l₂ := b) fun k hk => by
    rcases List.mem_cons.mp hk with e | hk
    · rw [e]; exact hs
    · exact h k hk
  rw [List.length_cons] at this
  omega
theorem nodup_all {a : List Nat} {n : Nat} (ha : a.Nodup) (h : ∀ k ∈ a, k < n) (hl : n ≤ a.length) (k : Nat) (hk : k < n) : k ∈ a := by
  refine Classical.byContradiction fun hn => ?_
  have := nodup_lt ha (List.nodup_range (n := n)) (fun k hk => List.mem_range.mpr (h k hk)) (List.mem_range.mpr hk) hn
  rw [List.length_range] at this
  omega
theorem resL_lt {w : List Sp1} {j : Nat} (h : j ∈ resL w) : j < w.length := List.mem_range.mp (List.mem_filter.mp h).1
theorem nodup_le {a : List Nat} {n : Nat} (ha : a.Nodup) (h : ∀ k ∈ a, k < n) : a.length ≤ n := by
  have := ha.length_le_of_subset (fun k hk => List.mem_range.mpr (h k hk))
  rwa [List.length_range] at this
theorem nodup_snoc {a : List Nat} {s : Nat} (ha : a.Nodup) (hs : s ∉ a) : (a ++ [s]).Nodup := by
  rw [List.nodup_append]
  refine ⟨ha, by simp, fun x hx y hy e => ?_⟩
  rw [List.mem_singleton] at hy
  subst hy; subst e
  exact hs hx
theorem resL_len (w : List Sp1) : (resL w).length ≤ w.length := by
  have := List.length_filter_le (fun s => !decide (∃ x ∈ w, s ∈ x.2)) (List.range w.length)
  rw [List.length_range] at this
  exact this
/-! ### the meaning -/
def arK : Kd → Nat
  | .inp => 0
  | .con _ => 0
  | .neg => 1
  | .pick => 3
  | _ => 2
def worthV : Kd → Int → List Int → Int
  | .inp, o, _ => o
  | .con i, _, _ => i
  | .neg, _, [a] => 0 - a
  | .add, _, [a, b] => a + b
  | .sub, _, [a, b] => a - b
  | .mul, _, [a, b] => a * b
  | .pick, _, [c, a, b] => if c > 0 then a else b
  | _, _, _ => 0
def ownV (w : List Sp1) (wo : List Int) (s : Nat) (k : Kd) : Int := if k = .inp then wo.getD (rankN w s) 0 else 0
structure WOk (w : List Sp1) : Prop where
  ar : ∀ x ∈ w, x.2.length = arK x.1
  bd : ∀ x ∈ w, ∀ i ∈ x.2, i < w.length
  acy : ∃ rk : Nat → Nat, ∀ (s : Nat) (x : Sp1), w[s]? = some x → ∀ i ∈ x.2, rk i < rk s
structure IsVal (w : List Sp1) (wo : List Int) (val : Nat → Int) : Prop where
  eq : ∀ s x, w[s]? = some x → val s = worthV x.1 (ownV w wo s x.1) (x.2.map val)
  own : ∀ s x, w[s]? = some x → x.1 = .inp → rankN w s < wo.length
  small : ∀ s, (val s).natAbs.log2 < 500000
/-! the dict of the worths that are known -/
def kvN (val : Nat → Int) (ks : List Nat) : List (Key × D) := ks.map fun (s : Nat) => ((Sum.inl (s : Int) : Key), PyData.int (val s))
theorem kvN_len {val : Nat → Int} {ks : List Nat} : (kvN val ks).length = ks.length := List.length_map ..
theorem kvN_look {val : Nat → Int} {s : Nat} : ∀ {ks : List Nat}, lookD (kvN val ks) (.inl (s : Int)) = if s ∈ ks then some (.int (val s)) else none
  | [] => rfl
  | k :: ks => by
    have ih := kvN_look (val := val) (s := s) (ks := ks)
    unfold lookD kvN at ih ⊢
    rw [List.map_cons, List.find?_cons]
    by_cases h : k = s
    · subst h; simp
    · have h2 : ¬ ((Sum.inl (k : Int) : Key) = .inl (s : Int)) := fun e => h (by injection e with e; omega)
      have h3 : ¬ s = k := fun e => h e.symm
      simp only [h2, decide_false, List.mem_cons, h3, false_or]
      exact ih
theorem kvN_put {val : Nat → Int} {s : Nat} {ks : List Nat} (h : s ∉ ks) : putD (kvN val ks) (.inl (s : Int)) (.int (val s)) = kvN val (ks ++ [s]) := by
  unfold putD
  have e : ((kvN val ks).any fun kv => decide (kv.1 = (.inl (s : Int) : Key))) = false := by
    rw [List.any_eq_false]
    rintro kv hkv
    obtain ⟨k, hk, e⟩ := List.mem_map.mp hkv
    subst e
    rw [decide_eq_true_eq]
    intro e
    injection e with e
    have : k = s := by omega
    subst this
    exact h hk
  rw [e]
  unfold kvN
  rw [List.map_append]
  rfl
theorem some_ready {w : List Sp1} (h : WOk w) {ks : List Nat} (hlt : ks.length < w.length) : ∃ s x, w[s]? = some x ∧ s ∉ ks ∧ ∀ i ∈ x.2, i ∈ ks := by
  obtain ⟨rk, hr⟩ := h.acy
  have hex : ∃ s, s < w.length ∧ s ∉ ks := by
    refine Classical.byContradiction fun hn => ?_
    have hsub : List.range w.length ⊆ ks := fun s hs => Classical.byContradiction fun z => hn ⟨s, List.mem_range.mp hs, z⟩
    have := (List.nodup_range (n := w.length)).length_le_of_subset hsub
    rw [List.length_range] at this
    omega
  have hmin : ∀ m s, rk s ≤ m → s < w.length → s ∉ ks → ∃ s x, w[s]? = some x ∧ s ∉ ks ∧ ∀ i ∈ x.2, i ∈ ks := by
    intro m
    induction m with
    | zero =>
      intro s hm hs hk
      refine ⟨s, w[s], List.getElem?_eq_getElem hs, hk, fun i hi => ?_⟩
      have := hr s w[s] (List.getElem?_eq_getElem hs) i hi
      omega
    | succ m ih =>
      intro s hm hs hk
      by_cases hall : ∀ i ∈ w[s].2, i ∈ ks
      · exact ⟨s, w[s], List.getElem?_eq_getElem hs, hk, hall⟩
      · obtain ⟨i, hi⟩ := Classical.not_forall.mp hall
        obtain ⟨hi, hik⟩ := Classical.not_imp.mp hi
        have h1 := hr s w[s] (List.getElem?_eq_getElem hs) i hi
        exact ih i (by omega) (h.bd _ (List.getElem_mem hs) i hi) hik
  obtain ⟨s, hs, hk⟩ := hex
  exact hmin (rk s) s (Nat.le_refl _) hs hk
/-! ### other numbers for the steps -/
def mvS (x : Sp1) (g : Nat → Nat) : Sp1 := (x.1, x.2.map g)
def besW (w o : List Sp1) : List Sp1 := w ++ o.map fun x => mvS x fun i => w.length + i
def renW (w : List Sp1) (l : List Nat) : List Sp1 := l.filterMap fun s => (w[s]?).map fun x => mvS x fun i => l.idxOf i
theorem ints_map : ∀ is : List Int, ints? (is.map PyData.int) = some is
  | [] => rfl
  | b :: bs => by
    have := ints_map bs
    simp only [List.map_cons, ints?, this, Option.map_some]
theorem nD_ints (l : List Nat) : l.map nD = (l.map fun (i : Nat) => (i : Int)).map PyData.int := by rw [List.map_map]; rfl
theorem idxOf_nat (s : Nat) : ∀ l : List Nat, (l.map fun (i : Nat) => (i : Int)).idxOf (s : Int) = l.idxOf s
  | [] => rfl
  | x :: l => by
    rw [List.map_cons, List.idxOf_cons, List.idxOf_cons, idxOf_nat s l]
    by_cases h : x = s
    · subst h; simp
    · have h2 : ¬ (x : Int) = (s : Int) := by omega
      have e1 : (x == s) = false := beq_eq_false_iff_ne.mpr h
      have e2 : ((x : Int) == (s : Int)) = false := beq_eq_false_iff_ne.mpr h2
      rw [e1, e2]
theorem renW_eq {w : List Sp1} {l : List Nat} (h : ∀ s ∈ l, s < w.length) : renW w l = l.map fun s => mvS (w.getD s (.inp, [])) fun i => l.idxOf i := by
  unfold renW
  generalize (fun i => l.idxOf i) = g
  induction l with
  | nil => rfl
  | cons s l ih =>
    have hs := h s (by simp)
    rw [List.filterMap_cons_some (b := mvS (w.getD s (.inp, [])) g) (by rw [List.getD_eq_getElem?_getD, List.getElem?_eq_getElem hs]; rfl), List.map_cons, ih fun t ht => h t (by simp [ht])]
end PL

namespace PL
open PySem L2
/-! ### the laws' deck, of two lists and a count -/
structure DeckB (d c0 c1 : Addr) (is js : List Int) (n : Int) (H : Hp) : Prop where
  hd : H d = some (.lst [.ref c0, .ref c1, .int n])
  h0 : H c0 = some (.lst (is.map V.int))
  h1 : H c1 = some (.lst (js.map V.int))
  jne : js ≠ []
  il : is.length ≤ 64
  jl : js.length ≤ 64
  n0 : d ≠ c0
  n1 : d ≠ c1
  n2 : c0 ≠ c1
def amB (d c0 c1 : Addr) : Amb where
  rs := fun _ => [d, c0, c1]
  RI := fun _ _ H => ∃ is js n, DeckB d c0 c1 is js n H
  st := fun n F F' H H' _ h ⟨is, js, m, D⟩ => ⟨is, js, m, ⟨(h d (by simp)).trans D.hd, (h c0 (by simp)).trans D.h0, (h c1 (by simp)).trans D.h1, D.jne, D.il, D.jl, D.n0, D.n1, D.n2⟩⟩
  hs := fun n F H ⟨is, js, m, D⟩ a ha => by
    simp only [List.mem_cons, List.not_mem_nil, or_false] at ha
    rcases ha with e | e | e
    · subst e; rw [D.hd]; simp
    · subst e; rw [D.h0]; simp
    · subst e; rw [D.h1]; simp
/-- all but rs as it was -/
structure Near (rs : List Addr) (H H' : Hp) : Prop where
  keep : ∀ a o, H a = some o → a ∉ rs → H' a = some o
  liv : ∀ a, H a ≠ none → H' a ≠ none
theorem Near.refl {rs : List Addr} {H : Hp} : Near rs H H := ⟨fun _ _ h _ => h, fun _ h => h⟩
theorem Near.mut {rs : List Addr} {H H' : Hp} {p : Addr} {o : HO} (h : Near rs H H') (hp : p ∈ rs) : Near rs H (upd H' p o) :=
  ⟨fun a o' e n => by rw [upd_ne fun z => by subst z; exact n hp]; exact h.keep a o' e n, fun a e => by
    by_cases c : a = p
    · subst c; rw [upd_same]; simp
    · rw [upd_ne c]; exact h.liv a e⟩
theorem Near.new {rs : List Addr} {H H' : Hp} {p : Addr} {o : HO} (h : Near rs H H') (hp : H' p = none) : Near rs H (upd H' p o) :=
  ⟨fun a o' e n => by rw [upd_ne (ne_of_none (h.keep a o' e n) hp)]; exact h.keep a o' e n, fun a e => by
    by_cases c : a = p
    · subst c; rw [upd_same]; simp
    · rw [upd_ne c]; exact h.liv a e⟩
theorem Near.fin {A : Amb} {n n' : Gh} {F H H' : Hp} (x : Ex F H) (rf : ∀ a ∈ A.rs n, F a = none) (h : Near (A.rs n) H H') (hr : A.rs n' = A.rs n) : Fin A n F H n' F H' ∧ Ex F H' :=
  ⟨⟨Ex.refl _, fun a o e n => ⟨h.keep a o e n, rfl⟩, h.liv, fun a h => .inl (by rw [hr] at h; exact h)⟩, fun a o e => h.keep a o (x a o e) fun z => by rw [rf a z] at e; cases e⟩
theorem DeckB.new {d c0 c1 p : Addr} {is js : List Int} {n : Int} {H : Hp} {o : HO} (D : DeckB d c0 c1 is js n H) (hp : H p = none) : DeckB d c0 c1 is js n (upd H p o) :=
  ⟨by rw [upd_ne (ne_of_none D.hd hp)]; exact D.hd, by rw [upd_ne (ne_of_none D.h0 hp)]; exact D.h0, by rw [upd_ne (ne_of_none D.h1 hp)]; exact D.h1, D.jne, D.il, D.jl, D.n0, D.n1, D.n2⟩
theorem DeckB.set0 {d c0 c1 : Addr} {is js is' : List Int} {n : Int} {H : Hp} (D : DeckB d c0 c1 is js n H) (hl : is'.length ≤ 64) : DeckB d c0 c1 is' js n (upd H c0 (.lst (is'.map V.int))) :=
  ⟨by rw [upd_ne D.n0]; exact D.hd, upd_same, by rw [upd_ne D.n2.symm]; exact D.h1, D.jne, hl, D.jl, D.n0, D.n1, D.n2⟩
theorem DeckB.setN {d c0 c1 : Addr} {is js : List Int} {n m : Int} {H : Hp} (D : DeckB d c0 c1 is js n H) : DeckB d c0 c1 is js m (upd H d (.lst [.ref c0, .ref c1, .int m])) :=
  ⟨upd_same, by rw [upd_ne D.n0.symm]; exact D.h0, by rw [upd_ne D.n1.symm]; exact D.h1, D.jne, D.il, D.jl, D.n0, D.n1, D.n2⟩
theorem nice_ints {n : Nat} {xs : List Int} : ∀ d ∈ xs.map PyData.int, nice n d = true := by
  intro d hd
  obtain ⟨i, _, e⟩ := List.mem_map.mp hd
  subst e
  exact nice_int
theorem paired2 {α β : Type} {R : α → β → Prop} {vs : List α} {a b : β} (h : Paired R vs [a, b]) : ∃ u v, vs = [u, v] ∧ R u a ∧ R v b := by
  cases h with
  | cons h1 h2 => cases h2 with | cons h3 h4 => cases h4; exact ⟨_, _, rfl, h1, h3⟩
theorem paired1 {α β : Type} {R : α → β → Prop} {vs : List α} {a : β} (h : Paired R vs [a]) : ∃ u, vs = [u] ∧ R u a := by
  cases h with
  | cons h1 h2 => cases h2; exact ⟨_, rfl, h1⟩
theorem at0 {α : Type} {x : α} {xs : List α} : L2.atI (x :: xs) 0 = some x := atI_nat (j := 0) rfl
theorem ixn {n j : Nat} (hj : j < n) : ixN n (j : Int) = some j := by
  unfold ixN
  rw [if_pos (by omega), if_pos (by omega), Int.toNat_natCast]
theorem ix0 {n : Nat} : ixN (n + 1) 0 = some 0 := ixn (j := 0) (by omega)
theorem sq0 {n : Nat} : seqIndex? 0 (n + 1) = some 0 := (ixN_seq ix0).1
theorem pz {n : Nat} : (0 : Int) < OfNat.ofNat (α := Int) (n + 1) := by
  show (0 : Int) < ((n + 1 : Nat) : Int)
  omega
theorem mul32 {m z w : Int} (h : 0 < m ∧ m < 4294967296) : CMul (z % m) w := .inl ⟨by
  have := Int.emod_nonneg z (by omega : m ≠ 0)
  omega, by
  have := Int.emod_lt_of_pos z h.1
  omega⟩
theorem seq_nat {n j : Nat} (h : j < n) : seqIndex? (j : Int) n = some j := (ixN_seq (ixn h)).1
theorem erase_perm {α : Type} : ∀ {l : List α} {j : Nat} (h : j < l.length), (l[j]'h :: l.eraseIdx j).Perm l
  | x :: l, 0, _ => .refl _
  | x :: l, j + 1, h => by
    have hj : j < l.length := by simpa using h
    have := erase_perm hj
    show (l[j]'hj :: x :: l.eraseIdx j).Perm (x :: l)
    exact (List.Perm.swap _ _ _).trans (this.cons x)
theorem cutD_drop' {xs : List D} {z : Int} {k : Nat} (h : z = (k : Int)) : cutD xs (some z) none = xs.drop k := by subst h; exact cutD_drop
theorem cutD_take' {xs : List D} {z : Int} {k : Nat} (h : z = (k : Int)) : cutD xs none (some z) = xs.take k := by subst h; exact cutD_take
theorem rep_flat {x : D} : ∀ q : Nat, (List.replicate q [x]).flatten = List.replicate q x
  | 0 => rfl
  | q + 1 => by rw [List.replicate_succ, List.flatten_cons, rep_flat q]; rfl
theorem rng_get {lo : Int} {k i : Nat} {t : D} (h : (rngD lo k)[i]? = some t) : i < k ∧ t = .int (lo + (i : Int)) := by
  unfold rngD at h
  rw [List.getElem?_map] at h
  obtain ⟨j, hj, e⟩ := Option.map_eq_some_iff.mp h
  have hl := (List.getElem?_eq_some_iff.mp hj).1
  rw [List.length_range] at hl
  rw [List.getElem?_range hl] at hj
  cases hj
  exact ⟨hl, e.symm⟩
theorem rng_get0 {k i : Nat} {t : D} (h : (rngD 0 k)[i]? = some t) : i < k ∧ t = nD i := by
  obtain ⟨h1, h2⟩ := rng_get h
  refine ⟨h1, h2.trans ?_⟩
  show PyData.int (0 + (i : Int)) = PyData.int (i : Int)
  rw [Int.zero_add]
theorem rng_len {lo : Int} {k : Nat} : (rngD lo k).length = k := by simp [rngD]
/-- a reordering of numbers is a reordering of numbers -/
theorem perm_nD {ds : List D} {l : List Nat} (h : ds.Perm (l.map nD)) : ∃ m : List Nat, ds = m.map nD ∧ m.Perm l := by
  generalize hk : l.map nD = ks at h
  induction h generalizing l with
  | nil => exact ⟨[], rfl, by cases l with | nil => exact .refl _ | cons a b => cases hk⟩
  | cons x h ih =>
    cases l with
    | nil => cases hk
    | cons a b =>
      injection hk with h1 h2
      obtain ⟨m, e, p⟩ := ih h2
      exact ⟨a :: m, by rw [List.map_cons, h1, e], p.cons a⟩
  | swap x y t =>
    cases l with
    | nil => cases hk
    | cons a b =>
      injection hk with h1 h2
      cases b with
      | nil => cases h2
      | cons c b =>
        injection h2 with h3 h4
        exact ⟨c :: a :: b, by rw [List.map_cons, List.map_cons, h1, h3, h4], .swap _ _ _⟩
  | trans h1 h2 ih1 ih2 =>
    obtain ⟨m, e, p⟩ := ih2 hk
    obtain ⟨m', e', p'⟩ := ih1 e.symm
    exact ⟨m', e', p'.trans p⟩
/-! te-level helps -/
section
variable {K : PySem.W.Frag} {F H : Hp} {Q : VK}
theorem okr_int {i : Int} (h : Q (.int i) H) : Okr K F H (fun r => r = vInt i) Q :=
  ⟨fun v a r e => (by cases e; cases r; exact h), fun p ho o _ _ e => (by cases e), fun vs ds _ e => (by cases e)⟩
theorem okr_bl {i : Bool} (h : Q (.bl i) H) : Okr K F H (fun r => r = vBl i) Q :=
  ⟨fun v a r e => (by cases e; cases r; exact h), fun p ho o _ _ e => (by cases e), fun vs ds _ e => (by cases e)⟩
theorem ex0 : Ex (fun _ => none) H := fun _ _ e => by cases e
theorem top_ints {p : Addr} {is : List Int} (h : H p = some (.lst (is.map V.int))) : TopR K (fun _ => none) H (.ref p) (.dat (.list (is.map PyData.int))) := ⟨p, _, rfl, h, RDs.of_ints is⟩
/-- != of a list of ints and an empty list -/
theorem ne_nil {p q : Addr} {is : List Int} (h : H p = some (.lst (is.map V.int))) (h2 : H q = some (.lst [])) (k : Q (.bl (!is.isEmpty)) H) : R2D K oNe (.ref p) (.ref q) H Q := by
  refine ⟨fun _ => none, .dat (.list (is.map PyData.int)), .dat (.list []), fun r => r = vBl (!is.isEmpty), ex0, top_ints h, ⟨q, _, rfl, h2, .nil⟩, ⟨shaped_nice (n := 1) (nice_list nice_ints), shaped_nice (n := 1) (nice_list fun _ h => by cases h), ?_⟩, okr_bl k⟩
  cases is with
  | nil => simp [PyData.eqv, PyData.eqvAll]
  | cons i is => simp [PyData.eqv, PyData.eqvAll]
theorem eq_ints {i j : Int} (k : Q (.bl (decide (i = j))) H) : R2D K oEq (.int i) (.int j) H Q :=
  ⟨fun _ => none, .dat (.int i), .dat (.int j), fun r => r = vBl (decide (i = j)), ex0, .int i, .int j, ⟨shaped_int, shaped_int, by rw [eqv_intD]⟩, okr_bl k⟩
theorem int_int {i : Int} (k : Q (.int i) H) : RLD K fInt [.int i] H Q := ⟨fun _ => none, [.dat (.int i)], fun r => r = vInt i, ex0, .cons (.int i) .nil, rfl, okr_int k⟩
theorem len_ints {p : Addr} {is : List Int} (h : H p = some (.lst (is.map V.int))) (k : Q (.int is.length) H) : RLD K fLen [.ref p] H Q :=
  ⟨fun _ => none, [.dat (.list (is.map PyData.int))], fun r => r = vInt is.length, ex0, .cons (top_ints h) .nil, by show vInt ((is.map PyData.int).length : Nat) = _; rw [List.length_map], okr_int k⟩
end
end PL

namespace PL
open PySem L2
/-! ### the script, and the deck's making -/
def amS1 (a : Addr) (ns : List Int) : Amb where
  rs := fun _ => [a]
  RI := fun _ _ H => Rd H a (.lst (ns.map V.int))
  st := fun n F F' H H' _ h r => by
    have e := h a (by simp)
    rcases r with r | ⟨o, r⟩
    · exact .inl (e.trans r)
    · exact .inr ⟨o, e.trans r⟩
  hs := fun n F H r b hb => by
    have : b = a := by simpa using hb
    subst this
    rcases r with r | ⟨o, r⟩
    · rw [r]; simp
    · rw [r]; simp
def amS2 : Amb := ⟨fun _ => [], fun _ _ _ => True, fun _ _ _ _ _ _ _ h => h, fun _ _ _ _ _ h => by cases h⟩
def wScr (ns : List Int) (k : Int) : WE := fun e post => post (.new (.lst (cutD (ns.map PyData.int) none (some k)))) e
theorem rds_cut {K : PySem.W.Frag} {F : Hp} {vs : List V} {ds : List D} (h : RDs K F vs ds) (lo hi : Option Int) : RDs K F (cutV vs lo hi) (cutD ds lo hi) := by
  unfold cutV cutD
  rw [h.length]
  exact (h.drop _).take _
theorem er_scr {K : PySem.W.Frag} {A : Amb} {a : Addr} {ns : List Int} {k : Int} (hA : ∀ n F H, A.RI n F H → SqL K H a (ns.map V.int)) : ER A K (tSl (rSlL K) (tVar 0) tNoPart (tPart (tC (.int k)))) fun e post => e.sl[0]? = some (.im (.raw (.ref a))) ∧ wScr ns k e post := by
  intro σ F H e post S ⟨h0, q⟩ Q kk
  obtain ⟨v, hv, rv⟩ := S.at_ 0 _ h0
  have e1 : v = V.ref a := rv
  subst e1
  refine ⟨.ref a, hv, k, rfl, a, _, rfl, hA _ _ _ S.ri.ri, fun p np => ?_⟩
  exact (S.okr (post := fun r => post r e) fun v r F3 H3 T3 S3 R3 p3 => kk v r F3 H3 _ T3 S3 R3 p3).new p _ (.lst _) np ⟨_, rfl, rds_cut (RDs.of_ints ns) none (some k)⟩ q
theorem pd_scr {X : Cx} {A : Amb} {a : Addr} {ns : List Int} {k : Int} {x : Str} {npos p2 pos kpos : Pos} {kk} (hA : ∀ n F H, A.RI n F H → SqL X.K H a (ns.map V.int)) (hN : X.N[0]? = some x) (hv : Vis X.env.scope x) (hd : (x == ("__debug__" : Str)) = false := by decide) (hcd : (x == ("__classdict__" : Str)) = false := by decide) :
    PD X A (.Subscript (.Name x npos) (.Slice none (some (.Constant (.int k) kk kpos)) none p2) pos) (tSl (rSlL X.K) (tVar 0) tNoPart (tPart (tC (.int k)))) fun e post => e.sl[0]? = some (.im (.raw (.ref a))) ∧ wScr ns k e post :=
  ⟨pe_slice sl_list (pe_var hN hv hd hcd) po_none (po_some pe_int), er_scr hA⟩
/-- a list of two new lists of ints and an int, all of them new -/
theorem deck_list {K : PySem.W.Frag} {A : Amb} {t1 t2 t3 : TE} {w1 w2 w3 : WE} (h1 : ER A K t1 w1) (h2 : ER A K t2 w2) (h3 : ER A K t3 w3) {σ : St} {F H : Hp} {e : En} (S : Sta A K σ F H e) {Q : VK} {C : List Int → List Int → Int → Prop}
    (q : w1 e fun r1 e1 => w2 e1 fun r2 e2 => w3 e2 fun r3 e3 => ∃ is js i, r1 = .new (.lst (is.map PyData.int)) ∧ r2 = .new (.lst (js.map PyData.int)) ∧ r3 = vInt i ∧ C is js i)
    (k : ∀ d c0 c1 H' is js i, C is js i → H' d = some (.lst [.ref c0, .ref c1, .int i]) → H' c0 = some (.lst (is.map V.int)) → H' c1 = some (.lst (js.map V.int)) → d ≠ c0 → d ≠ c1 → c0 ≠ c1 → Q (.ref d) H') :
    tLst (tCons t1 (tCons t2 (tCons t3 tNil))) σ H Q := by
  refine h1 σ F H e _ S q _ fun v1 r1 F1 H1 e1 T1 S1 R1 q1 => ?_
  refine h2 σ F1 H1 e1 _ S1 q1 _ fun v2 r2 F2 H2 e2 T2 S2 R2 q2 => ?_
  refine h3 σ F2 H2 e2 _ S2 q2 _ fun v3 r3 F3 H3 e3 T3 S3 R3 ⟨is, js, i, e1', e2', e3', c⟩ => ?_
  subst e1' e2' e3'
  have R1' := R1.step T2 trivial
  have R1'' := R1'.step T3 trivial
  have R2' := R2.step T3 trivial
  obtain ⟨p1, ho1, ev1, n1, f1, g1, o1, nr1, no1⟩ := R1
  obtain ⟨p1', ho1', ev1', n1', f1', g1', o1', nr1', no1'⟩ := R1''
  obtain ⟨p2, ho2, ev2, n2, f2, g2, o2, nr2, no2⟩ := R2'
  rw [ev1] at ev1'
  have ep : p1 = p1' := by simpa using ev1'
  subst ep
  subst ev1 ev2
  obtain ⟨vs, e4, rd⟩ := o1'
  have e5 := rd.ints
  subst e4 e5
  obtain ⟨vs2, e6, rd2⟩ := o2
  have e7 := rd2.ints
  subst e6 e7
  have e8 : v3 = .int i := by cases R3; rfl
  subst e8
  have hne : p1 ≠ p2 := fun z => by subst z; rw [n2] at g1; cases g1
  refine ⟨by show 3 ≤ sizeLine; decide, fun d nd => ?_⟩
  have hd1 : d ≠ p1 := fun z => by subst z; rw [nd] at g1'; cases g1'
  have hd2 : d ≠ p2 := fun z => by subst z; rw [nd] at g2; cases g2
  exact k d p1 p2 _ is js i c upd_same (by rw [upd_ne hd1.symm]; exact g1') (by rw [upd_ne hd2.symm]; exact g2) hd1 hd2 hne
theorem pss_any {X : Cx} {st : List Stmt} : PSs X st (fun D σ H => ∃ t, PSs X st t ∧ t D σ H) := ⟨fun pins s σ H D I ⟨t, h, q⟩ => h.run pins s σ H D I q⟩
theorem deck_fn {W : WX} {X : Cx} {A : Amb} {st1 : Stmt} {a b c : Expr} {pos lpos : Pos} {t : TS} {w : WS} {t1 t2 t3 : TE} {w1 w2 w3 : WE} (h : PSD X A W st1 t w) (p1 : PD X A a t1 w1) (p2 : PD X A b t2 w2) (p3 : PD X A c t3 w3) {σ : St} {F H : Hp} {e : En} (S : SSt A X.K e.n F H σ F H e) {C : List Int → List Int → Int → Prop}
    (hw : w { nx := fun e => w1 e fun r1 e1 => w2 e1 fun r2 e2 => w3 e2 fun r3 e3 => ∃ is js i, r1 = .new (.lst (is.map PyData.int)) ∧ r2 = .new (.lst (js.map PyData.int)) ∧ r3 = vInt i ∧ C is js i, rt := fun _ _ => False } e) {Q : VK}
    (k : ∀ d c0 c1 H' is js i, C is js i → H' d = some (.lst [.ref c0, .ref c1, .int i]) → H' c0 = some (.lst (is.map V.int)) → H' c1 = some (.lst (js.map V.int)) → d ≠ c0 → d ≠ c1 → c0 ≠ c1 → Q (.ref d) H')
    (hs1 : starEach [a, b, c] X.env = (false, eval a X.env) :: starEach [b, c] X.env := by rfl) (hs2 : starEach [b, c] X.env = (false, eval b X.env) :: starEach [c] X.env := by rfl) (hs3 : starEach [c] X.env = (false, eval c X.env) :: starEach [] X.env := by rfl) :
    ∃ t, PSs X [st1, .Return (some (.List [a, b, c] lpos)) pos] t ∧ t { nx := fun _ H' => Q .non H', rt := Q } σ H :=
  ⟨_, pss_cons h.ps (pss_one (ps_ret (pe_lst (pa_cons p1.pe (pa_cons p2.pe (pa_cons p3.pe pa_nil hs3) hs2) hs1)))),
    h.sr e.n F H σ F H e _ _ S hw ⟨fun σ1 F1 H1 e1 S1 _ q => deck_list p1.er p2.er p3.er S1.sta q k, fun _ _ _ _ _ _ _ _ _ _ q => q.elim, fun _ _ _ _ _ _ q => q.elim, fun _ _ _ _ _ _ q => q.elim, fun _ _ _ _ _ _ _ _ _ _ q => q.elim⟩⟩
/-- what a law is asked -/
def spLaw (K : PySem.W.Frag) : Sp := fun vs H Q _ => ∃ (a : Addr) (ns : List Int), vs = [.ref a] ∧ SqL K H a (ns.map V.int) ∧ ns.length ≤ 63 ∧ ∀ H', Q (.bl true) H'
/-- what the deck's maker gives -/
def spDeckB (K : PySem.W.Frag) : Sp := fun vs H Q _ => ∃ (a : Addr) (ns : List Int), vs = [.ref a] ∧ SqL K H a (ns.map V.int) ∧ ns.length ≤ 63 ∧ ∀ d c0 c1 H' is js, DeckB d c0 c1 is js 0 H' → Q (.ref d) H'
theorem filter_ints {p : Int → Bool} (ns : List Int) : (ns.filterMap fun i => if p i = true then some (PyData.int i) else none) = (ns.filter p).map PyData.int := filterMap_ite p PyData.int ns
end PL

namespace ZG
open PySem PySem.Spec PyProof.Rows
/-! ### a zip of two sequences, each a list or a tuple -/
section
variable {prog : Program} {w : World} {A : Around} {E : Value → Shared → Prop} {s : Shared}
/-- an iterator of a list (true) or of a tuple -/
def SIt (b : Bool) (h : Heap) (i l : Addr) (k : Nat) : Prop := match b with
  | true => h.IsListIter i l k
  | false => h.IsTupleIter i l k
def SSq (b : Bool) (h : Heap) (l : Addr) (xs : Array Value) : Prop := match b with
  | true => h.IsList l xs
  | false => h.IsTuple l xs
theorem SIt.mv {b : Bool} {h h' : Heap} {i l : Addr} {k : Nat} (x : SIt b h i l k) (e : ∀ o, h.get? i = some o → h'.get? i = some o) : SIt b h' i l k := by
  cases b with
  | true => exact Heap.IsListIter.at x e
  | false => exact Heap.IsTupleIter.at x e
theorem SSq.mv {b : Bool} {h h' : Heap} {l : Addr} {xs : Array Value} (x : SSq b h l xs) (e : ∀ o, h.get? l = some o → h'.get? l = some o) : SSq b h' l xs := by
  cases b with
  | true => exact Heap.IsList.at x e
  | false => exact Heap.IsTuple.at x e
theorem SIt.there {b : Bool} {h : Heap} {i l : Addr} {k : Nat} (x : SIt b h i l k) : ∃ o, h.get? i = some o := by
  cases b with
  | true => obtain ⟨o, e, _⟩ := x; exact ⟨o, e⟩
  | false => obtain ⟨o, e, _⟩ := x; exact ⟨o, e⟩
theorem SSq.there {b : Bool} {h : Heap} {l : Addr} {xs : Array Value} (x : SSq b h l xs) : ∃ o, h.get? l = some o := by
  cases b with
  | true => obtain ⟨o, e, _⟩ := x; exact ⟨o, e⟩
  | false => obtain ⟨o, e, _⟩ := x; exact ⟨o, e⟩
theorem sit_item {b : Bool} {it l : Addr} {i : Nat} {xs : Array Value} {x : Value} {Q : Value → Shared → Prop} (h1 : SIt b s.heap it l i) (h2 : SSq b s.heap l xs) (hx : xs[i]? = some x)
    (h : ∀ h', SIt b h' it l (i + 1) → Heap.SameBut it s.heap h' → Q x { s with heap := h' }) : wpAny (model prog w) A (Builtin.SmallTypes.nextOf (.ref it)) Q E s := by
  cases b with
  | true => exact wpAny_nextOf_list_item h1 h2 hx h
  | false => exact RZ.nextOf_tuple_item h1 h2 hx h
theorem sit_end {b : Bool} {it l : Addr} {i : Nat} {xs : Array Value} {Q : Value → Shared → Prop} (hh : A.handled = none) (h1 : SIt b s.heap it l i) (h2 : SSq b s.heap l xs) (hx : xs[i]? = none)
    (h : ∀ h' e, Heap.ExtBut it s.heap h' → (∃ o, h'.get? e = some o ∧ o.cls = .type "StopIteration") → E (.ref e) { s with heap := h' }) : wpAny (model prog w) A (Builtin.SmallTypes.nextOf (.ref it)) Q E s := by
  cases b with
  | true => exact wpAny_nextOf_list_end hh h1 h2 hx h
  | false => exact RZ.nextOf_tuple_end hh h1 h2 hx h
variable {z TI TO T i1 i2 l1 l2 : Addr} {b1 b2 : Bool} {k1 k2 : Nat} {xs ys : Array Value} {x y a b : Value}
theorem zg_first {Q : Value → Shared → Prop} (D : ZipApart z TI TO i1 i2 l1 l2) (hz : IsZip s.heap z TI TO .none) (hTI : IsPair s.heap TI (.ref i1) (.ref i2)) (hTO : IsPair s.heap TO a b)
    (h1 : SIt b1 s.heap i1 l1 k1) (h2 : SIt b2 s.heap i2 l2 k2) (hl1 : SSq b1 s.heap l1 xs) (hl2 : SSq b2 s.heap l2 ys) (hx : xs[k1]? = some x) (hy : ys[k2]? = some y)
    (hQ : ∀ h', IsZip h' z TI TO (rawInt s.heap.objs.size) → SIt b1 h' i1 l1 (k1 + 1) → SIt b2 h' i2 l2 (k2 + 1) → IsPair h' s.heap.objs.size x y →
      (∀ c o, c ≠ z → c ≠ TO → c ≠ i1 → c ≠ i2 → s.heap.get? c = some o → h'.get? c = some o) → Q (.ref s.heap.objs.size) { s with heap := h' }) :
    wpAny (model prog w) A (Builtin.«zip.__next__» ⟨[.ref z], []⟩) (fun fin s' => ∃ v, fin = .done (.ret v) ∧ Q v s') E s := by
  show wpAny _ _ (field (.ref z) 2 >>= _) _ _ _
  refine wpAny_bind (wpAny_field hz rfl (x := .bool false) rfl ?_)
  show wpAny _ _ (field (.ref z) 3 >>= _) _ _ _
  refine wpAny_bind (wpAny_field hz rfl (x := .ref TI) rfl (wpAny_bind (wpAny_seqItems hTI rfl ?_)))
  show wpAny _ _ (Builtin.SmallTypes.ownedTupleIsFree (.ref z) >>= _) _ _ _
  unfold Builtin.SmallTypes.ownedTupleIsFree
  refine wpAny_bind (wpAny_bind (wpAny_field hz rfl (x := .none) rfl (wpAny_pure ?_)))
  simp only [if_true]
  refine wpAny_bind (wpAny_rule (wpAny_bind (wpAny_field hz rfl (x := .ref TO) rfl (wpAny_bind (wpAny_setField_rec hz (by simp) fun ha za sa => ?_)))))
  replace za : IsZip ha z TI TO .ellipsis := za
  refine wpAny_bind ?_
  simp only [List.zipIdx_cons, List.zipIdx_nil, List.forIn_cons, List.forIn_nil]
  have ka : ∀ c o, c ≠ z → s.heap.get? c = some o → ha.get? c = some o := fun c o n e => sa.extBut c o n e
  refine wpAny_bind (wpAny_bind (wpAny_onRaise ?_))
  show wpAny _ _ (Builtin.SmallTypes.nextOf (.ref i1) >>= _) _ _ _
  refine wpAny_bind (sit_item (h1.mv fun o e => ka _ o D.i1z e) (hl1.mv fun o e => ka _ o D.l1z e) hx fun hb ib sb => wpAny_pure ?_)
  have kb : ∀ c o, c ≠ z → c ≠ i1 → s.heap.get? c = some o → hb.get? c = some o := fun c o n m e => sb.extBut c o m (ka c o n e)
  have tb : IsPair hb TO a b := kb _ _ D.TOz D.TOi1 hTO
  refine wpAny_bind (wpAny_seqItems tb rfl (wpAny_bind (wpAny_updateSeq_pair tb fun hc tc sc => wpAny_bind (wpAny_letGo (wpAny_pure ?_)))))
  replace tc : IsPair hc TO x b := tc
  have kc : ∀ c o, c ≠ z → c ≠ i1 → c ≠ TO → s.heap.get? c = some o → hc.get? c = some o := fun c o n m k e => sc.extBut c o k (kb c o n m e)
  refine wpAny_bind (wpAny_bind (wpAny_onRaise ?_))
  show wpAny _ _ (Builtin.SmallTypes.nextOf (.ref i2) >>= _) _ _ _
  refine wpAny_bind (sit_item (h2.mv fun o e => kc _ o D.i2z D.i12.symm D.TOi2.symm e) (hl2.mv fun o e => kc _ o D.l2z D.l2i1 D.l2TO e) hy fun hd id sd => wpAny_pure ?_)
  have td : IsPair hd TO x b := sd.extBut _ _ D.TOi2 tc
  refine wpAny_bind (wpAny_seqItems td rfl (wpAny_bind (wpAny_updateSeq_pair td fun he te se => wpAny_bind (wpAny_letGo (wpAny_pure (wpAny_pure ?_))))))
  replace te : IsPair he TO x y := te
  refine wpAny_bind (wpAny_seqItems te rfl (wpAny_bind (wpAny_newTuple ?_)))
  have hsz : he.objs.size = s.heap.objs.size := by rw [se.1, sd.1, sc.1, sb.1, sa.1]
  have ke : ∀ c o, c ≠ z → c ≠ TO → c ≠ i1 → c ≠ i2 → s.heap.get? c = some o → he.get? c = some o := fun c o n1 n2 n3 n4 e => se.extBut c o n2 (sd.extBut c o n4 (kc c o n1 n3 n2 e))
  have ze : IsZip he z TI TO .ellipsis := se.extBut _ _ D.TOz.symm (sd.extBut _ _ D.i2z.symm (sc.extBut _ _ D.TOz.symm (sb.extBut _ _ D.i1z.symm za)))
  have i1e : SIt b1 he i1 l1 (k1 + 1) := ((ib.mv fun o e => sc.extBut _ o D.TOi1.symm e).mv fun o e => sd.extBut _ o D.i12 e).mv fun o e => se.extBut _ o D.TOi1.symm e
  have i2e : SIt b2 he i2 l2 (k2 + 1) := id.mv fun o e => se.extBut _ o D.TOi2.symm e
  have zlt : z < he.objs.size := Heap.lt_size ze
  show wpAny _ _ (Builtin.SmallTypes.ownedTupleHandOut (.ref z) (.ref he.objs.size) >>= _) _ _ _
  unfold Builtin.SmallTypes.ownedTupleHandOut
  have zf : IsZip (he.push { cls := .type "tuple", data := .seq #[x, y] }) z TI TO .ellipsis := Heap.get?_push_of_some _ ze
  refine wpAny_bind (wpAny_bind (wpAny_setField_rec zf (by simp) fun hg zg sg => wpAny_setField_rec (show IsZip hg z TI TO (rawInt he.objs.size) from zg) (by simp) fun hk zk sk => wpAny_pure ⟨_, rfl, ?_⟩))
  replace zk : IsZip hk z TI TO (rawInt he.objs.size) := zk
  have up : ∀ c o, c ≠ z → (he.push { cls := .type "tuple", data := .seq #[x, y] }).get? c = some o → hk.get? c = some o := fun c o n e => sk.extBut c o n (sg.extBut c o n e)
  have tk : IsPair hk he.objs.size x y := up _ _ (Nat.ne_of_gt zlt) (Heap.get?_push_size _ rfl)
  show Q (.ref he.objs.size) _
  rw [hsz] at zk tk ⊢
  exact hQ hk zk (i1e.mv fun o e => up _ o D.i1z (Heap.get?_push_of_some _ e)) (i2e.mv fun o e => up _ o D.i2z (Heap.get?_push_of_some _ e)) tk fun c o n1 n2 n3 n4 e => up c o n1 (Heap.get?_push_of_some _ (ke c o n1 n2 n3 n4 e))
theorem zg_next {f : Bool} {oT : Obj} {Q : Value → Shared → Prop} (D : ZipApart z TI TO i1 i2 l1 l2) (hz : IsZipHeld s.heap z TI TO T f) (hT : s.heap.get? T = some oT) (hTI : IsPair s.heap TI (.ref i1) (.ref i2))
    (h1 : SIt b1 s.heap i1 l1 k1) (h2 : SIt b2 s.heap i2 l2 k2) (hl1 : SSq b1 s.heap l1 xs) (hl2 : SSq b2 s.heap l2 ys) (hx : xs[k1]? = some x) (hy : ys[k2]? = some y)
    (hQ : ∀ h', IsZipHeld h' z TI TO T true → SIt b1 h' i1 l1 (k1 + 1) → SIt b2 h' i2 l2 (k2 + 1) → IsPair h' s.heap.objs.size x y →
      (∀ c o, c ≠ z → c ≠ i1 → c ≠ i2 → s.heap.get? c = some o → h'.get? c = some o) → Q (.ref s.heap.objs.size) { s with heap := h' }) :
    wpAny (model prog w) A (Builtin.«zip.__next__» ⟨[.ref z], []⟩) (fun fin s' => ∃ v, fin = .done (.ret v) ∧ Q v s') E s := by
  show wpAny _ _ (field (.ref z) 2 >>= _) _ _ _
  refine wpAny_bind (wpAny_field hz rfl (x := .bool false) rfl ?_)
  show wpAny _ _ (field (.ref z) 3 >>= _) _ _ _
  refine wpAny_bind (wpAny_field hz rfl (x := .ref TI) rfl (wpAny_bind (wpAny_seqItems hTI rfl ?_)))
  show wpAny _ _ (Builtin.SmallTypes.ownedTupleIsFree (.ref z) >>= _) _ _ _
  refine wpAny_bind (wpAny_tupleHeld_zip hz hT fun ha za sa => ?_)
  have ka : ∀ c o, c ≠ z → s.heap.get? c = some o → ha.get? c = some o := fun c o n e => sa.extBut c o n e
  simp only [Bool.false_eq_true, if_false]
  refine wpAny_bind ?_
  rw [← Array.forIn_toList]
  simp only [List.forIn_cons, List.forIn_nil]
  refine wpAny_bind (wpAny_bind (wpAny_holding ?_))
  show wpAny _ _ (Builtin.SmallTypes.nextOf (.ref i1) >>= _) _ _ _
  refine wpAny_bind (sit_item (s := { s with heap := ha }) (h1.mv fun o e => ka _ o D.i1z e) (hl1.mv fun o e => ka _ o D.l1z e) hx fun hb ib sb => wpAny_pure (wpAny_pure ?_))
  have kb : ∀ c o, c ≠ z → c ≠ i1 → s.heap.get? c = some o → hb.get? c = some o := fun c o n m e => sb.extBut c o m (ka c o n e)
  refine wpAny_bind (wpAny_bind (wpAny_holding ?_))
  show wpAny _ _ (Builtin.SmallTypes.nextOf (.ref i2) >>= _) _ _ _
  refine wpAny_bind (sit_item (s := { s with heap := hb }) (h2.mv fun o e => kb _ o D.i2z D.i12.symm e) (hl2.mv fun o e => kb _ o D.l2z D.l2i1 e) hy fun hc ic sc => wpAny_pure (wpAny_pure (wpAny_pure ?_)))
  show wpAny _ _ (newTuple [x, y] >>= _) _ _ _
  refine wpAny_bind (wpAny_newTuple (wpAny_pure ⟨_, rfl, ?_⟩))
  have hsz : hc.objs.size = s.heap.objs.size := by rw [sc.1, sb.1, sa.1]
  have zc : IsZipHeld hc z TI TO T true := sc.extBut _ _ D.i2z.symm (sb.extBut _ _ D.i1z.symm za)
  have i1c : SIt b1 hc i1 l1 (k1 + 1) := ib.mv fun o e => sc.extBut _ o D.i12 e
  show Q (.ref hc.objs.size) _
  have hp : IsPair (hc.push { cls := .type "tuple", data := .seq #[x, y] }) hc.objs.size x y := Heap.get?_push_size _ rfl
  rw [hsz] at hp ⊢
  exact hQ _ (Heap.get?_push_of_some _ zc) (i1c.mv fun o e => Heap.get?_push_of_some _ e) (ic.mv fun o e => Heap.get?_push_of_some _ e) hp fun c o n1 n2 n3 e => Heap.get?_push_of_some _ (sc.extBut c o n3 (kb c o n1 n2 e))
theorem zg_end {f : Bool} {oT : Obj} {Q : Fin → Shared → Prop} (hh : A.handled = none) (D : ZipApart z TI TO i1 i2 l1 l2) (hz : IsZipHeld s.heap z TI TO T f) (hT : s.heap.get? T = some oT) (hTI : IsPair s.heap TI (.ref i1) (.ref i2))
    (h1 : SIt b1 s.heap i1 l1 k1) (hl1 : SSq b1 s.heap l1 xs) (hx : xs[k1]? = none)
    (hE : ∀ h' e, (∀ c o, c ≠ z → c ≠ i1 → s.heap.get? c = some o → h'.get? c = some o) → (∃ o, h'.get? e = some o ∧ o.cls = .type "StopIteration") → E (.ref e) { s with heap := h' }) :
    wpAny (model prog w) A (Builtin.«zip.__next__» ⟨[.ref z], []⟩) Q E s := by
  show wpAny _ _ (field (.ref z) 2 >>= _) _ _ _
  refine wpAny_bind (wpAny_field hz rfl (x := .bool false) rfl ?_)
  show wpAny _ _ (field (.ref z) 3 >>= _) _ _ _
  refine wpAny_bind (wpAny_field hz rfl (x := .ref TI) rfl (wpAny_bind (wpAny_seqItems hTI rfl ?_)))
  show wpAny _ _ (Builtin.SmallTypes.ownedTupleIsFree (.ref z) >>= _) _ _ _
  refine wpAny_bind (wpAny_tupleHeld_zip hz hT fun ha za sa => ?_)
  simp only [Bool.false_eq_true, if_false]
  refine wpAny_bind ?_
  rw [← Array.forIn_toList]
  simp only [List.forIn_cons, List.forIn_nil]
  refine wpAny_bind (wpAny_bind (wpAny_holding ?_))
  show wpAny _ _ (Builtin.SmallTypes.nextOf (.ref i1) >>= _) _ _ _
  exact wpAny_bind (sit_end (s := { s with heap := ha }) hh (h1.mv fun o e => sa.extBut _ o D.i1z e) (hl1.mv fun o e => sa.extBut _ o D.l1z e) hx fun hb e sb he => hE hb e (fun c o n m q => sb c o m (sa.extBut c o n q)) he)
/-! the making of a zip of a list and a tuple -/
abbrev zmA (h : Heap) (l1 : Addr) : Heap := h.push { cls := .type "list_iterator", data := .fields #[.ref l1, .int 0 0] }
abbrev zmB (h : Heap) (l1 l2 : Addr) : Heap := (zmA h l1).push { cls := .type "tuple_iterator", data := .fields #[.ref l2, .int 0 0] }
abbrev zmC (h : Heap) (l1 l2 : Addr) : Heap := (zmB h l1 l2).push { cls := .type "tuple", data := .seq #[.ref h.objs.size, .ref (zmA h l1).objs.size] }
abbrev zmD (h : Heap) (l1 l2 : Addr) : Heap := (zmC h l1 l2).push { cls := .type "tuple", data := .seq #[.none, .none] }
abbrev zmE (h : Heap) (l1 l2 : Addr) : Heap := (zmD h l1 l2).push { cls := .type "zip", data := .fields #[.none, .bool false, .bool false, .ref (zmB h l1 l2).objs.size, .ref (zmC h l1 l2).objs.size] }
theorem meets_zipLT (l1 l2 : Addr) (xs ys : Array Value) :
    Meets (Builtin.«zip.__new__» ⟨[.type "zip", .ref l1, .ref l2], []⟩) (fun _ R s => s.heap.IsList l1 xs ∧ s.heap.IsTuple l2 ys ∧ R (.ok (.ret (.ref (zmD s.heap l1 l2).objs.size))) { s with heap := zmE s.heap l1 l2 }) :=
  .of_wp fun prog w A R s h => by
    obtain ⟨hp, g, d, tk, os⟩ := s; obtain ⟨hl1, hl2, h⟩ := h
    have hsub := sub_zip
    have hL1 : Heap.IsList (Shared.heap ⟨hp, g, d, tk, os⟩) l1 xs := hl1
    have hL2 : Heap.IsTuple (Shared.heap ⟨zmA hp l1, g, d, tk, os⟩) l2 ys := Heap.IsTuple.push hl2 _
    wp_walk using wpAny_pyIter_list hL1, wpAny_pyIter_tuple hL2
    exact ⟨_, rfl, h⟩
theorem call_zipLT {Q : Value → Shared → Prop} (hl1 : s.heap.IsList l1 xs) (hl2 : s.heap.IsTuple l2 ys)
    (h : ∀ h', IsZip h' (s.heap.objs.size + 4) (s.heap.objs.size + 2) (s.heap.objs.size + 3) .none → IsPair h' (s.heap.objs.size + 2) (.ref s.heap.objs.size) (.ref (s.heap.objs.size + 1)) →
      IsPair h' (s.heap.objs.size + 3) .none .none → h'.IsListIter s.heap.objs.size l1 0 → h'.IsTupleIter (s.heap.objs.size + 1) l2 0 →
      (∀ c o, s.heap.get? c = some o → h'.get? c = some o) → Q (.ref (s.heap.objs.size + 4)) { s with heap := h' }) :
    wpAny (model prog w) A (call (.type "zip") [.ref l1, .ref l2]) Q E s := by
  refine callType_new F.called_zip (by decide) (F.typeCall_zip_2 _ _) (F.newCall_zip_2 _ _) (fun obj => F.args_object_init_3 obj _ _) F.entry_zip_new (meets_zipLT l1 l2 xs ys) ⟨hl1, hl2, ?_⟩
  have nA : (zmA s.heap l1).objs.size = s.heap.objs.size + 1 := Heap.size_push ..
  have nB : (zmB s.heap l1 l2).objs.size = s.heap.objs.size + 2 := by rw [Heap.size_push, nA]
  have nC : (zmC s.heap l1 l2).objs.size = s.heap.objs.size + 3 := by rw [Heap.size_push, nB]
  have nD : (zmD s.heap l1 l2).objs.size = s.heap.objs.size + 4 := by rw [Heap.size_push, nC]
  have upD : ∀ c o, (zmD s.heap l1 l2).get? c = some o → (zmE s.heap l1 l2).get? c = some o := fun c o e => Heap.get?_push_of_some _ e
  have upC : ∀ c o, (zmC s.heap l1 l2).get? c = some o → (zmE s.heap l1 l2).get? c = some o := fun c o e => upD c o (Heap.get?_push_of_some _ e)
  have upB : ∀ c o, (zmB s.heap l1 l2).get? c = some o → (zmE s.heap l1 l2).get? c = some o := fun c o e => upC c o (Heap.get?_push_of_some _ e)
  have upA : ∀ c o, (zmA s.heap l1).get? c = some o → (zmE s.heap l1 l2).get? c = some o := fun c o e => upB c o (Heap.get?_push_of_some _ e)
  have gE : (zmE s.heap l1 l2).get? (zmD s.heap l1 l2).objs.size = some _ := Heap.get?_push_size _ rfl
  have gD : (zmE s.heap l1 l2).get? (zmC s.heap l1 l2).objs.size = some _ := upD _ _ (Heap.get?_push_size _ rfl)
  have gC : (zmE s.heap l1 l2).get? (zmB s.heap l1 l2).objs.size = some _ := upC _ _ (Heap.get?_push_size _ rfl)
  have gB : (zmE s.heap l1 l2).get? (zmA s.heap l1).objs.size = some _ := upB _ _ (Heap.get?_push_size _ rfl)
  have gA : (zmE s.heap l1 l2).get? s.heap.objs.size = some _ := upA _ _ (Heap.get?_push_size _ rfl)
  show _ ∧ _
  rw [nD, nB, nC] at gE
  rw [nC] at gD
  rw [nB, nA] at gC
  rw [nA] at gB
  rw [nD]
  exact ⟨⟨_, gE, rfl⟩, h _ gE gC gD ⟨_, gA, rfl, rfl⟩ ⟨_, gB, rfl, rfl⟩ fun c o e => upA c o (Heap.get?_push_of_some _ e)⟩
/-- such a zip, of one item at least, as the argument of dict() -/
theorem pairArg (D : ZipApart z TI TO i1 i2 l1 l2) (hn : xs.size ≠ 0) (hl : xs.size = ys.size) :
    PairArg prog w "zip" z [z, TI, TO, i1, i2, l1, l2] [z, TO, i1, i2] xs.size (fun i k v => xs[i]? = some k ∧ ys[i]? = some v)
      (fun h => IsZip h z TI TO .none ∧ IsPair h TI (.ref i1) (.ref i2) ∧ (∃ a b, IsPair h TO a b) ∧ SIt b1 h i1 l1 0 ∧ SIt b2 h i2 l2 0 ∧ SSq b1 h l1 xs ∧ SSq b2 h l2 ys) where
  type := fun s ok => ⟨_, ok.1, rfl⟩
  notDict := by decide
  keep := fun h h' ⟨o1, o2, ⟨a, b, o3⟩, o4, o5, o6, o7⟩ hk => ⟨hk _ _ o1, hk _ _ o2, ⟨a, b, hk _ _ o3⟩, o4.mv fun o e => hk _ o e, o5.mv fun o e => hk _ o e, o6.mv fun o e => hk _ o e, o7.mv fun o e => hk _ o e⟩
  there := fun h ⟨o1, o2, ⟨a, c, o3⟩, o4, o5, o6, o7⟩ b hb => by
    simp only [List.mem_cons, List.not_mem_nil, or_false] at hb
    rcases hb with rfl | rfl | rfl | rfl | rfl | rfl | rfl
    · exact ⟨_, o1⟩
    · exact ⟨_, o2⟩
    · exact ⟨_, o3⟩
    · exact o4.there
    · exact o5.there
    · exact o6.there
    · exact o7.there
  sub := fun b hb => by simp at hb ⊢; rcases hb with rfl | rfl | rfl | rfl <;> simp
  noKeys := fun A s Q E hA ok h => getAttrOr_miss_zip ok.1 rfl rfl rfl zip_no_keys (by decide +kernel) hA h
  iter := fun A s d Q E hA ok hd hdf h => by
    obtain ⟨hz, hTI, ⟨a, b, hTO⟩, h1, h2, hl1, hl2⟩ := ok
    simp only [List.mem_cons, List.not_mem_nil, or_false, not_or] at hdf
    obtain ⟨dz, dTI, dTO, d1, d2, dl1, dl2⟩ := hdf
    refine wpAny_pyIter_zip hz (h z [z, TO, i1, i2] (fun i h => IsPair h TI (.ref i1) (.ref i2) ∧ SIt b1 h i1 l1 i ∧ SIt b2 h i2 l2 i ∧ SSq b1 h l1 xs ∧ SSq b2 h l2 ys ∧
      ((i = 0 ∧ IsZip h z TI TO .none ∧ ∃ a b, IsPair h TO a b) ∨ ∃ T f oT, IsZipHeld h z TI TO T f ∧ h.get? T = some oT ∧ T ≠ z ∧ T ≠ i1 ∧ T ≠ i2 ∧ T ≠ d)) s.heap s.toks ?_
      ⟨hTI, h1, h2, hl1, hl2, .inl ⟨rfl, hz, a, b, hTO⟩⟩ (fun _ _ e => e) fun b hb => .inl hb)
    have hTy : ∀ (s : Shared) (o : Obj), s.heap.get? z = some o → o.cls = .type "zip" → s.TypeIs (.ref z) "zip" := fun s o e c => ⟨o, e, c⟩
    refine {
      off := fun hm => ?_
      frame := fun i h₁ h₂ ⟨q1, q2, q3, q4, q5, q6⟩ hk => ⟨hk _ _ (Ne.symm dTI) q1, q2.mv fun o e => hk _ o (Ne.symm d1) e, q3.mv fun o e => hk _ o (Ne.symm d2) e, q4.mv fun o e => hk _ o (Ne.symm dl1) e, q5.mv fun o e => hk _ o (Ne.symm dl2) e, ?_⟩
      item := fun i s₁ Q₁ E₁ hi ⟨q1, q2, q3, q4, q5, q6⟩ hds hQ => ?_
      done := fun s₁ Q₁ E₁ ⟨q1, q2, q3, q4, q5, q6⟩ hQ => ?_ }
    · simp only [List.mem_cons, List.not_mem_nil, or_false] at hm
      rcases hm with e | e | e | e
      · exact dz e
      · exact dTO e
      · exact d1 e
      · exact d2 e
    · rcases q6 with ⟨e0, z0, a, b, t0⟩ | ⟨T, f, oT, z0, t0, r1, r2, r3, r4⟩
      · exact .inl ⟨e0, hk _ _ (Ne.symm dz) z0, a, b, hk _ _ (Ne.symm dTO) t0⟩
      · exact .inr ⟨T, f, oT, hk _ _ (Ne.symm dz) z0, hk _ _ r4 t0, r1, r2, r3, r4⟩
    · have ex := Array.getElem?_eq_getElem hi
      have ey := Array.getElem?_eq_getElem (xs := ys) (i := i) (by omega)
      have lt : ∀ {c o}, s₁.heap.get? c = some o → s₁.heap.objs.size ≠ c := fun e => Nat.ne_of_gt (Heap.lt_size e)
      have n1 : s₁.heap.objs.size ≠ i1 := let ⟨_, e⟩ := q2.there; lt e
      have n2 : s₁.heap.objs.size ≠ i2 := let ⟨_, e⟩ := q3.there; lt e
      rcases q6 with ⟨e0, z0, a, b, t0⟩ | ⟨T, f, oT, z0, t0, r1, r2, r3, r4⟩
      · unfold pyNext
        refine wpAny_bind (wpAny_attempt (wpAny_callSpecial?_slot (name := Str.ofString "__next__") (hTy s₁ _ z0 rfl) F.slot_zip_next (wpAny_call_entry F.slot_zip_next (hTy s₁ _ z0 rfl) F.entry_zip_next
          (zg_first D z0 q1 t0 q2 q3 q4 q5 ex ey fun h' a1 a2 a3 a4 hk => wpAny_pure ?_) (F.args_zip_next_1 _))))
        exact hQ s₁.heap.objs.size _ _ h' s₁.toks ⟨ex, ey⟩ (.inl ⟨_, a4, rfl, _, rfl⟩)
          ⟨hk _ _ D.TIz D.TITO D.TIi1 D.TIi2 q1, a2, a3, q4.mv fun o e => hk _ o D.l1z D.l1TO D.l1i1 D.l1i2 e, q5.mv fun o e => hk _ o D.l2z D.l2TO D.l2i1 D.l2i2 e,
            .inr ⟨s₁.heap.objs.size, false, _, a1, a4, lt z0, n1, n2, Nat.ne_of_gt hds⟩⟩
          fun c o hc e => hk c o (fun x => hc (by simp [x])) (fun x => hc (by simp [x])) (fun x => hc (by simp [x])) (fun x => hc (by simp [x])) e
      · unfold pyNext
        refine wpAny_bind (wpAny_attempt (wpAny_callSpecial?_slot (name := Str.ofString "__next__") (hTy s₁ _ z0 rfl) F.slot_zip_next (wpAny_call_entry F.slot_zip_next (hTy s₁ _ z0 rfl) F.entry_zip_next
          (zg_next D z0 t0 q1 q2 q3 q4 q5 ex ey fun h' a1 a2 a3 a4 hk => wpAny_pure ?_) (F.args_zip_next_1 _))))
        exact hQ s₁.heap.objs.size _ _ h' s₁.toks ⟨ex, ey⟩ (.inl ⟨_, a4, rfl, _, rfl⟩)
          ⟨hk _ _ D.TIz D.TIi1 D.TIi2 q1, a2, a3, q4.mv fun o e => hk _ o D.l1z D.l1i1 D.l1i2 e, q5.mv fun o e => hk _ o D.l2z D.l2i1 D.l2i2 e, .inr ⟨T, true, oT, a1, hk _ _ r1 r2 r3 t0, r1, r2, r3, r4⟩⟩
          fun c o hc e => hk c o (fun x => hc (by simp [x])) (fun x => hc (by simp [x])) (fun x => hc (by simp [x])) e
    · rcases q6 with ⟨e0, _⟩ | ⟨T, f, oT, z0, t0, r1, r2, r3, r4⟩
      · exact absurd e0 hn
      · unfold pyNext
        refine wpAny_bind (wpAny_attempt (wpAny_callSpecial?_slot (name := Str.ofString "__next__") (hTy s₁ _ z0 rfl) F.slot_zip_next (wpAny_call_entry F.slot_zip_next (hTy s₁ _ z0 rfl) F.entry_zip_next
          (zg_end hA D z0 t0 q1 q2 q4 (Array.getElem?_eq_none (Nat.le_refl _)) fun h' e hk he => ?_) (F.args_zip_next_1 _))))
        obtain ⟨o, ho, hc⟩ := he
        refine wpAny_bind (wpAny_isInstance (T := "StopIteration") (b := true) ⟨o, ho, hc⟩ isSubtype_stop ?_)
        exact wpAny_pure (hQ h' s₁.toks fun c o hc e => hk c o (fun x => hc (by simp [x])) (fun x => hc (by simp [x])) e)
end
end ZG
namespace PL
open PySem L2
theorem ints_map' (l : List Nat) : ints? (l.map nD) = some (l.map fun (i : Nat) => (i : Int)) := by rw [nD_ints]; exact ints_map _
/-! ### dict(zip(list of ints, tuple)) -/
def zipK {α : Type} (ks : List Int) (vs : List α) : List (Key × α) := List.zipWith (fun k v => ((Sum.inl k : Key), v)) ks vs
def tDictZip (K : PySem.W.Frag) (te tf : TE) : TE := fun σ H Q => tCons te (tCons tf tNil) σ H fun xs H2 => ∃ (a b : Addr) (ks : List Int) (vs : List V), xs = [.ref a, .ref b] ∧ SqL K H2 a (ks.map V.int) ∧ SqT K H2 b vs ∧ ks.length = vs.length ∧ ks.Nodup ∧ 0 < ks.length ∧ ks.length < 64 ∧ ∀ p, H2 p = none → Q (.ref p) (upd H2 p (.dK (zipK ks vs)))
def wDictZip (we wf : WE) : WE := fun e post => we e fun r e1 => wf e1 fun s e2 => match s with
  | .val (.dat (.tuple ys)) => r.keepIn e2 (match r.av with
    | .dat (.list xs) => ∃ ks, ints? xs = some ks ∧ ks.Nodup ∧ ks.length = ys.length ∧ 0 < ks.length ∧ ks.length < 64 ∧ post (.new (.dic (zipK ks ys))) e2
    | _ => False)
  | _ => False
section
variable {X : Cx} {A : Amb} {K : PySem.W.Frag} {F H : Hp} {te tf : TE} {we wf : WE} {x y : Expr} {p p2 q pos : Pos}
theorem kvR_zip : ∀ {ks : List Int} {vs : List V} {ds : List D}, RDs K F vs ds → KvR K F (zipK ks vs) (zipK ks ds)
  | [], _, _, _ => .nil
  | k :: ks, _, [], .nil => .nil
  | k :: ks, _, d :: ds, .cons h t => .cons ⟨rfl, h⟩ (kvR_zip t)
theorem er_dictZip (h : ER A K te we) (h2 : ER A K tf wf) : ER A K (tDictZip K te tf) (wDictZip we wf) := by
  intro σ F H e post S q Q k
  refine h σ F H e _ S q _ fun v r F1 H1 e1 T1 S1 R1 h1 => ?_
  refine h2 σ F1 H1 e1 _ S1 h1 _ fun u s F2 H2 e2 T2 S2 R2 h2 => ?_
  match s, R2, h2 with
  | .val (.dat (.tuple ys)), R2, h2 =>
    obtain ⟨hk, h3⟩ := Rs.keepIn_iff.mp h2
    have R1' := (R1.step T2 hk).top S2
    obtain ⟨b, vs, ev, f1, g1, rd⟩ := TopR.vtup (v := u) (ds := ys) S2.ex (R2.top S2)
    revert h3
    cases hr : r.av with
    | dat d =>
      cases d with
      | list xs =>
        rintro ⟨ks, hi, nd, hl, h0, hs, hp⟩
        rw [hr] at R1'
        obtain ⟨a, ea, ga⟩ := R1'.ints hi
        have l := rd.length
        refine ⟨a, b, ks, vs, by rw [ea, ev], SqL.of ga, g1, by omega, nd, h0, hs, fun p np => ?_⟩
        exact (S2.okr (post := fun r => post r e2) fun v r F3 H3 T3 S3 R3 p3 => k v r F3 H3 _ ((T1.trans T2).trans T3) S3 (R3.early (T1.trans T2)) p3).new p _ (.dic _) np ⟨_, rfl, kvR_zip rd⟩ hp
      | _ => exact fun h => h.elim
    | _ => exact fun h => h.elim
theorem kv_zip : ∀ {ks : List Int} {ws : List V} {us : List Value}, Vals ws us → KV (zipK ks ws) (List.zipWith (fun (k : Int) (u : Value) => ((Sum.inl k : Key), u)) ks us)
  | [], _, _, _ => .nil
  | k :: ks, [], _, .nil => .nil
  | k :: ks, w :: ws, _, .cons h t => .cons ⟨rfl, h⟩ (kv_zip t)
theorem zipK_keys : ∀ {ks : List Int} {ws : List V}, ks.length ≤ ws.length → (zipK ks ws).map (·.1) = ks.map fun k => (Sum.inl k : Key)
  | [], _, _ => rfl
  | k :: ks, [], h => by simp at h
  | k :: ks, w :: ws, h => by
    have := zipK_keys (ks := ks) (ws := ws) (by simpa using h)
    show _ :: _ = _ :: _
    exact congrArg _ this
theorem merge_nodup : ∀ {more kvs : List (Key × V)}, (more.map (·.1)).Nodup → (∀ k ∈ more.map (·.1), k ∉ kvs.map (·.1)) → mergeK kvs more = kvs ++ more
  | [], kvs, _, _ => by show kvs = kvs ++ []; rw [List.append_nil]
  | (k, v) :: more, kvs, nd, hd => by
    have nd' := List.nodup_cons.mp nd
    have hk : k ∉ kvs.map (·.1) := hd k (by simp)
    have e : putK kvs k v = kvs ++ [(k, v)] := by
      unfold putK
      have : (kvs.any fun kv => decide (kv.1 = k)) = false := by
        rw [List.any_eq_false]
        intro kv hkv
        rw [decide_eq_true_eq]
        exact fun e => hk (List.mem_map.mpr ⟨kv, hkv, e⟩)
      rw [this]; rfl
    show mergeK (putK kvs k v) more = _
    rw [e, merge_nodup nd'.2 fun j hj hm => ?_]
    · rw [List.append_assoc]; rfl
    · rw [List.map_append, List.mem_append] at hm
      rcases hm with hm | hm
      · exact hd j (List.mem_cons_of_mem _ hj) hm
      · have : j = k := by simpa using hm
        subst this
        exact nd'.1 hj
theorem pe_dictZip {tl tt : TE} (hc : X.calm = true) (hg : Gl X "dict") (hm : X.mg "dict" = none) (hg2 : Gl X "zip") (hm2 : X.mg "zip" = none) (hr : X.A.units + 64 < cLine) (h : PE X x te) (h2 : PE X y tf)
    (na : starEach [x, y] X.env = (false, eval x X.env) :: starEach [y] X.env := by rfl) (nb : starEach [y] X.env = (false, eval y X.env) :: starEach [] X.env := by rfl) (hpl : (backTo q (starEach [y] X.env)).any (·.1) = false := by rfl)
    (nc : starEach [.Call (.Name "zip" p2) [x, y] [] q] X.env = (false, eval (.Call (.Name "zip" p2) [x, y] [] q) X.env) :: starEach [] X.env := by rfl) :
    PE X (.Call (.Name "dict" p) [.Call (.Name "zip" p2) [x, y] [] q] [] pos) (tDictZip X.K te tf) := by
  refine ⟨fun pins s σ H Q I hq => ?_⟩
  refine PyProof.Rows.Call_ (ld_blt I hg hm PyProof.Rows.boot_dict (PyProof.Rows.callWith_type1 (PyProof.Rows.args_cons ?_ nc) nc))
  have ha : PA X [x, y] (tCons te (tCons tf tNil)) := pa_cons h (pa_cons h2 pa_nil nb) na
  refine PyProof.Rows.Call_ (ld_blt I hg2 hm2 PyProof.Rows.boot_zip (PyProof.Rows.callWith_type1 (thn (ha.run q pins s σ H _ I hq) fun us s1 ⟨vs, H1, I1, r1, q1⟩ => ?_) na hpl))
  obtain ⟨a, b, ks, ws, rfl, hqx, hqy, hl, nd, h0, hlt, kq⟩ := q1
  obtain rfl : us = [.ref a, .ref b] := by
    cases r1 with
    | cons r rr =>
      cases rr with
      | cons r' rr =>
        cases rr
        cases r
        cases r'
        rfl
  obtain ⟨its, rv, p1, _⟩ := I1.list hqx
  obtain ⟨its2, rv2, p2, _⟩ := I1.tuple hqy
  have l1 : its.length = ks.length := by have := rv.length; rw [List.length_map] at this; omega
  have l2 : its2.length = ws.length := by have := rv2.length; omega
  have pl1 := p1.isList
  have pl2 : s1.heap.IsTuple b its2.toArray := p2
  have lt1 : a < s1.heap.objs.size := p1.lt
  have lt2 : b < s1.heap.objs.size := p2.lt
  refine ZG.call_zipLT pl1 pl2 fun h' hz hTI hTO hi1 hi2 hk => PyProof.Rows.args_nil ?_
  have I2 : L2.Inv X pins σ H1 { s1 with heap := h' } := I1.kept (t' := s1.toks) hk
  have D := PySem.W.ktu_apart s1.heap.objs.size a b lt1 lt2
  have P := ZG.pairArg (prog := X.prog) (w := X.w) (b1 := true) (b2 := false) (xs := its.toArray) (ys := its2.toArray) D (by rw [List.size_toArray]; omega) (by rw [List.size_toArray, List.size_toArray]; omega)
  have hrel : ∀ (i : Nat) (k v : Value), its.toArray[i]? = some k ∧ its2.toArray[i]? = some v → ∃ key, (List.zipWith (fun (k : Int) (u : Value) => ((Sum.inl k : Key), u)) ks its2)[i]? = some (key, v) ∧ (mixKind X.prog X.w).is key k = true := by
    rintro i k v ⟨e1, e2⟩
    have e1' : its[i]? = some k := by simpa using e1
    have e2' : its2[i]? = some v := by simpa using e2
    have hi : i < ks.length := by have := (List.getElem?_eq_some_iff.mp e1').1; omega
    obtain ⟨u, hu, ru⟩ := Vals.get (i := i) (x := V.int ks[i]) rv (by rw [List.getElem?_map, List.getElem?_eq_getElem hi]; rfl)
    rw [e1'] at hu
    cases hu
    obtain ⟨t, rfl⟩ := ru
    refine ⟨.inl ks[i], ?_, mixKind_int X.prog X.w ks[i] t⟩
    rw [List.getElem?_zipWith, List.getElem?_eq_getElem hi, e2']
  refine call_dict_pairs (knd := mixKind X.prog X.w) (kvs := List.zipWith (fun (k : Int) (u : Value) => ((Sum.inl k : Key), u)) ks its2) P (I2.ok.hd hc) ⟨hz, hTI, ⟨_, _, hTO⟩, hi1, hi2, pl1.at fun o e => hk _ o e, pl2.at fun o e => hk _ o e⟩ ⟨by rw [List.length_zipWith, List.size_toArray]; omega, hrel⟩ (Nat.le_trans (show its.toArray.size ≤ 100000 by rw [List.size_toArray]; omega) line5) fun h2 tk dd hk2 => ?_
  have lz : (zipK ks ws).length ≤ sizeLine := by
    unfold zipK
    rw [List.length_zipWith]
    exact Nat.le_trans (by omega) line5
  have kv : KV (zipK ks ws) (merged [] (List.zipWith (fun (k : Int) (u : Value) => ((Sum.inl k : Key), u)) ks its2)) := by
    have r0 := kv_zip (ks := ks) rv2
    have := KV.merge r0 (kvs := []) (vs := []) .nil
    rwa [merge_nodup (more := zipK ks ws) (kvs := []) (by rw [zipK_keys (by omega)]; exact List.Pairwise.map _ (fun a b h => by intro e; injection e with e; exact h e) nd) (fun k _ h => by cases h), List.nil_append] at this
  have hnS : (h'.objs.size == sysModules) = false := beq_eq_false_iff_ne.mpr (Ne.symm (Nat.ne_of_lt I2.big))
  have hf : ∀ c, c ∈ [s1.heap.objs.size + 4, s1.heap.objs.size + 3, s1.heap.objs.size, s1.heap.objs.size + 1] → FpOk X pins H1 c := fun c hcm => by
    have hle : s1.heap.objs.size ≤ c := by
      simp only [List.mem_cons, List.not_mem_nil, or_false] at hcm
      rcases hcm with z | z | z | z <;> (rw [z]; first | exact Nat.le_refl _ | exact Nat.le_add_right _ _)
    exact I1.fpOk hle (I1.hok.fresh hle)
  have I3 := I2.turnedNew (t' := tk) (ob := .dK (zipK ks ws)) hk2 hf (Nat.le_refl _) (dk_new lz hnS kv dd)
  exact ⟨.ref h'.objs.size, _, I3, rfl, kq _ (I2.hok.fresh (Nat.le_refl _))⟩
theorem pd_dictZip (hc : X.calm = true) (hg : Gl X "dict") (hm : X.mg "dict" = none) (hg2 : Gl X "zip") (hm2 : X.mg "zip" = none) (hr : X.A.units + 64 < cLine) (h : PD X A x te we) (h2 : PD X A y tf wf)
    (na : starEach [x, y] X.env = (false, eval x X.env) :: starEach [y] X.env := by rfl) (nb : starEach [y] X.env = (false, eval y X.env) :: starEach [] X.env := by rfl) (hpl : (backTo q (starEach [y] X.env)).any (·.1) = false := by rfl)
    (nc : starEach [.Call (.Name "zip" p2) [x, y] [] q] X.env = (false, eval (.Call (.Name "zip" p2) [x, y] [] q) X.env) :: starEach [] X.env := by rfl) :
    PD X A (.Call (.Name "dict" p) [.Call (.Name "zip" p2) [x, y] [] q] [] pos) (tDictZip X.K te tf) (wDictZip we wf) := ⟨pe_dictZip (tl := te) (tt := te) hc hg hm hg2 hm2 hr h.pe h2.pe na nb hpl nc, er_dictZip h.er h2.er⟩
end
end PL

namespace PL
open PySem L2
/-! ### the laws' other deck: a list and a count -/
structure DeckA (d c0 : Addr) (is : List Int) (n : Int) (H : Hp) : Prop where
  hd : H d = some (.lst [.ref c0, .int n])
  h0 : H c0 = some (.lst (is.map V.int))
  il : is.length ≤ 64
  ip : ∀ i ∈ is, 0 ≤ i
  n0 : d ≠ c0
def amA (d c0 : Addr) : Amb where
  rs := fun _ => [d, c0]
  RI := fun g _ H => ∃ is n, DeckA d c0 is n H ∧ 0 ≤ n ∧ n ≤ (g.k : Int)
  st := fun n F F' H H' _ h ⟨is, m, D, q⟩ => ⟨is, m, ⟨(h d (by simp)).trans D.hd, (h c0 (by simp)).trans D.h0, D.il, D.ip, D.n0⟩, q⟩
  hs := fun n F H ⟨is, m, D, _⟩ a ha => by
    simp only [List.mem_cons, List.not_mem_nil, or_false] at ha
    rcases ha with e | e
    · subst e; rw [D.hd]; simp
    · subst e; rw [D.h0]; simp
theorem DeckA.new {d c0 p : Addr} {is : List Int} {n : Int} {H : Hp} {o : HO} (D : DeckA d c0 is n H) (hp : H p = none) : DeckA d c0 is n (upd H p o) :=
  ⟨by rw [upd_ne (ne_of_none D.hd hp)]; exact D.hd, by rw [upd_ne (ne_of_none D.h0 hp)]; exact D.h0, D.il, D.ip, D.n0⟩
theorem DeckA.setN {d c0 : Addr} {is : List Int} {n m : Int} {H : Hp} (D : DeckA d c0 is n H) : DeckA d c0 is m (upd H d (.lst [.ref c0, .int m])) :=
  ⟨upd_same, by rw [upd_ne D.n0.symm]; exact D.h0, D.il, D.ip, D.n0⟩
theorem DeckA.set0 {d c0 : Addr} {is is' : List Int} {n : Int} {H : Hp} (D : DeckA d c0 is n H) (hl : is'.length ≤ 64) (hp : ∀ i ∈ is', 0 ≤ i) : DeckA d c0 is' n (upd H c0 (.lst (is'.map V.int))) :=
  ⟨by rw [upd_ne D.n0]; exact D.hd, upd_same, hl, hp, D.n0⟩
end PL

namespace PL
open PySem L2
/-! ### objects beside a deck -/
structure Bse where
  rs : List Addr
  RI : Nat → Hp → Prop
  st : ∀ k H H', (∀ a ∈ rs, H' a = H a) → RI k H → RI k H'
  hs : ∀ k H, RI k H → ∀ a ∈ rs, H a ≠ none
def bseB (d c0 c1 : Addr) : Bse := ⟨[d, c0, c1], fun _ H => ∃ is js n, DeckB d c0 c1 is js n H, fun k H H' h r => (amB d c0 c1).st ⟨k, [], []⟩ H H H H' (Ex.refl _) h r, fun k H r => (amB d c0 c1).hs ⟨k, [], []⟩ H H r⟩
def bseA (d c0 : Addr) : Bse := ⟨[d, c0], fun k H => ∃ is n, DeckA d c0 is n H ∧ 0 ≤ n ∧ n ≤ (k : Int), fun k H H' h r => (amA d c0).st ⟨k, [], []⟩ H H H H' (Ex.refl _) h r, fun k H r => (amA d c0).hs ⟨k, [], []⟩ H H r⟩
abbrev FsR (K : PySem.W.Frag) (F : Hp) : List (Str × V) → List (Str × Av) → Prop := Paired fun (x : Str × V) (y : Str × Av) => x.1 = y.1 ∧ RelA K F x.2 y.2
/-- an object stands as told -/
def ObOk (K : PySem.W.Frag) (F H : Hp) (o : ObS) : Prop :=
  ∃ vs : List (Str × V), H o.ad = some (.ins o.cl o.dx vs) ∧ H o.dx = some (.own o.ad) ∧ FsR K F vs o.fs
def rsG (B : Bse) (g : Gh) : List Addr := B.rs ++ (g.os.flatMap fun o => [o.ad, o.dx]) ++ g.cs.map (·.1)
structure GOk (K : PySem.W.Frag) (B : Bse) (g : Gh) (F H : Hp) : Prop where
  b : B.RI g.k H
  nd : (rsG B g).Nodup
  os : ∀ o ∈ g.os, ObOk K F H o
  lv : ∀ c ∈ g.cs, H c.1 ≠ none
def amO (K : PySem.W.Frag) (B : Bse) : Amb where
  rs := rsG B
  RI := fun g F H => GOk K B g F H
  st := fun g F F' H H' x h r => by
    refine ⟨B.st _ _ _ (fun a ha => h a (by simp [rsG, ha])) r.b, r.nd, fun o ho => ?_, fun c hc => ?_⟩
    · obtain ⟨vs, h1, h2, h3⟩ := r.os o ho
      have m : ∀ a, a = o.ad ∨ a = o.dx → a ∈ rsG B g := fun a ha => by
        unfold rsG
        refine List.mem_append_left _ (List.mem_append_right _ (List.mem_flatMap.mpr ⟨o, ho, ?_⟩))
        rcases ha with e | e <;> simp [e]
      exact ⟨vs, (h _ (m _ (.inl rfl))).trans h1, (h _ (m _ (.inr rfl))).trans h2, Paired.mapP h3 fun _ _ z => ⟨z.1, RelA.ext x z.2⟩⟩
    · have m : c.1 ∈ rsG B g := by
        unfold rsG
        exact List.mem_append_right _ (List.mem_map.mpr ⟨c, hc, rfl⟩)
      rw [h _ m]; exact r.lv c hc
  hs := fun g F H r a ha => by
    unfold rsG at ha
    rcases List.mem_append.mp ha with ha | ha
    · rcases List.mem_append.mp ha with ha | ha
      · exact B.hs _ _ r.b a ha
      · obtain ⟨o, ho, hm⟩ := List.mem_flatMap.mp ha
        obtain ⟨vs, h1, h2, _⟩ := r.os o ho
        simp only [List.mem_cons, List.not_mem_nil, or_false] at hm
        rcases hm with e | e
        · subst e; rw [h1]; simp
        · subst e; rw [h2]; simp
    · obtain ⟨c, hc, e⟩ := List.mem_map.mp ha
      subst e
      exact r.lv c hc
/-! ### an attribute read -/
def wFld (C : Addr) (f : Str) (we : WE) : WE := fun e post => we e fun r e1 => ∃ (i : Nat) (ob : ObS), e1.n.os[i]? = some ob ∧ ob.cl = C ∧ r = .val (.raw (.ref ob.ad)) ∧ ∃ a, ob.fs.lookup f = some a ∧ post (.val a) e1
/-- a container of the ambient, by what refers to it -/
def wLend (we : WE) : WE := fun e post => we e fun r e1 => match r with
  | .val (.raw (.ref p)) => ∃ (j : Nat) (o : Ow), e1.n.cs[j]? = some (p, o) ∧ post (.lent p j o) e1
  | _ => False
theorem look_fs {R : V → Av → Prop} {f : Str} {y : Av} : ∀ {vs : List (Str × V)} {fs : List (Str × Av)}, Paired (fun (x : Str × V) (y : Str × Av) => x.1 = y.1 ∧ R x.2 y.2) vs fs → fs.lookup f = some y → ∃ v, vs.lookup f = some v ∧ R v y
  | [], _, .nil, h => by cases h
  | (a, v) :: vs, _, .cons (b := b) h t, q => by
    obtain ⟨h1, h2⟩ := h
    have h1 : a = b.1 := h1
    rw [show (b :: _ : List (Str × Av)) = (b.1, b.2) :: _ from rfl, List.lookup_cons] at q
    rw [List.lookup_cons, h1]
    cases c : f == b.1 with
    | true =>
      rw [c] at q
      cases q
      exact ⟨v, rfl, h2⟩
    | false =>
      rw [c] at q
      exact look_fs t q
theorem look_no {R : V → Av → Prop} {f : Str} : ∀ {vs : List (Str × V)} {fs : List (Str × Av)}, Paired (fun (x : Str × V) (y : Str × Av) => x.1 = y.1 ∧ R x.2 y.2) vs fs → fs.lookup f = none → vs.lookup f = none
  | [], _, .nil, h => rfl
  | (a, v) :: vs, _, .cons (b := b) h t, q => by
    obtain ⟨h1, h2⟩ := h
    have h1 : a = b.1 := h1
    rw [show (b :: _ : List (Str × Av)) = (b.1, b.2) :: _ from rfl, List.lookup_cons] at q
    rw [List.lookup_cons, h1]
    cases c : f == b.1 with
    | true => rw [c] at q; cases q
    | false => rw [c] at q; exact look_no t q
theorem er_fld {K : PySem.W.Frag} {B : Bse} {C : Addr} {f : Str} {te : TE} {we : WE} (hc : Cls K C) (hn : NoAttr K C f) (h : ER (amO K B) K te we) : ER (amO K B) K (tFld K te f) (wFld C f we) := by
  intro σ F H e post S q Q k
  refine h σ F H e _ S q _ fun x r F1 H1 e1 T1 S1 R1 ⟨i, ob, hi, hC, hr, y, hl, p1⟩ => ?_
  subst hr
  have ex : x = V.ref ob.ad := R1
  subst ex
  have G : GOk K B e1.n F1 H1 := S1.ri.ri
  obtain ⟨vs, g1, g2, g3⟩ := G.os ob (List.mem_of_getElem? hi)
  rw [hC] at g1
  obtain ⟨v, hv, rv⟩ := look_fs g3 hl
  exact ⟨ob.ad, C, ob.dx, vs, v, rfl, g1, hc, hn, hv, k v (.val y) F1 H1 e1 T1 S1 rv p1⟩
theorem pd_fld {X : Cx} {B : Bse} {C : Addr} {f : Str} {ex : Expr} {te : TE} {we : WE} {pos : Pos} (hc : Cls X.K C) (hn : NoAttr X.K C f) (h : PD X (amO X.K B) ex te we) (hb : attributeBase ex f X.env (eval ex X.env) = eval ex X.env := by rfl) :
    PD X (amO X.K B) (.Attribute ex f pos) (tFld X.K te f) (wFld C f we) := ⟨pe_fld h.pe hb, er_fld hc hn h.er⟩
theorem pd_lend {X : Cx} {A : Amb} {ex : Expr} {te : TE} {we : WE} (h : PD X A ex te we) : PD X A ex te (wLend we) := ⟨h.pe, by
  intro σ F H e post S q Q k
  refine h.er σ F H e _ S q _ fun x r F1 H1 e1 T1 S1 R1 p1 => ?_
  revert p1
  cases r with
  | val a =>
    cases a with
    | raw u =>
      cases u with
      | ref p => exact fun ⟨j, o, hj, p1⟩ => k x (.lent p j o) F1 H1 e1 T1 S1 ⟨R1, hj⟩ p1
      | _ => exact fun h => h.elim
    | _ => exact fun h => h.elim
  | _ => exact fun h => h.elim⟩
/-! ### an attribute stored -/
def putA (f : Str) (v : Av) : List (Str × Av) → List (Str × Av)
  | [] => [(f, v)]
  | (g, x) :: r => if g = f then (g, v) :: r else (g, x) :: putA f v r
theorem FsR.put {K : PySem.W.Frag} {F : Hp} {f : Str} {v : V} {a : Av} (r : RelA K F v a) : ∀ {vs : List (Str × V)} {fs : List (Str × Av)}, FsR K F vs fs → FsR K F (putF f v vs) (putA f a fs)
  | [], _, .nil => .cons ⟨rfl, r⟩ .nil
  | (g, x) :: vs, _, .cons (b := b) (l₂ := fs) h t => by
    obtain ⟨h1, h2⟩ := h
    have h1 : g = b.1 := h1
    subst h1
    show FsR K F (if b.1 = f then (b.1, v) :: vs else (b.1, x) :: putF f v vs) (if b.1 = f then (b.1, a) :: fs else (b.1, b.2) :: putA f a fs)
    by_cases c : b.1 = f
    · rw [if_pos c, if_pos c]; exact .cons ⟨rfl, r⟩ t
    · rw [if_neg c, if_neg c]; exact .cons ⟨rfl, h2⟩ (FsR.put r t)
/-- an object of the ghost is changed -/
def Gh.setO (g : Gh) (i : Nat) (ob : ObS) : Gh := ⟨g.k, g.os.set i ob, g.cs⟩
def ObS.put (ob : ObS) (f : Str) (a : Av) : ObS := ⟨ob.ad, ob.cl, ob.dx, putA f a ob.fs⟩
def wSetF (C : Addr) (f : Str) (wo wv : WE) : WS := fun E e => wv e fun r e1 => r.fre (wo (frz1 e1 r) fun s e2 => ∃ (i : Nat) (ob : ObS), e2.n.os[i]? = some ob ∧ ob.cl = C ∧ s = .val (.raw (.ref ob.ad)) ∧ ob.fs.length < 900 ∧ E.nx ⟨e2.sl, e2.n.setO i (ob.put f r.av)⟩)
theorem rsG_set {B : Bse} {g : Gh} {i : Nat} {ob ob' : ObS} (h : g.os[i]? = some ob) (h1 : ob'.ad = ob.ad) (h2 : ob'.dx = ob.dx) : rsG B (g.setO i ob') = rsG B g := by
  have e : ∀ (os : List ObS) (i : Nat), os[i]? = some ob → (os.set i ob').flatMap (fun o => [o.ad, o.dx]) = os.flatMap fun o => [o.ad, o.dx] := by
    intro os
    induction os with
    | nil => intro i h; simp at h
    | cons o os ih =>
      intro i h
      cases i with
      | zero =>
        simp at h
        subst h
        show [ob'.ad, ob'.dx] ++ _ = [o.ad, o.dx] ++ _
        rw [h1, h2]
      | succ i =>
        rw [List.set_cons_succ, List.flatMap_cons, List.flatMap_cons, ih i (by simpa using h)]
  unfold rsG Gh.setO
  rw [e _ _ h]
theorem nd_obj {os : List ObS} {i j : Nat} {a b : ObS} (nd : (os.flatMap fun o => [o.ad, o.dx]).Nodup) (hi : os[i]? = some a) (hj : os[j]? = some b) (h : i ≠ j) : b.ad ≠ a.ad ∧ b.dx ≠ a.ad := by
  induction os generalizing i j with
  | nil => simp at hi
  | cons o os ih =>
    have nd' : ([o.ad, o.dx] ++ os.flatMap fun o => [o.ad, o.dx]).Nodup := nd
    obtain ⟨n1, n2, n3⟩ := List.nodup_append.mp nd'
    have mem : ∀ {x : ObS} {k : Nat}, os[k]? = some x → x.ad ∈ (os.flatMap fun o => [o.ad, o.dx]) ∧ x.dx ∈ (os.flatMap fun o => [o.ad, o.dx]) := fun {x k} hk => ⟨List.mem_flatMap.mpr ⟨x, List.mem_of_getElem? hk, by simp⟩, List.mem_flatMap.mpr ⟨x, List.mem_of_getElem? hk, by simp⟩⟩
    cases i with
    | zero =>
      cases j with
      | zero => exact absurd rfl h
      | succ j =>
        simp at hi hj
        subst hi
        obtain ⟨m1, m2⟩ := mem hj
        exact ⟨fun z => n3 o.ad (by simp) _ m1 z.symm, fun z => n3 o.ad (by simp) _ m2 z.symm⟩
    | succ i =>
      cases j with
      | zero =>
        simp at hi hj
        subst hj
        obtain ⟨m1, m2⟩ := mem hi
        exact ⟨fun z => n3 o.ad (by simp) _ m1 z, fun z => n3 o.dx (by simp) _ m1 z⟩
      | succ j =>
        simp at hi hj
        exact ih n2 hi hj fun z => h (by omega)
/-- the heap where an object has another attribute -/
theorem GOk.setO {K : PySem.W.Frag} {B : Bse} {g : Gh} {F H : Hp} {i : Nat} {ob : ObS} {f : Str} {v : V} {a : Av} (G : GOk K B g F H) (hi : g.os[i]? = some ob) (r : RelA K F v a) :
    ∃ vs, H ob.ad = some (.ins ob.cl ob.dx vs) ∧ vs.length = ob.fs.length ∧ GOk K B (g.setO i (ob.put f a)) F (upd H ob.ad (.ins ob.cl ob.dx (putF f v vs))) := by
  obtain ⟨vs, g1, g2, g3⟩ := G.os ob (List.mem_of_getElem? hi)
  have nd := G.nd
  unfold rsG at nd
  obtain ⟨n1, n2, n3⟩ := List.nodup_append.mp nd
  obtain ⟨m1, m2, m3⟩ := List.nodup_append.mp n1
  have ma : ob.ad ∈ (g.os.flatMap fun o => [o.ad, o.dx]) := List.mem_flatMap.mpr ⟨ob, List.mem_of_getElem? hi, by simp⟩
  refine ⟨vs, g1, Paired.length g3, ⟨B.st _ _ _ (fun x hx => upd_ne fun z => m3 x hx _ ma z) G.b, by rw [rsG_set (ob' := ob.put f a) hi rfl rfl]; exact G.nd, fun o ho => ?_, fun c hc => ?_⟩⟩
  · obtain ⟨j, hj⟩ := List.getElem?_of_mem ho
    have hj' : (g.os.set i (ob.put f a))[j]? = some o := hj
    by_cases c : i = j
    · subst c
      have li : i < g.os.length := (List.getElem?_eq_some_iff.mp hi).1
      rw [List.getElem?_set_self li] at hj'
      cases hj'
      have nx : ob.dx ≠ ob.ad := fun z => by rw [z, g1] at g2; cases g2
      exact ⟨putF f v vs, upd_same, (by show upd H ob.ad _ ob.dx = _; rw [upd_ne nx]; exact g2), FsR.put r g3⟩
    · rw [List.getElem?_set_ne c] at hj'
      obtain ⟨ws, k1, k2, k3⟩ := G.os o (List.mem_of_getElem? hj')
      obtain ⟨d1, d2⟩ := nd_obj m2 hi hj' c
      exact ⟨ws, by rw [upd_ne d1]; exact k1, by rw [upd_ne d2]; exact k2, k3⟩
  · by_cases z : c.1 = ob.ad
    · rw [z, upd_same]; simp
    · rw [upd_ne z]; exact G.lv c hc
theorem Sta.setO {K : PySem.W.Frag} {B : Bse} {σ : St} {F H : Hp} {e : En} {i : Nat} {ob : ObS} {f : Str} {v : V} {a : Av} (S : Sta (amO K B) K σ F H e) (hi : e.n.os[i]? = some ob) (r : RelA K F v a) :
    ∃ vs, H ob.ad = some (.ins ob.cl ob.dx vs) ∧ vs.length = ob.fs.length ∧ Sta (amO K B) K σ F (upd H ob.ad (.ins ob.cl ob.dx (putF f v vs))) ⟨e.sl, e.n.setO i (ob.put f a)⟩ ∧
      Stp (amO K B) σ F H e F (upd H ob.ad (.ins ob.cl ob.dx (putF f v vs))) ⟨e.sl, e.n.setO i (ob.put f a)⟩ := by
  obtain ⟨vs, g1, g2, g3⟩ := GOk.setO (f := f) (v := v) (a := a) S.ri.ri hi r
  have er : (amO K B).rs (e.n.setO i (ob.put f a)) = (amO K B).rs e.n := rsG_set hi rfl rfl
  have mr : ob.ad ∈ (amO K B).rs e.n := by
    show ob.ad ∈ rsG B e.n
    unfold rsG
    exact List.mem_append_left _ (List.mem_append_right _ (List.mem_flatMap.mpr ⟨ob, List.mem_of_getElem? hi, by simp⟩))
  have hF := S.rsF _ mr
  refine ⟨vs, g1, g2, ⟨S.len, fun x o q => by rw [upd_ne (ne_of_none q hF)]; exact S.ex x o q, fun j s hs => (S.at_ j s hs).ext (Ex.refl _) fun p e1 ⟨o, ho⟩ f g => ⟨f, upd_ne fun z => ?_⟩, S.sep, ⟨g3, fun c hc => ?_⟩, by rw [er]; exact S.rsF, fun j p h => by rw [er]; exact S.rsO j p h⟩,
    ⟨Ex.refl _, fun x o q hr _ => ⟨by rw [upd_ne fun z => hr (by rw [z]; exact mr)]; exact q, rfl⟩, fun _ _ h => h, fun x hx => by
      by_cases c : x = ob.ad
      · subst c; rw [upd_same]; simp
      · rw [upd_ne c]; exact hx, fun x hx => by rw [er] at hx; exact .inl hx⟩⟩
  · subst z
    exact S.rsO j _ ⟨⟨o, by rw [← ho]; exact hs⟩, e1⟩ mr
  · obtain ⟨c1, c2, ho, c3, c4⟩ := S.ri.cs c hc
    refine ⟨by rw [er]; exact c1, c2, ho, ?_, c4⟩
    rw [upd_ne]
    · exact c3
    · intro z
      rw [z, g1] at c3
      cases c3
      match c.2, c4 with
      | .lst ds, ⟨_, z, _⟩ => cases z
      | .dic ds, ⟨_, z, _⟩ => cases z
theorem sr_setF {K : PySem.W.Frag} {B : Bse} {W : WX} {C : Addr} {f : Str} {te tv : TE} {we wv : WE} (hc : Cls K C) (hn : NoAttr K C f) (ho : ER (amO K B) K te we) (hv : ER (amO K B) K tv wv) : SR (amO K B) K W (sFld K te tv f) (wSetF C f we wv) := fun g0 F0 H0 σ F H e E D S q R =>
  hv σ F H e _ S.sta q _ fun y r F1 H1 e1 T1 S1 R1 q1 => by
    obtain ⟨hf, q1⟩ := Rs.fre_iff.mp q1
    obtain ⟨F2, B2, S2, x2, rel, _⟩ := freeze1 hf T1 S1 (.inr R1)
    refine ho σ F2 H1 _ _ S2 q1 _ fun x s F3 H3 e3 T3 S3 R3 ⟨i, ob, hi, hC, hs, hl, q3⟩ => ?_
    subst hs
    have ex : x = V.ref ob.ad := R3
    subst ex
    obtain ⟨vs, g1, g2, S4, T4⟩ := S3.setO (f := f) hi (RelA.ext T3.ex rel)
    rw [hC] at g1 S4 T4
    have B4 := (B2.trans T3).trans T4
    exact ⟨ob.ad, C, ob.dx, vs, rfl, g1, hc, hn, by omega, R.nx σ F3 _ _ (S.step B4 S4) B4.ex q3⟩
theorem psd_setF {X : Cx} {B : Bse} {W : WX} {C : Addr} {f : Str} {o value : Expr} {te tv : TE} {we wv : WE} {pos pos' : Pos} (hc : Cls X.K C) (hn : NoAttr X.K C f) (ho : PD X (amO X.K B) o te we) (hv : PD X (amO X.K B) value tv wv)
    (hs : swapsWith value (some (.Attribute o f pos')) pos.line X.env = pure false := by rfl) : PSD X (amO X.K B) W (.Assign [.Attribute o f pos'] value pos) (sFld X.K te tv f) (wSetF C f we wv) := ⟨ps_fld ho.pe hv.pe hs, sr_setF hc hn ho.er hv.er⟩
theorem setO_get {g : Gh} {i : Nat} {ob ob' : ObS} (h : g.os[i]? = some ob) : (g.setO i ob').os[i]? = some ob' := List.getElem?_set_self (List.getElem?_eq_some_iff.mp h).1
theorem setO_setO {g : Gh} {i : Nat} {a b : ObS} : (g.setO i a).setO i b = g.setO i b := by
  unfold Gh.setO
  rw [List.set_set]
end PL

namespace PL
open PySem L2
/-! ### an expression that may raise -/
abbrev XP := Value → List (Str × D) → En → Prop
abbrev WEX := XP → WE
def ERX (A : Amb) (K : PySem.W.Frag) (W : WX) (te : TE) (w : WEX) : Prop :=
  ∀ (σ : St) (F H : Hp) (e : En) (xp : XP) (post : Rs → En → Prop), Sta A K σ F H e → w xp e post → ∀ Q : VK,
    (∀ v r F' H' e', Stp A σ F H e F' H' e' → Sta A K σ F' H' e' → RsR K A σ H F' H' e' v r → post r e' → Q v H') →
    (∀ c d fs F' H' e', Stp A σ F H e F' H' e' → Sta A K σ F' H' e' → XdR K A H e'.n F' H' d fs → xp c fs e' → W c d σ H') → te σ H Q
structure PDX (X : Cx) (A : Amb) (W : WX) (ex : Expr) (te : TE) (w : WEX) : Prop where
  pe : PE X ex te
  er : ERX A X.K W te w
section
variable {X : Cx} {A : Amb} {W : WX} {K : PySem.W.Frag} {σ σ' : St} {F F' F1 H H' H1 F0 H0 Fn : Hp} {g0 : Gh} {e e' : En} {v : V} {a : Av} {ex : Expr} {te : TE} {we : WEX} {pos : Pos} {g : TG} {wg : WG} {ks : List Nat} {n : Gh}
theorem XdR.early {d : Option Addr} {fs : List (Str × D)} (h : XdR K A H1 n F H d fs) (k : ∀ p, H1 p = none → H0 p = none) : XdR K A H0 n F H d fs := by
  cases d with
  | none => exact h
  | some d => obtain ⟨h1, h2⟩ := h; exact ⟨k d h1, h2⟩
theorem sr_setX {i : Nat} (h : ERX A K W te we) : SR A K W (tAsg te (gName i)) (fun E e => wSet i (we E.ex) E e) := fun g0 F0 H0 σ F H e E D S q R =>
  h σ F H e _ _ S.sta q _ (fun v r F1 H1 e1 T1 S1 R1 p1 => by
    have S' := S.step T1 S1
    match r, R1, p1 with
    | .val a, R1, p1 => exact R.nx _ F1 H1 _ (S'.setIm i R1) T1.ex p1
    | .new o, ⟨p, ho, ev, h0, f, g, q, nr, no⟩, p1 =>
      subst ev
      obtain ⟨S2, ow⟩ := S1.setOw i f g q nr no
      exact R.nx _ F1 H1 _ ⟨S2, S'.fin, fun j p' z => by
        rcases ow j p' z with ⟨_, z2⟩ | ⟨z2, _⟩
        · subst z2; exact S.nil0 h0
        · exact S'.fr j p' z2⟩ T1.ex p1) fun c d fs F1 H1 e1 T1 S1 R1 p1 => R.ex σ F1 H1 e1 c d fs (S.step T1 S1) T1.ex (R1.early fun p hp => S.nil0 hp) p1
theorem psd_setX {i : Nat} {x : Str} {px : Pos} (hN : X.N.Nodup) (hi : X.N[i]? = some x) (hx : Loc X.env.scope x) (h : PDX X A W ex te we) (hs : swapsWith ex (some (.Name x px)) pos.line X.env = pure false := by rfl)
    (hf : X.fn x = true ∨ X.env.scope.names.lookup x = some .local := by first | exact .inl rfl | exact .inr rfl | assumption) : PSD X A W (.Assign [.Name x px] ex pos) (tAsg te (gName i)) (fun E e => wSet i (we E.ex) E e) := ⟨ps_set hN hi hx h.pe hs hf, sr_setX h.er⟩
theorem sr_asgX (h : ERX A K W te we) (hg : GER A K ks false g wg) : SR A K W (tAsg te g) (fun E e => wAsg ks wg (we E.ex) E e) := fun g0 F0 H0 σ F H e E D S q R =>
  h σ F H e _ _ S.sta q _ (fun v r F1 H1 e1 T1 S1 R1 p1 => by
    have S' := S.step T1 S1
    match r, R1, p1 with
    | .val (.dat d), R1, ⟨hn, p1⟩ =>
      exact hg σ F1 H1 e1 d v _ S1 R1 (hn.owns (A := A) (K := K)) p1 _ fun σ2 e2 G2 S2 p2 => R.nx σ2 F1 H1 e2 (S'.gs G2 S2) T1.ex p2) fun c d fs F1 H1 e1 T1 S1 R1 p1 => R.ex σ F1 H1 e1 c d fs (S.step T1 S1) T1.ex (R1.early fun p hp => S.nil0 hp) p1
theorem psd_asgX {tg : Expr} (h : PDX X A W ex te we) (hg : PGD X A tg ks false g wg) (hs : swapsWithSole [tg] ex pos.line X.env = pure false := by rfl) (hw : swappedStores [tg] ex X.env = pure none := by rfl)
    (h1 : (assignEach [tg] X.env).map (·.2) = [assign tg X.env] := by rfl) : PSD X A W (.Assign [tg] ex pos) (tAsg te g) (fun E e => wAsg ks wg (we E.ex) E e) := ⟨ps_asg h.pe hg.pg hs hw h1, sr_asgX h.er hg.er⟩
theorem sr_dropX (h : ERX A K W te we) : SR A K W (tDrop te) (fun E e => wDrop (we E.ex) E e) := fun g0 F0 H0 σ F H e E D S q R =>
  h σ F H e _ _ S.sta q _ (fun v r F1 H1 e1 T1 S1 R1 p1 => R.nx σ F1 H1 e1 (S.step T1 S1) T1.ex p1) fun c d fs F1 H1 e1 T1 S1 R1 p1 => R.ex σ F1 H1 e1 c d fs (S.step T1 S1) T1.ex (R1.early fun p hp => S.nil0 hp) p1
theorem psd_exprX (h : PDX X A W ex te we) (hs : swapsWith ex none pos.line X.env = pure false := by rfl) : PSD X A W (.Expr ex pos) (tDrop te) (fun E e => wDrop (we E.ex) E e) := ⟨ps_expr h.pe hs, sr_dropX h.er⟩
theorem sr_retX (h : ERX A K W te we) : SR A K W (tRet te) (fun E e => wRet (we E.ex) E e) := fun g0 F0 H0 σ F H e E D S q R =>
  h σ F H e _ _ S.sta q _ (fun v r F1 H1 e1 T1 S1 R1 p1 =>
    have S' := S.step T1 S1
    R.rt v r.out F1 H1 e1.n S'.fin S1.ex S1.ri S1.rsF (R1.out (Rs.fre_iff.mp p1).1 S' fun p hp => S.nil0 hp) (Rs.fre_iff.mp p1).2) fun c d fs F1 H1 e1 T1 S1 R1 p1 => R.ex σ F1 H1 e1 c d fs (S.step T1 S1) T1.ex (R1.early fun p hp => S.nil0 hp) p1
theorem psd_retX (h : PDX X A W ex te we) : PSD X A W (.Return (some ex) pos) (tRet te) (fun E e => wRet (we E.ex) E e) := ⟨ps_ret h.pe, sr_retX h.er⟩
end
/-! ### what a def that may raise promises -/
abbrev FX := List Av → Gh → (Rs → Gh → Prop) → (Value → List (Str × D) → Gh → Prop) → Prop
def spX (A : Amb) (K : PySem.W.Frag) (fx : FX) : Sp := fun vs H Q E => ∃ (F : Hp) (as : List Av) (n : Gh) (p : Rs → Gh → Prop) (px : Value → List (Str × D) → Gh → Prop), Ex F H ∧ Paired (RelA K F) vs as ∧ RIx A K n F H ∧ (∀ a ∈ A.rs n, F a = none) ∧
  fx as n p px ∧ (∀ r n', p r n' → ∀ v F' H', Fin A n F H n' F' H' → Ex F' H' → RIx A K n' F' H' → (∀ a ∈ A.rs n', F' a = none) → RvR K A H n' F' H' v r → Q v H') ∧
  ∀ c fs n', px c fs n' → ∀ d F' H', Fin A n F H n' F' H' → Ex F' H' → RIx A K n' F' H' → (∀ a ∈ A.rs n', F' a = none) → XdR K A H n' F' H' d fs → E c d H'
def wCallX (fx : FX) (wa : WA) : WEX := fun xp e post => wa e fun rs e1 => frees rs (fx (rs.map Rs.av) e1.n (fun r n' => post r ⟨(frz e1 rs).sl, n'⟩) fun c fs n' => xp c fs ⟨(frz e1 rs).sl, n'⟩)
def wMethX (C : Addr) (m : Str) (fx : FX) (wo : WE) (wa : WA) : WEX := fun xp e post => wo e fun r e1 => ∃ (i : Nat) (ob : ObS), e1.n.os[i]? = some ob ∧ ob.cl = C ∧ r = .val (.raw (.ref ob.ad)) ∧ ob.fs.lookup m = none ∧
  wa e1 fun rs e2 => frees rs (fx (.raw (.ref ob.ad) :: rs.map Rs.av) e2.n (fun r n' => post r ⟨(frz e2 rs).sl, n'⟩) fun c fs n' => xp c fs ⟨(frz e2 rs).sl, n'⟩)
def tMethX (C : Addr) (m : Str) (sp : Sp) (E : St → XK) (ta : TE) (t : TA) : TE := fun σ H Q => ta σ H fun x H1 => ∃ a dx fs, x = .ref a ∧ H1 a = some (.ins C dx fs) ∧ fs.lookup m = none ∧ t σ H1 fun vs H2 => sp (x :: vs) H2 Q (E σ)
section
variable {X : Cx} {A : Amb} {W : WX} {K : PySem.W.Frag} {σ σ' : St} {F F' F1 F2 H H' H1 F0 H0 Fn : Hp} {g0 : Gh} {e e' e1 : En} {v : V} {a : Av} {te to : TE} {we wo : WE} {ta : TA} {wa : WA} {fx : FX} {fs : FS} {pos apos p : Pos} {n : Gh}
/-- behind a callee's promise -/
theorem spX_of {vs : List V} {rs : List Rs} {E : XK} {Q : VK} {as : List Av} (S : Sta A K σ F2 H1 e1) (rel : Paired (RelA K F2) vs as) {post : Rs → En → Prop} {xp : XP} (q : fx as e1.n (fun r n' => post r ⟨e1.sl, n'⟩) fun c fs n' => xp c fs ⟨e1.sl, n'⟩)
    (k : ∀ v r F' H' e', Stp A σ F2 H1 e1 F' H' e' → Sta A K σ F' H' e' → RsR K A σ H1 F' H' e' v r → post r e' → Q v H') (kx : ∀ c d fs F' H' e', Stp A σ F2 H1 e1 F' H' e' → Sta A K σ F' H' e' → XdR K A H1 e'.n F' H' d fs → xp c fs e' → E c d H') : spX A K fx vs H1 Q E := by
  refine ⟨F2, as, e1.n, _, _, S.ex, rel, S.ri, S.rsF, q, fun r n' p v F' H' fin x ri rf rv => ?_, fun c fs n' p d F' H' fin x ri rf rv => ?_⟩
  · obtain ⟨S3, T3⟩ := Fin.stp S fin x ri rf
    exact k v r F' H' _ T3 S3 (rv.noloan S3 (fun _ hp => hp) fun p hp i => S.noO hp i) p
  · obtain ⟨S3, T3⟩ := Fin.stp S fin x ri rf
    exact kx c d fs F' H' _ T3 S3 rv p
theorem erx_call (h : AER A K ta wa) : ERX A K W (tCallS (spX A K fx) (L2.WE W) ta) (wCallX fx wa) := by
  intro σ F H e xp post S q Q k kx
  refine h σ F H e _ S q _ fun vs rs F1 H1 e1 T1 S1 R1 q1 => ?_
  obtain ⟨hf, q1⟩ := frees_iff.mp q1
  obtain ⟨F2, B2, S2, x2, rel⟩ := freezeR hf T1 S1 R1
  rw [← frz_n rs e1] at q1
  exact spX_of (rs := rs) S2 rel q1 (fun v r F' H' e' T3 S3 R3 p => k v r F' H' e' (B2.trans T3) S3 (R3.early B2) p) fun c d fs F' H' e' T3 S3 R3 p => kx c d fs F' H' e' (B2.trans T3) S3 (R3.early fun p hp => by
    cases z : H p with
    | none => rfl
    | some w => exact absurd hp (T1.liv p (by rw [z]; simp))) p
end
section
variable {X : Cx} {B : Bse} {W : WX} {K : PySem.W.Frag} {te to : TE} {we wo : WE} {ta : TA} {wa : WA} {fx : FX} {fs : FS} {pos apos p : Pos} {C : Addr} {m : Str}
theorem erx_meth (ho : ER (amO K B) K to wo) (h : AER (amO K B) K ta wa) : ERX (amO K B) K W (tMethX C m (spX (amO K B) K fx) (L2.WE W) to ta) (wMethX C m fx wo wa) := by
  intro σ F H e xp post S q Q k kx
  refine ho σ F H e _ S q _ fun x r F0 H0 e0 T0 S0 R0 ⟨i, ob, hi, hC, hr, hm, q0⟩ => ?_
  subst hr
  have ex : x = V.ref ob.ad := R0
  subst ex
  obtain ⟨vs0, g1, g2, g3⟩ := (show GOk K B e0.n F0 H0 from S0.ri.ri).os ob (List.mem_of_getElem? hi)
  rw [hC] at g1
  refine ⟨ob.ad, ob.dx, vs0, rfl, g1, look_no g3 hm, ?_⟩
  refine h σ F0 H0 e0 _ S0 q0 _ fun vs rs F1 H1 e1 T1 S1 R1 q1 => ?_
  obtain ⟨hf, q1⟩ := frees_iff.mp q1
  obtain ⟨F2, B2, S2, x2, rel⟩ := freezeR hf (T0.trans T1) S1 (Paired.mapP R1 fun _ _ z => z.early T0)
  rw [← frz_n rs e1] at q1
  exact spX_of (rs := rs) S2 (.cons (show RelA K F2 (V.ref ob.ad) (.raw (.ref ob.ad)) from rfl) rel) q1 (fun v r F' H' e' T3 S3 R3 p => k v r F' H' e' (B2.trans T3) S3 (R3.early B2) p) fun c d fs F' H' e' T3 S3 R3 p => kx c d fs F' H' e' (B2.trans T3) S3 (R3.early fun p hp => by
    cases z : H p with
    | none => rfl
    | some w => exact absurd hp ((T0.trans T1).liv p (by rw [z]; simp))) p
end
section
variable {X : Cx} {CX : CXT} {k : Nat} {f C : Addr} {fd : FuncData} {ps : List Str} {sp : Sp} {E : St → XK} {x m : Str} {p pos apos : Pos} {e o : Expr} {es : List Expr} {ta : TE} {t : TA}
/-- o.m(e, ..), what may be raised told by the slots -/
theorem pe_methX {pl : Sem Bool} (he : PE X o ta) (c : Cls X.K C) (hm : Meth X.K C m f) (F : FnOk X.prog X.w X.K X.mg X.base CX k f fd ps sp) (hr : Room k X.A) (hb : Binds X.K fd ps []) (hx : ∀ σ, PassesAt CX X σ (E σ)) (ha : PA X (e :: es) t)
    (hst : starEach (e :: es) X.env = (false, eval e X.env) :: starEach es X.env := by rfl) (hpl : (backTo pos (starEach es X.env)).any (·.1) = false := by rfl)
    (ht : eval (.Call (.Attribute o m apos) (e :: es) [] pos) X.env = (do
      let ov ← eval o X.env
      standAt apos.atName
      let (f, first) ← holding [ov] (getMethod ov m pl)
      callWith pos f first (backTo pos (starEach (e :: es) X.env)) (backToKw pos (keywordEach [] X.env))) := by rfl) :
    PE X (.Call (.Attribute o m apos) (e :: es) [] pos) (tMethX C m sp E ta t) := by
  refine ⟨fun pins s σ H Q I h => ?_⟩
  refine PySem.W.methodCall_KW (pl := pl) (thn (he.run pins s σ H _ I h) fun u s1 ⟨x, H1, I1, rx, a, dx, fs, ex, ea, l, q⟩ => ?_) ht
  subst ex
  obtain rfl : u = Value.ref a := rx
  refine getmeth_ok I1 ea c hm l ?_
  refine PySem.W.callWith_K (first := [.ref a]) (h₀ := X.base) I.ok.mod.kin hm.kp (thn (ha.run pos pins s1 σ H1 _ I1 q) fun us s2 ⟨vs, H2, I2, r, q2⟩ => ⟨I2.kIn, ?_⟩) hst hpl
  exact run_fnS (us := .ref a :: us) (vs := .ref a :: vs) F hr hb (hx σ) I2 (.cons rfl r) q2
theorem pe_methX0 {pl : Sem Bool} (he : PE X o ta) (c : Cls X.K C) (hm : Meth X.K C m f) (F : FnOk X.prog X.w X.K X.mg X.base CX k f fd ps sp) (hr : Room k X.A) (hb : Binds X.K fd ps []) (hx : ∀ σ, PassesAt CX X σ (E σ))
    (ht : eval (.Call (.Attribute o m apos) [] [] pos) X.env = (do
      let ov ← eval o X.env
      standAt apos.atName
      let (f, first) ← holding [ov] (getMethod ov m pl)
      callWith pos f first (backTo pos (starEach [] X.env)) (backToKw pos (keywordEach [] X.env))) := by rfl) :
    PE X (.Call (.Attribute o m apos) [] [] pos) (tMethX C m sp E ta tNil) := by
  refine ⟨fun pins s σ H Q I h => ?_⟩
  refine PySem.W.methodCall_KW (pl := pl) (thn (he.run pins s σ H _ I h) fun u s1 ⟨x, H1, I1, rx, a, dx, fs, ex, ea, l, q⟩ => ?_) ht
  subst ex
  obtain rfl : u = Value.ref a := rx
  refine getmeth_ok I1 ea c hm l ?_
  exact PySem.W.callWith_K0 (first := [.ref a]) I1.kIn hm.kp (run_fnS (us := [.ref a]) (vs := [.ref a]) F hr hb (hx σ) I1 (.cons rfl .nil) q)
end
end PL

namespace PL
open PySem L2
/-! ### a ghost's last objects are let go -/
structure Drops (A : Amb) (n m : Gh) : Prop where
  rs : ∀ a ∈ A.rs m, a ∈ A.rs n
  cs : ∀ c ∈ m.cs, c ∈ n.cs ∧ c.1 ∈ A.rs m
  ri : ∀ F H, A.RI n F H → A.RI m F H
section
variable {A : Amb} {K : PySem.W.Frag} {n m g0 : Gh} {F H F0 H0 : Hp} {v : V} {r : Rs}
theorem Drops.rix (d : Drops A n m) (h : RIx A K n F H) : RIx A K m F H := ⟨d.ri _ _ h.ri, fun c hc => ⟨(d.cs c hc).2, (h.cs c (d.cs c hc).1).2⟩⟩
theorem Drops.fin (d : Drops A n m) (h : Fin A g0 F0 H0 n F H) : Fin A g0 F0 H0 m F H := ⟨h.ex, h.keep, h.liv, fun a ha => h.rsn a (d.rs a ha)⟩
theorem Drops.rvr (d : Drops A n m) (h : RvR K A H0 n F H v r) : RvR K A H0 m F H v r := by
  cases r with
  | val a => exact h
  | new o => obtain ⟨p, ho, a, b, c, d', e, f⟩ := h; exact ⟨p, ho, a, b, c, d', e, fun z => f (d.rs _ z)⟩
  | loan i o => exact h
  | lent p j o => exact h
theorem Drops.xdr (d : Drops A n m) {x : Option Addr} {fs : List (Str × D)} (h : XdR K A H0 n F H x fs) : XdR K A H0 m F H x fs := by
  cases x with
  | none => exact h
  | some x => obtain ⟨a, b, c⟩ := h; exact ⟨a, fun z => b (d.rs _ z), c⟩
theorem Drops.amO {K : PySem.W.Frag} {B : Bse} {k : Nat} {os xs : List ObS} {cs ys : List (Addr × Ow)} : Drops (amO K B) ⟨k, os ++ xs, cs ++ ys⟩ ⟨k, os, cs⟩ := by
  have sub : (rsG B ⟨k, os, cs⟩).Sublist (rsG B ⟨k, os ++ xs, cs ++ ys⟩) := by
    unfold rsG
    simp only [List.flatMap_append, List.map_append]
    exact ((List.Sublist.refl _).append (List.sublist_append_left _ _)).append (List.sublist_append_left _ _)
  refine ⟨fun a ha => sub.subset ha, fun c hc => ⟨List.mem_append_left _ hc, ?_⟩, fun F H G => ⟨G.b, G.nd.sublist sub, fun o ho => G.os o (List.mem_append_left _ ho), fun c hc => G.lv c (List.mem_append_left _ hc)⟩⟩
  show c.1 ∈ rsG B _
  unfold rsG
  exact List.mem_append_right _ (List.mem_map.mpr ⟨c, hc, rfl⟩)
theorem Drops.refl (h : ∀ c ∈ n.cs, c.1 ∈ A.rs n) : Drops A n n := ⟨fun _ h => h, fun c hc => ⟨hc, h c hc⟩, fun _ _ h => h⟩
end
section
variable {P : Program} {w : World} {K : PySem.W.Frag} {mg : Str → Option Value} {base : Heap} {A : Amb} {fs : FS} {fx : FX}
/-- a def over data that lets go what it made -/
theorem Fun.okDd {x qual : Str} {st : Stmt} {f : Addr} {fd : FuncData} {N ps : List Str} {k : Nat} (G : Fun K x qual st f fd) (S : FnScope N ps (defScope st)) (hps : ps.length ≤ N.length) (len : ∀ as n p, fs as n p → as.length = ps.length)
    (hbody : ∀ (cdv : Value) (A' : Around) (outer : List Env) (s : Shared) (H : Hp) (E : XK), Room k (A'.deeper (PyProof.Rows.envOfC qual (defScope st) s.heap.objs.size f cdv)) →
      ∃ t w', PSDs (cxOf CX0 P w K mg base N qual (defScope st) f cdv A' outer s H E).nox A (fun _ _ _ _ => False) (defBody st) t w' ∧
        ∀ as n p, fs as n p → w' { nx := fun e => ∃ m, Drops A e.n m ∧ p (.val (.dat .none)) m, rt := fun r n' => ∃ m, Drops A n' m ∧ p r m } (enStart N.length as n)) : FnOk P w K mg base CX0 (k + 1) f fd ps (spD A K fs) := by
  refine G.ok S (fun vs H Q E ⟨F, as, n, p, _, r, _, _, q, _⟩ => (Paired.length r).trans (len as n p q)) fun cdv A' outer s H vs Q E hr ⟨F, as, n, p, x, r, ri, rf, q, k⟩ => ?_
  obtain ⟨t, w', hb, hw⟩ := hbody cdv A' outer s H E hr
  refine ⟨t, hb.ps, hb.sr n F H _ F H _ _ _ (sst_start (N := N) x r ri rf (by rw [Paired.length r, len as n p q]; exact hps)) (hw as n p q) ⟨fun σ F' H' e S _ ⟨m, d, q⟩ => ?_, fun v r F' H' n' fin x ri rf rv ⟨m, d, q⟩ => k r m q v F' H' (d.fin fin) x (d.rix ri) (fun a ha => rf a (d.rs a ha)) (d.rvr rv), fun _ _ _ _ _ _ q => q.elim, fun _ _ _ _ _ _ q => q.elim, fun _ _ _ _ _ _ _ _ _ _ q => q.elim⟩⟩
  exact k _ m q .non F' H' (d.fin S.fin) S.sta.ex (d.rix S.sta.ri) (fun a ha => S.sta.rsF a (d.rs a ha)) .non
/-- a def over data that may raise -/
theorem Fun.okDX {x qual : Str} {st : Stmt} {f : Addr} {fd : FuncData} {N ps : List Str} {k : Nat} (G : Fun K x qual st f fd) (S : FnScope N ps (defScope st)) (hps : ps.length ≤ N.length) (len : ∀ as n p px, fx as n p px → as.length = ps.length)
    (hbody : ∀ (cdv : Value) (A' : Around) (outer : List Env) (s : Shared) (H : Hp) (E : XK), Room k (A'.deeper (PyProof.Rows.envOfC qual (defScope st) s.heap.objs.size f cdv)) →
      ∃ t w', PSDs (cxOf (L2.CX P w) P w K mg base N qual (defScope st) f cdv A' outer s H E) A (fun c d _ H => E c d H) (defBody st) t w' ∧
        ∀ as n p px, fx as n p px → w' { nx := fun e => ∃ m, Drops A e.n m ∧ p (.val (.dat .none)) m, rt := fun r n' => ∃ m, Drops A n' m ∧ p r m, ex := fun c fs e => ∃ m, Drops A e.n m ∧ px c fs m } (enStart N.length as n)) : FnOk P w K mg base (L2.CX P w) (k + 1) f fd ps (spX A K fx) := by
  refine G.okX S (fun vs H Q E ⟨F, as, n, p, px, _, r, _, _, q, _⟩ => (Paired.length r).trans (len as n p px q)) fun cdv A' outer s H vs Q E hr ⟨F, as, n, p, px, x, r, ri, rf, q, k, kx⟩ => ?_
  obtain ⟨t, w', hb, hw⟩ := hbody cdv A' outer s H E hr
  refine ⟨t, hb.ps, hb.sr n F H _ F H _ _ _ (sst_start (N := N) x r ri rf (by rw [Paired.length r, len as n p px q]; exact hps)) (hw as n p px q) ⟨fun σ F' H' e S _ ⟨m, d, q⟩ => ?_, fun v r F' H' n' fin x ri rf rv ⟨m, d, q⟩ => k r m q v F' H' (d.fin fin) x (d.rix ri) (fun a ha => rf a (d.rs a ha)) (d.rvr rv), fun _ _ _ _ _ _ q => q.elim, fun _ _ _ _ _ _ q => q.elim,
    fun σ F' H' e c dx fs S _ xr ⟨m, d, q⟩ => kx c fs m q dx F' H' (d.fin S.fin) S.sta.ex (d.rix S.sta.ri) (fun a ha => S.sta.rsF a (d.rs a ha)) (d.xdr xr)⟩⟩
  exact k _ m q .non F' H' (d.fin S.fin) S.sta.ex (d.rix S.sta.ri) (fun a ha => S.sta.rsF a (d.rs a ha)) .non
end
/-! ### defs, methods, classes as they may be called -/
structure PFnX (P : Program) (w : World) (K : PySem.W.Frag) (mg : Str → Option Value) (base : Heap) (A : Amb) (x : Str) (ps : List Str) (fx : FX) (k : Nat) : Prop where
  ex : ∃ f fd, mg x = some (.ref f) ∧ PySem.W.keepIn K (.ref f) = true ∧ Binds K fd ps [] ∧ FnOk P w K mg base (L2.CX P w) k f fd ps (spX A K fx)
structure PMe (P : Program) (w : World) (K : PySem.W.Frag) (mg : Str → Option Value) (base : Heap) (A : Amb) (C : Addr) (m : Str) (ps : List Str) (fs : FS) (k : Nat) : Prop where
  ex : ∃ f fd, Meth K C m f ∧ Binds K fd ps [] ∧ FnOk P w K mg base CX0 k f fd ps (spD A K fs)
structure PMeX (P : Program) (w : World) (K : PySem.W.Frag) (mg : Str → Option Value) (base : Heap) (A : Amb) (C : Addr) (m : Str) (ps : List Str) (fx : FX) (k : Nat) : Prop where
  ex : ∃ f fd, Meth K C m f ∧ Binds K fd ps [] ∧ FnOk P w K mg base (L2.CX P w) k f fd ps (spX A K fx)
structure PMk (P : Program) (w : World) (K : PySem.W.Frag) (mg : Str → Option Value) (base : Heap) (A : Amb) (x : Str) (C : Addr) (ps : List Str) (fs : FS) (k : Nat) : Prop where
  ex : ∃ f fd, mg x = some (.ref C) ∧ Mk K C f ∧ Binds K fd ps [] ∧ FnOk P w K mg base CX0 k f fd ps (spD A K fs)
def wMeth (C : Addr) (m : Str) (fs : FS) (wo : WE) (wa : WA) : WE := fun e post => wo e fun r e1 => ∃ (i : Nat) (ob : ObS), e1.n.os[i]? = some ob ∧ ob.cl = C ∧ r = .val (.raw (.ref ob.ad)) ∧ ob.fs.lookup m = none ∧
  wa e1 fun rs e2 => frees rs (fs (.raw (.ref ob.ad) :: rs.map Rs.av) e2.n fun r n' => post r ⟨(frz e2 rs).sl, n'⟩)
def Gh.addO (g : Gh) (ob : ObS) : Gh := ⟨g.k, g.os ++ [ob], g.cs⟩
def wMake (C : Addr) (fs : FS) (wa : WA) : WE := fun e post => wa e fun rs e1 => frees rs (∀ x dx : Addr, fs (.raw (.ref x) :: rs.map Rs.av) (e1.n.addO ⟨x, C, dx, []⟩) fun r n' => r = .val (.dat .none) ∧ post (.val (.raw (.ref x))) ⟨(frz e1 rs).sl, n'⟩)
section
variable {A : Amb} {K : PySem.W.Frag} {B : Bse} {σ : St} {F F1 F2 H H1 : Hp} {e e1 : En} {fs : FS} {vs : List V} {as : List Av} {Q : VK} {E : XK}
theorem spD_of (S : Sta A K σ F2 H1 e1) (rel : Paired (RelA K F2) vs as) {post : Rs → En → Prop} (q : fs as e1.n (fun r n' => post r ⟨e1.sl, n'⟩))
    (k : ∀ v r F' H' e', Stp A σ F2 H1 e1 F' H' e' → Sta A K σ F' H' e' → RsR K A σ H1 F' H' e' v r → post r e' → Q v H') : spD A K fs vs H1 Q E := by
  refine ⟨F2, as, e1.n, _, S.ex, rel, S.ri, S.rsF, q, fun r n' p v F' H' fin x ri rf rv => ?_⟩
  obtain ⟨S3, T3⟩ := Fin.stp S fin x ri rf
  exact k v r F' H' _ T3 S3 (rv.noloan S3 (fun _ hp => hp) fun p hp i => S.noO hp i) p
theorem rsG_add {g : Gh} {ob : ObS} : (rsG B (g.addO ob)).Perm (ob.ad :: ob.dx :: rsG B g) := by
  unfold rsG Gh.addO
  simp only [List.flatMap_append, List.flatMap_cons, List.flatMap_nil, List.append_nil]
  have e : B.rs ++ (g.os.flatMap (fun o => [o.ad, o.dx]) ++ [ob.ad, ob.dx]) ++ g.cs.map (·.1) = (B.rs ++ g.os.flatMap (fun o => [o.ad, o.dx])) ++ ([ob.ad, ob.dx] ++ g.cs.map (·.1)) := by simp [List.append_assoc]
  rw [e]
  have p : ((B.rs ++ g.os.flatMap (fun o => [o.ad, o.dx])) ++ ([ob.ad, ob.dx] ++ g.cs.map (·.1))).Perm ([ob.ad, ob.dx] ++ ((B.rs ++ g.os.flatMap (fun o => [o.ad, o.dx])) ++ g.cs.map (·.1))) := by
    rw [← List.append_assoc, ← List.append_assoc]
    exact List.perm_append_comm.append_right _
  exact p
/-- a new object, known to the ghost -/
theorem Sta.addO (S : Sta (amO K B) K σ F H e) {x dx C : Addr} (hx : H x = none) (hd : H dx = none) (hne : dx ≠ x) :
    Sta (amO K B) K σ F (upd (upd H dx (.own x)) x (.ins C dx [])) ⟨e.sl, e.n.addO ⟨x, C, dx, []⟩⟩ ∧ Stp (amO K B) σ F H e F (upd (upd H dx (.own x)) x (.ins C dx [])) ⟨e.sl, e.n.addO ⟨x, C, dx, []⟩⟩ := by
  obtain ⟨S1, T1⟩ := S.push (ho := .own x) hd
  have hx1 : upd H dx (.own x) x = none := by rw [upd_ne hne.symm]; exact hx
  obtain ⟨S2, T2⟩ := S1.push (ho := .ins C dx []) hx1
  have T := T1.trans T2
  have G : GOk K B e.n F _ := S2.ri.ri
  have nx : x ∉ rsG B e.n := S.rsA hx
  have nd : dx ∉ rsG B e.n := S.rsA hd
  have pm : (rsG B (e.n.addO ⟨x, C, dx, []⟩)).Perm (x :: dx :: rsG B e.n) := rsG_add
  have mem : ∀ a, a ∈ rsG B (e.n.addO ⟨x, C, dx, []⟩) → a = x ∨ a = dx ∨ a ∈ rsG B e.n := fun a ha => by
    have := pm.mem_iff.mp ha
    simpa using this
  have noF : ∀ {p : Addr}, H p = none → F p = none := fun {p} hp => by
    cases z : F p with
    | none => rfl
    | some w => rw [S.ex p w z] at hp; cases hp
  refine ⟨⟨S2.len, S2.ex, S2.at_, S2.sep, ⟨⟨G.b, pm.nodup_iff.mpr (List.nodup_cons.mpr ⟨by simp [nx, hne.symm], List.nodup_cons.mpr ⟨nd, G.nd⟩⟩), fun o ho => ?_, G.lv⟩, fun c hc => ?_⟩, fun a ha => ?_, fun i p h z => ?_⟩, ⟨T.ex, T.keep, T.own, T.liv, fun a ha => ?_⟩⟩
  · rcases List.mem_append.mp ho with ho | ho
    · exact G.os o ho
    · have : o = ⟨x, C, dx, []⟩ := by simpa using ho
      subst this
      exact ⟨[], upd_same, by show upd (upd H dx (.own x)) x _ dx = _; rw [upd_ne hne, upd_same], .nil⟩
  · obtain ⟨c1, c2⟩ := S2.ri.cs c hc
    exact ⟨pm.mem_iff.mpr (List.mem_cons_of_mem _ (List.mem_cons_of_mem _ c1)), c2⟩
  · rcases mem a ha with q | q | q
    · rw [q]; exact noF hx
    · rw [q]; exact noF hd
    · exact S.rsF a q
  · rcases mem p z with q | q | q
    · subst q; exact S.noO hx i h
    · subst q; exact S.noO hd i h
    · exact S2.rsO i p h q
  · rcases mem a ha with q | q | q
    · rw [q]; exact .inr hx
    · rw [q]; exact .inr hd
    · exact .inl q
end
section
variable {X : Cx} {A : Amb} {B : Bse} {K : PySem.W.Frag} {W : WX} {fs : FS} {fx : FX} {C : Addr} {k j : Nat} {x m : Str} {ps : List Str} {ex o : Expr} {es : List Expr} {te to : TE} {we wo : WE} {ta : TA} {wa : WA} {pos apos p : Pos} {E : XK}
theorem er_meth (ho : ER (amO K B) K to wo) (h : AER (amO K B) K ta wa) : ER (amO K B) K (tMeth C m (spD (amO K B) K fs) [] E to ta) (wMeth C m fs wo wa) := by
  intro σ F H e post S q Q k
  refine ho σ F H e _ S q _ fun x r F0 H0 e0 T0 S0 R0 ⟨i, ob, hi, hC, hr, hm, q0⟩ => ?_
  subst hr
  have ex : x = V.ref ob.ad := R0
  subst ex
  obtain ⟨vs0, g1, g2, g3⟩ := (show GOk K B e0.n F0 H0 from S0.ri.ri).os ob (List.mem_of_getElem? hi)
  rw [hC] at g1
  refine ⟨ob.ad, ob.dx, vs0, rfl, g1, look_no g3 hm, ?_⟩
  refine h σ F0 H0 e0 _ S0 q0 _ fun vs rs F1 H1 e1 T1 S1 R1 q1 => ?_
  obtain ⟨hf, q1⟩ := frees_iff.mp q1
  obtain ⟨F2, B2, S2, x2, rel⟩ := freezeR hf (T0.trans T1) S1 (Paired.mapP R1 fun _ _ z => z.early T0)
  rw [← frz_n rs e1] at q1
  rw [List.append_nil]
  exact spD_of S2 (.cons (show RelA K F2 (V.ref ob.ad) (.raw (.ref ob.ad)) from rfl) rel) q1 fun v r F' H' e' T3 S3 R3 p => k v r F' H' e' (B2.trans T3) S3 (R3.early B2) p
theorem er_make (h : AER (amO K B) K ta wa) : ER (amO K B) K (tMake C (spD (amO K B) K fs) [] E ta) (wMake C fs wa) := by
  intro σ F H e post S q Q k
  refine h σ F H e _ S q _ fun vs rs F1 H1 e1 T1 S1 R1 q1 x dx hx hd hne => ?_
  obtain ⟨hf, q1⟩ := frees_iff.mp q1
  obtain ⟨F2, B2, S2, x2, rel⟩ := freezeR hf T1 S1 R1
  have q2 := q1 x dx
  rw [← frz_n rs e1] at q2
  obtain ⟨S3, T3⟩ := S2.addO (C := C) hx hd hne
  rw [List.append_nil]
  refine spD_of (post := fun r e' => r = .val (.dat .none) ∧ post (.val (.raw (.ref x))) e') S3 (.cons (show RelA K F2 (V.ref x) (.raw (.ref x)) from rfl) rel) q2 fun v r F' H' e' T4 S4 R4 ⟨hr, p⟩ => ?_
  subst hr
  refine ⟨by cases R4; rfl, ?_⟩
  exact k (.ref x) (.val (.raw (.ref x))) F' H' e' ((B2.trans T3).trans T4) S4 rfl p
theorem pd_meth {pl : Sem Bool} (G : PMe X.prog X.w X.K X.mg X.base (amO X.K B) C m ps fs k) (c : Cls X.K C) (hr : Room j X.A) (hj : k ≤ j) (ho : PD X (amO X.K B) o to wo) (ha : PAD X (amO X.K B) (ex :: es) ta wa)
    (hst : starEach (ex :: es) X.env = (false, eval ex X.env) :: starEach es X.env := by rfl) (hpl : (backTo pos (starEach es X.env)).any (·.1) = false := by rfl)
    (ht : eval (.Call (.Attribute o m apos) (ex :: es) [] pos) X.env = (do
      let ov ← eval o X.env
      standAt apos.atName
      let (f, first) ← holding [ov] (getMethod ov m pl)
      callWith pos f first (backTo pos (starEach (ex :: es) X.env)) (backToKw pos (keywordEach [] X.env))) := by rfl) :
    PD X (amO X.K B) (.Call (.Attribute o m apos) (ex :: es) [] pos) (tMeth C m (spD (amO X.K B) X.K fs) [] E0 to ta) (wMeth C m fs wo wa) := by
  obtain ⟨f, fd, hm, hb, F⟩ := G.ex
  exact ⟨pe_meth ho.pe c hm F (hr.mono hj) hb .nil pass0 ha.pa hst hpl ht, er_meth ho.er ha.er⟩
theorem pd_meth0 {pl : Sem Bool} (G : PMe X.prog X.w X.K X.mg X.base (amO X.K B) C m ps fs k) (c : Cls X.K C) (hr : Room j X.A) (hj : k ≤ j) (ho : PD X (amO X.K B) o to wo)
    (ht : eval (.Call (.Attribute o m apos) [] [] pos) X.env = (do
      let ov ← eval o X.env
      standAt apos.atName
      let (f, first) ← holding [ov] (getMethod ov m pl)
      callWith pos f first (backTo pos (starEach [] X.env)) (backToKw pos (keywordEach [] X.env))) := by rfl) :
    PD X (amO X.K B) (.Call (.Attribute o m apos) [] [] pos) (tMeth C m (spD (amO X.K B) X.K fs) [] E0 to tNil) (wMeth C m fs wo wNil) := by
  obtain ⟨f, fd, hm, hb, F⟩ := G.ex
  exact ⟨pe_meth0 ho.pe c hm F (hr.mono hj) hb .nil pass0 ht, er_meth ho.er aer_nil⟩
theorem pd_make (G : PMk X.prog X.w X.K X.mg X.base (amO X.K B) x C ps fs k) (hr : Room j X.A) (hj : k + 1 ≤ j) (hg : Gl X x) (ha : PAD X (amO X.K B) (ex :: es) ta wa)
    (hdb : (x == ("__debug__" : Str)) = false := by decide) (he : starEach (ex :: es) X.env = (false, eval ex X.env) :: starEach es X.env := by rfl) (hpl : (backTo pos (starEach es X.env)).any (·.1) = false := by rfl) :
    PD X (amO X.K B) (.Call (.Name x p) (ex :: es) [] pos) (tMake C (spD (amO X.K B) X.K fs) [] E0 ta) (wMake C fs wa) := by
  obtain ⟨f, fd, hm, M, hb, F⟩ := G.ex
  exact ⟨pe_make M F (hr.mono hj) hg hm hb .nil pass0 ha.pa hdb he hpl, er_make ha.er⟩
/-- calls that may raise -/
theorem pdx_fn (G : PFnX X.prog X.w X.K X.mg X.base A x ps fx k) (tk : Takes X W) (hr : Room j X.A) (hj : k ≤ j) (hg : Gl X x) (ha : PAD X A (ex :: es) ta wa) (hdb : (x == ("__debug__" : Str)) = false := by decide)
    (he : starEach (ex :: es) X.env = (false, eval ex X.env) :: starEach es X.env := by rfl) (hpl : (backTo pos (starEach es X.env)).any (·.1) = false := by rfl) :
    PDX X A W (.Call (.Name x p) (ex :: es) [] pos) (tCallS (spX A X.K fx) (L2.WE W) ta) (wCallX fx wa) := by
  obtain ⟨f, fd, hm, hk, hb, F⟩ := G.ex
  exact ⟨pe_callS F (hr.mono hj) hg hm hk hb (fun σ => passAt tk σ) ha.pa hdb he hpl, erx_call ha.er⟩
theorem pdx_meth {pl : Sem Bool} (G : PMeX X.prog X.w X.K X.mg X.base (amO X.K B) C m ps fx k) (c : Cls X.K C) (tk : Takes X W) (hr : Room j X.A) (hj : k ≤ j) (ho : PD X (amO X.K B) o to wo) (ha : PAD X (amO X.K B) (ex :: es) ta wa)
    (hst : starEach (ex :: es) X.env = (false, eval ex X.env) :: starEach es X.env := by rfl) (hpl : (backTo pos (starEach es X.env)).any (·.1) = false := by rfl)
    (ht : eval (.Call (.Attribute o m apos) (ex :: es) [] pos) X.env = (do
      let ov ← eval o X.env
      standAt apos.atName
      let (f, first) ← holding [ov] (getMethod ov m pl)
      callWith pos f first (backTo pos (starEach (ex :: es) X.env)) (backToKw pos (keywordEach [] X.env))) := by rfl) :
    PDX X (amO X.K B) W (.Call (.Attribute o m apos) (ex :: es) [] pos) (tMethX C m (spX (amO X.K B) X.K fx) (L2.WE W) to ta) (wMethX C m fx wo wa) := by
  obtain ⟨f, fd, hm, hb, F⟩ := G.ex
  exact ⟨pe_methX ho.pe c hm F (hr.mono hj) hb (fun σ => passAt tk σ) ha.pa hst hpl ht, erx_meth ho.er ha.er⟩
theorem pdx_meth0 {pl : Sem Bool} (G : PMeX X.prog X.w X.K X.mg X.base (amO X.K B) C m ps fx k) (c : Cls X.K C) (tk : Takes X W) (hr : Room j X.A) (hj : k ≤ j) (ho : PD X (amO X.K B) o to wo)
    (ht : eval (.Call (.Attribute o m apos) [] [] pos) X.env = (do
      let ov ← eval o X.env
      standAt apos.atName
      let (f, first) ← holding [ov] (getMethod ov m pl)
      callWith pos f first (backTo pos (starEach [] X.env)) (backToKw pos (keywordEach [] X.env))) := by rfl) :
    PDX X (amO X.K B) W (.Call (.Attribute o m apos) [] [] pos) (tMethX C m (spX (amO X.K B) X.K fx) (L2.WE W) to tNil) (wMethX C m fx wo wNil) := by
  obtain ⟨f, fd, hm, hb, F⟩ := G.ex
  exact ⟨pe_methX0 ho.pe c hm F (hr.mono hj) hb (fun σ => passAt tk σ) ht, erx_meth ho.er aer_nil⟩
end
theorem addO_get {g : Gh} {ob : ObS} : (g.addO ob).os[g.os.length]? = some ob := by
  unfold Gh.addO
  rw [List.getElem?_append_right (Nat.le_refl _), Nat.sub_self]; rfl
theorem addO_set {g : Gh} {ob ob' : ObS} : (g.addO ob).setO g.os.length ob' = ⟨g.k, g.os ++ [ob'], g.cs ++ []⟩ := by
  unfold Gh.setO Gh.addO
  rw [List.set_append_right _ _ (Nat.le_refl _), Nat.sub_self, List.append_nil]; rfl
end PL

namespace PL
open PySem L2 PyProof.Rows
/-! ### Base.__init__(self, ..), Base an own class without __init__ under ValueError -/
structure BaseI (K : PySem.W.Frag) (C : Addr) : Prop where
  ga : PySem.W.specialIn K (.ref C) "__getattribute__" = some (some (.builtin "type.__getattribute__"))
  ty : PySem.W.typeIn K (.ref C) = some (.type "type")
  rd : PySem.W.readsIn K C (.type "type") = true
  fd : PySem.W.findCls K (.ref C) (.type "type") "__init__" = some (.val (.builtin "ValueError.__init__"))
theorem pe_weinit {X : Cx} {Cw : Addr} {x : Str} {e : Expr} {es : List Expr} {ta : TA} {p1 p2 pos : Pos} {pl : Sem Bool} (T : BaseI X.K Cw) (hg : Gl X x) (hm : X.mg x = some (.ref Cw)) (ha : PA X (e :: es) ta) (hdb : (x == ("__debug__" : Str)) = false := by decide)
    (hc : eval (.Call (.Attribute (.Name x p1) "__init__" p2) (e :: es) [] pos) X.env = (do
      let ov ← eval (.Name x p1) X.env
      standAt p2.atName
      let (f, first) ← holding [ov] (getMethod ov "__init__" pl)
      callWith pos f first (backTo pos (starEach (e :: es) X.env)) (backToKw pos (keywordEach [] X.env))) := by rfl)
    (he : starEach (e :: es) X.env = (false, eval e X.env) :: starEach es X.env := by rfl) (hpl : (backTo pos (starEach es X.env)).any (·.1) = false := by rfl) :
    PE X (.Call (.Attribute (.Name x p1) "__init__" p2) (e :: es) [] pos) (tVeI X.K ta) := by
  refine ⟨fun pins s σ H Q I h => ?_⟩
  refine PySem.W.methodCall_KW (ld_glob I hg hm ?_ hdb) hc
  obtain ⟨m, fr⟩ := I.fr
  refine PySem.W.method_of_cls fr I.ok.mod.kin T.ga (PySem.W.cls_val fr I.ok.mod.kin T.ty T.rd T.fd (by decide +kernel) ?_)
  show wpAny _ _ (callWith pos (Value.builtin "ValueError.__init__") [] (backTo pos (starEach (e :: es) X.env)) []) _ _ _
  refine PyProof.Rows.callWith_method1 (thn (ha.run pos pins _ σ H _ (I.tok _) h) fun us s1 ⟨vs, H1, I1, r1, a, C, ws, ev, hl, T, ea, q⟩ => ?_) he hpl
  subst ev
  cases r1 with
  | @cons _ u0 _ ur ra rw' =>
    obtain rfl : u0 = Value.ref a := ra
    have hlen : ur.length ≤ sizeLine := by
      rw [← Paired.length rw', sizeLine_eq]
      omega
    exact oinit_ok T I1 ea hlen fun s' J => ⟨.non, H1, J, rfl, q⟩
/-- the promise of an error's __init__ -/
def spErr (C : Addr) (f : Str) : Sp := fun vs H Q _ => ∃ (a : Addr) (v : V), vs = [.ref a, v] ∧ H a = some (exo a C none) ∧ ∀ d, H d = none → d ≠ a → Q .non (upd (upd H d (exd d [(f, v)])) a (exo a C (some d)))
theorem pure_err {K : PySem.W.Frag} {C : Addr} {f : Str} {a : Addr} {v : V} {t : Str} {H : Hp} {Q : VK} {E0' : L2.St → Hp → Prop} (T : OexC K C) (hno : PySem.W.findIn K (.ref C) f = some none) (ha : H a = some (exo a C none)) (k : ∀ d, H d = none → d ≠ a → Q .non (upd (upd H d (exd d [(f, v)])) a (exo a C (some d)))) {rt : VK} :
    tSeq (tDrop (tVeI K (tCons (tVar 0) (tCons (tC (.str t)) tNil)))) (tOst K f (tVar 0) (tVar 1)) { nx := fun _ H' => Q .non H', rt := rt } [some (.ref a), some v] H :=
  ⟨.ref a, rfl, a, C, [.str t], rfl, by simp, T, ha, v, rfl, .ref a, rfl, a, C, rfl, T, hno, .inl ⟨ha, fun dx h1 h2 => k dx h1 h2⟩⟩
structure PErr (P : Program) (w : World) (K : PySem.W.Frag) (mg : Str → Option Value) (base : Heap) (x : Str) (C : Addr) (f : Str) : Prop where
  oex : OexC K C
  at_ : mg x = some (.ref C)
  ex : ∃ fI fd, PySem.W.findIn K (.ref C) "__init__" = some (some (.ref fI)) ∧ PySem.W.typeIn K (.ref fI) = some (.type "function") ∧ Binds K fd ["self", f] [] ∧ FnOk P w K mg base CX0 1 fI fd ["self", f] (spErr C f)
/-! ### raise C(e) -/
def wRaise (C : Addr) (f : Str) (wa : WA) : WS := fun E e => wa e fun rs e1 => frees rs (∃ d0, rs.map Rs.av = [.dat d0] ∧ E.ex (.ref C) [(f, d0)] (frz e1 rs))
theorem sr_raise {A : Amb} {K : PySem.W.Frag} {W : WX} {C : Addr} {f : Str} {ta : TA} {wa : WA} (ha : AER A K ta wa) : SR A K W (fun _ σ H => tMkO C (spErr C f) [] ta σ H fun cls d H' => W cls d σ H') (wRaise C f wa) := fun g0 F0 H0 σ F H e E D S q R =>
  ha σ F H e _ S.sta q _ fun vs rs F1 H1 e1 T1 S1 R1 q1 => by
    obtain ⟨hf, d0, hd, q1⟩ := frees_iff.mp q1
    obtain ⟨F2, B2, S2, x2, rel⟩ := freezeR hf T1 S1 R1
    rw [hd] at rel
    obtain ⟨v, ev, rv⟩ : ∃ v, vs = [v] ∧ RelA K F2 v (.dat d0) := by
      cases rel with
      | cons h t => cases t; exact ⟨_, rfl, h⟩
    subst ev
    refine ⟨by simp, fun a hn => ⟨a, v, rfl, upd_same, fun d hd hda => ⟨rfl, d, [(f, v)], upd_same, ?_, ?_, ?_⟩⟩⟩
    · rw [upd_ne hda, upd_same]
    · rw [upd_ne hda] at hd; exact hd
    · have hd1 : H1 d = none := by rw [upd_ne hda] at hd; exact hd
      have eh : upd (del (upd (upd (upd H1 a (exo a C none)) d (exd d [(f, v)])) a (exo a C (some d))) a) d (.xd [(f, v)]) = upd H1 d (.xd [(f, v)]) := by
        funext b
        by_cases hb : b = d
        · rw [hb, upd_same, upd_same]
        · rw [upd_ne hb, upd_ne hb]
          by_cases hba : b = a
          · rw [hba, del_same]; exact hn.symm
          · rw [del_ne hba, upd_ne hba, upd_ne hb, upd_ne hba]
      rw [eh]
      obtain ⟨S3, T3⟩ := S2.push (ho := .xd [(f, v)]) hd1
      have B3 := B2.trans T3
      exact R.ex σ F2 _ _ (.ref C) (some d) [(f, d0)] (S.step B3 S3) B3.ex ⟨S.nil0 (by
        cases z : H d with
        | none => rfl
        | some w => exact absurd hd1 (T1.liv d (by rw [z]; simp))), fun z => S2.rsA hd1 z, [(f, v)], upd_same, .cons ⟨rfl, RD.ext (Ex.refl _) rv⟩ .nil⟩ q1
theorem psd_raise {X : Cx} {A : Amb} {W : WX} {x f : Str} {C : Addr} {ex : Expr} {ta : TA} {wa : WA} {p pos pos' : Pos} {j : Nat} (G : PErr X.prog X.w X.K X.mg X.base x C f) (hc : X.calm = true) (tk : Takes X W) (hr : Room j X.A) (hj : 2 ≤ j) (hg : Gl X x) (ha : PAD X A [ex] ta wa)
    (hdb : (x == ("__debug__" : Str)) = false := by decide) (he : starEach [ex] X.env = (false, eval ex X.env) :: starEach [] X.env := by rfl) (hpl : (backTo pos (starEach [] X.env)).any (·.1) = false := by rfl) :
    PSD X A W (.Raise (some (.Call (.Name x p) [ex] [] pos)) none pos') (fun _ σ H => tMkO C (spErr C f) [] ta σ H fun cls d H' => W cls d σ H') (wRaise C f wa) := by
  obtain ⟨fI, fd, iC, tI, hb, F⟩ := G.ex
  exact ⟨ps_raise hc tk (pmk_oex G.oex iC tI F (hr.mono hj) hb .nil pass0 hg G.at_ ha.pa hdb he hpl), sr_raise ha.er⟩
/-! ### try: .. except c: .. -/
/-- a reading of statements, as it is owed -/
def cS (A : Amb) (K : PySem.W.Frag) (W : WX) (w : WS) : TS := fun D σ H => ∃ (g0 : Gh) (F0 H0 F : Hp) (e : En) (E : EndsP), SSt A K g0 F0 H0 σ F H e ∧ w E e ∧ EndsR A K W g0 F0 H0 F E D
theorem PSDs.c {X : Cx} {A : Amb} {W : WX} {K : PySem.W.Frag} {st : List Stmt} {t : TS} {w : WS} (h : PSDs X A W st t w) (hK : X.K = K) : PSs X st (cS A K W w) := by
  subst hK
  exact ⟨fun pins s σ H D I ⟨g0, F0, H0, F, e, E, S, q, R⟩ => h.ps.run pins s σ H D I (h.sr g0 F0 H0 σ F H e E D S q R)⟩
def wTryO (K : PySem.W.Frag) (c : Value) (wb ws : WS) : WS := fun E e => wb { E with ex := fun cl fs e1 => ∃ b, PySem.W.exmOne K cl c = some b ∧ (b = true → ws { E with ex := fun _ _ _ => False } e1) ∧ (b = false → E.ex cl fs e1) } e
theorem psd_tryO {X : Cx} {A : Amb} {W : WX} {x : Str} {c : Value} {body suite : List Stmt} {b₀ : Stmt} {np pos pos' : Pos} {wb ws : WS} (hs : X.stack = X.env :: X.outer) (hf : X.env.frame = some X.env.locals) (hc : Names X x c) (tk : Takes X W)
    (hb : ∀ (W' : WX) (pn : List (Addr × Obj)) (xe : Value → Shared → Prop), Takes (X.tr pn xe) W' → PassesOwn (model X.prog X.w) X.A X.env xe → ∃ tb, PSDs (X.tr pn xe) A W' body tb wb)
    (hsu : ∀ (a : Addr) (oe : Obj) (pn : List (Addr × Obj)), ∃ ts, PSDs (X.suite a ((a, oe) :: pn)) A (fun _ _ _ _ => False) (b₀ :: suite) ts ws) :
    PSD X A W (.Try body [.ExceptHandler (some (.Name x np)) none (b₀ :: suite) pos'] [] [] pos) (fun D σ H => cS A X.K (wOnly X.K c (fun _ _ _ => cS A X.K (fun _ _ _ _ => False) ws) W D) wb D σ H) (wTryO X.K c wb ws) := by
  refine ⟨ps_try_only hs hf hc tk (fun W' pn xe tk' po => (hb W' pn xe tk' po).choose_spec.c rfl) (fun a oe cls d pn _ _ => (hsu a oe pn).choose_spec.c rfl), ?_⟩
  intro g0 F0 H0 σ F H e E D S q R
  refine ⟨g0, F0, H0, F, e, _, S, q, ⟨R.nx, R.rt, R.bk, R.ct, fun σ1 F1 H1 e1 cl d fs S1 x1 xr ⟨b, h1, h2, h3⟩ => ⟨b, h1, fun hb a ha => ?_, fun hb => R.ex σ1 F1 H1 e1 cl d fs S1 x1 xr (h3 hb)⟩⟩⟩
  exact ⟨g0, F0, H0, F1, e1, _, S1, h2 hb, ⟨(R.mono x1).nx, R.rt, (R.mono x1).bk, (R.mono x1).ct, fun _ _ _ _ _ _ _ _ _ _ z => z.elim⟩⟩
end PL

namespace PL
open PySem L2
/-! ### lists and dicts that are known by their place: kept, changed, frozen -/
def Gh.addC (g : Gh) (p : Addr) (o : Ow) : Gh := ⟨g.k, g.os, g.cs ++ [(p, o)]⟩
def Gh.setC (g : Gh) (j : Nat) (p : Addr) (o : Ow) : Gh := ⟨g.k, g.os, g.cs.set j (p, o)⟩
def owD : Ow → D
  | .lst ds => .list ds
  | .dic kvs => dicD kvs
/-- a new list or dict stays, known by its place -/
def wKeep (we : WE) : WE := fun e post => we e fun r e1 => match r with
  | .new o => ∀ p : Addr, post (.val (.dat (rawD p))) ⟨e1.sl, e1.n.addC p o⟩
  | _ => False
/-- a container, by data that tells its place -/
def wLendD (we : WE) : WE := fun e post => we e fun r e1 => ∃ (p : Addr) (j : Nat) (o : Ow), r = .val (.dat (rawD p)) ∧ e1.n.cs[j]? = some (p, o) ∧ post (.lent p j o) e1
/-- an object, by data that tells its place -/
def wObj (we : WE) : WE := fun e post => we e fun r e1 => ∃ (p : Addr), r = .val (.dat (rawD p)) ∧ post (.val (.raw (.ref p))) e1
section
variable {K : PySem.W.Frag} {B : Bse} {σ : St} {F F0 F1 H H0 H1 : Hp} {e e0 e1 : En} {te tf : TE} {we wf : WE}
theorem rsG_addC {g : Gh} {p : Addr} {o : Ow} : rsG B (g.addC p o) = rsG B g ++ [p] := by
  unfold rsG Gh.addC
  simp [List.append_assoc]
theorem Sta.addC (S : Sta (amO K B) K σ F H e) (T : Stp (amO K B) σ F0 H0 e0 F H e) {p : Addr} {ho : HO} {o : Ow} (h0 : H0 p = none) (hF : F p = none) (hH : H p = some ho) (r : OwR K F ho o) (nr : p ∉ (amO K B).rs e.n) (no : ∀ i, ¬ Owns e σ i p) :
    Sta (amO K B) K σ F H ⟨e.sl, e.n.addC p o⟩ ∧ Stp (amO K B) σ F0 H0 e0 F H ⟨e.sl, e.n.addC p o⟩ := by
  have G : GOk K B e.n F H := S.ri.ri
  have er : (amO K B).rs (e.n.addC p o) = (amO K B).rs e.n ++ [p] := rsG_addC
  have mem : ∀ a, a ∈ (amO K B).rs (e.n.addC p o) → a ∈ (amO K B).rs e.n ∨ a = p := fun a ha => by
    rw [er] at ha
    simpa using ha
  refine ⟨⟨S.len, S.ex, S.at_, S.sep, ⟨⟨G.b, ?_, G.os, fun c hc => ?_⟩, fun c hc => ?_⟩, fun a ha => ?_, fun i q h z => ?_⟩, ⟨T.ex, T.keep, T.own, T.liv, fun a ha => ?_⟩⟩
  · rw [show rsG B (e.n.addC p o) = rsG B e.n ++ [p] from rsG_addC]
    exact List.nodup_append.mpr ⟨G.nd, by simp, fun a ha b hb => by
      have : b = p := by simpa using hb
      subst this
      exact fun z => nr (by rw [← z]; exact ha)⟩
  · rcases List.mem_append.mp hc with hc | hc
    · exact G.lv c hc
    · have : c = (p, o) := by simpa using hc
      subst this
      show H p ≠ none
      rw [hH]; simp
  · rcases List.mem_append.mp hc with hc | hc
    · obtain ⟨c1, c2⟩ := S.ri.cs c hc
      exact ⟨by rw [er]; exact List.mem_append_left _ c1, c2⟩
    · have : c = (p, o) := by simpa using hc
      subst this
      exact ⟨by rw [er]; simp, hF, ho, hH, r⟩
  · rcases mem a ha with q | q
    · exact S.rsF a q
    · rw [q]; exact hF
  · rcases mem q z with z | z
    · exact S.rsO i q h z
    · subst z; exact no i h
  · rcases mem a ha with q | q
    · exact T.rsn a q
    · rw [q]; exact .inr h0
theorem er_keep (h : ER (amO K B) K te we) : ER (amO K B) K te (wKeep we) := by
  intro σ F H e post S q Q k
  refine h σ F H e _ S q _ fun v r F1 H1 e1 T1 S1 R1 p1 => ?_
  match r, R1, p1 with
  | .new o, ⟨p, ho, ev, h0, f, g, q, nr, no⟩, p1 =>
    obtain ⟨S2, T2⟩ := S1.addC T1 h0 f g q nr no
    exact k v (.val (.dat (rawD p))) F1 H1 _ T2 S2 (by rw [ev]; exact .raw p) (p1 p)
theorem er_lendD {A : Amb} (h : ER A K te we) : ER A K te (wLendD we) := by
  intro σ F H e post S q Q k
  refine h σ F H e _ S q _ fun v r F1 H1 e1 T1 S1 R1 ⟨p, j, o, hr, hj, p1⟩ => ?_
  subst hr
  have ev : v = .ref p := by
    have R1' : RD K F1 v (rawD p) := R1
    generalize hd : rawD p = d at R1'
    cases R1' with
    | raw a => injection hd with hd; injection hd with hd; injection hd with h1 h2; injection h2 with h2; have : p = a := by exact_mod_cast h2
               rw [this]
    | dic f0 hk r0 =>
      rename_i a vs kvs
      exfalso
      unfold rawD dicD at hd
      injection hd with hd
      cases kvs with
      | nil => cases hd
      | cons z zs =>
        injection hd with hd
        injection hd with hd
        cases z with
        | mk a b => cases a <;> simp [keyD] at hd
    | _ => simp [rawD] at hd
  exact k v (.lent p j o) F1 H1 e1 T1 S1 ⟨ev, hj⟩ p1
theorem RD.isRaw {v : V} {p : Addr} (h : RD K F v (rawD p)) : v = .ref p := by
  generalize hd : rawD p = d at h
  cases h with
  | raw a => injection hd with hd; injection hd with hd; injection hd with h1 h2; injection h2 with h2; have : p = a := by exact_mod_cast h2
             rw [this]
  | dic f0 hk r0 =>
    rename_i a vs kvs
    exfalso
    unfold rawD dicD at hd
    injection hd with hd
    cases kvs with
    | nil => cases hd
    | cons z zs =>
      injection hd with hd
      injection hd with hd
      cases z with
      | mk a b => cases a <;> simp [keyD] at hd
  | _ => simp [rawD] at hd
theorem er_obj {A : Amb} (h : ER A K te we) : ER A K te (wObj we) := by
  intro σ F H e post S q Q k
  refine h σ F H e _ S q _ fun v r F1 H1 e1 T1 S1 R1 ⟨p, hr, p1⟩ => ?_
  subst hr
  exact k v (.val (.raw (.ref p))) F1 H1 e1 T1 S1 (RD.isRaw R1) p1
theorem rsG_setC {g : Gh} {j : Nat} {p : Addr} {o o' : Ow} (h : g.cs[j]? = some (p, o)) : rsG B (g.setC j p o') = rsG B g := by
  have e : (g.cs.set j (p, o')).map (·.1) = g.cs.map (·.1) := by
    rw [List.map_set]
    refine List.ext_getElem? fun i => ?_
    rw [List.getElem?_set]
    by_cases c : j = i
    · subst c
      have hl : j < (g.cs.map (·.1)).length := by rw [List.length_map]; exact (List.getElem?_eq_some_iff.mp h).1
      rw [if_pos rfl, if_pos hl, List.getElem?_map, h]; rfl
    · rw [if_neg c]
  unfold rsG Gh.setC
  rw [e]
/-- a container of the ambient is changed -/
theorem Sta.setC (S : Sta (amO K B) K σ F H e) {j : Nat} {p : Addr} {o o' : Ow} {ho' : HO} (hj : e.n.cs[j]? = some (p, o)) (r : OwR K F ho' o') :
    Sta (amO K B) K σ F (upd H p ho') ⟨e.sl, e.n.setC j p o'⟩ ∧ Stp (amO K B) σ F H e F (upd H p ho') ⟨e.sl, e.n.setC j p o'⟩ := by
  have G : GOk K B e.n F H := S.ri.ri
  have hm := List.mem_of_getElem? hj
  obtain ⟨c1, c2, ho, c3, c4⟩ := S.ri.cs _ hm
  have er : (amO K B).rs (e.n.setC j p o') = (amO K B).rs e.n := rsG_setC hj
  have nd := G.nd
  unfold rsG at nd
  obtain ⟨n1, n2, n3⟩ := List.nodup_append.mp nd
  have mp : p ∈ e.n.cs.map (·.1) := List.mem_map.mpr ⟨_, hm, rfl⟩
  have hl : j < e.n.cs.length := (List.getElem?_eq_some_iff.mp hj).1
  have ne : ∀ i c, e.n.cs[i]? = some c → i ≠ j → c.1 ≠ p := fun i c hi hn z => by
    have li : i < e.n.cs.length := (List.getElem?_eq_some_iff.mp hi).1
    have h1 : (e.n.cs.map (·.1))[i]'(by simpa using li) = p := by
      have := (List.getElem?_eq_some_iff.mp hi).2
      simp [this, z]
    have h2 : (e.n.cs.map (·.1))[j]'(by simpa using hl) = p := by
      have := (List.getElem?_eq_some_iff.mp hj).2
      simp [this]
    have pw := List.pairwise_iff_getElem.mp n2
    rcases Nat.lt_or_gt_of_ne hn with q | q
    · exact pw i j (by simpa using li) (by simpa using hl) q (h1.trans h2.symm)
    · exact pw j i (by simpa using hl) (by simpa using li) q (h2.trans h1.symm)
  refine ⟨⟨S.len, fun x o q => by rw [upd_ne fun z => by rw [z, c2] at q; cases q]; exact S.ex x o q, fun i s hs => (S.at_ i s hs).ext (Ex.refl _) fun q e1 ⟨o, h2⟩ f g => ⟨f, upd_ne fun z => ?_⟩, S.sep, ⟨⟨B.st _ _ _ (fun x hx => upd_ne fun z => n3 x (List.mem_append_left _ hx) _ mp z) G.b, by rw [show rsG B (e.n.setC j p o') = rsG B e.n from rsG_setC hj]; exact G.nd, fun o ho => ?_, fun c hc => ?_⟩, fun c hc => ?_⟩, by rw [er]; exact S.rsF, fun i q h => by rw [er]; exact S.rsO i q h⟩,
    ⟨Ex.refl _, fun x o q hr _ => ⟨by rw [upd_ne fun z => hr (by rw [z]; exact c1)]; exact q, rfl⟩, fun _ _ h => h, fun x hx => by
      by_cases c : x = p
      · subst c; rw [upd_same]; simp
      · rw [upd_ne c]; exact hx, fun x hx => by rw [er] at hx; exact .inl hx⟩⟩
  · subst z
    exact S.rsO i _ ⟨⟨o, by rw [← h2]; exact hs⟩, e1⟩ c1
  · obtain ⟨vs, k1, k2, k3⟩ := G.os o ho
    have m : ∀ a, a = o.ad ∨ a = o.dx → a ≠ p := fun a ha z => n3 a (List.mem_append_right _ (List.mem_flatMap.mpr ⟨o, ho, by rcases ha with q | q <;> simp [q]⟩)) _ mp z
    exact ⟨vs, by rw [upd_ne (m _ (.inl rfl))]; exact k1, by rw [upd_ne (m _ (.inr rfl))]; exact k2, k3⟩
  · by_cases z : c.1 = p
    · rw [z, upd_same]; simp
    · rw [upd_ne z]
      obtain ⟨i, hi⟩ := List.getElem?_of_mem hc
      have hi' : (e.n.cs.set j (p, o'))[i]? = some c := hi
      by_cases c' : j = i
      · subst c'
        rw [List.getElem?_set_self hl] at hi'
        cases hi'
        exact absurd rfl z
      · rw [List.getElem?_set_ne c'] at hi'
        exact G.lv c (List.mem_of_getElem? hi')
  · obtain ⟨i, hi⟩ := List.getElem?_of_mem hc
    have hi' : (e.n.cs.set j (p, o'))[i]? = some c := hi
    rw [er]
    by_cases c' : j = i
    · subst c'
      rw [List.getElem?_set_self hl] at hi'
      cases hi'
      exact ⟨c1, c2, ho', upd_same, r⟩
    · rw [List.getElem?_set_ne c'] at hi'
      obtain ⟨d1, d2, hd, d3, d4⟩ := S.ri.cs c (List.mem_of_getElem? hi')
      exact ⟨d1, d2, hd, by rw [upd_ne (ne i c hi' (Ne.symm c'))]; exact d3, d4⟩
/-! l.append(v), l told by its place -/
def appC (we : WE) (post : Rs → En → Prop) : Rs → En → Prop := fun r e1 => match r with
  | .lent p j (.lst _) => we e1 fun s e2 => s.fre (match s.av, (frz1 e2 s).n.cs[j]? with
    | .dat d, some (p', .lst ds) => p' = p ∧ ds.length < 100000 ∧ post (.val (.dat .none)) ⟨(frz1 e2 s).sl, (frz1 e2 s).n.setC j p (.lst (ds ++ [d]))⟩
    | _, _ => False)
  | _ => False
def wAppendC (wl we : WE) : WE := fun e post => wl e (appC we post)
theorem appC_var {i : Nat} {post : Rs → En → Prop} {p : Addr} {j : Nat} {ds0 ds : List D} {e1 : En} {d : D} (hi : e1.sl[i]? = some (.im (.dat d))) (hc : e1.n.cs[j]? = some (p, .lst ds)) (hl : ds.length < 100000) (hp : post (.val (.dat .none)) ⟨e1.sl, e1.n.setC j p (.lst (ds ++ [d]))⟩) : appC (wVar i) post (.lent p j (.lst ds0)) e1 := by
  simp only [appC, wVar, hi]
  show match (Av.dat d), e1.n.cs[j]? with
    | .dat d, some (p', .lst ds) => p' = p ∧ ds.length < 100000 ∧ post (.val (.dat .none)) ⟨e1.sl, e1.n.setC j p (.lst (ds ++ [d]))⟩
    | _, _ => False
  rw [hc]
  exact ⟨rfl, hl, hp⟩
theorem er_appendC (hl : ER (amO K B) K te we) (h : ER (amO K B) K tf wf) : ER (amO K B) K (tBM K "list" rAppend te (tCons tf tNil)) (wAppendC we wf) := by
  intro σ F H e post S q Q k
  refine hl σ F H e _ S q _ fun v r F0 H0 e0 T0 S0 R0 q0 => ?_
  match r, R0, q0 with
  | .lent p j (.lst ds0), ⟨ev, hj⟩, q0 =>
    subst ev
    obtain ⟨_, _, ho0, g0, o0⟩ := S0.ri.cs _ (List.mem_of_getElem? hj)
    obtain ⟨vs0, ev0, _⟩ := OwR.lst o0
    subst ev0
    refine ⟨tyV_lst g0, h σ F0 H0 e0 _ S0 q0 _ fun y s F1 H1 e1 T1 S1 R1 q1 => ?_⟩
    obtain ⟨hf, q1⟩ := Rs.fre_iff.mp q1
    split at q1
    · rename_i d p' ds hr hi2
      obtain ⟨ep, ql, q2⟩ := q1
      subst ep
      obtain ⟨F2, B2, S2, x2, rel, _⟩ := freeze1 hf (T0.trans T1) S1 (.inr (R1.early T0))
      obtain ⟨_, _, ho', g3, g4⟩ := S2.ri.cs _ (List.mem_of_getElem? hi2)
      obtain ⟨vs', ev', rd'⟩ := OwR.lst g4
      subst ev'
      rw [hr] at rel
      have o' : OwR K F2 (.lst (vs' ++ [y])) (.lst (ds ++ [d])) := ⟨_, rfl, rd'.append (.cons rel .nil)⟩
      obtain ⟨S3, T3⟩ := S2.setC hi2 o'
      refine ⟨p', vs', y, rfl, rfl, g3, Nat.lt_of_lt_of_le (by rw [rd'.length]; exact ql) line5, ?_⟩
      exact k .non (.val (.dat .none)) F2 _ _ (B2.trans T3) S3 .non q2
    · exact q1.elim
/-! the last containers are frozen -/
theorem KvR.split {vs : List (Key × V)} {kvs : List (Key × D)} (h : KvR K F vs kvs) : vs.map (·.1) = kvs.map (·.1) ∧ RDs K F (vs.map (·.2)) (kvs.map (·.2)) := by
  induction kvs generalizing vs with
  | nil => cases h; exact ⟨rfl, .nil⟩
  | cons b kvs ih =>
    cases h with
    | cons h t =>
      obtain ⟨h1, h2⟩ := ih t
      exact ⟨by simp [h.1, h1], .cons h.2 h2⟩
theorem OwR.rd {ho : HO} {o : Ow} {p : Addr} (h : OwR K F ho o) (e : F p = some ho) : RD K F (.ref p) (owD o) := by
  cases o with
  | lst ds => obtain ⟨vs, e1, r⟩ := h; subst e1; exact .lst e r
  | dic kvs => obtain ⟨vs, e1, r⟩ := h; subst e1; exact .dic e r.split.1 r.split.2
def wMelt (i : Nat) (w : WE) : WE := fun e post => ∃ (cs0 cs1 : List (Addr × Ow)), e.n.cs = cs0 ++ cs1 ∧ e.sl[i]? = some (.ow (.lst (cs1.map fun c => rawD c.1))) ∧
  w ⟨e.sl.set i (.ow (.lst (cs1.map fun c => owD c.2))), ⟨e.n.k, e.n.os, cs0⟩⟩ post
theorem RDs.melt {F' : Hp} : ∀ {cs : List (Addr × Ow)} {vs : List V}, RDs K F vs (cs.map fun c => rawD c.1) → (∀ c ∈ cs, RD K F' (.ref c.1) (owD c.2)) → RDs K F' vs (cs.map fun c => owD c.2)
  | [], _, .nil, _ => .nil
  | c :: cs, _, .cons h t, k => .cons (by rw [RD.isRaw h]; exact k c (by simp)) (RDs.melt t fun c hc => k c (by simp [hc]))
open Classical in
theorem Sta.melt (S : Sta (amO K B) K σ F H e) {cs0 cs1 : List (Addr × Ow)} (hc : e.n.cs = cs0 ++ cs1) : ∃ F', Ex F F' ∧ (∀ c ∈ cs1, RD K F' (.ref c.1) (owD c.2)) ∧ Sta (amO K B) K σ F' H ⟨e.sl, ⟨e.n.k, e.n.os, cs0⟩⟩ ∧ Stp (amO K B) σ F H e F' H ⟨e.sl, ⟨e.n.k, e.n.os, cs0⟩⟩ := by
  have G : GOk K B e.n F H := S.ri.ri
  have in1 : ∀ c ∈ cs1, c ∈ e.n.cs := fun c h => by rw [hc]; exact List.mem_append_right _ h
  have in0 : ∀ c ∈ cs0, c ∈ e.n.cs := fun c h => by rw [hc]; exact List.mem_append_left _ h
  let F' : Hp := fun a => if a ∈ cs1.map (·.1) then H a else F a
  have f1 : ∀ c ∈ cs1, F' c.1 = H c.1 := fun c h => if_pos (List.mem_map.mpr ⟨c, h, rfl⟩)
  have f0 : ∀ a, a ∉ cs1.map (·.1) → F' a = F a := fun a h => if_neg h
  have x : Ex F F' := fun a o h => by
    by_cases m : a ∈ cs1.map (·.1)
    · obtain ⟨c, hc', e'⟩ := List.mem_map.mp m
      subst e'
      rw [(S.ri.cs c (in1 c hc')).2.1] at h; cases h
    · rw [f0 a m]; exact h
  have x2 : Ex F' H := fun a o h => by
    by_cases m : a ∈ cs1.map (·.1)
    · rw [show F' a = H a from if_pos m] at h; exact h
    · rw [f0 a m] at h; exact S.ex a o h
  have inr : ∀ a, a ∈ cs1.map (·.1) → a ∈ (amO K B).rs e.n := fun a m => by
    obtain ⟨c, hc', e'⟩ := List.mem_map.mp m
    subst e'
    exact (S.ri.cs c (in1 c hc')).1
  have sub : (rsG B ⟨e.n.k, e.n.os, cs0⟩).Sublist (rsG B e.n) := by
    unfold rsG
    rw [hc, List.map_append]
    exact (List.Sublist.refl _).append (List.sublist_append_left _ _)
  have nd := G.nd
  have split : rsG B e.n = rsG B ⟨e.n.k, e.n.os, cs0⟩ ++ cs1.map (·.1) := by
    unfold rsG
    rw [hc, List.map_append, List.append_assoc, List.append_assoc, List.append_assoc]
  rw [split] at nd
  obtain ⟨_, _, dis⟩ := List.nodup_append.mp nd
  have rsF' : ∀ a ∈ (amO K B).rs ⟨e.n.k, e.n.os, cs0⟩, F' a = none := fun a ha => by
    rw [f0 a fun m => dis a ha a m rfl]
    exact S.rsF a (sub.subset ha)
  refine ⟨F', x, fun c h => ?_, ⟨S.len, x2, fun i s hs => (S.at_ i s hs).ext x fun q e1 ⟨o, h2⟩ f g => ⟨?_, rfl⟩, S.sep, ⟨⟨G.b, G.nd.sublist sub, fun o ho => ?_, fun c h => G.lv c (in0 c h)⟩, fun c h => ?_⟩, rsF', fun i p h z => S.rsO i p h (sub.subset z)⟩,
    ⟨x, fun a o h hr _ => ⟨h, f0 a fun m => hr (inr a m)⟩, fun _ _ h => h, fun _ h => h, fun a ha => .inl (sub.subset ha)⟩⟩
  · obtain ⟨_, _, ho, h3, h4⟩ := S.ri.cs c (in1 c h)
    exact (h4.ext x).rd (by rw [f1 c h]; exact h3)
  · rw [f0 q fun m => S.rsO i q ⟨⟨o, by rw [← h2]; exact hs⟩, e1⟩ (inr q m)]
    exact f
  · obtain ⟨vs, k1, k2, k3⟩ := G.os o ho
    exact ⟨vs, k1, k2, Paired.mapP k3 fun _ _ z => ⟨z.1, RelA.ext x z.2⟩⟩
  · obtain ⟨_, _, ho, h3, h4⟩ := S.ri.cs c (in0 c h)
    have m : c.1 ∈ (amO K B).rs ⟨e.n.k, e.n.os, cs0⟩ := by
      show c.1 ∈ rsG B _
      unfold rsG
      exact List.mem_append_right _ (List.mem_map.mpr ⟨c, h, rfl⟩)
    exact ⟨m, rsF' _ m, ho, h3, h4.ext x⟩
theorem er_melt {i : Nat} (h : ER (amO K B) K te we) : ER (amO K B) K te (wMelt i we) := by
  intro σ F H e post S ⟨cs0, cs1, hc, hi, q⟩ Q k
  obtain ⟨F', x, rd, S1, T1⟩ := S.melt hc
  have hi1 : (⟨e.sl, ⟨e.n.k, e.n.os, cs0⟩⟩ : En).sl[i]? = some (.ow (.lst (cs1.map fun c => rawD c.1))) := hi
  obtain ⟨p, ho, g1, g2, g3, g4, own⟩ := S1.owAt hi1
  obtain ⟨vs, ev, r⟩ := OwR.lst g4
  subst ev
  have o' : OwR K F' (.lst vs) (.lst (cs1.map fun c => owD c.2)) := ⟨vs, rfl, r.melt rd⟩
  obtain ⟨S2, T2⟩ := S1.mut own (by rw [g3]; simp) o'
  have eu : upd H p (.lst vs) = H := by
    funext b
    by_cases hb : b = p
    · rw [hb, upd_same, g3]
    · rw [upd_ne hb]
  rw [eu] at S2 T2
  exact h σ F' H _ post S2 q Q fun v r' F2 H2 e2 T3 S3 R3 p3 => k v r' F2 H2 e2 ((T1.trans T2).trans T3) S3 R3 p3
end
section
variable {X : Cx} {B : Bse} {A : Amb} {ex ey : Expr} {te tf : TE} {we wf : WE} {pos cpos apos : Pos}
theorem pd_keep (h : PD X (amO X.K B) ex te we) : PD X (amO X.K B) ex te (wKeep we) := ⟨h.pe, er_keep h.er⟩
theorem pd_lendD (h : PD X A ex te we) : PD X A ex te (wLendD we) := ⟨h.pe, er_lendD h.er⟩
theorem pd_obj (h : PD X A ex te we) : PD X A ex te (wObj we) := ⟨h.pe, er_obj h.er⟩
theorem pd_melt (i : Nat) (h : PD X (amO X.K B) ex te we) : PD X (amO X.K B) ex te (wMelt i we) := ⟨h.pe, er_melt h.er⟩
theorem pd_appendC (ho : PD X (amO X.K B) ey te we) (h : PD X (amO X.K B) ex tf wf) (hb : attributeBase ey "append" X.env (eval ey X.env) = eval ey X.env := by rfl)
    (hfew : ((backTo cpos (starEach [ex] X.env)).all (fun x => !x.1) && (backToKw cpos (keywordEach [] X.env)).all (fun x => x.1.isSome)
      && decide (([ex] : List Expr).length + ([] : List Keyword).length + (if ([] : List Keyword).isEmpty then 0 else 1) < 30)) = true := by rfl)
    (hline : (apos.endLine == cpos.line) = true := by rfl) (hs : starEach [ex] X.env = (false, eval ex X.env) :: starEach [] X.env := by rfl) (hplain : (backTo cpos (starEach [] X.env)).any (·.1) = false := by rfl) :
    PD X (amO X.K B) (.Call (.Attribute ey "append" apos) [ex] [] cpos) (tBM X.K "list" rAppend te (tCons tf tNil)) (wAppendC we wf) :=
  ⟨pe_bm PySem.F.plainAttrs_list PySem.F.slot_list_append PySem.F.type_list_append mt_append ho.pe (pa_cons h.pe pa_nil hs) hb hfew hline hs hplain, er_appendC ho.er h.er⟩
end
end PL

namespace PL
open PySem L2
/-! ### dict comprehensions -/
theorem putD_len (kvs : List (Key × D)) (k : Key) (d : D) : (putD kvs k d).length ≤ kvs.length + 1 := by
  unfold putD
  split
  · rw [List.length_map]; omega
  · rw [List.length_append, List.length_singleton]; omega
def dcLoop (wg : WG) (wt : WT) (wk we : WE) (vs : List Nat) : List D → List (Key × D) → En → (List (Key × D) → En → Prop) → Prop
  | [], acc, e, k => k acc e
  | d :: ds, acc, e, k => wg d (ewipe e vs) fun e2 => wt e2 fun b e3 => if b = true then wk e3 fun rk e4 => we e4 fun r e5 => r.fre (match rk.av, r.av with
    | .dat y, .dat d' => ∃ k0, keyOf? y = some k0 ∧ dcLoop wg wt wk we vs ds (putD acc k0 d') (frz1 e5 r) k
    | _, _ => False) else dcLoop wg wt wk we vs ds acc e3 k
structure DcOk (wg : WG) (wt : WT) (wk we : WE) (vs : List Nat) (post : Rs → En → Prop) (ds : List D) (e1 : En) : Prop where
  no : noOw e1 vs
  len : ds.length ≤ 100000
  loop : dcLoop wg wt wk we vs ds [] e1 fun acc e2 => post (.new (.dic acc)) (erest e1 e2 vs)
def wDc (wi : WI) (wg : WG) (wt : WT) (wk we : WE) (vs : List Nat) : WE := fun e post => wi e fun ds e1 => DcOk wg wt wk we vs post ds e1
section
variable {W : WX} {X : Cx} {A : Amb} {K : PySem.W.Frag} {σ σ' : St} {F F' F1 H H' H1 F0 H0 Fn : Hp} {g0 : Gh} {e e' : En} {v : V} {a : Av} {wi : TI} {vi : WI} {g : TG} {wg : WG} {tt : TT} {wt : WT} {te tk : TE} {we wk : WE} {vs : List Nat} {u : Bool} {pos : Pos}
theorem er_dc (hi : IER A K u wi vi) (hg : GER A K vs u g wg) (ht : ETR A K tt wt) (hk : ER A K tk wk) (he : ER A K te we) : ER A K (tDc wi g tt tk te vs) (wDc vi wg wt wk we vs) := by
  intro σ F H e post S q Q k
  refine hi σ F H e _ S q _ fun J ds F1 H1 e1 T1 S1 J1 ⟨hn, hlen, hloop⟩ => ?_
  intro D hD
  have no1 : ∀ j p, j ∈ vs → ¬ Owns e1 σ j p := hn.owns (A := A) (K := K)
  have hD0 : H D = none := by
    cases z : H D with
    | none => rfl
    | some w => exact absurd hD (T1.liv D (by rw [z]; simp))
  obtain ⟨S1w, iff1⟩ := S1.wipe no1
  have noW : ∀ (e' : En) j p, j ∈ vs → ¬ Owns (ewipe e' vs) (L2.wipe σ vs) j p := fun e' j p hj ⟨⟨o, h1⟩, _⟩ => by
    rcases ewipe_at e' vs h1 with ⟨_, z⟩ | ⟨z, _⟩
    · cases z
    · exact z hj
  let P : Nat → Hp → Prop := fun i H => ∃ (F' : Hp) (e' : En) (acc : List (Key × PyData)) (ws : List (Key × V)), Sta A K (L2.wipe σ vs) F' H (ewipe e' vs) ∧ Stp A (L2.wipe σ vs) F1 H1 (ewipe e1 vs) F' H (ewipe e' vs) ∧
    H D = some (.dK ws) ∧ KvR K F' ws acc ∧ F' D = none ∧ D ∉ A.rs (ewipe e' vs).n ∧ (∀ i, ¬ Owns (ewipe e' vs) (L2.wipe σ vs) i D) ∧ acc.length ≤ i ∧ i ≤ ds.length ∧
    dcLoop wg wt wk we vs (ds.drop i) acc e' fun acc e2 => post (.new (.dic acc)) (erest e1 e2 vs)
  have fin : ∀ H', P ds.length H' → Q (.ref D) H' := by
    rintro H' ⟨F', e', acc, ws, S', T', gD, rd, fD, nr, no, _, _, hl⟩
    rw [List.drop_length] at hl
    have hl : post (.new (.dic acc)) (erest e1 e' vs) := hl
    have hle : e'.sl.length = e1.sl.length := by
      have a := S'.len
      have b := S1.len
      rw [ewipe_len, wipe_len] at a
      omega
    have at' : ∀ (j : Nat) (s : Sl), (erest e1 e' vs).sl[j]? = some s → (j ∈ vs ∧ e1.sl[j]? = some s) ∨ (j ∉ vs ∧ e'.sl[j]? = some s) := fun j s h => erest_at e1 e' hle vs h
    have wat : ∀ (j : Nat) (s : Sl), j ∉ vs → e'.sl[j]? = some s → (ewipe e' vs).sl[j]? = some s := fun j s c h => by
      have hl : j < (ewipe e' vs).sl.length := by rw [ewipe_len]; exact (List.getElem?_eq_some_iff.mp h).1
      have g := List.getElem?_eq_getElem hl
      rcases ewipe_at e' vs g with ⟨z, _⟩ | ⟨_, z⟩
      · exact absurd z c
      · rw [g, ← z]; exact h
    have ow : ∀ i p, Owns (erest e1 e' vs) σ i p → Owns (ewipe e' vs) (L2.wipe σ vs) i p := fun i p ⟨⟨o, h1⟩, h2⟩ => by
      rcases at' i _ h1 with ⟨c, z⟩ | ⟨c, z⟩
      · exact absurd ⟨⟨o, z⟩, h2⟩ (no1 i p c)
      · exact ⟨⟨o, wat i _ c z⟩, by rw [wipe_out c]; exact h2⟩
    have S2 : Sta A K σ F' H' (erest e1 e' vs) := by
      refine ⟨by rw [erest_len, hle]; exact S1.len, S'.ex, fun j s hs => ?_, fun i j p h1 h2 => S'.sep i j p (ow i p h1) (ow j p h2), ?_, by have q := S'.rsF; rw [ewipe_n] at q; rw [erest_n]; exact q, fun i p h => by have q := S'.rsO i p (ow i p h); rw [ewipe_n] at q; rw [erest_n]; exact q⟩
      · rcases at' j s hs with ⟨c, z⟩ | ⟨c, z⟩
        · have h := S1.at_ j s z
          match s, z, h with
          | .un, _, _ => trivial
          | .im a, _, ⟨v, e1, r⟩ => exact ⟨v, e1, RelA.ext T'.ex r⟩
          | .ow o, z, ⟨p, ho, e1, _⟩ => exact absurd ⟨⟨o, z⟩, e1⟩ (no1 j p c)
        · have h := S'.at_ j s (wat j s c z)
          rw [wipe_out c] at h
          exact h
      · have h := S'.ri
        rw [ewipe_n] at h
        rw [erest_n]; exact h
    have T2 : Stp A σ F1 H1 e1 F' H' (erest e1 e' vs) := ⟨T'.ex, fun a o q hr hn => T'.keep a o q (by rw [ewipe_n]; exact hr) fun i z => hn i ((iff1 i a).mp z), fun i p h => (iff1 i p).mp (T'.own i p (ow i p h)), T'.liv, fun a h => by
      rw [erest_n] at h
      have q := T'.rsn a (by rw [ewipe_n]; exact h)
      rw [ewipe_n] at q
      exact q⟩
    exact k _ (.new (.dic acc)) F' H' _ (T1.trans T2) S2 ⟨D, _, rfl, hD0, fD, gD, ⟨ws, rfl, rd⟩, by rw [ewipe_n] at nr; rw [erest_n]; exact nr, fun i z => no i (ow i D z)⟩ hl
  refine ⟨fun i m H => P i H ∧ m = ds.length - i, ⟨_, ?_, rfl⟩, ?_⟩
  · obtain ⟨S2, T2⟩ := S1w.push (ho := .dK []) hD
    refine ⟨F1, e1, [], [], S2, T2, upd_same, .nil, ?_, S1w.rsA hD, S1w.noO hD, Nat.le_refl _, Nat.zero_le _, hloop⟩
    cases z : F1 D with
    | none => rfl
    | some w => rw [S1.ex D w z] at hD; cases hD
  · rintro i m H' ⟨p, hm⟩
    by_cases hlt : i < ds.length
    · right
      obtain ⟨F', e', acc, ws, S', T', gD, rd, fD, nr, no, hacc, _, hl⟩ := p
      have hd : ds[i]? = some ds[i] := List.getElem?_eq_getElem hlt
      refine ⟨J1.go i F' H' T'.ex S'.ex hlt, fun H2 => P (i + 1) H2, fun H2 p2 => ⟨ds.length - (i + 1), by omega, p2, rfl⟩, fun x H2 hy => ?_⟩
      obtain ⟨F2, S2, rdx, T2⟩ := S'.grow (J1.yld i F' H' x H2 _ T'.ex S'.ex hy hd)
      have hdrop : ds.drop i = ds[i] :: ds.drop (i + 1) := List.drop_eq_getElem_cons hlt
      rw [hdrop] at hl
      obtain ⟨gD2, fD2⟩ := T2.keep D _ gD nr no
      refine hg _ F2 H2 _ _ x _ S2 rdx (noW e') hl _ fun σ3 e3 G3 S3 p3 => ?_
      have hw : L2.wipe σ3 vs = L2.wipe σ vs := by
        rw [wipe_congr G3.len vs fun j hj => (G3.same j hj).1, wipe_idem]
      refine ⟨hw, ht σ3 F2 H2 e3 _ S3 p3 _ fun b F4 H4 e4 T4 S4 p4 => ?_⟩
      have no3 : ∀ i, ¬ Owns e3 σ3 i D := fun i z => no i (G3.own i D z)
      have nr3 : D ∉ A.rs e3.n := by rw [G3.n]; exact nr
      obtain ⟨gD4, fD4⟩ := T4.keep D _ gD2 nr3 no3
      have nr4 : D ∉ A.rs e4.n := fun z => (T4.rsn D z).elim nr3 fun z => by rw [z] at gD2; cases gD2
      cases b with
      | false =>
        have no4 : ∀ j p, j ∈ vs → ¬ Owns e4 σ3 j p := fun j p hj z => G3.none j p hj (T4.own j p z)
        obtain ⟨S4w, iff4⟩ := S4.wipe no4
        have T4w := Stp.unwipe G3 T4 hw iff4
        rw [hw] at S4w iff4
        refine ⟨F4, e4, acc, ws, S4w, (T'.trans T2).trans T4w, gD4, rd.ext (T2.ex.trans T4.ex), fD4.trans (fD2.trans fD), by rw [ewipe_n]; exact nr4, fun i z => no3 i (T4.own i D ((iff4 i D).mp z)), by omega, hlt, p4⟩
      | true =>
        refine hk σ3 F4 H4 e4 _ S4 p4 _ fun yk rk Fk Hk ek Tk Sk Rk pk => ?_
        refine he σ3 Fk Hk ek _ Sk pk _ fun y r F5 H5 e5 T5 S5 R5 p5 => ?_
        obtain ⟨hf, p5⟩ := Rs.fre_iff.mp p5
        obtain ⟨F6, B6, S6, x6, rel, _⟩ := freeze1 hf (Tk.trans T5) S5 (.inr (R5.early Tk))
        have noE4 : ∀ i, ¬ Owns e4 σ3 i D := fun i z => no3 i (T4.own i D z)
        obtain ⟨gD6, fD6⟩ := B6.keep D _ gD4 nr4 noE4
        have nr6 : D ∉ A.rs (frz1 e5 r).n := fun z => (B6.rsn D z).elim nr4 fun z => by rw [z] at gD4; cases gD4
        split at p5
        · rename_i yd d' hrk hr
          obtain ⟨k0, hk0, p5⟩ := p5
          rw [hr] at rel
          have rel : RD K F6 y d' := rel
          have tz := Rk.top Sk
          rw [hrk] at tz
          have ez := keyOf_kV tz hk0
          have no6 : ∀ j p, j ∈ vs → ¬ Owns (frz1 e5 r) σ3 j p := fun j p hj z => G3.none j p hj (T4.own j p (B6.own j p z))
          obtain ⟨S6w, iff6⟩ := S6.wipe no6
          have T6w := Stp.unwipe G3 (T4.trans B6) hw iff6
          rw [hw] at S6w iff6
          have noD : ∀ i, ¬ Owns (ewipe (frz1 e5 r) vs) (L2.wipe σ vs) i D := fun i z => noE4 i (B6.own i D ((iff6 i D).mp z))
          have fD' : F6 D = none := fD6.trans (fD4.trans (fD2.trans fD))
          have lw : ws.length = acc.length := Paired.length rd
          refine ⟨ws, k0, ez, gD6, Nat.lt_of_lt_of_le (by rw [lw]; omega) line5, F6, frz1 e5 r, putD acc k0 d', putK ws k0 y, S6w.other fD' (by rw [ewipe_n]; exact nr6) noD, ((T'.trans T2).trans T6w).other hD, upd_same,
            (rd.ext (T2.ex.trans (T4.ex.trans B6.ex))).put rel, fD', by rw [ewipe_n]; exact nr6, noD, ?_, hlt, p5⟩
          have := putD_len acc k0 d'
          omega
        · exact p5.elim
    · left
      have ei : i = ds.length := by
        obtain ⟨_, _, _, _, _, _, _, _, _, _, _, _, h, _⟩ := p
        omega
      subst ei
      refine ⟨?_, fin H' p⟩
      obtain ⟨F', e', acc, ws, S', T', _⟩ := p
      exact J1.stop F' H' T'.ex S'.ex
theorem pd_dc {kx vx tg iter : Expr} {ifs : List Expr} {scope : Scope} {own : List (Str × Nat)} (hc : X.calm = true) (hN : X.N.Nodup) (hi : PID X A tg iter u wi vi) (ok : BlkOk X.N X.env.scope scope own)
    (hg : BG X A scope tg (own.map (·.2)) u wg) (ht : BT X A scope ifs wt) (hk : BE X A scope kx wk) (he : BE X A scope vx we) (hs : ∀ x, foldedSetIterable iter X.env x = pure x := by intro _; rfl) :
    PD X A (.DictComp kx vx [⟨tg, iter, ifs, 0⟩] scope pos) (tDc wi (cG A X.K (own.map (·.2)) u wg) (cT A X.K wt) (cE A X.K wk) (cE A X.K we) (own.map (·.2))) (wDc vi wg wt wk we (own.map (·.2))) :=
  ⟨pe_dc hc hN hi.pi ok (fun s H C cl fp => by obtain ⟨g, h⟩ := hg s H C cl fp; exact h.c rfl) (fun s H C cl fp => by obtain ⟨g, h⟩ := ht s H C cl fp; exact h.c rfl) (fun s H C cl fp => by obtain ⟨g, h⟩ := hk s H C cl fp; exact h.c rfl) (fun s H C cl fp => by obtain ⟨g, h⟩ := he s H C cl fp; exact h.c rfl) hs,
   er_dc hi.er eg_c' et_c' er_c' er_c'⟩
/-! ### l[::-1] -/
def wRevL (we : WE) : WE := fun e post => we e fun r e1 => match r.av with
  | .dat (.list ds) => post (.new (.lst ds.reverse)) e1
  | _ => False
theorem er_revL (h : ER A K te we) : ER A K (tRevL K te) (wRevL we) := by
  intro σ F H e post S q Q k
  refine h σ F H e _ S q _ fun v r F1 H1 e1 T1 S1 R1 q1 => ?_
  split at q1
  · rename_i ds hr
    have tp := R1.top S1
    rw [hr] at tp
    obtain ⟨p, vs, ev, hp, rd⟩ := tp.vlst
    exact ⟨p, vs, ev, SqL.of hp, fun p2 np => (S1.okr (post := fun r => post r e1) fun v r F3 H3 T3 S3 R3 p3 => k v r F3 H3 _ (T1.trans T3) S3 (R3.early T1) p3).new p2 _ (.lst _) np ⟨_, rfl, rd.reverse⟩ q1⟩
  · exact q1.elim
theorem pd_revL {ex : Expr} {kk : Nat} {p1 p2 p3 : Pos} (h : PD X A ex te we) : PD X A (.Subscript ex (.Slice none none (some (.UnaryOp .USub (.Constant (.int 1) kk p1) p2)) p3) pos) (tRevL X.K te) (wRevL we) := ⟨pe_revL h.pe, er_revL h.er⟩
/-! ### is True -/
def oIsB : F2 := fun a b k => match a, b with
  | .dat (.bool x), .dat (.bool y) => k (vBl (decide (x = y)))
  | _, _ => False
def oNotB : F2 := fun a b k => match a, b with
  | .dat (.bool x), .dat (.bool y) => k (vBl (!decide (x = y)))
  | _, _ => False
theorem op_isB' : OpR X (compareOp .Is) (R2D X.K oIsB) := by
  intro pins s σ H x y v u Q I rx ry ⟨F, a, b, post, ex, ta, tb, q, ok⟩
  unfold oIsB at q
  split at q
  · exact op_isBl pins s σ H x y v u Q I rx ry ⟨_, _, ta.vbl, tb.vbl, ok.bl q⟩
  · exact q.elim
theorem op_notB' : OpR X (compareOp .IsNot) (R2D X.K oNotB) := by
  intro pins s σ H x y v u Q I rx ry ⟨F, a, b, post, ex, ta, tb, q, ok⟩
  unfold oNotB at q
  split at q
  · exact op_notBl pins s σ H x y v u Q I rx ry ⟨_, _, ta.vbl, tb.vbl, ok.bl q⟩
  · exact q.elim
end
end PL

namespace RVT
open PySem PySem.Spec PyProof.Rows HT L2
/-! ### t[::-1] of a tuple -/
section
variable {prog : Program} {w : World} {A : Around} {E : Value → Shared → Prop} {s : Shared}
theorem adj_rev (n : Nat) : Builtin.Slice.sliceAdjust none none (-1) (n : Int) = ((n : Int) - 1, -1) := by
  unfold Builtin.Slice.sliceAdjust
  simp
theorem plc_rev (n : Nat) : Builtin.Slice.slicePlaces ((n : Int) - 1) (-1) (-1) = n := by
  unfold Builtin.Slice.slicePlaces
  simp
  omega
theorem apl_rev {sl : Addr} {vl vu vs : Value} {n : Nat} {Q : Int × Int × Nat → Shared → Prop} (hs : s.heap.IsSliceOf sl vl vu vs) (pl : IsPart vl none) (pu : IsPart vu none) (ps : IsPart vs (some (-1))) (h : Q ((n : Int) - 1, -1, n) s) :
    wpAny (model prog w) A (Builtin.Slice.sliceApplied (.ref sl) (pure (n : Int))) Q E s := by
  obtain ⟨ob, h1, h2, h3⟩ := id hs
  unfold Builtin.Slice.sliceApplied Builtin.Slice.sliceFields
  refine wpAny_bind (wpAny_bind (wpAny_field h1 h3 (x := vl) rfl (wpAny_bind (wpAny_field h1 h3 (x := vu) rfl (wpAny_bind (wpAny_field h1 h3 (x := vs) rfl (wpAny_pure ?_)))))))
  refine wpAny_bind (slicePart_ ps ?_)
  show wpAny _ _ (if ((-1 : Int) == 0) = true then _ else _) _ _ s
  rw [if_neg (by decide)]
  refine wpAny_bind (slicePart_ pl (wpAny_bind (slicePart_ pu (wpAny_bind (wpAny_pure ?_)))))
  show wpAny _ _ (match Builtin.Slice.sliceAdjust none none (-1) (n : Int) with | (lo, hi) => pure (lo, (-1 : Int), Builtin.Slice.slicePlaces lo hi (-1))) _ _ s
  rw [adj_rev n]
  show wpAny _ _ (pure ((n : Int) - 1, (-1 : Int), Builtin.Slice.slicePlaces ((n : Int) - 1) (-1) (-1))) _ _ s
  rw [plc_rev]
  exact wpAny_pure h
theorem fm_congr {α β : Type} {f g : α → Option β} : ∀ {l : List α}, (∀ x ∈ l, f x = g x) → l.filterMap f = l.filterMap g
  | [], _ => rfl
  | a :: l, h => by
    rw [List.filterMap_cons, List.filterMap_cons, h a (by simp), fm_congr fun x hx => h x (by simp [hx])]
theorem all_of {l : List Value} {g : Nat → Option Value} (h : ∀ m, m < l.length → g m = l[m]?) : (List.range l.length).filterMap g = l := by
  have e : ∀ m ∈ List.range l.length, g m = some (l.getD m .none) := fun m hm => by
    have hl := List.mem_range.mp hm
    rw [h m hl, List.getD_eq_getElem?_getD, List.getElem?_eq_getElem hl]; rfl
  rw [fm_congr e, show (fun m => some (l.getD m Value.none)) = (some ∘ fun m => l.getD m Value.none) from rfl, List.filterMap_eq_map]
  refine List.ext_getElem? fun i => ?_
  rw [List.getElem?_map]
  by_cases hi : i < l.length
  · rw [List.getElem?_range hi]
    show some (l.getD i .none) = _
    rw [List.getD_eq_getElem?_getD, List.getElem?_eq_getElem hi]; rfl
  · rw [List.getElem?_eq_none (by rw [List.length_range]; omega), List.getElem?_eq_none (by omega)]; rfl
theorem pick_rev (xs : Array Value) : ((List.range xs.size).filterMap fun (m : Nat) => xs[(((xs.size : Int) - 1) + (m : Int) * (-1)).toNat]?).toArray = xs.toList.reverse.toArray := by
  have hl : xs.size = xs.toList.reverse.length := by rw [List.length_reverse, Array.length_toList]
  have := all_of (l := xs.toList.reverse) (g := fun (m : Nat) => xs[(((xs.size : Int) - 1) + (m : Int) * (-1)).toNat]?) fun m hm => by
    rw [List.length_reverse, Array.length_toList] at hm
    rw [List.getElem?_reverse (by rw [Array.length_toList]; exact hm), Array.getElem?_toList, Array.length_toList]
    have : (((xs.size : Int) - 1) + (m : Int) * (-1)).toNat = xs.size - 1 - m := by omega
    rw [this]
  rw [← hl] at this
  rw [this]
theorem get_rev {t sl : Addr} {items : Array Value} {vl vu vs : Value} {Q : Value → Shared → Prop} (ht : IsTup s.heap t items) (hs : s.heap.IsSliceOf sl vl vu vs) (pl : IsPart vl none) (pu : IsPart vu none) (ps : IsPart vs (some (-1)))
    (h : Q (.ref s.heap.objs.size) { s with heap := s.heap.push { cls := .type "tuple", data := .seq items.toList.reverse.toArray } }) (hsz : items.size ≤ sizeLine) : wpAny (model prog w) A (getItem (.ref t) (.ref sl)) Q E s := by
  have hok : sizeOk (.seq items.toList.reverse.toArray) := by
    show items.toList.reverse.toArray.size ≤ sizeLine
    rw [List.size_toArray, List.length_reverse, Array.length_toList]
    exact hsz
  have hT : s.TypeIs (.ref sl) "slice" := by
    obtain ⟨ob, h1, h2, h3⟩ := id hs
    exact ⟨ob, h1, h2⟩
  unfold getItem
  try with_reducible refine wpAny_holding ?_
  first | refine wpAny_bind (wpAny_pure ?_) | skip
  refine wpAny_bind (wpAny_sequenceKey ht.typeIs (by decide) ?_)
  refine wpAny_bind (wpAny_callSpecial?_slot (name := Str.ofString "__getitem__") ht.typeIs PyProof.Rows.slot_tuple_getitem
    (wpAny_call_entry PyProof.Rows.slot_tuple_getitem ht.typeIs entry_tuple_getitem ?_ (args_tuple_getitem _ _)))
  show wpAny _ _ (Builtin.Tuple.tupleItemsOf (.ref t) >>= _) _ _ s
  refine wpAny_bind (tupleItemsOf_ ht (wpAny_bind (wpAny_typeOf hT ?_)))
  rw [if_pos (by decide)]
  refine wpAny_bind (apl_rev hs pl pu ps ?_)
  have hno : ¬ (((items.size : Int) - 1 == 0 && (-1 : Int) == 1 && items.size == items.size) = true) := by simp
  show wpAny _ _ (if ((items.size : Int) - 1 == 0 && (-1 : Int) == 1 && items.size == items.size) = true then _ else _) _ _ s
  rw [if_neg hno, pick_rev]
  first
    | exact wpAny_bind (m := Builtin.Tuple.tupleExact _) (wpAny_newObj_type (wpAny_pure ⟨_, rfl, wpAny_pure h⟩) hok)
    | exact wpAny_bind (m := Builtin.Tuple.tupleExact _) (wpAny_newObj_type (wpAny_bind (wpAny_pure (wpAny_pure ⟨_, rfl, wpAny_pure h⟩))) hok)
    | exact wpAny_bind (wpAny_bind (m := Builtin.Tuple.tupleExact _) (wpAny_newObj_type (wpAny_pure (wpAny_pure ⟨_, rfl, wpAny_pure h⟩)) hok))
    | exact wpAny_bind (wpAny_bind (m := Builtin.Tuple.tupleExact _) (wpAny_newObj_type (wpAny_pure ⟨_, rfl, wpAny_pure h⟩) hok))
end
end RVT
namespace PL
open PySem L2 RVT PyProof.Rows
def tRevT (K : PySem.W.Frag) (te : TE) : TE := fun σ H Q => te σ H fun x H1 => ∃ a xs, x = .ref a ∧ SqT K H1 a xs ∧ newT xs.reverse H1 Q
theorem pe_revT {X : Cx} {e : Expr} {te : TE} {k : Nat} {p1 p2 p3 pos : Pos} (he : PE X e te) : PE X (.Subscript e (.Slice none none (some (.UnaryOp .USub (.Constant (.int 1) k p1) p2)) p3) pos) (tRevT X.K te) := by
  refine ⟨fun pins s σ H Q I h => ?_⟩
  refine Subscript_ (thn (he.run pins s σ H _ I h) fun v s1 ⟨x, H1, I1, r1, q1⟩ => ?_)
  obtain ⟨a, xs, ex, hx, q⟩ := q1
  subst ex
  cases r1
  have hm1 : PO X (some (.UnaryOp .USub (.Constant (.int 1) k p1) p2)) (tPart (tUn (rU fun i => .int (-i)) (tC (.int 1)))) := po_some (pe_un un_neg pe_int)
  refine wpAny_Slice (thn (po_none.run pins s1 σ H1 (fun o H2 => o = none ∧ H2 = H1) I1 ⟨rfl, rfl⟩) fun vl s2 ⟨l, H2, I2, pl, el, e2⟩ => ?_)
  subst el e2
  refine thn (po_none.run pins s2 σ H2 (fun o H3 => o = none ∧ H3 = H2) I2 ⟨rfl, rfl⟩) fun vu s3 ⟨u, H3, I3, pu, eu, e3⟩ => ?_
  subst eu e3
  refine thn (hm1.run pins s3 σ H3 (fun o H4 => o = some (-1) ∧ H4 = H3) I3 ⟨1, rfl, -1, rfl, rfl, rfl⟩) fun vs s4 ⟨o, H4, I4, ps, eo, e4⟩ => ?_
  subst eo e4
  have J : Inv X pins σ H4 { s4 with heap := s4.heap.push { cls := .type "slice", data := .fields #[vl, vu, vs] } } := I4.kept (t' := s4.toks) fun b ob q => Heap.get?_push_of_some _ q
  obtain ⟨its, r, ht, hz⟩ := J.tuple hx
  have hl := r.length
  show wpAny (model X.prog X.w) X.A (subscriptTail e (.Slice none none (some (.UnaryOp .USub (.Constant (.int 1) k p1) p2)) p3) (.ref a) (.ref s4.heap.objs.size)) (EP X pins σ Q) X.xe { s4 with heap := s4.heap.push { cls := .type "slice", data := .fields #[vl, vu, vs] } }
  refine tail_any (ops := [.ref a, .ref s4.heap.objs.size]) ht.typeIs (PyProof.Rows.slot_tuple_getitem.lookup) ?_ (by with_unfolding_all rfl)
  refine get_rev ht (Heap.IsSliceOf.new _ vl vu vs) pl pu ps ?_ (by rw [List.size_toArray]; omega)
  exact laidT (t' := s4.toks) J r.reverse (by rw [List.length_reverse]; exact hz) (fun _ _ e => e) rfl q
section
variable {W : WX} {X : Cx} {A : Amb} {K : PySem.W.Frag} {te tf ta tb tc td : TE} {we wf wa wb wc wd : WE} {pos : Pos} {a b c d : Expr} {f f' f'' : F2}
def wRevT (we : WE) : WE := fun e post => we e fun r e1 => match r.av with
  | .dat (.tuple ds) => post (.val (.dat (.tuple ds.reverse))) e1
  | _ => False
theorem er_revT (h : ER A K te we) : ER A K (tRevT K te) (wRevT we) := by
  intro σ F H e post S q Q k
  refine h σ F H e _ S q _ fun v r F1 H1 e1 T1 S1 R1 q1 => ?_
  split at q1
  · rename_i ds hr
    have tp := R1.top S1
    rw [hr] at tp
    obtain ⟨p, vs, ev, f1, hp, rd⟩ := tp.vtup S1.ex
    exact ⟨p, vs, ev, hp, (S1.okr (post := fun r => post r e1) fun v r F3 H3 T3 S3 R3 p3 => k v r F3 H3 _ (T1.trans T3) S3 (R3.early T1) p3).tup _ _ rd.reverse q1⟩
  · exact q1.elim
theorem pd_revT {ex : Expr} {kk : Nat} {p1 p2 p3 : Pos} (h : PD X A ex te we) : PD X A (.Subscript ex (.Slice none none (some (.UnaryOp .USub (.Constant (.int 1) kk p1) p2)) p3) pos) (tRevT X.K te) (wRevT we) := ⟨pe_revT h.pe, er_revT h.er⟩
/-! ### a < b < c < d -/
def tChain3 (r r' r'' : R2) (ta tb tc td : TE) : TE := fun σ H Q => ta σ H fun x H1 => tb σ H1 fun y H2 => r x y H2 fun z H3 => ∃ k, z = .bl k ∧
  (if k = true then tc σ H3 fun w' H4 => r' y w' H4 fun z H5 => ∃ k, z = .bl k ∧ (if k = true then td σ H5 fun u' H6 => r'' w' u' H6 Q else Q (.bl false) H5) else Q (.bl false) H3)
theorem pe_chain3 {o1 o2 o3 : CmpOp} {r r' r'' : R2} (h1 : OpR X (compareOp o1) r) (h2 : OpR X (compareOp o2) r') (h3 : OpR X (compareOp o3) r'') (ha : PE X a ta) (hb : PE X b tb) (hc : PE X c tc) (hd : PE X d td)
    (hm : lastMarks [o1, o2, o3] [b, c, d] = false := by with_unfolding_all rfl) : PE X (.Compare a [o1, o2, o3] [b, c, d] pos) (tChain3 r r' r'' ta tb tc td) := by
  refine ⟨fun pins s σ H Q I h => ?_⟩
  refine PyProof.Rows.Compare_chain (thn (ha.run pins s σ H _ I h) fun v s1 ⟨x, H1, I1, r1, q1⟩ => PyProof.Rows.chain_link (thn (hb.run pins s1 σ H1 _ I1 q1) fun u s2 ⟨y, H2, I2, r2, q2⟩ =>
    thn (h1 pins s2 σ H2 x y v u _ I2 r1 r2 q2) fun d1 s3 ⟨z, H3, I3, r3, k, ek, q3⟩ => ?_)) hm
  subst ek
  cases r3
  refine wpAny_truthy_bool ?_
  cases k with
  | false => exact ite_ff ⟨.bl false, H3, I3, rfl, q3⟩
  | true =>
    refine ite_tt (PyProof.Rows.chain_link (thn (hc.run pins s3 σ H3 _ I3 q3) fun w' s4 ⟨z', H4, I4, r4, q4⟩ => thn (h2 pins s4 σ H4 y z' u w' _ I4 r2 r4 q4) fun d2 s5 ⟨z2, H5, I5, r5, k2, ek2, q5⟩ => ?_))
    subst ek2
    cases r5
    refine wpAny_truthy_bool ?_
    cases k2 with
    | false => exact ite_ff ⟨.bl false, H5, I5, rfl, q5⟩
    | true => exact ite_tt (PyProof.Rows.chain_last (thn (hd.run pins s5 σ H5 _ I5 q5) fun u' s6 ⟨z3, H6, I6, r6, q6⟩ => h3 pins s6 σ H6 z' z3 w' u' Q I6 r4 r6 q6))
/-- operands that are frozen values -/
def wVal (we : WE) (k : Av → En → Prop) : En → Prop := fun e => we e fun r e1 => match r with
  | .val a => k a e1
  | _ => False
def wTF (r : Rs) (yes no : Prop) : Prop := match r with
  | .val (.dat (.bool b)) => if b = true then yes else no
  | _ => False
def wChain3 (f f' f'' : F2) (wa wb wc wd : WE) : WE := fun e post => wVal wa (fun x e1 => wVal wb (fun y e2 => f x y fun t => wTF t (wVal wc (fun z e3 => f' y z fun t => wTF t (wVal wd (fun u e4 => f'' z u fun t => post t e4) e3) (post (vBl false) e3)) e2) (post (vBl false) e2)) e1) e
theorem er_chain3 (ha : ER A K ta wa) (hb : ER A K tb wb) (hc : ER A K tc wc) (hd : ER A K td wd) : ER A K (tChain3 (R2D K f) (R2D K f') (R2D K f'') ta tb tc td) (wChain3 f f' f'' wa wb wc wd) := by
  intro σ F H e post S q Q k
  refine ha σ F H e _ S q _ fun x r F1 H1 e1 T1 S1 R1 h1 => ?_
  match r, R1, h1 with
  | .val xa, R1, h1 =>
    refine hb σ F1 H1 e1 _ S1 h1 _ fun y s F2 H2 e2 T2 S2 R2 h2 => ?_
    match s, R2, h2 with
    | .val ya, R2, h2 =>
      refine ⟨F2, xa, ya, _, S2.ex, TopR.of S2.ex (RelA.ext T2.ex R1), TopR.of S2.ex R2, h2, S2.okr fun v' r' F3 H3 T3 S3 R3 p3 => ?_⟩
      match r', R3, p3 with
      | .val (.dat (.bool b)), R3, p3 =>
        refine ⟨b, (show RD K F3 v' (.bool b) from R3) |> fun h => by cases h; rfl, ?_⟩
        cases b with
        | false => exact k _ (vBl false) F3 H3 e2 ((T1.trans T2).trans T3) S3 (.bl false) p3
        | true =>
          refine hc σ F3 H3 e2 _ S3 p3 _ fun z u F4 H4 e4 T4 S4 R4 h4 => ?_
          match u, R4, h4 with
          | .val za, R4, h4 =>
            refine ⟨F4, ya, za, _, S4.ex, TopR.of S4.ex (RelA.ext (T3.ex.trans T4.ex) R2), TopR.of S4.ex R4, h4, S4.okr fun v' r' F5 H5 T5 S5 R5 p5 => ?_⟩
            match r', R5, p5 with
            | .val (.dat (.bool b)), R5, p5 =>
              refine ⟨b, (show RD K F5 v' (.bool b) from R5) |> fun h => by cases h; rfl, ?_⟩
              cases b with
              | false => exact k _ (vBl false) F5 H5 e4 ((((T1.trans T2).trans T3).trans T4).trans T5) S5 (.bl false) p5
              | true =>
                refine hd σ F5 H5 e4 _ S5 p5 _ fun z2 u2 F6 H6 e6 T6 S6 R6 h6 => ?_
                match u2, R6, h6 with
                | .val ua, R6, h6 =>
                  refine ⟨F6, za, ua, _, S6.ex, TopR.of S6.ex (RelA.ext (T5.ex.trans T6.ex) R4), TopR.of S6.ex R6, h6, S6.okr fun v' r' F7 H7 T7 S7 R7 p7 => ?_⟩
                  have T := (((((T1.trans T2).trans T3).trans T4).trans T5).trans T6)
                  exact k v' r' F7 H7 e6 (T.trans T7) S7 (R7.early T) p7
theorem pd_chain3 {o1 o2 o3 : CmpOp} (h1 : OpR X (compareOp o1) (R2D X.K f)) (h2 : OpR X (compareOp o2) (R2D X.K f')) (h3 : OpR X (compareOp o3) (R2D X.K f'')) (ha : PD X A a ta wa) (hb : PD X A b tb wb) (hc : PD X A c tc wc) (hd : PD X A d td wd)
    (hm : lastMarks [o1, o2, o3] [b, c, d] = false := by with_unfolding_all rfl) : PD X A (.Compare a [o1, o2, o3] [b, c, d] pos) (tChain3 (R2D X.K f) (R2D X.K f') (R2D X.K f'') ta tb tc td) (wChain3 f f' f'' wa wb wc wd) := ⟨pe_chain3 h1 h2 h3 ha.pe hb.pe hc.pe hd.pe hm, er_chain3 ha.er hb.er hc.er hd.er⟩
/-! ### a name that holds a def is called -/
structure PFnA (P : Program) (w : World) (K : PySem.W.Frag) (mg : Str → Option Value) (base : Heap) (A : Amb) (f : Addr) (ps : List Str) (fs : FS) (k : Nat) : Prop where
  ex : ∃ fd, PySem.W.keepIn K (.ref f) = true ∧ Binds K fd ps [] ∧ FnOk P w K mg base CX0 k f fd ps (spD A K fs)
def wCallL (i : Nat) (f0 : Addr) (fs : FS) (wa : WA) : WE := fun e post => e.sl[i]? = some (.im (.raw (.ref f0))) ∧ wCall fs wa e post
theorem er_callL {i : Nat} {f0 : Addr} {fs : FS} {E : XK} {t : TA} {wA : WA} (h : AER A K t wA) : ER A K (tCallL i f0 (spD A K fs) [] E t) (wCallL i f0 fs wA) := by
  intro σ F H e post S ⟨h0, q⟩ Q k
  obtain ⟨v, hv, rv⟩ := S.at_ i _ h0
  have ev : v = .ref f0 := rv
  subst ev
  exact ⟨hv, er_call (E := E) h σ F H e post S q Q k⟩
theorem pd_callL {i : Nat} {f0 : Addr} {fs : FS} {k j : Nat} {x : Str} {p : Pos} {ex : Expr} {es : List Expr} {t : TA} {wA : WA} {ps : List Str} (G : PFnA X.prog X.w X.K X.mg X.base A f0 ps fs k) (hr : Room j X.A) (hj : k ≤ j) (hN : X.N[i]? = some x) (hv : Vis X.env.scope x) (ha : PAD X A (ex :: es) t wA)
    (hdb : (x == ("__debug__" : Str)) = false := by decide) (hcd : (x == ("__classdict__" : Str)) = false := by decide)
    (he : starEach (ex :: es) X.env = (false, eval ex X.env) :: starEach es X.env := by rfl) (hpl : (backTo pos (starEach es X.env)).any (·.1) = false := by rfl) : PD X A (.Call (.Name x p) (ex :: es) [] pos) (tCallL i f0 (spD A X.K fs) [] E0 t) (wCallL i f0 fs wA) := by
  obtain ⟨fd, hk, hb, F⟩ := G.ex
  exact ⟨pe_callL F (hr.mono hj) hN hv hk hb .nil pass0 ha.pa hdb hcd he hpl, er_callL ha.er⟩
end
end PL

namespace PL
open PySem L2
/-! ### l.insert(i, x), l owned -/
def rIns : V → List V → Hp → VK → Prop := fun x vs H Q => ∃ (l : Addr) (xs : List V) (i : Int) (y : V), x = .ref l ∧ vs = [.int i, y] ∧ H l = some (.lst xs) ∧ xs.length < sizeLine ∧ 0 ≤ i ∧ i < 2 ^ 63 ∧ Q .non (upd H l (.lst (xs.take i.toNat ++ [y] ++ xs.drop i.toNat)))
def wInsert (i : Nat) (wk wv : WE) : WE := fun e post => match e.sl[i]? with
  | some (.ow (.lst _)) => wk e fun r e1 => wv e1 fun s e2 => s.fre (match r, s.av, (frz1 e2 s).sl[i]? with
    | .val (.dat (.int j)), .dat d, some (.ow (.lst ds)) => 0 ≤ j ∧ j < 2 ^ 63 ∧ ds.length < 100000 ∧ post (.val (.dat .none)) ((frz1 e2 s).set i (.ow (.lst (ds.take j.toNat ++ [d] ++ ds.drop j.toNat))))
    | _, _, _ => False)
  | _ => False
section
variable {W : WX} {X : Cx} {A : Amb} {K : PySem.W.Frag} {te tf : TE} {we wf : WE} {pos cpos apos npos : Pos} {x : Str} {ex ey : Expr}
theorem er_insert {i : Nat} (hk : ER A K te we) (hv : ER A K tf wf) : ER A K (tBM K "list" rIns (tVar i) (tCons te (tCons tf tNil))) (wInsert i we wf) := by
  intro σ F H e post S q Q k
  unfold wInsert at q
  split at q
  · rename_i ds0 hi
    obtain ⟨p, ho, h1, h2, h3, h4, own⟩ := S.owAt hi
    obtain ⟨vs, ev, rd⟩ := h4.lst
    subst ev
    refine ⟨.ref p, h1, tyV_lst h3, hk σ F H e _ S q _ fun z r F0 H0 e0 T0 S0 R0 q0 => hv σ F0 H0 e0 _ S0 q0 _ fun y s F1 H1 e1 T1 S1 R1 q1 => ?_⟩
    obtain ⟨hf, q1⟩ := Rs.fre_iff.mp q1
    split at q1
    · rename_i j d ds hr hi2 _qq
      obtain ⟨j0, j1, ql, q2⟩ := q1
      obtain ⟨F2, B2, S2, x2, rel, _⟩ := freeze1 hf (T0.trans T1) S1 (.inr (R1.early T0))
      obtain ⟨p', ho', g1, g2, g3, g4, own'⟩ := S2.owAt hi2
      rw [h1] at g1
      have ep : p = p' := by simpa using g1
      subst ep
      obtain ⟨vs', ev', rd'⟩ := g4.lst
      subst ev'
      rw [hr] at rel
      have o' : OwR K F2 (.lst (vs'.take j.toNat ++ [y] ++ vs'.drop j.toNat)) (.lst (ds.take j.toNat ++ [d] ++ ds.drop j.toNat)) := ⟨_, rfl, ((rd'.take _).append (.cons rel .nil)).append (rd'.drop _)⟩
      obtain ⟨S3, T3⟩ := S2.mut own' (by rw [g3]; simp) o'
      have ez : z = V.int j := by
        have R0' : RD K F0 z (.int j) := R0
        cases R0'; rfl
      refine ⟨p, vs', j, y, rfl, by rw [ez], g3, Nat.lt_of_lt_of_le (by rw [rd'.length]; exact ql) line5, j0, j1, ?_⟩
      exact k .non (.val (.dat .none)) F2 _ _ (B2.trans T3) S3 .non q2
    · exact q1.elim
  · exact q.elim
theorem pd_insert {i : Nat} (hN : X.N[i]? = some x) (hv : Vis X.env.scope x) (h : PD X A ex te we) (h2 : PD X A ey tf wf) (hb : attributeBase (.Name x npos) "insert" X.env (eval (.Name x npos) X.env) = eval (.Name x npos) X.env := by rfl)
    (hfew : ((backTo cpos (starEach [ex, ey] X.env)).all (fun x => !x.1) && (backToKw cpos (keywordEach [] X.env)).all (fun x => x.1.isSome)
      && decide (([ex, ey] : List Expr).length + ([] : List Keyword).length + (if ([] : List Keyword).isEmpty then 0 else 1) < 30)) = true := by rfl)
    (hline : (apos.endLine == cpos.line) = true := by rfl) (hs : starEach [ex, ey] X.env = (false, eval ex X.env) :: starEach [ey] X.env := by rfl) (hs2 : starEach [ey] X.env = (false, eval ey X.env) :: starEach [] X.env := by rfl) (hplain : (backTo cpos (starEach [ey] X.env)).any (·.1) = false := by rfl)
    (hd : (x == ("__debug__" : Str)) = false := by decide) (hcd : (x == ("__classdict__" : Str)) = false := by decide) :
    PD X A (.Call (.Attribute (.Name x npos) "insert" apos) [ex, ey] [] cpos) (tBM X.K "list" rIns (tVar i) (tCons te (tCons tf tNil))) (wInsert i we wf) :=
  ⟨pe_bm PySem.F.plainAttrs_list PySem.F.slot_list_insert PySem.F.type_list_insert mt_insert (pe_var hN hv hd hcd) (pa_cons h.pe (pa_cons h2.pe pa_nil hs2) hs) hb hfew hline hs hplain, er_insert h.er h2.er⟩
/-! ### sorted(d), the keys ints -/
def fSortedDI : FL := fun as k => match as with
  | [.dic kvs] => ∃ ks : List Int, kvs.map (·.1) = ks.map Sum.inl ∧ ks.length < 64 ∧ ∀ ys : List Int, ys.Perm ks → ys.Pairwise (· ≤ ·) → k (.new (.lst (ys.map PyData.int)))
  | _ => False
theorem call_sortedDI' (hc : X.calm = true) : CallR X (.builtin "sorted") (RLD X.K fSortedDI) := by
  intro pins s σ H xs us Q I r ⟨F, as, post, ex, ta, q, ok⟩
  unfold fSortedDI at q
  split at q
  · cases ta with
    | cons ta tn =>
      cases tn
      obtain ⟨p, vs, e1, h1, r1⟩ := ta
      obtain ⟨ks, hk, hl, q⟩ := q
      exact call_sortedDI hc pins s σ H _ us Q I r ⟨p, vs, ks, by rw [e1], .inl h1, by rw [r1.split.1]; exact hk, hl, fun ys p2 h1 h2 np => ok.new p2 _ (.lst _) np ⟨_, rfl, RDs.of_ints ys⟩ (q ys h1 h2)⟩
  · exact q.elim
/-! ### repr of lists and tuples -/
def fRepr : FL := fun as k => match as with
  | [.dat (.list ds)] => SeqAt.shaped (.list ds) = true ∧ PyData.showable (.list ds) = true ∧ (PyData.shown (.list ds)).length ≤ 16000000 ∧ k (.val (.dat (.str (PyData.shown (.list ds)))))
  | [.dat (.tuple ds)] => SeqAt.shaped (.tuple ds) = true ∧ PyData.showable (.tuple ds) = true ∧ (PyData.shown (.tuple ds)).length ≤ 16000000 ∧ k (.val (.dat (.str (PyData.shown (.tuple ds)))))
  | _ => False
theorem call_repr' (hg : X.A.guards = some []) (hu : X.A.units + 65 < cLine) : CallR X (.builtin "repr") (RLD X.K fRepr) := by
  intro pins s σ H xs us Q I r ⟨F, as, post, ex, ta, q, ok⟩
  have go : ∀ {v : V} {d : D} {u : Value}, TopR X.K F H v (.dat d) → RelV v u → (∃ a, v = .ref a) → SeqAt.shaped d = true → PyData.showable d = true → (PyData.shown d).length ≤ 16000000 → post (.val (.dat (.str (PyData.shown d)))) → wpAny (model X.prog X.w) X.A (call (.builtin "repr") [u]) (EP X pins σ Q) X.xe s := by
    intro v d u tv rv ⟨a, ev⟩ hsh hsw hl hp
    subst ev
    cases rv
    obtain ⟨bs, rd⟩ := Dp.reads I d (.ref a) (.ref a) (tv.dp ex hsh) rfl
    have h64 := SeqAt.depth_of_shaped hsh
    refine repr_of_reads' (h₀ := s.heap) rd hsw (PyData.noDict_hsm (PyData.hasDict_of_canLay d (SeqAt.canLay_of_shaped hsh))) hg (by omega) (fun _ _ e => e) (fun h' u tk hk => ?_) (by rw [sizeLine_eq]; omega)
    exact ⟨.str (PyData.shown d), H, I.kept (t' := tk) hk, ⟨u, rfl⟩, ok.val _ (.dat (.str _)) (.str _) hp⟩
  unfold fRepr at q
  split at q
  · cases ta with
    | cons ta tn =>
      cases tn
      obtain ⟨u, rfl, rx⟩ := vals1 r
      have tv := ta
      obtain ⟨p, vs, e1, _⟩ := ta.vlst
      exact go tv rx ⟨p, e1⟩ q.1 q.2.1 q.2.2.1 q.2.2.2
  · cases ta with
    | cons ta tn =>
      cases tn
      obtain ⟨u, rfl, rx⟩ := vals1 r
      have tv := ta
      obtain ⟨p, vs, e1, _⟩ := ta.vtup ex
      exact go tv rx ⟨p, e1⟩ q.1 q.2.1 q.2.2.1 q.2.2.2
  · exact q.elim
end
end PL

namespace PL
open PySem PySem.Spec PyProof.Rows L2
/-! ### a def that is called where nothing is being shown: the law's own -/
structure FnG (P : Program) (w : World) (K : PySem.W.Frag) (mg : Str → Option Value) (base : Heap) (k : Nat) (f : Addr) (fd : FuncData) (ps : List Str) (sp : Sp) : Prop where
  go : ∀ (B : Around) (l : List Env) (s : Shared) (H : Hp) (args : Args) (us : List Value) (vs : List V) (Q : VK) (E : XK), B.guards = some [] → Room k B → Env0 P w K mg base B l s H → BindsTo s fd args (ps.zip us) → Vals vs us → sp vs H Q E →
    codeAny (model P w) B (.call (.ref f) args) (CR CX0 l P w H s Q E) s
theorem FnOk.g {P : Program} {w : World} {K : PySem.W.Frag} {mg : Str → Option Value} {base : Heap} {k : Nat} {f : Addr} {fd : FuncData} {ps : List Str} {sp : Sp} (F : FnOk P w K mg base CX0 k f fd ps sp) : FnG P w K mg base k f fd ps sp :=
  ⟨fun B l s H args us vs Q E _ => F.run B l s H args us vs Q E⟩
theorem Fun.okG {P : Program} {w : World} {K : PySem.W.Frag} {mg : Str → Option Value} {base : Heap} {x qual : Str} {st : Stmt} {f : Addr} {fd : FuncData} {N ps : List Str} {k : Nat} {sp : Sp} (G : Fun K x qual st f fd) (S : FnScope N ps (defScope st)) (len : ∀ vs H Q E, sp vs H Q E → vs.length = ps.length)
    (hb : ∀ (cdv : Value) (B : Around) (l : List Env) (s : Shared) (H : Hp) (vs : List V) (Q : VK) (E : XK), B.guards = some [] → Room k (B.deeper (envOfC qual (defScope st) s.heap.objs.size f cdv)) → sp vs H Q E →
      ∃ t, PSs (cxOf CX0 P w K mg base N qual (defScope st) f cdv B l s H E).nox (defBody st) t ∧ t { nx := fun _ H' => Q .non H', rt := Q } (L2.start N vs) H) : FnG P w K mg base (k + 1) f fd ps sp := by
  obtain ⟨oc, od, kV, doc, pm, an, cdv, ct, osl, rfl, lk, hcd⟩ := G.ex
  refine ⟨fun B l s H args us vs Q E hg rm en bnd rv hsp => ?_⟩
  have ln := len _ _ _ _ hsp
  have kin : K.In s.heap := en.mod.kin.keeps fun b o q => (en.bs b o q).1
  have nol : s.heap.NoLimit := en.mod.nolimit.keeps fun b o q => (en.bs b o q).1
  have kinds : ∀ y ∈ ps.zip us, (defScope st).names.lookup y.1 = some .local ∨ ((defScope st).names.lookup y.1 = some .cell ∧ ((cellsFrom (s.heap.objs.size + 1) (defScope st).names []).lookup y.1).isSome = true) := by
    rintro ⟨n, v⟩ hy
    exact (S.par n (List.of_mem_zip hy).1).imp id fun q => ⟨q, PySem.W.cellsFrom_some _ _ _ (.inl q)⟩
  refine codeAny_call_function rm.depth (kin _ _ lk) rfl S.co S.gen rfl (PySem.W.codeRec_of kin hcd) (bnd _ _ _ _ ?_)
  refine wpAny_newFunctionEnv_cells S.kind kinds fun env he s1 xx => ?_
  subst he
  obtain ⟨t, ht, hq⟩ := hb cdv B l s H vs Q E hg (rm.deeper _) hsp
  refine ⟨nol.keeps xx.toInCall.keep, codeAny_func (wpAny_mono (ht.nox.run [] s1 (L2.start N vs) H _ (inv_start S rm.hd en ln rv xx) hq) (fun fl s' hs => ?_) fun e s' hs => hs)⟩
  cases fl with
  | ret u =>
    obtain ⟨v, σ', H', J, r', q⟩ := hs
    exact ⟨v, H', J.os, J.bare, J.base, J.hok, r', q⟩
  | next =>
    obtain ⟨σ', H', J, q⟩ := hs
    exact ⟨V.non, H', J.os, J.bare, J.base, J.hok, rfl, q⟩
  | brk => exact hs.choose_spec.choose_spec.2.elim
  | cont => exact hs.choose_spec.choose_spec.2.elim
/-- the law's promise at the heap behind the top -/
theorem lawG {P : Program} {w : World} {K : PySem.W.Frag} {mg mb : Str → Option Value} {k : Nat} {fa a : Addr} {fd : FuncData} {x : Str} {sp : Sp} {s0 : Shared} {vs : List Value} {ns : List Int} (kx : K.In s0.heap) (gn : s0.heap.Ns mainGlobals mg) (bn : s0.heap.Ns builtinsNs mb) (bb : ∀ x : Str, x ≠ "__name__" → mb x = bootBuiltins x)
    (nl : s0.heap.NoLimit) (ng : s0.gens = #[]) (ha : s0.heap.get? a = some { cls := .type "list", data := .seq vs.toArray }) (hi : IntsAre vs ns) (hz : ns.length ≤ sizeLine) (rm : Room k callerA) (F : ∀ base : Heap, K.In base → base.Ns mainGlobals mg → FnG P w K mg base k fa fd [x] sp)
    (hbind : ∀ (s : Shared) (u : Value), BindsTo s fd ⟨[u], []⟩ [(x, u)]) (hsp : ∀ H : Hp, Only H → SqL K H a (ns.map V.int) → sp [.ref a] H (fun v _ => v = .bl true) fun _ _ _ => False) :
    codeAny (model P w) callerA (.call (.ref fa) ⟨[.ref a], []⟩) (fun r s' => r = .ok (.ret (.bool true)) ∧ OldK s0.heap s'.heap ∧ s'.os = s0.os ∧ AllBare s'.gens) s0 := by
  have rv := vals_ints hi
  have core : ∀ H : Hp, Only H → SqL K H a (ns.map V.int) → HOk P w H s0.heap → (∀ b, H b ≠ none → b = a ∧ K.lookup a = none) →
      codeAny (model P w) callerA (.call (.ref fa) ⟨[.ref a], []⟩) (fun r s' => r = .ok (.ret (.bool true)) ∧ OldK s0.heap s'.heap ∧ s'.os = s0.os ∧ AllBare s'.gens) s0 := by
    intro H ho hs ok hA
    have free : ∀ {b : Addr}, (b = a → K.lookup a = none → False) → H b = none := fun {b} h => by
      cases q : H b with
      | none => rfl
      | some u => exact (h (hA b (by rw [q]; simp)).1 (hA b (by rw [q]; simp)).2).elim
    have kb : K.In (hidT s0.heap H) := fun b o e => hidT_get (kx b o e) (free fun z z2 => by rw [z, z2] at e; cases e)
    have nsb : ∀ {b : Addr} {m : Str → Option Value}, s0.heap.Ns b m → (hidT s0.heap H).Ns b m := fun {b m} ⟨o, es, ep, e, d, r⟩ => ⟨o, es, ep, hidT_get e (free fun z _ => by
      rw [z, ha] at e
      cases e
      exact absurd (show Data.seq vs.toArray _ = Data.dict es ep from d) (by intro z; cases z)), d, r⟩
    have md : Mod K mg (hidT s0.heap H) := ⟨kb, nsb gn, ⟨mb, nsb bn, bb⟩, let ⟨mc, h1, h2⟩ := nl; ⟨mc, nsb h1, h2⟩⟩
    have en : Env0 P w K mg (hidT s0.heap H) callerA [] s0 H := ⟨rfl, md, fun b o e => of_hidT e, Nat.le_of_eq (hidT_size _ _), trivial, fun b hb => absurd (show b ∈ ([] : List Addr) from hb) (by simp), ok, AllBare.of_eq ng⟩
    refine codeAny_mono ((F _ kb (nsb gn)).go callerA [] s0 H ⟨[.ref a], []⟩ [.ref a] [.ref a] _ _ rfl rm en (hbind s0 (.ref a)) (.cons rfl .nil) (hsp H ho hs)) fun r s' h => ?_
    match r, h with
    | .ok (.ret u), ⟨v, H', os, bare, un, ok', r', q⟩ =>
      have q' : v = .bl true := q
      subst q'
      obtain rfl : u = Value.bool true := r'
      refine ⟨rfl, OldK.of_keep fun b o e => ?_, os, bare⟩
      rcases ho b with z | ⟨ob, xs, z⟩
      · exact un.keep b o e z (fun z => nomatch z) (fun z => nomatch z)
      · obtain ⟨e1, _⟩ := ok b _ z
        obtain ⟨e2, _⟩ := ok' b _ (un.frzs b ob _ z)
        rw [e] at e1
        cases e1
        exact e2
    | .error e, h => exact h.elim
  cases hk : K.lookup a with
  | some o =>
    have e := kx a o hk
    rw [ha] at e
    cases e
    exact core (fun _ => none) (fun _ => .inl rfl) (.inr ⟨_, vs.toArray, _, hk, rfl, rfl, rfl, by rw [List.size_toArray, hi.length]; exact hz, by simpa using rv⟩) (fun b u z => nomatch (show (none : Option HO) = some u from z)) fun b z => absurd rfl z
  | none =>
    let H0 : Hp := fun b => if b = a then some (.frz { cls := .type "list", data := .seq vs.toArray } (.lst (ns.map V.int))) else none
    have hA : H0 a = some (.frz { cls := .type "list", data := .seq vs.toArray } (.lst (ns.map V.int))) := if_pos rfl
    have hN : ∀ b, b ≠ a → H0 b = none := fun b h => if_neg h
    refine core H0 (fun b => ?_) (.inl (.inr ⟨_, hA⟩)) (fun b u z => ?_) fun b z => ?_
    · by_cases c : b = a
      · subst c; exact .inr ⟨_, _, hA⟩
      · exact .inl (hN b c)
    · by_cases c : b = a
      · subst c
        rw [hA] at z
        cases z
        exact ⟨ha, by rw [List.length_map]; exact hz, vs, _, rv, ha⟩
      · rw [hN b c] at z; cases z
    · by_cases c : b = a
      · exact ⟨c, hk⟩
      · exact absurd (hN b c) z
theorem walkG {l : PySem.W.OpenLaw} {q : Program} {loose : List Str} {XP : (Str → Option Value) → Heap → Prop} {YP : World → Heap → Prop} {d : DefRec} {K : Params → PySem.W.Frag} {k : Nat} (hn : l.most = some 63) (hdf : d.params.defaults = []) (rm : Room k callerA)
    (hY : ∀ (w : World) (h : Heap), YP w h → (K w.params).In h)
    (F : ∀ (w : World) (mg : Str → Option Value) (fa : Addr) (h : Heap), (K w.params).In h → h.Ns mainGlobals mg → mg d.name = some (.ref fa) →
      ∃ fd : FuncData, (∀ (s : Shared) (u : Value), BindsTo s fd ⟨[u], []⟩ [("script", u)]) ∧ ∀ base : Heap, (K w.params).In base → base.Ns mainGlobals mg → FnG l.prog w (K w.params) mg base k fa fd ["script"] (spLaw (K w.params))) :
    PySem.W.WalkO q loose XP YP l.row.toRowW d [] (fun f vs => PySem.call f vs) := by
  refine Att.attach_call hn hdf fun w s0 s1 mg mb fa o pm cd doc a vs ns G Y ho hd hcd hmg hobj hints hlen hg => ?_
  obtain ⟨fd, hb, hF⟩ := F w mg fa _ (hY w _ Y) G.T.g hmg
  exact lawG (hY w _ Y) G.T.g G.T.b G.T.builtins G.T.nolimit hg hobj hints (Nat.le_trans hlen (by decide)) rm hF hb fun H hO hS => ⟨a, ns, rfl, hS, hlen, fun _ => rfl⟩
end PL
namespace PL
theorem gdT {ds : List D} {P : Prop} (h : P) : guardD (.tuple ds) P := h
end PL
namespace PL
theorem gdI {i : Int} {P : Prop} (h : P) : guardD (.int i) P := h
end PL

namespace PL
open PySem L2
/-! ### the ghost's count may grow -/
structure Up (n : Gh) (c : Nat) (m : Gh) : Prop where
  os : m.os = n.os
  cs : m.cs = n.cs
  lo : n.k ≤ m.k
  hi : m.k ≤ n.k + c
theorem Up.rfl' {n : Gh} {c : Nat} : Up n c n := ⟨rfl, rfl, Nat.le_refl _, Nat.le_add_right _ _⟩
theorem Up.trans {n m l : Gh} {a b c : Nat} (h : Up n a m) (k : Up m b l) (hc : a + b ≤ c := by omega) : Up n c l := ⟨k.os.trans h.os, k.cs.trans h.cs, Nat.le_trans h.lo k.lo, by have := h.hi; have := k.hi; omega⟩
theorem Up.mono {n m : Gh} {a b : Nat} (h : Up n a m) (hc : a ≤ b) : Up n b m := ⟨h.os, h.cs, h.lo, by have := h.hi; omega⟩
theorem DeckA.rix {K : PySem.W.Frag} {d c0 : Addr} {n m : Gh} {F H H' : Hp} {is : List Int} {j : Int} (x : Ex F H) (R : RIx (amO K (bseA d c0)) K n F H) (rf : ∀ a ∈ (amO K (bseA d c0)).rs n, F a = none) (nr : Near [d, c0] H H') (D : DeckA d c0 is j H') (h0 : 0 ≤ j) (h1 : j ≤ (m.k : Int)) (eo : m.os = n.os) (ec : m.cs = n.cs) :
    RIx (amO K (bseA d c0)) K m F H' ∧ Fin (amO K (bseA d c0)) n F H m F H' ∧ Ex F H' ∧ (∀ a ∈ (amO K (bseA d c0)).rs m, F a = none) := by
  have G : GOk K (bseA d c0) n F H := R.ri
  have er : rsG (bseA d c0) m = rsG (bseA d c0) n := by unfold rsG; rw [eo, ec]
  have er' : (amO K (bseA d c0)).rs m = (amO K (bseA d c0)).rs n := er
  have sub : ∀ a ∈ [d, c0], a ∈ rsG (bseA d c0) n := fun a ha => List.mem_append_left _ (List.mem_append_left _ ha)
  have nr2 : Near ((amO K (bseA d c0)).rs n) H H' := ⟨fun a o h hn => nr.keep a o h fun z => hn (sub a z), nr.liv⟩
  have nd := G.nd
  unfold rsG at nd
  obtain ⟨n1, n2, n3⟩ := List.nodup_append.mp nd
  obtain ⟨m1, m2, m3⟩ := List.nodup_append.mp n1
  have no : ∀ o ∈ n.os, o.ad ∉ [d, c0] ∧ o.dx ∉ [d, c0] := fun o ho => by
    have k1 : o.ad ∈ (n.os.flatMap fun o => [o.ad, o.dx]) := List.mem_flatMap.mpr ⟨o, ho, by simp⟩
    have k2 : o.dx ∈ (n.os.flatMap fun o => [o.ad, o.dx]) := List.mem_flatMap.mpr ⟨o, ho, by simp⟩
    exact ⟨fun z => m3 _ z _ k1 rfl, fun z => m3 _ z _ k2 rfl⟩
  have nc : ∀ c ∈ n.cs, c.1 ∉ [d, c0] := fun c hc z => n3 _ (List.mem_append_left _ z) _ (List.mem_map.mpr ⟨c, hc, rfl⟩) rfl
  obtain ⟨fin, x'⟩ := Near.fin (n' := m) x rf nr2 er'
  refine ⟨⟨⟨⟨is, j, D, h0, h1⟩, by rw [er]; exact G.nd, fun o ho => ?_, fun c hc => ?_⟩, fun c hc => ?_⟩, fin, x', fun a ha => rf a (by rw [er'] at ha; exact ha)⟩
  · rw [eo] at ho
    obtain ⟨vs, g1, g2, g3⟩ := G.os o ho
    exact ⟨vs, nr.keep _ _ g1 (no o ho).1, nr.keep _ _ g2 (no o ho).2, g3⟩
  · rw [ec] at hc
    exact nr.liv _ (G.lv c hc)
  · rw [ec] at hc
    obtain ⟨c1, c2, ho, c3, c4⟩ := R.cs c hc
    exact ⟨by rw [er']; exact c1, c2, ho, nr.keep _ _ c3 (nc c hc), c4⟩
/-! ### the deck's making -/
/-- a list of a new list of ints and an int, both new -/
theorem deckA_list {K : PySem.W.Frag} {A : Amb} {t1 t3 : TE} {w1 w3 : WE} (h1 : ER A K t1 w1) (h3 : ER A K t3 w3) {σ : St} {F H : Hp} {e : En} (S : Sta A K σ F H e) {Q : VK} {C : List Int → Int → Prop}
    (q : w1 e fun r1 e1 => w3 e1 fun r3 e3 => ∃ is i, r1 = .new (.lst (is.map PyData.int)) ∧ r3 = vInt i ∧ C is i)
    (k : ∀ d c0 H' is i, C is i → H' d = some (.lst [.ref c0, .int i]) → H' c0 = some (.lst (is.map V.int)) → d ≠ c0 → Q (.ref d) H') :
    tLst (tCons t1 (tCons t3 tNil)) σ H Q := by
  refine h1 σ F H e _ S q _ fun v1 r1 F1 H1 e1 T1 S1 R1 q1 => ?_
  refine h3 σ F1 H1 e1 _ S1 q1 _ fun v3 r3 F3 H3 e3 T3 S3 R3 ⟨is, i, e1', e3', c⟩ => ?_
  subst e1' e3'
  have R1' := R1.step T3 trivial
  obtain ⟨p1, ho1, ev1, n1, f1, g1, o1, nr1, no1⟩ := R1
  obtain ⟨p1', ho1', ev1', n1', f1', g1', o1', nr1', no1'⟩ := R1'
  rw [ev1] at ev1'
  have ep : p1 = p1' := by simpa using ev1'
  subst ep
  subst ev1
  obtain ⟨vs, e4, rd⟩ := o1'
  have e5 := rd.ints
  subst e4 e5
  have e8 : v3 = .int i := by cases R3; rfl
  subst e8
  refine ⟨by show 2 ≤ sizeLine; decide, fun d nd => ?_⟩
  have hd1 : d ≠ p1 := fun z => by subst z; rw [nd] at g1'; cases g1'
  exact k d p1 _ is i c upd_same (by rw [upd_ne hd1.symm]; exact g1') hd1
theorem deckA_fn {X : Cx} {A : Amb} {a c : Expr} {pos lpos : Pos} {t1 t3 : TE} {w1 w3 : WE} (p1 : PD X A a t1 w1) (p3 : PD X A c t3 w3) {σ : St} {F H : Hp} {e : En} (S : SSt A X.K e.n F H σ F H e) {C : List Int → Int → Prop}
    (hw : w1 e fun r1 e1 => w3 e1 fun r3 e3 => ∃ is i, r1 = .new (.lst (is.map PyData.int)) ∧ r3 = vInt i ∧ C is i) {Q : VK}
    (k : ∀ d c0 H' is i, C is i → H' d = some (.lst [.ref c0, .int i]) → H' c0 = some (.lst (is.map V.int)) → d ≠ c0 → Q (.ref d) H')
    (hs1 : starEach [a, c] X.env = (false, eval a X.env) :: starEach [c] X.env := by rfl) (hs3 : starEach [c] X.env = (false, eval c X.env) :: starEach [] X.env := by rfl) :
    ∃ t, PSs X [.Return (some (.List [a, c] lpos)) pos] t ∧ t { nx := fun _ H' => Q .non H', rt := Q } σ H :=
  ⟨_, pss_one (ps_ret (pe_lst (pa_cons p1.pe (pa_cons p3.pe pa_nil hs3) hs1))), deckA_list p1.er p3.er S.sta hw k⟩
/-- what the deck's maker gives -/
def spDeckA (K : PySem.W.Frag) : Sp := fun vs H Q _ => ∃ (a : Addr) (ns : List Int), vs = [.ref a] ∧ SqL K H a (ns.map V.int) ∧ ns.length ≤ 63 ∧ ∀ d c0 H' is, DeckA d c0 is 0 H' → Q (.ref d) H'
/-- the law's names behind its first statement -/
def enLaw (m : Nat) (d : Addr) : En := ⟨.un :: .im (.raw (.ref d)) :: List.replicate m .un, ⟨0, [], []⟩⟩
theorem sst_law {K : PySem.W.Frag} {a d c0 : Addr} {is : List Int} {H : Hp} (m : Nat) (D : DeckA d c0 is 0 H) :
    SSt (amO K (bseA d c0)) K ⟨0, [], []⟩ (fun _ => none) H (some (.ref a) :: some (.ref d) :: List.replicate m none) (fun _ => none) H (enLaw m d) := by
  have noS : ∀ i p, ¬ Owns (enLaw m d) (some (.ref a) :: some (.ref d) :: List.replicate m none) i p := by
    rintro i p ⟨⟨o, h⟩, _⟩
    have h' : (Sl.un :: .im (.raw (.ref d)) :: List.replicate m .un)[i]? = some (.ow o) := h
    have hm := List.mem_of_getElem? h'
    simp at hm
  refine ⟨⟨by simp [enLaw], fun _ _ e => (by cases e), fun i s hs => ?_, fun i j p h => absurd h (noS i p), ⟨⟨⟨is, 0, D, by omega, by simp [enLaw]⟩, ?_, fun o ho => ?_, fun c hc => ?_⟩, fun c hc => ?_⟩, fun _ _ => rfl, fun i p h => absurd h (noS i p)⟩, ⟨Ex.refl _, fun _ _ h _ => ⟨h, rfl⟩, fun _ h => h, fun _ h => .inl h⟩, fun i p h => absurd h (noS i p)⟩
  · match i, hs with
    | 0, hs => cases hs; trivial
    | 1, hs => cases hs; exact ⟨.ref d, rfl, rfl⟩
    | i + 2, hs =>
      have : s = .un := by
        have hm := List.mem_of_getElem? (l := List.replicate m Sl.un) (i := i) hs
        exact (List.mem_replicate.mp hm).2
      subst this; trivial
  · show (rsG (bseA d c0) ⟨0, [], []⟩).Nodup
    show ([d, c0] ++ [] ++ []).Nodup
    simp [D.n0]
  · cases ho
  · cases hc
  · cases hc
end PL

namespace PL
open PySem L2
/-! ### what is shown is proper text -/
theorem strOk_app {a b : Str} (ha : PyData.strOk a = true) (hb : PyData.strOk b = true) : PyData.strOk (a ++ b) = true := by
  show (a.cps ++ b.cps).all (fun c => decide (c < 0x110000)) = true
  rw [Array.all_append]
  have h1 : a.cps.all (fun c => decide (c < 0x110000)) = true := ha
  have h2 : b.cps.all (fun c => decide (c < 0x110000)) = true := hb
  rw [h1, h2]; rfl
theorem strOk_of (s : String) : PyData.strOk (Str.ofString s) = true := by
  rw [Str.ofString_eq_toList]
  show (s.toList.map Char.toNat).toArray.all (fun c => decide (c < 0x110000)) = true
  rw [List.all_toArray, List.all_eq_true]
  intro n hn
  obtain ⟨c, _, rfl⟩ := List.mem_map.mp hn
  refine decide_eq_true ?_
  have h := c.valid
  rcases h with h | h
  · exact Nat.lt_trans h (by decide)
  · exact h.2
theorem strOk_join {sep : Str} (hs : PyData.strOk sep = true) : ∀ {ts : List Str}, (∀ t ∈ ts, PyData.strOk t = true) → PyData.strOk (Str.join sep ts) = true
  | [], _ => by show (#[] : Array Nat).all (fun c => decide (c < 0x110000)) = true; simp
  | [x], h => h x (by simp)
  | x :: y :: ts, h => strOk_app (strOk_app (h x (by simp)) hs) (strOk_join hs fun t ht => h t (by simp only [List.mem_cons] at ht ⊢; exact .inr ht))
theorem shownAll_ints : ∀ is : List Int, PyData.shownAll (is.map PyData.int) = is.map fun i => Str.ofString (toString i)
  | [] => rfl
  | i :: is => by
    show _ :: _ = _ :: _
    rw [shownAll_ints is]; rfl
theorem strOk_tuple (is : List Int) : PyData.strOk (PyData.shown (.tuple (is.map PyData.int))) = true := by
  show PyData.strOk (tupleText (PyData.shownAll (is.map PyData.int))) = true
  rw [shownAll_ints]
  unfold tupleText
  refine strOk_app (strOk_app (strOk_of _) (strOk_join (strOk_of _) fun t ht => ?_)) (strOk_of _)
  obtain ⟨i, _, rfl⟩ := List.mem_map.mp ht
  exact strOk_of _
/-! ### own errors -/
theorem refs1 (C : Addr) : PySem.HandSPX.refsVE [.ref C, .type "ValueError", .type "Exception", .type "BaseException", .type "object"] = true := by
  show PySem.HandSPX.refsVE [.type "ValueError", .type "Exception", .type "BaseException", .type "object"] = true
  decide +kernel
theorem refs2 (C D : Addr) : PySem.HandSPX.refsVE [.ref C, .ref D, .type "ValueError", .type "Exception", .type "BaseException", .type "object"] = true := refs1 D
/-- an error of a class is caught by its name -/
theorem exm_self {K : PySem.W.Frag} {S : Addr} (h1 : PySem.W.subIn K (.ref S) (.type "BaseException") = some true) (h2 : PySem.W.isClsIn K S = true) (h3 : PySem.W.typeIn K (.ref S) = some (.type "type")) (h4 : PySem.W.subIn K (.ref S) (.ref S) = some true) :
    PySem.W.exmOne K (.ref S) (.ref S) = some true := by
  have e1 : (PySem.W.subIn K (.ref S) (.type "BaseException") == some true) = true := by rw [h1] <;> rfl
  have e2 : ((PySem.W.clsIn K S).isSome && PySem.W.typeIn K (.ref S) == some (.type "type")) = true := by
    have h2' : (PySem.W.clsIn K S).isSome = true := h2
    rw [h2', h3] <;> rfl
  show (if (PySem.W.subIn K (.ref S) (.type "BaseException") == some true) = true then (if ((PySem.W.clsIn K S).isSome && PySem.W.typeIn K (.ref S) == some (.type "type")) = true then PySem.W.subIn K (.ref S) (.ref S) else none) else none) = some true
  rw [if_pos e1, if_pos e2]
  exact h4
end PL

namespace PL
open PySem L2
/-! ### webs, once more -/
def kOk : Kd → Prop
  | .con i => -99 ≤ i ∧ i ≤ 99
  | _ => True
def arOk (x : Sp1) : Prop := x.2.length = arK x.1 ∧ kOk x.1
structure WX (most : Nat) (w : List Sp1) : Prop where
  l0 : 1 ≤ w.length
  l1 : w.length ≤ most
  ar : ∀ x ∈ w, arOk x
  bd : ∀ x ∈ w, ∀ i ∈ x.2, i < w.length
  acy : ∃ rk : Nat → Nat, (∀ (s : Nat) (x : Sp1), w[s]? = some x → ∀ i ∈ x.2, rk i < rk s) ∧ ∀ s, s < w.length → rk s < most
structure SW (w : List Sp1) : Prop where
  l1 : w.length ≤ 10
  ar : ∀ x ∈ w, x.2.length = arK x.1
  bd : ∀ x ∈ w, ∀ i ∈ x.2, i < w.length
  acy : ∃ rk : Nat → Nat, ∀ (s : Nat) (x : Sp1), w[s]? = some x → ∀ i ∈ x.2, rk i < rk s
theorem WX.sw {m : Nat} {w : List Sp1} (h : WX m w) (hm : m ≤ 10) : SW w := ⟨Nat.le_trans h.l1 hm, fun x hx => (h.ar x hx).1, h.bd, let ⟨rk, a, _⟩ := h.acy; ⟨rk, a⟩⟩
theorem arK_le (k : Kd) : arK k ≤ 3 := by cases k <;> first | decide | (show (0 : Nat) ≤ 3; decide)
theorem WX.ar64 {most : Nat} {w : List Sp1} (h : WX most w) : ∀ x ∈ w, x.2.length < 64 := fun x hx => by
  have := (h.ar x hx).1
  have := arK_le x.1
  omega
theorem tiesL_len {w : List Sp1} (h : ∀ x ∈ w, x.2.length ≤ 3) : (tiesL w).length ≤ 3 * w.length := by
  have go : ∀ i, i ≤ w.length → (tiesL (w.take i)).length ≤ 3 * i := by
    intro i
    induction i with
    | zero => intro _; simp [tiesL]
    | succ i ih =>
      intro hi
      have hl : i < w.length := by omega
      rw [tiesL_take w i w[i] (List.getElem?_eq_getElem hl), List.length_append]
      have h1 := ih (by omega)
      have h2 := h _ (List.getElem_mem hl)
      have h3 : (tiesOf i w[i].2).length = w[i].2.length := by unfold tiesOf; rw [List.length_mapIdx]
      omega
  have := go w.length (Nat.le_refl _)
  rwa [List.take_length] at this
theorem SW.tok {w : List Sp1} (h : SW w) : TOk w := by
  have ha : ∀ x ∈ w, x.2.length ≤ 3 := fun x hx => by rw [h.ar x hx]; exact arK_le _
  have := tiesL_len ha
  have := h.l1
  exact ⟨by omega, by omega, fun s hs i hi => by have := h.bd s hs i hi; omega, fun s hs => by have := ha s hs; omega⟩
theorem SW.wok {w : List Sp1} (h : SW w) : WOk w := ⟨h.ar, h.bd, h.acy⟩
def inpN (w : List Sp1) : Nat := (w.filter fun x => decide (x.1 = .inp)).length
def valF (w : List Sp1) (wo : List Int) : Nat → Nat → Int
  | 0, _ => 0
  | k + 1, s => match w[s]? with
    | some x => worthV x.1 (ownV w wo s x.1) (x.2.map (valF w wo k))
    | none => 0
theorem valF_stable {w : List Sp1} {wo : List Int} {rk : Nat → Nat} (hr : ∀ (s : Nat) (x : Sp1), w[s]? = some x → ∀ i ∈ x.2, rk i < rk s) : ∀ (k : Nat) (s : Nat), rk s < k → valF w wo k s = valF w wo (k + 1) s
  | 0, s, h => absurd h (Nat.not_lt_zero _)
  | k + 1, s, h => by
    show (match w[s]? with | some x => worthV x.1 (ownV w wo s x.1) (x.2.map (valF w wo k)) | none => 0) = (match w[s]? with | some x => worthV x.1 (ownV w wo s x.1) (x.2.map (valF w wo (k + 1))) | none => 0)
    cases hx : w[s]? with
    | none => rfl
    | some x =>
      have : x.2.map (valF w wo k) = x.2.map (valF w wo (k + 1)) := List.map_congr_left fun i hi => valF_stable hr k i (by have := hr s x hx i hi; omega)
      show worthV x.1 _ (x.2.map (valF w wo k)) = worthV x.1 _ (x.2.map (valF w wo (k + 1)))
      rw [this]
theorem worthV_bound {B : Nat} (hB : 99 ≤ B) {k : Kd} {o : Int} {ws : List Int} (hk : kOk k) (ho : o.natAbs ≤ B) (hw : ∀ v ∈ ws, v.natAbs ≤ B) : (worthV k o ws).natAbs ≤ B * B := by
  have hBB : B ≤ B * B := Nat.le_mul_of_pos_left B (by omega)
  have h2 : 2 * B ≤ B * B := Nat.mul_le_mul_right B (by omega)
  unfold worthV
  split
  · omega
  · have hc : _ ∧ _ := hk
    omega
  · rename_i a
    have := hw a (by simp)
    omega
  · rename_i a b
    have h1 := hw a (by simp)
    have h2 := hw b (by simp)
    omega
  · rename_i a b
    have h1 := hw a (by simp)
    have h2 := hw b (by simp)
    omega
  · rename_i a b
    have h1 := hw a (by simp)
    have h2 := hw b (by simp)
    rw [Int.natAbs_mul]
    exact Nat.mul_le_mul h1 h2
  · rename_i c a b
    have h1 := hw a (by simp)
    have h2 := hw b (by simp)
    split <;> omega
  · simp
/-- how great a worth may be behind so many steps -/
def bnd : Nat → Nat
  | 0 => 128
  | k + 1 => bnd k * bnd k
theorem bnd_ge : ∀ k, 128 ≤ bnd k
  | 0 => Nat.le_refl _
  | k + 1 => Nat.le_trans (bnd_ge k) (Nat.le_mul_of_pos_left _ (by have := bnd_ge k; omega))
theorem bnd_succ (k : Nat) : bnd k ≤ bnd (k + 1) := Nat.le_mul_of_pos_left _ (by have := bnd_ge k; omega)
theorem bnd_mono {a b : Nat} (h : a ≤ b) : bnd a ≤ bnd b := by
  induction h with
  | refl => exact Nat.le_refl _
  | step _ ih => exact Nat.le_trans ih (bnd_succ _)
theorem bnd_log {v : Int} {k : Nat} (hk : k ≤ 11) (h : v.natAbs ≤ bnd k) : v.natAbs.log2 < 500000 := by
  have hb : bnd 11 < 2 ^ 20000 := by decide +kernel
  by_cases h0 : v.natAbs = 0
  · rw [h0]; decide
  · have := (Nat.log2_lt h0).mpr (Nat.lt_of_le_of_lt (Nat.le_trans h (bnd_mono hk)) hb)
    omega
theorem bnd_show {v : Int} {k : Nat} (hk : k ≤ 8) (h : v.natAbs ≤ bnd k) : v.natAbs.log2 < 1920 := by
  have hb : bnd 8 < 2 ^ 1900 := by decide +kernel
  by_cases h0 : v.natAbs = 0
  · rw [h0]; decide
  · have := (Nat.log2_lt h0).mpr (Nat.lt_of_le_of_lt (Nat.le_trans h (bnd_mono hk)) hb)
    omega
theorem ownV_bound {w : List Sp1} {wo : List Int} (hb : ∀ v ∈ wo, -99 ≤ v ∧ v ≤ 99) (s : Nat) (k : Kd) : (ownV w wo s k).natAbs ≤ 128 := by
  unfold ownV
  split
  · rw [List.getD_eq_getElem?_getD]
    cases hw : wo[rankN w s]? with
    | none => simp
    | some v =>
      have h1 := hb v (List.mem_of_getElem? hw)
      show v.natAbs ≤ _
      omega
  · simp
theorem valF_bound {w : List Sp1} {wo : List Int} (hk : ∀ x ∈ w, kOk x.1) (hb : ∀ v ∈ wo, -99 ≤ v ∧ v ≤ 99) : ∀ k s, (valF w wo k s).natAbs ≤ bnd k
  | 0, s => by simp [valF]
  | k + 1, s => by
    unfold valF
    cases hx : w[s]? with
    | none => simp
    | some x =>
      refine worthV_bound (Nat.le_trans (by decide) (bnd_ge k)) (hk x (List.mem_of_getElem? hx)) (Nat.le_trans (ownV_bound hb s x.1) (bnd_ge k)) fun v hv => ?_
      obtain ⟨i, _, rfl⟩ := List.mem_map.mp hv
      exact valF_bound hk hb k i
theorem rank_lt {w : List Sp1} {s : Nat} {x : Sp1} (hs : w[s]? = some x) (hx : x.1 = .inp) : rankN w s < inpN w := by
  obtain ⟨l, e⟩ := List.getElem?_eq_some_iff.mp hs
  unfold rankN inpN
  have e1 : w = w.take s ++ x :: w.drop (s + 1) := by
    rw [← e]; simp
  have e2 : (w.filter fun x => decide (x.1 = .inp)) = ((w.take s).filter fun x => decide (x.1 = .inp)) ++ (x :: (w.drop (s + 1)).filter fun x => decide (x.1 = .inp)) := by
    conv => lhs; rw [e1]
    rw [List.filter_append, List.filter_cons_of_pos (by simpa using hx)]
  rw [e2, List.length_append, List.length_cons]
  omega
theorem val_ex {m : Nat} {w : List Sp1} {wo : List Int} (h : WX m w) (hm : m ≤ 10) (hl : wo.length = inpN w) (hb : ∀ v ∈ wo, -99 ≤ v ∧ v ≤ 99) : ∃ val : Nat → Int, IsVal w wo val ∧ ∀ s, (val s).natAbs ≤ bnd (m + 1) := by
  obtain ⟨rk, h1, h2⟩ := h.acy
  have hbd := valF_bound (w := w) (wo := wo) (fun x hx => (h.ar x hx).2) hb (m + 1)
  refine ⟨valF w wo (m + 1), ⟨fun s x hs => ?_, fun s x hs hx => by rw [hl]; exact rank_lt hs hx, fun s => bnd_log (by omega) (hbd s)⟩, hbd⟩
  have hs' := (List.getElem?_eq_some_iff.mp hs).1
  have h3 := h2 s hs'
  show valF w wo (m + 1) s = _
  unfold valF
  rw [hs]
  show worthV x.1 _ (x.2.map (valF w wo m)) = worthV x.1 _ (x.2.map (valF w wo (m + 1)))
  have : x.2.map (valF w wo m) = x.2.map (valF w wo (m + 1)) := List.map_congr_left fun i hi => valF_stable h1 m i (by have := h1 s x hs i hi; omega)
  rw [this]
theorem mem_res {w : List Sp1} {s : Nat} : s ∈ resL w ↔ s < w.length ∧ ∀ x ∈ w, s ∉ x.2 := by
  unfold resL
  rw [List.mem_filter, List.mem_range]
  simp
theorem res_nd (w : List Sp1) : (resL w).Nodup := List.Pairwise.filter _ List.nodup_range
/-! ### cells and instructions -/
abbrev Cell := Nat × Int
abbrev Ins := Nat × List Nat × Nat
def encC (c : Cell) : D := .tuple [nD c.1, .int c.2]
def encJ (i : Ins) : D := .tuple [nD i.1, encN i.2.1, nD i.2.2]
def encP (p : List Ins) : D := .tuple (p.map encJ)
def topM {α : Type} (q : Bool) (h : List α) (k : Nat) : List α := if q = true then h.take k else (h.drop (h.length - k)).reverse
def restM {α : Type} (q : Bool) (h : List α) (k : Nat) : List α := if q = true then h.drop k else h.take (h.length - k)
def inpW (w : List Sp1) (s : Nat) : List Nat := (w.getD s (.inp, [])).2
def kndW (w : List Sp1) (s : Nat) : Kd := (w.getD s (.inp, [])).1
theorem inpW_of {w : List Sp1} {s : Nat} {x : Sp1} (h : w[s]? = some x) : inpW w s = x.2 := by unfold inpW; rw [List.getD_eq_getElem?_getD, h]; rfl
theorem kndW_of {w : List Sp1} {s : Nat} {x : Sp1} (h : w[s]? = some x) : kndW w s = x.1 := by unfold kndW; rw [List.getD_eq_getElem?_getD, h]; rfl
def givM (top : List Cell) (ts : List Nat) : List Nat := ts.map fun t => (top.getD t (0, 0)).1
def wosM (top : List Cell) (ts : List Nat) : List Int := ts.map fun t => (top.getD t (0, 0)).2
def doW (w : List Sp1) (wo : List Int) (q : Bool) (h : List Cell) (i : Ins) : Int := worthV (kndW w i.1) (ownV w wo i.1 (kndW w i.1)) (wosM (topM q h i.2.1.length) i.2.1)
def doH (w : List Sp1) (wo : List Int) (q : Bool) (h : List Cell) (i : Ins) : List Cell := restM q h i.2.1.length ++ List.replicate i.2.2 (i.1, doW w wo q h i)
def findsB (w : List Sp1) (wo : List Int) (q : Bool) : List Cell → List Ins → Bool
  | h, [] => h.isEmpty
  | h, i :: r => decide (i.2.1.length ≤ h.length) && (decide (givM (topM q h i.2.1.length) i.2.1 = inpW w i.1) && findsB w wo q (doH w wo q h i) r)
/-- the run of a program that goes through, the worth of each step known -/
def RunsP (w : List Sp1) (wo : List Int) (q : Bool) (val : Nat → Int) : List Cell → List Ins → Prop
  | h, [] => h = []
  | h, i :: r => i.2.1.length ≤ h.length ∧ doW w wo q h i = val i.1 ∧ RunsP w wo q val (doH w wo q h i) r
/-- an instruction that fits its step -/
structure InsOk (w : List Sp1) (i : Ins) : Prop where
  st : i.1 < w.length
  ts : i.2.1.Perm (List.range (inpW w i.1).length)
  cp : i.2.2 ≤ 30
/-! ### how many cells of a step are wanted by some steps -/
def remN (w : List Sp1) : List Nat → Nat → Nat
  | [], _ => 0
  | t :: l, s => (inpW w t).count s + remN w l s
theorem remN_app (w : List Sp1) (s : Nat) : ∀ a b : List Nat, remN w (a ++ b) s = remN w a s + remN w b s
  | [], b => by simp [remN]
  | t :: a, b => by simp only [List.cons_append, remN, remN_app w s a b]; omega
theorem remN_perm (w : List Sp1) (s : Nat) {a b : List Nat} (h : a.Perm b) : remN w a s = remN w b s := by
  induction h with
  | nil => rfl
  | cons x _ ih => simp only [remN, ih]
  | swap x y l => simp only [remN]; omega
  | trans _ _ h1 h2 => exact h1.trans h2
theorem remN_zero {w : List Sp1} {s : Nat} : ∀ {l : List Nat}, remN w l s = 0 ↔ ∀ t ∈ l, s ∉ inpW w t
  | [] => by simp [remN]
  | t :: l => by
    simp only [remN, Nat.add_eq_zero_iff, List.count_eq_zero, remN_zero (l := l), List.forall_mem_cons]
def grp (l : List Nat) (c : Nat → Nat) : List Nat := l.flatMap fun s => List.replicate (c s) s
theorem grp_cons (a : Nat) (l : List Nat) (c : Nat → Nat) : grp (a :: l) c = List.replicate (c a) a ++ grp l c := rfl
theorem grp_app (a b : List Nat) (c : Nat → Nat) : grp (a ++ b) c = grp a c ++ grp b c := List.flatMap_append
theorem mem_grp {x : Nat} {l : List Nat} {c : Nat → Nat} : x ∈ grp l c ↔ x ∈ l ∧ 0 < c x := by
  unfold grp
  rw [List.mem_flatMap]
  constructor
  · rintro ⟨s, hs, h⟩
    obtain ⟨h1, h2⟩ := List.mem_replicate.mp h
    subst h2
    exact ⟨hs, by omega⟩
  · rintro ⟨h1, h2⟩
    exact ⟨x, h1, List.mem_replicate.mpr ⟨by omega, rfl⟩⟩
theorem count_grp {x : Nat} {c : Nat → Nat} : ∀ {l : List Nat}, l.Nodup → (grp l c).count x = if x ∈ l then c x else 0
  | [], _ => rfl
  | a :: l, h => by
    obtain ⟨h1, h2⟩ := List.nodup_cons.mp h
    rw [grp_cons, List.count_append, count_grp h2, List.count_replicate]
    by_cases e : a = x
    · subst e
      simp [h1]
    · have : ¬ x = a := fun z => e z.symm
      simp [e, this]
theorem fm_eq {α β : Type} {f g : α → List β} : ∀ {l : List α}, (∀ x ∈ l, f x = g x) → l.flatMap f = l.flatMap g
  | [], _ => rfl
  | a :: l, h => by rw [List.flatMap_cons, List.flatMap_cons, h a (by simp), fm_eq fun x hx => h x (by simp [hx])]
theorem idx_ne {a x : Nat} {l : List Nat} (h : ¬ a = x) : (a :: l).idxOf x = l.idxOf x + 1 := by
  rw [List.idxOf_cons, beq_eq_false_iff_ne.mpr h]; rfl
theorem idx_eq {a : Nat} {l : List Nat} : (a :: l).idxOf a = 0 := by rw [List.idxOf_cons, beq_self_eq_true]; rfl
theorem grp_sub {l : List Nat} {c : Nat → Nat} : ∀ {P : List Nat}, l.Nodup → P.Sublist (grp l c) → P = grp l fun s => P.count s := by
  induction l with
  | nil => intro P _ h; exact List.sublist_nil.mp h
  | cons a l ih =>
    intro P hn h
    obtain ⟨n1, n2⟩ := List.nodup_cons.mp hn
    rw [grp_cons] at h
    obtain ⟨P1, P2, e, s1, s2⟩ := List.sublist_append_iff.mp h
    subst e
    obtain ⟨m, hm, e1⟩ := List.sublist_replicate_iff.mp s1
    subst e1
    have a2 : P2.count a = 0 := List.count_eq_zero.mpr fun z => n1 (mem_grp.mp (s2.subset z)).1
    have e2 := ih n2 s2
    rw [grp_cons]
    congr 1
    · rw [List.count_append, List.count_replicate_self, a2, Nat.add_zero]
    · conv => lhs; rw [e2]
      unfold grp
      refine fm_eq fun s hs => ?_
      have : ¬ a = s := fun z => n1 (by rw [z]; exact hs)
      show List.replicate (P2.count s) s = List.replicate ((List.replicate m a ++ P2).count s) s
      rw [List.count_append, List.count_replicate]
      simp [this]
theorem grp_congr {l : List Nat} {c d : Nat → Nat} (h : ∀ s ∈ l, c s = d s) : grp l c = grp l d := fm_eq fun s hs => by rw [h s hs]
theorem grp_sorted {l : List Nat} {c : Nat → Nat} (hn : l.Nodup) : (grp l c).Pairwise fun a b => l.idxOf a ≤ l.idxOf b := by
  induction l with
  | nil => exact .nil
  | cons a l ih =>
    obtain ⟨n1, n2⟩ := List.nodup_cons.mp hn
    rw [grp_cons, List.pairwise_append]
    refine ⟨List.pairwise_replicate.mpr (.inr (Nat.le_refl _)), ?_, fun x hx y hy => ?_⟩
    · refine (ih n2).imp_of_mem fun {x y} hx hy h => ?_
      have ex : ¬ a = x := fun z => n1 (by rw [z]; exact (mem_grp.mp hx).1)
      have ey : ¬ a = y := fun z => n1 (by rw [z]; exact (mem_grp.mp hy).1)
      rw [idx_ne ex, idx_ne ey]
      omega
    · rw [(List.mem_replicate.mp hx).2, idx_eq]
      omega
theorem grp_split {c d : Nat → Nat} : ∀ {l : List Nat}, l.Pairwise (fun g o => 0 < d g → c o = 0) → grp l (fun s => c s + d s) = grp l c ++ grp l d
  | [], _ => rfl
  | a :: l, h => by
    obtain ⟨h1, h2⟩ := List.pairwise_cons.mp h
    rw [grp_cons, grp_cons, grp_cons, grp_split h2, ← List.replicate_append_replicate]
    by_cases hd : d a = 0
    · rw [hd]; simp [List.append_assoc]
    · have hz : grp l c = [] := by
        rw [grp_congr (d := fun _ => 0) fun s hs => h1 s hs (by omega)]
        unfold grp; simp
      rw [hz, List.append_nil, List.nil_append, List.append_assoc]
theorem grp_len_count {l : List Nat} : ∀ {m : List Nat}, l.Nodup → (∀ x ∈ m, x ∈ l) → (grp l fun s => m.count s).Perm m := by
  intro m hn hm
  refine List.perm_iff_count.mpr fun x => ?_
  rw [count_grp hn]
  split
  · rfl
  · rename_i h
    exact (List.count_eq_zero.mpr fun z => h (hm x z)).symm
theorem grp_rev {l : List Nat} {c : Nat → Nat} : (grp l c).reverse = grp l.reverse c := by
  unfold grp
  induction l with
  | nil => rfl
  | cons a l ih => rw [List.flatMap_cons, List.reverse_append, ih, List.reverse_cons, List.flatMap_append, List.reverse_replicate]; simp
end PL

namespace PL
open PySem L2
/-! ### the pile -/
def fsts (h : List Cell) : List Nat := h.map (·.1)
/-- no tie late, none crossing another one: pos tells the place of a step -/
structure NC (w : List Sp1) (pos : Nat → Nat) : Prop where
  late : ∀ t < w.length, ∀ g ∈ inpW w t, pos g < pos t
  cross : ∀ t < w.length, ∀ t' < w.length, ∀ g ∈ inpW w t, ∀ o ∈ inpW w t', pos g < pos o → pos o < pos t → pos t' ≤ pos t
/-- one step of a right order, the steps ahead of it and behind it told -/
structure StepR (w : List Sp1) (pre : List Nat) (s : Nat) (suf : List Nat) : Prop where
  giv : ∀ g ∈ inpW w s, g ∈ pre
  off : ∀ g ∈ inpW w s, ∀ o ∈ pre, pre.idxOf g < pre.idxOf o → ∀ t ∈ suf, o ∉ inpW w t
theorem getD_map {l : List Cell} {t : Nat} : (l.getD t (0, 0)).1 = (l.map (·.1)).getD t 0 := by
  rw [List.getD_eq_getElem?_getD, List.getD_eq_getElem?_getD, List.getElem?_map]
  cases l[t]? <;> rfl
theorem givM_eq (top : List Cell) (ts : List Nat) : givM top ts = ts.map fun t => (fsts top).getD t 0 := List.map_congr_left fun t _ => getD_map
theorem fsts_top (h : List Cell) (k : Nat) (q : Bool) : fsts (topM q h k) = topM q (fsts h) k := by
  unfold fsts topM
  split
  · rw [List.map_take]
  · rw [List.map_reverse, List.map_drop, List.length_map]
theorem fsts_rest (h : List Cell) (k : Nat) (q : Bool) : fsts (restM q h k) = restM q (fsts h) k := by
  unfold fsts restM
  split
  · rw [List.map_drop]
  · rw [List.map_take, List.length_map]
theorem nd_perm : ∀ {a b : List Nat}, a.Nodup → (∀ x ∈ a, x ∈ b) → b.length ≤ a.length → a.Perm b
  | [], b, _, _, hl => by rw [List.length_eq_zero_iff.mp (Nat.le_zero.mp hl)]
  | x :: a, b, hn, hs, hl => by
    obtain ⟨h1, h2⟩ := List.nodup_cons.mp hn
    have hx := hs x (by simp)
    have hp := List.perm_cons_erase hx
    refine (List.Perm.cons x (nd_perm h2 (fun y hy => ?_) ?_)).trans hp.symm
    · exact (List.mem_erase_of_ne fun z => h1 (by rw [← z]; exact hy)).mpr (hs y (by simp [hy]))
    · have := List.length_erase_of_mem hx
      rw [List.length_cons] at hl
      omega
theorem giv_perm {l ts : List Nat} (h : ts.Perm (List.range l.length)) : (ts.map fun t => l.getD t 0).Perm l := by
  have h1 := h.map fun t => l.getD t 0
  have h2 : (List.range l.length).map (fun t => l.getD t 0) = l := by
    refine List.ext_getElem? fun i => ?_
    rw [List.getElem?_map]
    by_cases c : i < l.length
    · rw [List.getElem?_range c]
      show some (l.getD i 0) = _
      rw [List.getD_eq_getElem?_getD, List.getElem?_eq_getElem c]; rfl
    · rw [List.getElem?_eq_none (by rw [List.length_range]; omega), List.getElem?_eq_none (by omega)]; rfl
  rw [h2] at h1
  exact h1
section
variable {w : List Sp1} {pre suf : List Nat} {s : Nat} {G : List Nat}
theorem nd_parts (hn : (pre ++ s :: suf).Nodup) : pre.Nodup ∧ s ∉ pre ∧ (∀ x ∈ pre, x ∉ suf) ∧ s ∉ suf ∧ (pre ++ [s]).Nodup ∧ ((pre ++ [s]) ++ suf).Nodup := by
  obtain ⟨h1, h2, h3⟩ := List.nodup_append.mp hn
  obtain ⟨h4, h5⟩ := List.nodup_cons.mp h2
  have hs : s ∉ pre := fun z => h3 s z s (by simp) rfl
  refine ⟨h1, hs, fun x hx hy => h3 x hx x (by simp [hy]) rfl, h4, nodup_snoc h1 hs, by rw [List.append_assoc]; exact hn⟩
/-- what a step that finds its inputs tells -/
theorem pile_step (hn : (pre ++ s :: suf).Nodup) (hG : G = grp pre (remN w (s :: suf))) (hl : (inpW w s).length ≤ G.length) (hp : (topM false G (inpW w s).length).Perm (inpW w s)) :
    restM false G (inpW w s).length = grp pre (remN w suf) ∧ StepR w pre s suf := by
  obtain ⟨n1, n2, n3, n4, _, _⟩ := nd_parts hn
  have hp' : (G.drop (G.length - (inpW w s).length)).Perm (inpW w s) := (List.reverse_perm _).symm.trans hp
  generalize hk : G.length - (inpW w s).length = m at hp'
  have hr : restM false G (inpW w s).length = G.take m := by unfold restM; rw [hk]; rfl
  have hc : ∀ x, (G.take m).count x + (inpW w s).count x = G.count x := fun x => by
    rw [← hp'.count_eq, ← List.count_append, List.take_append_drop]
  have cP : ∀ x ∈ pre, (G.take m).count x = remN w suf x := fun x hx => by
    have := hc x
    have e : G.count x = (inpW w s).count x + remN w suf x := by rw [hG, count_grp n1, if_pos hx]; rfl
    omega
  have hP : G.take m = grp pre (remN w suf) := by
    have hsub : (G.take m).Sublist (grp pre (remN w (s :: suf))) := by rw [← hG]; exact List.take_sublist _ _
    have h0 := grp_sub n1 hsub
    exact h0.trans (grp_congr cP)
  refine ⟨hr.trans hP, ⟨fun g hg => ?_, fun g hg o ho hlt t ht hot => ?_⟩⟩
  · have : g ∈ G := List.drop_subset _ _ (hp'.mem_iff.mpr hg)
    rw [hG] at this
    exact (mem_grp.mp this).1
  · have hoP : o ∈ G.take m := by
      rw [hP]
      refine mem_grp.mpr ⟨ho, ?_⟩
      rcases Nat.eq_zero_or_pos (remN w suf o) with z | z
      · exact absurd hot (remN_zero.mp z t ht)
      · exact z
    have hgT : g ∈ G.drop m := hp'.mem_iff.mpr hg
    have srt : (G.take m ++ G.drop m).Pairwise fun a b => pre.idxOf a ≤ pre.idxOf b := by
      rw [List.take_append_drop, hG]
      exact grp_sorted n1
    have := (List.pairwise_append.mp srt).2.2 o hoP g hgT
    omega
/-- .. and the other way -/
theorem pile_split (hn : (pre ++ s :: suf).Nodup) (hG : G = grp pre (remN w (s :: suf))) (h : StepR w pre s suf) :
    (inpW w s).length ≤ G.length ∧ restM false G (inpW w s).length = grp pre (remN w suf) ∧ topM false G (inpW w s).length = grp pre.reverse fun x => (inpW w s).count x := by
  obtain ⟨n1, n2, n3, n4, _, _⟩ := nd_parts hn
  have e : G = grp pre (remN w suf) ++ grp pre fun x => (inpW w s).count x := by
    rw [hG, ← grp_split]
    · exact grp_congr fun x _ => by show (inpW w s).count x + remN w suf x = _; omega
    · refine List.pairwise_iff_getElem.mpr fun i j hi hj hij hc => ?_
      have hg : pre[i] ∈ inpW w s := List.count_pos_iff.mp hc
      refine remN_zero.mpr fun t ht => h.off _ hg _ (List.getElem_mem hj) ?_ t ht
      rw [n1.idxOf_getElem, n1.idxOf_getElem]
      exact hij
  have hl : (grp pre fun x => (inpW w s).count x).length = (inpW w s).length := (grp_len_count n1 h.giv).length_eq
  refine ⟨by rw [e, List.length_append, hl]; omega, ?_, ?_⟩
  · unfold restM
    rw [if_neg (by decide), e, List.length_append, hl, Nat.add_sub_cancel, List.take_left]
  · unfold topM
    rw [if_neg (by decide), e, List.length_append, hl, Nat.add_sub_cancel, List.drop_left, grp_rev]
/-- the cells behind a step -/
theorem pile_next (hn : (pre ++ s :: suf).Nodup) (cl : ∀ t ∈ pre, ∀ g ∈ inpW w t, g ∈ pre) (h : ∀ g ∈ inpW w s, g ∈ pre) : grp pre (remN w suf) ++ List.replicate (remN w (pre ++ s :: suf) s) s = grp (pre ++ [s]) (remN w suf) := by
  obtain ⟨n1, n2, n3, n4, _, _⟩ := nd_parts hn
  rw [grp_app, grp_cons]
  have e : remN w (pre ++ s :: suf) s = remN w suf s := by
    rw [remN_app]
    have a : remN w pre s = 0 := remN_zero.mpr fun t ht z => n2 (cl t ht s z)
    have b : (inpW w s).count s = 0 := List.count_eq_zero.mpr fun z => n2 (h s z)
    show remN w pre s + ((inpW w s).count s + remN w suf s) = _
    omega
  rw [e]
  show _ = _ ++ (List.replicate (remN w suf s) s ++ [])
  rw [List.append_nil]
theorem cl_next (cl : ∀ t ∈ pre, ∀ g ∈ inpW w t, g ∈ pre) (h : ∀ g ∈ inpW w s, g ∈ pre) : ∀ t ∈ pre ++ [s], ∀ g ∈ inpW w t, g ∈ pre ++ [s] := fun t ht g hg => by
  rcases List.mem_append.mp ht with ht | ht
  · exact List.mem_append_left _ (cl t ht g hg)
  · rw [List.mem_singleton.mp ht] at hg
    exact List.mem_append_left _ (h g hg)
end
/-- every step of the rest fits -/
def RowR (w : List Sp1) : List Nat → List Nat → Prop
  | _, [] => True
  | pre, s :: suf => StepR w pre s suf ∧ RowR w (pre ++ [s]) suf
section
variable {w : List Sp1} {wo : List Int} {row : List Nat}
structure ProgOk (w : List Sp1) (row : List Nat) (p : List Ins) : Prop where
  ok : ∀ i ∈ p, InsOk w i
  cp : ∀ i ∈ p, i.2.2 = remN w row i.1
theorem topM_len {α : Type} {q : Bool} {h : List α} {k : Nat} (hk : k ≤ h.length) : (topM q h k).length = k := by
  unfold topM
  split
  · rw [List.length_take]; omega
  · rw [List.length_reverse, List.length_drop]; omega
theorem InsOk.len {i : Ins} (h : InsOk w i) : i.2.1.length = (inpW w i.1).length := by rw [h.ts.length_eq, List.length_range]
/-- what goes through on the pile has its steps in a right order -/
theorem finds_row : ∀ {p : List Ins} {pre : List Nat} {h : List Cell}, ProgOk w row p → row = pre ++ p.map (·.1) → row.Nodup → (∀ t ∈ pre, ∀ g ∈ inpW w t, g ∈ pre) → fsts h = grp pre (remN w (p.map (·.1))) → findsB w wo false h p = true → RowR w pre (p.map (·.1))
  | [], _, _, _, _, _, _, _, _ => trivial
  | i :: p, pre, h, ok, hr, hn, cl, hG, hf => by
    unfold findsB at hf
    rw [Bool.and_eq_true, Bool.and_eq_true, decide_eq_true_eq, decide_eq_true_eq] at hf
    obtain ⟨hl, hg, hf⟩ := hf
    have oi := ok.ok i (by simp)
    have hlen := oi.len
    rw [hlen] at hl hg
    have hl' : (inpW w i.1).length ≤ (fsts h).length := by unfold fsts; rw [List.length_map]; exact hl
    have hn' : (pre ++ i.1 :: p.map (·.1)).Nodup := by rw [List.map_cons] at hr; rw [← hr]; exact hn
    have hp : (topM false (fsts h) (inpW w i.1).length).Perm (inpW w i.1) := by
      rw [givM_eq, fsts_top] at hg
      have := giv_perm (l := topM false (fsts h) (inpW w i.1).length) (ts := i.2.1) (by rw [topM_len hl']; exact oi.ts)
      rw [hg] at this
      exact this.symm
    obtain ⟨h1, h2⟩ := pile_step hn' hG hl' hp
    refine ⟨h2, finds_row ⟨fun j hj => ok.ok j (by simp [hj]), fun j hj => ok.cp j (by simp [hj])⟩ (by rw [hr]; simp) hn (cl_next cl h2.giv) ?_ hf⟩
    have e : row = pre ++ i.1 :: p.map (·.1) := by rw [hr]; rfl
    rw [← pile_next hn' cl h2.giv, ← h1, ← e, ← ok.cp i (by simp)]
    unfold doH fsts
    rw [List.map_append, List.map_replicate, hlen]
    show fsts (restM false h _) ++ _ = restM false (fsts h) _ ++ _
    rw [fsts_rest]
/-- .. and its worths are those of the meaning -/
theorem finds_runs {val : Nat → Int} (iv : IsVal w wo val) : ∀ {p : List Ins} {h : List Cell}, (∀ i ∈ p, InsOk w i) → (∀ c ∈ h, c.2 = val c.1) → findsB w wo false h p = true → RunsP w wo false val h p
  | [], h, _, _, hf => List.isEmpty_iff.mp hf
  | i :: p, h, ok, hv, hf => by
    unfold findsB at hf
    rw [Bool.and_eq_true, Bool.and_eq_true, decide_eq_true_eq, decide_eq_true_eq] at hf
    obtain ⟨hl, hg, hf⟩ := hf
    have oi := ok i (by simp)
    have hx : w[i.1]? = some (w[i.1]'oi.st) := List.getElem?_eq_getElem oi.st
    have hw : wosM (topM false h i.2.1.length) i.2.1 = (inpW w i.1).map val := by
      rw [← hg]
      unfold wosM givM
      rw [List.map_map]
      refine List.map_congr_left fun t ht => ?_
      have htl : t < (topM false h i.2.1.length).length := by
        rw [topM_len hl, oi.len]
        exact List.mem_range.mp (oi.ts.mem_iff.mp ht)
      show ((topM false h i.2.1.length).getD t (0, 0)).2 = val ((topM false h i.2.1.length).getD t (0, 0)).1
      rw [List.getD_eq_getElem?_getD, List.getElem?_eq_getElem htl]
      refine hv _ ?_
      have hm := List.getElem_mem htl
      have hsub : ∀ c ∈ topM false h i.2.1.length, c ∈ h := fun c hc => by
        unfold topM at hc
        rw [if_neg (by decide)] at hc
        exact List.drop_subset _ _ (List.mem_reverse.mp hc)
      exact hsub _ hm
    have hd : doW w wo false h i = val i.1 := by
      unfold doW
      rw [hw, iv.eq i.1 _ hx, kndW_of hx, inpW_of hx]
    refine ⟨hl, hd, finds_runs iv (fun j hj => ok j (by simp [hj])) (fun c hc => ?_) hf⟩
    unfold doH at hc
    rcases List.mem_append.mp hc with hc | hc
    · unfold restM at hc
      rw [if_neg (by decide)] at hc
      exact hv c (List.take_subset _ _ hc)
    · rw [(List.mem_replicate.mp hc).2]; exact hd
/-- the places at which the cells of the inputs lie -/
def wantN (q : Bool) (order inp : List Nat) : List Nat := (if q = true then order else order.reverse).flatMap fun g => (List.range inp.length).filter fun p => decide (inp[p]? = some g)
def takesN (q : Bool) (order inp : List Nat) : List Nat := (List.range inp.length).map fun p => (wantN q order inp).idxOf p
theorem want_map {q : Bool} {order inp : List Nat} : (wantN q order inp).map (fun p => inp.getD p 0) = grp (if q = true then order else order.reverse) fun x => inp.count x := by
  unfold wantN grp
  rw [List.map_flatMap]
  refine fm_eq fun g _ => ?_
  have key : ∀ (l : List Nat) (f : Nat → Nat), ((List.range l.length).filter fun p => decide (l[p]? = some g)).length = l.count g := by
    intro l f
    induction l with
    | nil => rfl
    | cons a l ih =>
      rw [List.length_cons, List.range_succ_eq_map, List.filter_cons, List.filter_map, List.count_cons]
      have e : ((fun p => decide ((a :: l)[p]? = some g)) ∘ Nat.succ) = fun p => decide (l[p]? = some g) := by funext p; simp
      rw [e]
      by_cases c : a = g
      · subst c; simp [ih]
      · have : ¬ (a == g) = true := by simp [c]
        simp [c, ih]
  refine List.eq_replicate_iff.mpr ⟨by rw [List.length_map, key inp id], fun x hx => ?_⟩
  obtain ⟨p, hp, e⟩ := List.mem_map.mp hx
  obtain ⟨hp1, hp2⟩ := List.mem_filter.mp hp
  rw [decide_eq_true_eq] at hp2
  rw [← e, List.getD_eq_getElem?_getD, hp2]; rfl
theorem mem_want {q : Bool} {order inp : List Nat} (h : ∀ g ∈ inp, g ∈ order) {p : Nat} : p ∈ wantN q order inp ↔ p < inp.length := by
  unfold wantN
  rw [List.mem_flatMap]
  constructor
  · rintro ⟨g, _, hg⟩
    exact List.mem_range.mp (List.mem_filter.mp hg).1
  · intro hp
    refine ⟨inp[p], ?_, List.mem_filter.mpr ⟨List.mem_range.mpr hp, by simp [List.getElem?_eq_getElem hp]⟩⟩
    have := h _ (List.getElem_mem hp)
    split
    · exact this
    · exact List.mem_reverse.mpr this
theorem want_len {q : Bool} {order inp : List Nat} (hn : order.Nodup) (h : ∀ g ∈ inp, g ∈ order) : (wantN q order inp).length = inp.length := by
  have h1 : ((wantN q order inp).map fun p => inp.getD p 0).length = inp.length := by
    rw [want_map]
    split
    · exact (grp_len_count hn h).length_eq
    · exact (grp_len_count ((List.reverse_perm order).nodup_iff.mpr hn) fun g hg => List.mem_reverse.mpr (h g hg)).length_eq
  rwa [List.length_map] at h1
theorem want_nodup {q : Bool} {order inp : List Nat} (hn : order.Nodup) (h : ∀ g ∈ inp, g ∈ order) : (wantN q order inp).Nodup := by
  have hsub : List.range inp.length ⊆ wantN q order inp := fun p hp => (mem_want h).mpr (List.mem_range.mp hp)
  have hl := want_len (q := q) hn h
  have := nd_perm List.nodup_range hsub (by rw [hl, List.length_range]; exact Nat.le_refl _)
  exact this.nodup_iff.mp List.nodup_range
theorem takes_perm {q : Bool} {order inp : List Nat} (hn : order.Nodup) (h : ∀ g ∈ inp, g ∈ order) : (takesN q order inp).Perm (List.range inp.length) := by
  have hl := want_len (q := q) hn h
  have nd : (takesN q order inp).Nodup := by
    unfold takesN
    refine List.pairwise_map.mpr (List.nodup_range.imp_of_mem fun {a b} ha hb ne e => ne ?_)
    have h1 := List.getElem_idxOf (List.idxOf_lt_length_iff.mpr ((mem_want (q := q) h).mpr (List.mem_range.mp ha)))
    have h2 := List.getElem_idxOf (List.idxOf_lt_length_iff.mpr ((mem_want (q := q) h).mpr (List.mem_range.mp hb)))
    rw [← h1, ← h2]
    simp only [e]
  refine nd_perm nd (fun x hx => ?_) (by unfold takesN; rw [List.length_map]; exact Nat.le_refl _)
  unfold takesN at hx
  obtain ⟨p, hp, e⟩ := List.mem_map.mp hx
  rw [← e, List.mem_range, ← hl]
  exact List.idxOf_lt_length_iff.mpr ((mem_want h).mpr (List.mem_range.mp hp))
theorem takes_giv {q : Bool} {order inp : List Nat} (h : ∀ g ∈ inp, g ∈ order) : ((takesN q order inp).map fun t => ((wantN q order inp).map fun p => inp.getD p 0).getD t 0) = inp := by
  unfold takesN
  rw [List.map_map]
  refine List.ext_getElem? fun i => ?_
  rw [List.getElem?_map]
  by_cases c : i < inp.length
  · rw [List.getElem?_range c, List.getElem?_eq_getElem c]
    have hm := (mem_want (q := q) h).mpr c
    have hi := List.idxOf_lt_length_iff.mpr hm
    show some ((List.map (fun p => inp.getD p 0) (wantN q order inp)).getD ((wantN q order inp).idxOf i) 0) = _
    rw [List.getD_eq_getElem?_getD, List.getElem?_map, List.getElem?_eq_getElem hi, List.getElem_idxOf hi]
    show some (inp.getD i 0) = _
    rw [List.getD_eq_getElem?_getD, List.getElem?_eq_getElem c]; rfl
  · rw [List.getElem?_eq_none (by rw [List.length_range]; omega), List.getElem?_eq_none (by omega)]; rfl
def progN (w : List Sp1) (q : Bool) (row : List Nat) : List Ins := row.map fun s => (s, takesN q row (inpW w s), remN w row s)
/-- the program of a right order goes through -/
theorem row_finds (hn : row.Nodup) : ∀ {suf pre : List Nat} {h : List Cell}, row = pre ++ suf → (∀ t ∈ pre, ∀ g ∈ inpW w t, g ∈ pre) → fsts h = grp pre (remN w suf) → RowR w pre suf → findsB w wo false h (suf.map fun s => (s, takesN false row (inpW w s), remN w row s)) = true
  | [], pre, h, _, _, hG, _ => by
    have : fsts h = [] := by
      rw [hG]
      unfold grp remN; simp
    exact List.isEmpty_iff.mpr (List.map_eq_nil_iff.mp this)
  | s :: suf, pre, h, hr, cl, hG, ⟨hs, hR⟩ => by
    have hn' : (pre ++ s :: suf).Nodup := by rw [← hr]; exact hn
    obtain ⟨n1, n2, n3, n4, n5, n6⟩ := nd_parts hn'
    obtain ⟨h1, h2, h3⟩ := pile_split hn' hG hs
    have hrow : ∀ g ∈ inpW w s, g ∈ row := fun g hg => by rw [hr]; exact List.mem_append_left _ (hs.giv g hg)
    have hlt : (takesN false row (inpW w s)).length = (inpW w s).length := by unfold takesN; rw [List.length_map, List.length_range]
    have hl : (inpW w s).length ≤ h.length := by unfold fsts at h1; rw [List.length_map] at h1; exact h1
    rw [List.map_cons]
    unfold findsB
    rw [Bool.and_eq_true, Bool.and_eq_true, decide_eq_true_eq, decide_eq_true_eq]
    show (takesN false row (inpW w s)).length ≤ h.length ∧ givM (topM false h (takesN false row (inpW w s)).length) (takesN false row (inpW w s)) = inpW w s ∧ _
    rw [hlt]
    refine ⟨hl, ?_, row_finds hn (by rw [hr]; simp) (cl_next cl hs.giv) ?_ hR⟩
    · rw [givM_eq, fsts_top, h3]
      have e : grp pre.reverse (fun x => (inpW w s).count x) = grp row.reverse fun x => (inpW w s).count x := by
        rw [← grp_rev, ← grp_rev, hr, grp_app]
        have : grp (s :: suf) (fun x => (inpW w s).count x) = [] := by
          rw [grp_congr (d := fun _ => 0) fun x hx => List.count_eq_zero.mpr fun z => ?_]
          · unfold grp; simp
          · have := hs.giv x z
            rcases List.mem_cons.mp hx with e | hx
            · exact n2 (by rw [← e]; exact this)
            · exact n3 x this hx
        rw [this, List.append_nil]
      rw [e]
      have := takes_giv (q := false) hrow
      rw [want_map] at this
      exact this
    · rw [← pile_next hn' cl hs.giv, ← h2, ← hr]
      unfold doH fsts
      rw [List.map_append, List.map_replicate]
      show fsts (restM false h (takesN false row (inpW w s)).length) ++ _ = restM false (fsts h) _ ++ _
      rw [fsts_rest, hlt]
end
end PL

namespace PL
open PySem L2
theorem renW_get {w : List Sp1} {l : List Nat} (hp : l.Perm (List.range w.length)) (a : Nat) (y : Sp1) (h : (renW w l)[a]? = some y) : ∃ s x, l[a]? = some s ∧ w[s]? = some x ∧ y = mvS x fun i => l.idxOf i := by
  have hm : ∀ s ∈ l, s < w.length := fun s hs => List.mem_range.mp (hp.mem_iff.mp hs)
  rw [renW_eq hm, List.getElem?_map] at h
  obtain ⟨s, hs, e⟩ := Option.map_eq_some_iff.mp h
  have hs' := hm s (List.mem_of_getElem? hs)
  refine ⟨s, w[s], hs, List.getElem?_eq_getElem hs', ?_⟩
  rw [← e, List.getD_eq_getElem?_getD, List.getElem?_eq_getElem hs']
  rfl
theorem renW_len {w : List Sp1} {l : List Nat} (hp : l.Perm (List.range w.length)) : (renW w l).length = w.length := by
  have hm : ∀ s ∈ l, s < w.length := fun s hs => List.mem_range.mp (hp.mem_iff.mp hs)
  rw [renW_eq hm, List.length_map, hp.length_eq, List.length_range]
theorem getD_idx {l : List Nat} {i : Nat} (h : i ∈ l) : l.getD (l.idxOf i) 0 = i := by
  have hl := List.idxOf_lt_length_iff.mpr h
  rw [List.getD_eq_getElem?_getD, List.getElem?_eq_getElem hl]
  exact List.getElem_idxOf hl
theorem idx_get {l : List Nat} (nd : l.Nodup) {a s : Nat} (h : l[a]? = some s) : l.idxOf s = a := by
  obtain ⟨hl, e⟩ := List.getElem?_eq_some_iff.mp h
  subst e
  exact nd.idxOf_getElem a hl
theorem WX.ren {most : Nat} {w : List Sp1} {l : List Nat} (h : WX most w) (hp : l.Perm (List.range w.length)) : WX most (renW w l) := by
  have nd : l.Nodup := hp.nodup_iff.mpr List.nodup_range
  have hll := hp.length_eq
  rw [List.length_range] at hll
  refine ⟨by rw [renW_len hp]; exact h.l0, by rw [renW_len hp]; exact h.l1, fun y hy => ?_, fun y hy i hi => ?_, ?_⟩
  · obtain ⟨a, ha⟩ := List.mem_iff_getElem?.mp hy
    obtain ⟨s, x, h1, h2, rfl⟩ := renW_get hp a y ha
    have := h.ar x (List.mem_of_getElem? h2)
    exact ⟨(List.length_map ..).trans this.1, this.2⟩
  · obtain ⟨a, ha⟩ := List.mem_iff_getElem?.mp hy
    obtain ⟨s, x, h1, h2, rfl⟩ := renW_get hp a y ha
    obtain ⟨j, hj, rfl⟩ := List.mem_map.mp hi
    have hjl : j ∈ l := hp.mem_iff.mpr (List.mem_range.mpr (h.bd x (List.mem_of_getElem? h2) j hj))
    rw [renW_len hp, ← hll]
    exact List.idxOf_lt_length_iff.mpr hjl
  · obtain ⟨rk, h3, h4⟩ := h.acy
    refine ⟨fun i => rk (l.getD i 0), fun a y ha i hi => ?_, fun s hs => ?_⟩
    · obtain ⟨s, x, h1, h2, rfl⟩ := renW_get hp a y ha
      obtain ⟨j, hj, rfl⟩ := List.mem_map.mp hi
      have hjl : j ∈ l := hp.mem_iff.mpr (List.mem_range.mpr (h.bd x (List.mem_of_getElem? h2) j hj))
      show rk (l.getD (l.idxOf j) 0) < rk (l.getD a 0)
      rw [getD_idx hjl, List.getD_eq_getElem?_getD, h1]
      exact h3 s x h2 j hj
    · rw [renW_len hp, ← hll] at hs
      refine h4 _ ?_
      rw [List.getD_eq_getElem?_getD, List.getElem?_eq_getElem hs]
      exact List.mem_range.mp (hp.mem_iff.mp (List.getElem_mem hs))

/-! ### right orders: no tie late, no two that cross (pile) or nest (queue) -/
def Betw (q : Bool) (pos : Nat → Nat) (o g t : Nat) : Prop := if q = true then pos o < pos g else pos g < pos o ∧ pos o < pos t
structure NCq (q : Bool) (w : List Sp1) (pos : Nat → Nat) : Prop where
  late : ∀ t < w.length, ∀ g ∈ inpW w t, pos g < pos t
  cross : ∀ t < w.length, ∀ t' < w.length, ∀ g ∈ inpW w t, ∀ o ∈ inpW w t', Betw q pos o g t → pos t' ≤ pos t
def RightAt (q : Bool) (w : List Sp1) (row : List Nat) : Prop := ∀ i s, row[i]? = some s → (∀ g ∈ inpW w s, g ∈ row.take i) ∧ ∀ g ∈ inpW w s, ∀ o ∈ row.take i, (if q = true then (row.take i).idxOf o < (row.take i).idxOf g else (row.take i).idxOf g < (row.take i).idxOf o) → ∀ t ∈ row.drop (i + 1), o ∉ inpW w t
section
variable {w : List Sp1} {row : List Nat} {q : Bool}
theorem inpW_bd (hb : ∀ x ∈ w, ∀ i ∈ x.2, i < w.length) {s g : Nat} (h : g ∈ inpW w s) : g < w.length ∧ s < w.length := by
  by_cases hs : s < w.length
  · rw [inpW_of (List.getElem?_eq_getElem hs)] at h
    exact ⟨hb _ (List.getElem_mem hs) g h, hs⟩
  · unfold inpW at h
    rw [List.getD_eq_getElem?_getD, List.getElem?_eq_none (by omega)] at h
    cases h
theorem idx_take {l : List Nat} {i x : Nat} (h : x ∈ l.take i) : (l.take i).idxOf x = l.idxOf x := by
  have := List.idxOf_append (l₁ := l.take i) (l₂ := l.drop i) (a := x)
  rw [List.take_append_drop, if_pos h] at this
  exact this.symm
theorem mem_take {l : List Nat} (hn : l.Nodup) {i x : Nat} (hx : x ∈ l) : x ∈ l.take i ↔ l.idxOf x < i := by
  constructor
  · intro h
    rw [← idx_take h]
    have := List.idxOf_lt_length_iff.mpr h
    rw [List.length_take] at this
    omega
  · intro h
    have hl := List.idxOf_lt_length_iff.mpr hx
    rw [List.mem_take_iff_getElem]
    exact ⟨l.idxOf x, by omega, List.getElem_idxOf hl⟩
theorem mem_drop {l : List Nat} (hn : l.Nodup) {i x : Nat} (hx : x ∈ l) : x ∈ l.drop i ↔ i ≤ l.idxOf x := by
  constructor
  · intro h
    refine Nat.le_of_not_lt fun z => ?_
    have h1 := (mem_take hn hx).mpr z
    rw [← List.take_append_drop i l] at hn
    exact (List.nodup_append.mp hn).2.2 x h1 x h rfl
  · intro h
    rw [← List.take_append_drop i l] at hx
    rcases List.mem_append.mp hx with z | z
    · have := (mem_take hn (List.mem_of_mem_take z)).mp z
      omega
    · exact z
theorem right_nc (hp : row.Perm (List.range w.length)) (hb : ∀ x ∈ w, ∀ i ∈ x.2, i < w.length) : RightAt q w row ↔ NCq q w row.idxOf := by
  have hn : row.Nodup := hp.nodup_iff.mpr List.nodup_range
  have hm : ∀ {s}, s < w.length → s ∈ row := fun h => hp.mem_iff.mpr (List.mem_range.mpr h)
  constructor
  · intro h
    have hat : ∀ t < w.length, row[row.idxOf t]? = some t := fun t ht => by
      have hl := List.idxOf_lt_length_iff.mpr (hm ht)
      rw [List.getElem?_eq_getElem hl, List.getElem_idxOf hl]
    refine ⟨fun t ht g hg => (mem_take hn (hm (inpW_bd hb hg).1)).mp ((h _ t (hat t ht)).1 g hg), fun t ht t' ht' g hg o ho hbt => ?_⟩
    have h1 := h _ t (hat t ht)
    have hgm := h1.1 g hg
    have hgp := (mem_take hn (hm (inpW_bd hb hg).1)).mp hgm
    have hop : row.idxOf o < row.idxOf t := by unfold Betw at hbt; dsimp only at hbt; split at hbt <;> omega
    have hom : o ∈ row.take (row.idxOf t) := (mem_take hn (hm (inpW_bd hb ho).1)).mpr hop
    refine Nat.le_of_not_lt fun z => ?_
    refine h1.2 g hg o hom ?_ t' ((mem_drop hn (hm ht')).mpr z) ho
    rw [idx_take hom, idx_take hgm]
    unfold Betw at hbt
    split
    · rename_i c; rw [if_pos c] at hbt; exact hbt
    · rename_i c; rw [if_neg c] at hbt; exact hbt.1
  · intro h i s hs
    have hsr := List.mem_of_getElem? hs
    have hsl := List.mem_range.mp (hp.mem_iff.mp hsr)
    have hi : row.idxOf s = i := idx_get hn hs
    have hg1 : ∀ g ∈ inpW w s, g ∈ row.take i := fun g hg => (mem_take hn (hm (inpW_bd hb hg).1)).mpr (by rw [← hi]; exact h.late s hsl g hg)
    refine ⟨hg1, fun g hg o ho hlt t ht hot => ?_⟩
    have htr := List.mem_of_mem_drop ht
    have htl := List.mem_range.mp (hp.mem_iff.mp htr)
    have h1 := (mem_drop hn htr).mp ht
    have h2 := (mem_take hn (List.mem_of_mem_take ho)).mp ho
    rw [idx_take ho, idx_take (hg1 g hg)] at hlt
    have h3 := h.cross s hsl t htl g hg o hot (by
      unfold Betw
      split
      · rename_i c; rw [if_pos c] at hlt; exact hlt
      · rename_i c; rw [if_neg c] at hlt; exact ⟨hlt, by show row.idxOf o < row.idxOf s; rw [hi]; exact h2⟩)
    omega
theorem rowR_at : ∀ {suf pre : List Nat}, RowR w pre suf ↔ ∀ i s, suf[i]? = some s → StepR w (pre ++ suf.take i) s (suf.drop (i + 1))
  | [], pre => by simp [RowR]
  | s :: suf, pre => by
    unfold RowR
    rw [rowR_at (suf := suf)]
    constructor
    · rintro ⟨h1, h2⟩ i t ht
      cases i with
      | zero =>
        have : s = t := by simpa using ht
        subst this
        simpa using h1
      | succ i =>
        have := h2 i t (by simpa using ht)
        simpa [List.append_assoc] using this
    · intro h
      refine ⟨by simpa using h 0 s rfl, fun i t ht => ?_⟩
      have := h (i + 1) t (by simpa using ht)
      simpa [List.append_assoc] using this
theorem rowR_right : RowR w [] row ↔ RightAt false w row := by
  rw [rowR_at]
  constructor
  · intro h i s hs
    have := h i s hs
    rw [List.nil_append] at this
    exact ⟨this.giv, fun g hg o ho hlt => this.off g hg o ho (by simpa using hlt)⟩
  · intro h i s hs
    rw [List.nil_append]
    exact ⟨(h i s hs).1, fun g hg o ho hlt => (h i s hs).2 g hg o ho (by simpa using hlt)⟩
/-! what the law's own look tells -/
def mayB (q : Bool) (w : List Sp1) (pre : List Nat) (s : Nat) : Bool :=
  (inpW w s).all (fun g => decide (g ∈ pre)) && (inpW w s).all fun g => (if q = true then pre.take (pre.idxOf g) else pre.drop (pre.idxOf g + 1)).all fun o => (List.range w.length).all fun t => !decide (o ∈ inpW w t) || (decide (t = s) || decide (t ∈ pre))
def rightB (q : Bool) (w : List Sp1) (row : List Nat) : Bool := (List.range row.length).all fun i => mayB q w (row.take i) (row.getD i 0)
theorem rightB_iff (hp : row.Perm (List.range w.length)) (hb : ∀ x ∈ w, ∀ i ∈ x.2, i < w.length) : rightB q w row = true ↔ RightAt q w row := by
  have hn : row.Nodup := hp.nodup_iff.mpr List.nodup_range
  have hm : ∀ {s}, s < w.length → s ∈ row := fun h => hp.mem_iff.mpr (List.mem_range.mpr h)
  have key : ∀ i s, row[i]? = some s → (mayB q w (row.take i) s = true ↔ ((∀ g ∈ inpW w s, g ∈ row.take i) ∧ ∀ g ∈ inpW w s, ∀ o ∈ row.take i, (if q = true then (row.take i).idxOf o < (row.take i).idxOf g else (row.take i).idxOf g < (row.take i).idxOf o) → ∀ t ∈ row.drop (i + 1), o ∉ inpW w t)) := by
    intro i s hs
    have hi : row.idxOf s = i := idx_get hn hs
    have hsr := List.mem_of_getElem? hs
    have hnt : (row.take i).Nodup := hn.sublist (List.take_sublist _ _)
    unfold mayB
    rw [Bool.and_eq_true, List.all_eq_true, List.all_eq_true]
    refine and_congr (by simp) (forall_congr' fun g => forall_congr' fun hg => ?_)
    rw [List.all_eq_true]
    have side : ∀ o, (o ∈ (if q = true then (row.take i).take ((row.take i).idxOf g) else (row.take i).drop ((row.take i).idxOf g + 1))) ↔ (o ∈ row.take i ∧ (if q = true then (row.take i).idxOf o < (row.take i).idxOf g else (row.take i).idxOf g < (row.take i).idxOf o)) := by
      intro o
      split
      · constructor
        · intro h
          have := List.mem_of_mem_take h
          exact ⟨this, (mem_take hnt this).mp h⟩
        · rintro ⟨h1, h2⟩
          exact (mem_take hnt h1).mpr h2
      · constructor
        · intro h
          have := List.mem_of_mem_drop h
          exact ⟨this, (mem_drop hnt this).mp h⟩
        · rintro ⟨h1, h2⟩
          exact (mem_drop hnt h1).mpr h2
    constructor
    · intro h o ho hlt t ht hot
      have h1 := h o ((side o).mpr ⟨ho, hlt⟩)
      rw [List.all_eq_true] at h1
      have htr := List.mem_of_mem_drop ht
      have h2 := h1 t (hp.mem_iff.mp htr)
      have h3 := (mem_drop hn htr).mp ht
      rw [Bool.or_eq_true, Bool.or_eq_true, decide_eq_true_eq, decide_eq_true_eq] at h2
      rcases h2 with h2 | h2 | h2
      · simp [hot] at h2
      · subst h2; omega
      · have := (mem_take hn htr).mp h2
        omega
    · intro h o ho
      obtain ⟨h1, h2⟩ := (side o).mp ho
      rw [List.all_eq_true]
      intro t ht
      have htr := hp.mem_iff.mpr ht
      by_cases hot : o ∈ inpW w t
      · have h3 : t ∉ row.drop (i + 1) := fun z => h o h1 h2 t z hot
        rw [mem_drop hn htr] at h3
        rw [Bool.or_eq_true, Bool.or_eq_true, decide_eq_true_eq, decide_eq_true_eq]
        right
        rcases Nat.lt_or_ge (row.idxOf t) i with z | z
        · exact .inr ((mem_take hn htr).mpr z)
        · left
          have e : row.idxOf t = row.idxOf s := by omega
          have l1 := List.idxOf_lt_length_iff.mpr htr
          have l2 := List.idxOf_lt_length_iff.mpr hsr
          rw [← List.getElem_idxOf l1, ← List.getElem_idxOf l2]
          simp only [e]
      · simp [hot]
  unfold rightB RightAt
  rw [List.all_eq_true]
  constructor
  · intro h i s hs
    have hl := (List.getElem?_eq_some_iff.mp hs).1
    have := h i (List.mem_range.mpr hl)
    rw [List.getD_eq_getElem?_getD, hs] at this
    exact (key i s hs).mp this
  · intro h i hi
    have hl := List.mem_range.mp hi
    have hs : row[i]? = some row[i] := List.getElem?_eq_getElem hl
    rw [List.getD_eq_getElem?_getD, hs]
    exact (key i _ hs).mpr (h i _ hs)
end
/-! ### weaving -/
structure Weave (q : Bool) (k : Nat) (steps : List Sp1) (cells : List Nat) : Prop where
  len : steps.length = k
  ar : ∀ x ∈ steps, arOk x
  bd : ∀ (a : Nat) (x : Sp1), steps[a]? = some x → ∀ i ∈ x.2, i < a
  srt : cells.Pairwise (· ≤ ·)
  clt : ∀ c ∈ cells, c < k
  cln : cells.length ≤ 3 * k
  old : ∀ (t : Nat) (x : Sp1), steps[t]? = some x → ∀ g ∈ x.2, ∀ o, (if q = true then o < g else g < o ∧ o < t) → o ∉ cells ∧ ∀ (t' : Nat) (x' : Sp1), t < t' → steps[t']? = some x' → o ∉ x'.2
theorem Weave.zero {q : Bool} : Weave q 0 [] [] := ⟨rfl, by simp, by simp, .nil, by simp, by simp, by simp⟩
theorem topM_sub {α : Type} {q : Bool} {h : List α} {m : Nat} {x : α} (hx : x ∈ topM q h m) : x ∈ h := by
  unfold topM at hx
  split at hx
  · exact List.mem_of_mem_take hx
  · exact List.mem_of_mem_drop (List.mem_reverse.mp hx)
theorem restM_sub {α : Type} {q : Bool} {h : List α} {m : Nat} {x : α} (hx : x ∈ restM q h m) : x ∈ h := by
  unfold restM at hx
  split at hx
  · exact List.mem_of_mem_drop hx
  · exact List.mem_of_mem_take hx
theorem Weave.step {q : Bool} {k m r : Nat} {steps : List Sp1} {cells l : List Nat} {kd : Kd} (W : Weave q k steps cells) (hm : m ≤ cells.length) (hl : l.Perm (topM q cells m)) (hk : arK kd = m) (hk2 : kOk kd) (hr : r ≤ 3) : Weave q (k + 1) (steps ++ [(kd, l)]) (restM q cells m ++ List.replicate r k) := by
  have lm : l.length = m := by rw [hl.length_eq, topM_len hm]
  have get : ∀ {a : Nat} {x : Sp1}, (steps ++ [(kd, l)])[a]? = some x → (a < k ∧ steps[a]? = some x) ∨ (a = k ∧ x = (kd, l)) := fun {a x} h => by
    by_cases c : a < steps.length
    · rw [List.getElem?_append_left c] at h
      exact .inl ⟨by rw [← W.len]; exact c, h⟩
    · rw [List.getElem?_append_right (by omega)] at h
      have h0 : a - steps.length = 0 := by
        have := (List.getElem?_eq_some_iff.mp h).1
        simp at this
        omega
      rw [h0] at h
      exact .inr ⟨by have := W.len; omega, by simpa using h.symm⟩
  have lc : ∀ i ∈ l, i ∈ cells := fun i hi => topM_sub (hl.mem_iff.mp hi)
  refine ⟨by rw [List.length_append, W.len]; rfl, fun y hy => ?_, fun a y ha i hi => ?_, ?_, fun c hc => ?_, ?_, fun t x ht g hg o ho => ?_⟩
  · rcases List.mem_append.mp hy with z | z
    · exact W.ar y z
    · rw [List.mem_singleton.mp z]; exact ⟨by rw [hk]; exact lm, hk2⟩
  · rcases get ha with ⟨_, z⟩ | ⟨e, z⟩
    · exact W.bd a y z i hi
    · subst z; subst e
      exact W.clt i (lc i hi)
  · refine List.pairwise_append.mpr ⟨?_, List.pairwise_replicate.mpr (.inr (Nat.le_refl _)), fun a ha b hb => ?_⟩
    · unfold restM
      split
      · exact W.srt.sublist (List.drop_sublist _ _)
      · exact W.srt.sublist (List.take_sublist _ _)
    · rw [(List.mem_replicate.mp hb).2]
      exact Nat.le_of_lt (W.clt a (restM_sub ha))
  · rcases List.mem_append.mp hc with z | z
    · have := W.clt c (restM_sub z); omega
    · rw [(List.mem_replicate.mp z).2]; omega
  · have : (restM q cells m).length ≤ cells.length := by
      unfold restM
      split
      · rw [List.length_drop]; omega
      · rw [List.length_take]; omega
    have := W.cln
    rw [List.length_append, List.length_replicate]
    omega
  · rcases get ht with ⟨htk, z⟩ | ⟨e, z⟩
    · obtain ⟨h1, h2⟩ := W.old t x z g hg o ho
      have hgt := W.bd t x z g hg
      have hok : o < k := by
        split at ho <;> omega
      refine ⟨fun hc => ?_, fun t' x' htt hx' => ?_⟩
      · rcases List.mem_append.mp hc with y | y
        · exact h1 (restM_sub y)
        · have := (List.mem_replicate.mp y).2
          omega
      · rcases get hx' with ⟨_, y⟩ | ⟨_, y⟩
        · exact h2 t' x' htt y
        · subst y
          exact fun y => h1 (lc o y)
    · subst z; subst e
      have hgT : g ∈ topM q cells m := hl.mem_iff.mp hg
      have hgk := W.clt g (topM_sub hgT)
      refine ⟨fun hc => ?_, fun t' x' htt hx' => ?_⟩
      · rcases List.mem_append.mp hc with y | y
        · have srt := W.srt
          unfold restM at y
          unfold topM at hgT
          cases q with
          | true =>
            rw [if_pos rfl] at y hgT ho
            rw [← List.take_append_drop m cells] at srt
            have := (List.pairwise_append.mp srt).2.2 g hgT o y
            omega
          | false =>
            rw [if_neg (by decide)] at y hgT ho
            rw [← List.take_append_drop (cells.length - m) cells] at srt
            have := (List.pairwise_append.mp srt).2.2 o y g (List.mem_reverse.mp hgT)
            omega
        · have := (List.mem_replicate.mp y).2
          split at ho <;> omega
      · rcases get hx' with ⟨y, _⟩ | ⟨y, _⟩ <;> omega
theorem Weave.wx {q : Bool} {k most : Nat} {steps : List Sp1} {cells : List Nat} (W : Weave q k steps cells) (h0 : 1 ≤ k) (hk : k ≤ most) : WX most steps :=
  ⟨by rw [W.len]; exact h0, by rw [W.len]; exact hk, W.ar, fun x hx i hi => by
    obtain ⟨a, ha⟩ := List.mem_iff_getElem?.mp hx
    have := W.bd a x ha i hi
    have := (List.getElem?_eq_some_iff.mp ha).1
    omega, id, fun s x hs i hi => W.bd s x hs i hi, fun s hs => by rw [W.len] at hs; show s < most; omega⟩
/-- the row in which the steps were woven, in the new numbers -/
theorem weave_row {q : Bool} {k : Nat} {steps : List Sp1} {cells l : List Nat} (W : Weave q k steps cells) (hp : l.Perm (List.range k)) : ((List.range k).map l.idxOf).Perm (List.range (renW steps l).length) ∧ NCq q (renW steps l) ((List.range k).map l.idxOf).idxOf := by
  have hp' : l.Perm (List.range steps.length) := by rw [W.len]; exact hp
  have nd : l.Nodup := hp.nodup_iff.mpr List.nodup_range
  have lk : l.length = k := by rw [hp.length_eq, List.length_range]
  have rl : (renW steps l).length = k := by rw [renW_len hp', W.len]
  have inj : ∀ a < k, ∀ b < k, l.idxOf a = l.idxOf b → a = b := fun a ha b hb e => by
    have h1 := getD_idx (hp.mem_iff.mpr (List.mem_range.mpr ha))
    have h2 := getD_idx (hp.mem_iff.mpr (List.mem_range.mpr hb))
    rw [← h1, ← h2, e]
  have rnd : ((List.range k).map l.idxOf).Nodup := List.pairwise_map.mpr (List.nodup_range.imp_of_mem fun {a b} ha hb ne e => ne (inj a (List.mem_range.mp ha) b (List.mem_range.mp hb) e))
  have pos : ∀ x, x < k → ((List.range k).map l.idxOf).idxOf (l.idxOf x) = x := fun x hx => idx_get rnd (by rw [List.getElem?_map, List.getElem?_range hx]; rfl)
  have getI : ∀ s, s < k → ∃ x, l[s]? = some x ∧ x < k ∧ inpW (renW steps l) s = (inpW steps x).map l.idxOf ∧ ((List.range k).map l.idxOf).idxOf s = x := fun s hs => by
    have hs' : s < (renW steps l).length := by rw [rl]; exact hs
    obtain ⟨x, y, h1, h2, h3⟩ := renW_get hp' s _ (List.getElem?_eq_getElem hs')
    have hxk : x < k := List.mem_range.mp (hp.mem_iff.mp (List.mem_of_getElem? h1))
    refine ⟨x, h1, hxk, ?_, ?_⟩
    · rw [inpW_of (List.getElem?_eq_getElem hs'), h3, inpW_of h2]; rfl
    · rw [← idx_get nd h1]
      exact pos x hxk
  refine ⟨?_, ⟨fun t ht g hg => ?_, fun t ht t' ht' g hg o ho hb => ?_⟩⟩
  · refine nd_perm rnd (fun x hx => ?_) ?_
    · obtain ⟨a, ha, e⟩ := List.mem_map.mp hx
      rw [← e, rl, List.mem_range, ← lk]
      exact List.idxOf_lt_length_iff.mpr (hp.mem_iff.mpr ha)
    · rw [rl, List.length_map]; exact Nat.le_refl _
  · rw [rl] at ht
    obtain ⟨x, h1, h2, h3, h4⟩ := getI t ht
    rw [h3] at hg
    obtain ⟨g0, hg0, e⟩ := List.mem_map.mp hg
    have hxs : x < steps.length := by rw [W.len]; exact h2
    rw [inpW_of (List.getElem?_eq_getElem hxs)] at hg0
    have := W.bd x _ (List.getElem?_eq_getElem hxs) g0 hg0
    rw [h4, ← e, pos g0 (by omega)]
    exact this
  · rw [rl] at ht ht'
    obtain ⟨x, h1, h2, h3, h4⟩ := getI t ht
    obtain ⟨x', k1, k2, k3, k4⟩ := getI t' ht'
    rw [h3] at hg
    rw [k3] at ho
    obtain ⟨g0, hg0, e⟩ := List.mem_map.mp hg
    obtain ⟨o0, ho0, e'⟩ := List.mem_map.mp ho
    have hxs : x < steps.length := by rw [W.len]; exact h2
    have hxs' : x' < steps.length := by rw [W.len]; exact k2
    rw [inpW_of (List.getElem?_eq_getElem hxs)] at hg0
    rw [inpW_of (List.getElem?_eq_getElem hxs')] at ho0
    have b1 := W.bd x _ (List.getElem?_eq_getElem hxs) g0 hg0
    have b2 := W.bd x' _ (List.getElem?_eq_getElem hxs') o0 ho0
    unfold Betw at hb
    dsimp only at hb
    rw [← e, ← e', pos g0 (by omega), pos o0 (by omega), h4] at hb
    rw [h4, k4]
    refine Nat.le_of_not_lt fun z => ?_
    exact (W.old x _ (List.getElem?_eq_getElem hxs) g0 hg0 o0 hb).2 x' _ z (List.getElem?_eq_getElem hxs') ho0
end PL

namespace K39
open PySem L2 PL
abbrev top (i : Nat) : Stmt := PySem.Challenge.pw_pilepass_k39_whole_plain_programs_and_ri.main.body.getD i (.Pass ⟨0, 0, 0, 0⟩)
structure Txt (mg : Str → Option Value) : Prop where
  b_all : mg "all" = none
  b_bool : mg "bool" = none
  b_enumerate : mg "enumerate" = none
  b_int : mg "int" = none
  b_isinstance : mg "isinstance" = none
  b_len : mg "len" = none
  b_range : mg "range" = none
  b_set : mg "set" = none
  b_sorted : mg "sorted" = none
  b_tuple : mg "tuple" = none
  g_IN : ∃ t, mg "IN" = some (.str "in" t)
  g_NEG : ∃ t, mg "NEG" = some (.str "neg" t)
  g_PICK : ∃ t, mg "PICK" = some (.str "pick" t)
section
variable {P : Program} {w : World} {K : PySem.W.Frag} {mg : Str → Option Value} {base : Heap} {A : Amb} {f : Addr} {fd : FuncData} {x qual : Str}
abbrev s_is_integer : Stmt := top 9
theorem sc_is_integer : FnScope ["value", "least", "most"] ["value", "least", "most"] (defScope s_is_integer) := ⟨rfl, rfl, rfl, by decide +kernel, rfl, by decide +kernel, by decide +kernel⟩
def isInt (lo hi : Int) : D → Bool
  | .int i => decide (lo ≤ i) && decide (i ≤ hi)
  | _ => false
def fs_is_integer : FS := fun as n p => ∃ v lo hi, as = [.dat v, .dat (.int lo), .dat (.int hi)] ∧ guardD v (p (vBl (isInt lo hi v)) n)
theorem ok_is_integer (G : Fun K x qual s_is_integer f fd) (T : Txt mg) : FnOk P w K mg base CX0 1 f fd ["value", "least", "most"] (spD A K fs_is_integer) := by
  refine Fun.okD G sc_is_integer (by decide) (fun as n p ⟨v, lo, hi, e, _⟩ => by rw [e]; rfl) fun cdv A' outer s H E hr => ⟨_, _,
    (psds_one (psd_ret (pd_and (pd_callB (call_isi' isi_int) (by rfl) T.b_isinstance (by decide +kernel) (pad_cons (pd_var 0) (pad_cons (pd_ty T.b_int PyProof.Rows.boot_int (by rfl)) pad_nil))) (pd_and (pd_not (pd_callB (call_isi' isi_bool) (by rfl) T.b_isinstance (by decide +kernel) (pad_cons (pd_var 0) (pad_cons (pd_ty T.b_bool PyProof.Rows.boot_bool (by rfl)) pad_nil)))) (pd_one (pd_chain op_le' op_le' (pd_var 1) (pd_var 0) (pd_var 2))))))), fun as n p ⟨v, lo, hi, e, h⟩ => ?_⟩
  subst e
  cases v with
  | int i =>
    refine ⟨rfl, ?_⟩
    show _ ∧ _
    refine ⟨rfl, ?_⟩
    show if decide (lo ≤ i) = true then p (vBl (decide (i ≤ hi))) n else p (vBl false) n
    change p (vBl (decide (lo ≤ i) && decide (i ≤ hi))) n at h
    split
    · rename_i c; rw [c] at h; exact h
    · rename_i c; rw [Bool.eq_false_iff.mpr c] at h; exact h
  | bool b => exact ⟨rfl, rfl, h⟩
  | _ => exact ⟨rfl, h⟩
abbrev s_ties : Stmt := top 10
theorem sc_ties : FnScope ["web", "found", "taker", "kind", "inputs", "place", "giver"] ["web"] (defScope s_ties) := ⟨rfl, rfl, rfl, by decide +kernel, rfl, by decide +kernel, by decide +kernel⟩
def fs_ties : FS := fun as n p => ∃ w : List Sp1, as = [.dat (encW w)] ∧ TOk w ∧ ∀ ss : List (List Int), ss.Perm (tiesL w) → ss.Pairwise (fun a b => TS.code 64 a ≤ TS.code 64 b) → p (.val (.dat (.tuple (ss.map encI)))) n
theorem ok_ties (G : Fun K x qual s_ties f fd) (T : Txt mg) : FnOk P w K mg base CX0 1 f fd ["web"] (spD A K fs_ties) := by
  refine Fun.okD G sc_ties (by decide) (fun as n p ⟨w, e, _⟩ => by rw [e]; rfl) fun cdv A' outer s H E hr => ⟨_, _,
  (psds_cons (psd_set (i := 1) sc_ties.nd rfl (by first | exact Or.inl rfl | exact Or.inr rfl) (pd_lst pad_nil))
      (psds_cons (psd_for (ks := [2, 3, 4]) PassesOwn.never rfl (pid_enum (by rfl) T.b_enumerate (pd_var 0)) (pgd_tup (n := 2) rfl (pgds_cons (pgd_name (i := 2) (by decide) sc_ties.nd rfl (by first | exact Or.inl rfl | exact Or.inr rfl)) (pgds_cons (pgd_tup (n := 2) rfl (pgds_cons (pgd_name (i := 3) (by decide) sc_ties.nd rfl (by first | exact Or.inl rfl | exact Or.inr rfl)) (pgds_cons (pgd_name (i := 4) (by decide) sc_ties.nd rfl (by first | exact Or.inl rfl | exact Or.inr rfl)) pgds_nil))) pgds_nil))) (psds_one (psd_expr (pd_extend (i := 1) rfl (by first | exact Or.inl rfl | exact Or.inr (Or.inl rfl) | exact Or.inr (Or.inr rfl)) (pd_lc (own := [("place", 5), ("giver", 6)]) rfl sc_ties.nd (pid_enum (by rfl) T.b_enumerate (pd_var 4)) (blkOk_by rfl) (fun _ _ _ _ _ => ⟨_, (pgd_tup (n := 2) rfl (pgds_cons (pgd_name (i := 5) (by decide) sc_ties.nd rfl (by first | exact Or.inl rfl | exact Or.inr rfl)) (pgds_cons (pgd_name (i := 6) (by decide) sc_ties.nd rfl (by first | exact Or.inl rfl | exact Or.inr rfl)) pgds_nil)))⟩) (fun _ _ _ _ _ => ⟨_, pdts_nil⟩) (fun _ _ _ _ _ => ⟨_, (pd_tup (pad_cons (pd_var 6) (pad_cons (pd_var 2) (pad_cons (pd_var 5) pad_nil))))⟩))))))
      (psds_one (psd_ret (pd_callTy call_tuple' (by rfl) T.b_tuple (by decide +kernel) (pad_cons (pd_callB (call_sortedT' (d := 3) (B := 64) (by decide)) (by rfl) T.b_sorted (by decide +kernel) (pad_cons (pd_var 1) pad_nil)) pad_nil)))))), fun as n p ⟨w, e, ok, h⟩ => ?_⟩
  subst e
  refine ⟨[], rfl, le5 rfl, fun i e => ∃ x y z, nOw x ∧ nOw y ∧ nOw z ∧ e = ⟨[.im (.dat (encW w)), .ow (.lst ((tiesL (w.take i)).map encI)), x, y, z, .un, .un], n⟩, ⟨.un, .un, .un, trivial, trivial, trivial, rfl⟩, ?_, ?_⟩
  · rintro i d e hd ⟨x, y, z, hx, hy, hz, rfl⟩
    obtain ⟨s, hs, rfl⟩ := enumW w hd
    refine ⟨⟨hx, hy, hz, trivial⟩, rfl, rfl, rfl, rfl, ?_⟩
    refine lc_pure (fun x : Nat × Nat => .tuple [nD x.1, nD x.2]) (fun x => some (.tuple [nD x.2, nD i, nD x.1])) (s.2.mapIdx fun p g => (p, g)) (enumN s.2) ?_ ?_ ?_ ?_
    · exact ⟨trivial, trivial, trivial⟩
    · rw [List.length_mapIdx]; exact Nat.le_of_lt (Nat.lt_of_lt_of_le (ok.arity s (List.mem_of_getElem? hs)) (by decide))
    · exact fun q hq k hk => ⟨rfl, rfl, _, rfl, le5 rfl, hk _ _ rfl rfl⟩
    · rw [← tiesOf_enc i s.2]
      have e1 : (tiesL (w.take i)).map encI ++ (tiesOf i s.2).map encI = (tiesL (w.take (i + 1))).map encI := by rw [tiesL_take w i s hs, List.map_append]
      refine ⟨?_, .im (.dat (nD i)), .im (.dat s.1.d), .im (.dat (encN s.2)), trivial, trivial, trivial, ?_⟩
      · rw [← List.length_append, e1, List.length_map]
        have := tiesL_take_le w (i + 1)
        have := ok.many
        omega
      · rw [e1]; rfl
  · rintro e ⟨x, y, z, _, _, _, rfl⟩
    have e1 : w.take (enumD (w.map encS)).length = w := by rw [enumD_len, List.length_map, List.take_length]
    rw [e1]
    refine ⟨rfl, tiesL w, rfl, ok.many, fun t ht => ok.bd ht, fun ss h1 h2 => h ss h1 h2⟩
abbrev s_results : Stmt := top 11
theorem sc_results : FnScope ["web", "givers", "giver", "taker", "place", "step"] ["web"] (defScope s_results) := ⟨rfl, rfl, rfl, by decide +kernel, rfl, by decide +kernel, by decide +kernel⟩
def fs_results : FS := fun as n p => ∃ w : List Sp1, as = [.dat (encW w)] ∧ TOk w ∧ p (.val (.dat (encN (resL w)))) n
theorem ok_results (G : Fun K x qual s_results f fd) (T : Txt mg) (f_ties : PFn P w K mg base A "ties" ["web"] fs_ties 1) : FnOk P w K mg base CX0 2 f fd ["web"] (spD A K fs_results) := by
  refine Fun.okD G sc_results (by decide) (fun as n p ⟨w, e, _⟩ => by rw [e]; rfl) fun cdv A' outer s H E hr => ⟨_, _,
  (psds_cons (psd_set (i := 1) sc_results.nd rfl (by first | exact Or.inl rfl | exact Or.inr rfl) (pd_lc (own := [("giver", 2), ("taker", 3), ("place", 4)]) rfl sc_results.nd (pid_seq (pd_fn f_ties hr (by decide) (by rfl) (pad_cons (pd_var 0) pad_nil))) (blkOk_by rfl) (fun _ _ _ _ _ => ⟨_, (pgd_tup (n := 3) rfl (pgds_cons (pgd_name (i := 2) (by decide) sc_results.nd rfl (by first | exact Or.inl rfl | exact Or.inr rfl)) (pgds_cons (pgd_name (i := 3) (by decide) sc_results.nd rfl (by first | exact Or.inl rfl | exact Or.inr rfl)) (pgds_cons (pgd_name (i := 4) (by decide) sc_results.nd rfl (by first | exact Or.inl rfl | exact Or.inr rfl)) pgds_nil))))⟩) (fun _ _ _ _ _ => ⟨_, pdts_nil⟩) (fun _ _ _ _ _ => ⟨_, (pd_var 2)⟩)))
      (psds_one (psd_ret (pd_callTy call_tuple' (by rfl) T.b_tuple (by decide +kernel) (pad_cons (pd_lc (own := [("step", 5)]) rfl sc_results.nd (pid_rng1 (by rfl) T.b_range (pd_callB call_len' (by rfl) T.b_len (by decide +kernel) (pad_cons (pd_var 0) pad_nil))) (blkOk_by rfl) (fun _ _ _ _ _ => ⟨_, (pgd_name (i := 5) (by decide) sc_results.nd rfl (by first | exact Or.inl rfl | exact Or.inr rfl))⟩) (fun _ _ _ _ _ => ⟨_, (pdts_one (pdt_cmp (op_notIn' (u65 hr)) (pd_var 5) (pd_var 1) (by rfl)))⟩) (fun _ _ _ _ _ => ⟨_, (pd_var 5)⟩)) pad_nil))))), fun as n p ⟨w, e, ok, h⟩ => ?_⟩
  subst e
  refine ⟨w, rfl, ok, fun ss h1 _ => ?_⟩
  have hl := h1.length_eq
  have hm := ok.many
  refine lc_pure encI (fun t => some (nD (t.headD 0).toNat)) ss rfl ?_ ?_ ?_ ?_
  · exact ⟨trivial, trivial, trivial, trivial⟩
  · omega
  · intro t ht k hk
    obtain ⟨g, a, p, rfl⟩ := heads_perm h1 t ht
    exact ⟨rfl, rfl, hk _ _ rfl rfl⟩
  · rw [filterMap_all]
    have lw := ok.len
    have lw2 : (w.map encS).length < 64 := by rw [List.length_map]; exact lw
    have eg : (ss.map fun t => nD (t.headD 0).toNat) = (ss.map fun t => (t.headD 0).toNat).map nD := by rw [List.map_map]; rfl
    rw [eg]
    refine ⟨by omega, by omega, ?_⟩
    refine lc_pure nD (fun s => if (!decide (∃ x ∈ w, s ∈ x.2)) = true then some (nD s) else none) (List.range w.length) ?_ ?_ ?_ ?_ ?_
    · rw [List.length_map, rng_nats]
    · exact ⟨trivial, trivial⟩
    · rw [List.length_range]; omega
    · intro t ht k hk
      refine ⟨shaped_int, shaped_nice (n := 1) (nice_list nice_nats), ?_⟩
      refine ite_b (c := !decide (∃ x ∈ w, t ∈ x.2)) ?_ (fun q => hk _ _ (if_pos q) rfl) (fun q => hk _ _ (if_neg (by rw [q]; decide)) rfl)
      rw [any_nD]
      exact congrArg _ (decide_eq_decide.mpr (resL_perm h1 t))
    · rw [filterMap_ite]
      exact h
abbrev s_rank_of : Stmt := top 12
theorem sc_rank_of : FnScope ["web", "step", "kind", "inputs"] ["web", "step"] (defScope s_rank_of) := ⟨rfl, rfl, rfl, by decide +kernel, rfl, by decide +kernel, by decide +kernel⟩
def fs_rank_of : FS := fun as n p => ∃ (w : List Sp1) (s : Nat), as = [.dat (encW w), .dat (nD s)] ∧ w.length < 64 ∧ p (vInt (rankN w s : Nat)) n
theorem ok_rank_of (G : Fun K x qual s_rank_of f fd) (T : Txt mg) : FnOk P w K mg base CX0 1 f fd ["web", "step"] (spD A K fs_rank_of) := by
  refine Fun.okD G sc_rank_of (by decide) (fun as n p ⟨w, s, e, _⟩ => by rw [e]; rfl) fun cdv A' outer s H E hr => ⟨_, _,
  (psds_one (psd_ret (pd_callB call_len' (by rfl) T.b_len (by decide +kernel) (pad_cons (pd_lc (own := [("kind", 2), ("inputs", 3)]) rfl sc_rank_of.nd (pid_seq (pd_slice (pd_var 0) pod_none (pod_some (pd_var 1)))) (blkOk_by rfl) (fun _ _ _ _ _ => ⟨_, (pgd_tup (n := 2) rfl (pgds_cons (pgd_name (i := 2) (by decide) sc_rank_of.nd rfl (by first | exact Or.inl rfl | exact Or.inr rfl)) (pgds_cons (pgd_name (i := 3) (by decide) sc_rank_of.nd rfl (by first | exact Or.inl rfl | exact Or.inr rfl)) pgds_nil)))⟩) (fun _ _ _ _ _ => ⟨_, (pdts_one (pdt_cmp (op_eq' hr.units) (pd_var 2) (pd_gStr T.g_IN (by rfl)) (nomark _)))⟩) (fun _ _ _ _ _ => ⟨_, (pd_var 2)⟩)) pad_nil)))), fun as n p ⟨w, s, e, ok, h⟩ => ?_⟩
  subst e
  refine lc_pure encS (fun x => if decide (x.1 = .inp) = true then some x.1.d else none) (w.take s) ?_ ?_ ?_ ?_ ?_
  · rw [List.map_take]; exact cutD_take
  · exact ⟨trivial, trivial, trivial⟩
  · rw [List.length_take]; omega
  · intro x hx k hk
    refine ⟨rfl, rfl, x.1.shp, Kd.shp .inp, ?_⟩
    exact ite_b (Kd.eqd x.1 .inp) (fun q => hk _ _ (if_pos q) rfl) (fun q => hk _ _ (if_neg (by rw [q]; decide)) rfl)
  · rw [filterMap_ite]
    show p (vInt ((((w.take s).filter fun x => decide (x.1 = Kd.inp)).map fun x => x.1.d).length : Nat)) n
    rw [List.length_map]
    exact h
abbrev s_worth_of : Stmt := top 13
theorem sc_worth_of : FnScope ["kind", "own", "worths"] ["kind", "own", "worths"] (defScope s_worth_of) := ⟨rfl, rfl, rfl, by decide +kernel, rfl, by decide +kernel, by decide +kernel⟩
def fs_worth_of : FS := fun as n p => ∃ (k : Kd) (o : Int) (ws : List Int), as = [.dat k.d, .dat (.int o), .dat (.list (ws.map PyData.int))] ∧ ws.length = arK k ∧ (∀ v ∈ ws, v.natAbs.log2 < 500000) ∧ p (vInt (worthV k o ws)) n
theorem ok_worth_of (G : Fun K x qual s_worth_of f fd) (T : Txt mg) : FnOk P w K mg base CX0 1 f fd ["kind", "own", "worths"] (spD A K fs_worth_of) := by
  refine Fun.okD G sc_worth_of (by decide) (fun as n p ⟨k, o, ws, e, _⟩ => by rw [e]; rfl) fun cdv A' outer s H E hr => ⟨_, _,
  (psds_cons (psd_if (pdt_cmp (op_eq' hr.units) (pd_var 0) (pd_gStr T.g_IN (by rfl)) (nomark _)) (psds_one (psd_ret (pd_var 1))) psds_nil)
      (psds_cons (psd_if (pdt_cmp (op_eq' hr.units) (pd_var 0) (pd_gStr T.g_NEG (by rfl)) (nomark _)) (psds_one (psd_ret (pd_op op_sub' pd_int (pd_ix (ix' (u1 hr)) (pd_var 2) pd_int (fun _ _ => rfl))))) psds_nil)
      (psds_cons (psd_if (pdt_cmp (op_eq' hr.units) (pd_var 0) pd_str (nomark _)) (psds_one (psd_ret (pd_op op_add' (pd_ix (ix' (u1 hr)) (pd_var 2) pd_int (fun _ _ => rfl)) (pd_ix (ix' (u1 hr)) (pd_var 2) pd_int (fun _ _ => rfl))))) psds_nil)
      (psds_cons (psd_if (pdt_cmp (op_eq' hr.units) (pd_var 0) pd_str (nomark _)) (psds_one (psd_ret (pd_op op_sub' (pd_ix (ix' (u1 hr)) (pd_var 2) pd_int (fun _ _ => rfl)) (pd_ix (ix' (u1 hr)) (pd_var 2) pd_int (fun _ _ => rfl))))) psds_nil)
      (psds_cons (psd_if (pdt_cmp (op_eq' hr.units) (pd_var 0) pd_str (nomark _)) (psds_one (psd_ret (pd_op op_mulW' (pd_ix (ix' (u1 hr)) (pd_var 2) pd_int (fun _ _ => rfl)) (pd_ix (ix' (u1 hr)) (pd_var 2) pd_int (fun _ _ => rfl))))) psds_nil)
      (psds_cons (psd_if (pdt_cmp (op_eq' hr.units) (pd_var 0) (pd_gStr T.g_PICK (by rfl)) (nomark _)) (psds_one (psd_ret (pd_ifExp (pdt_cmp op_gt' (pd_ix (ix' (u1 hr)) (pd_var 2) pd_int (fun _ _ => rfl)) pd_int (nomark _)) (pd_ix (ix' (u1 hr)) (pd_var 2) pd_int (fun _ _ => rfl)) (pd_ix (ix' (u1 hr)) (pd_var 2) pd_int (fun _ _ => rfl))))) psds_nil)
      (psds_one (psd_ret (pd_var 0))))))))), fun as n p ⟨k, o, ws, e, ha, hs, h⟩ => ?_⟩
  subst e
  refine ⟨k.shp, Kd.shp .inp, ite_b (Kd.eqd k .inp) (fun q => ?_) (fun q1 => ?_)⟩
  · have := of_decide_eq_true q
    subst this
    exact h
  refine ⟨k.shp, Kd.shp .neg, ite_b (Kd.eqd k .neg) (fun q => ?_) (fun q2 => ?_)⟩
  · have := of_decide_eq_true q
    subst this
    match ws, ha with
    | [a], _ => exact ⟨_, rfl, h⟩
  refine ⟨k.shp, Kd.shp .add, ite_b (Kd.eqd k .add) (fun q => ?_) (fun q3 => ?_)⟩
  · have := of_decide_eq_true q
    subst this
    match ws, ha with
    | [a, b], _ => exact ⟨_, rfl, _, rfl, h⟩
  refine ⟨k.shp, Kd.shp .sub, ite_b (Kd.eqd k .sub) (fun q => ?_) (fun q4 => ?_)⟩
  · have := of_decide_eq_true q
    subst this
    match ws, ha with
    | [a, b], _ => exact ⟨_, rfl, _, rfl, h⟩
  refine ⟨k.shp, Kd.shp .mul, ite_b (Kd.eqd k .mul) (fun q => ?_) (fun q5 => ?_)⟩
  · have := of_decide_eq_true q
    subst this
    match ws, ha with
    | [a, b], _ =>
      have h1 := hs a (by simp)
      have h2 := hs b (by simp)
      exact ⟨_, rfl, _, rfl, by show a.natAbs.log2 + b.natAbs.log2 < 1000000; omega, h⟩
  refine ⟨k.shp, Kd.shp .pick, ite_b (Kd.eqd k .pick) (fun q => ?_) (fun q6 => ?_)⟩
  · have := of_decide_eq_true q
    subst this
    match ws, ha with
    | [c, a, b], _ =>
      refine ⟨_, rfl, ?_⟩
      change p (vInt (if c > 0 then a else b)) n at h
      refine ite_b (c := decide (0 < c)) rfl (fun q => ?_) (fun q => ?_)
      · rw [if_pos (of_decide_eq_true q)] at h
        exact ⟨_, rfl, h⟩
      · rw [if_neg (of_decide_eq_false q)] at h
        exact ⟨_, rfl, h⟩
  cases k with
  | con i => exact h
  | _ => first | exact absurd q1 (by decide) | exact absurd q2 (by decide) | exact absurd q3 (by decide) | exact absurd q4 (by decide) | exact absurd q5 (by decide) | exact absurd q6 (by decide)
abbrev s_own_worth : Stmt := top 14
theorem sc_own_worth : FnScope ["web", "step", "worths"] ["web", "step", "worths"] (defScope s_own_worth) := ⟨rfl, rfl, rfl, by decide +kernel, rfl, by decide +kernel, by decide +kernel⟩
def fs_own_worth : FS := fun as n p => ∃ (w : List Sp1) (s : Nat) (x : Sp1) (wo : List Int), as = [.dat (encW w), .dat (nD s), .dat (.tuple (wo.map PyData.int))] ∧ w.length < 64 ∧ w[s]? = some x ∧ (x.1 = .inp → rankN w s < wo.length) ∧ p (vInt (ownV w wo s x.1)) n
theorem ok_own_worth (G : Fun K x qual s_own_worth f fd) (T : Txt mg) (f_rank_of : PFn P w K mg base A "rank_of" ["web", "step"] fs_rank_of 1) : FnOk P w K mg base CX0 2 f fd ["web", "step", "worths"] (spD A K fs_own_worth) := by
  refine Fun.okD G sc_own_worth (by decide) (fun as n p ⟨w, s, x, wo, e, _⟩ => by rw [e]; rfl) fun cdv A' outer s H E hr => ⟨_, _,
  (psds_one (psd_ret (pd_ifExp (pdt_cmp (op_eq' hr.units) (pd_ix (ix' (u1 hr)) (pd_ix (ix' (u1 hr)) (pd_var 0) (pd_var 1) (fun _ _ => rfl)) pd_int (fun _ _ => rfl)) (pd_gStr T.g_IN (by rfl)) (nomark _)) (pd_ix (ix' (u1 hr)) (pd_var 2) (pd_fn f_rank_of hr (by decide) (by rfl) (pad_cons (pd_var 0) (pad_cons (pd_var 1) pad_nil))) (fun _ _ => rfl)) pd_int))), fun as n p ⟨w, s, x, wo, e, ok, hx, hi, h⟩ => ?_⟩
  subst e
  have h1 : L2.atI (w.map encS) (s : Int) = some (encS x) := atI_nat (by rw [List.getElem?_map, hx]; rfl)
  refine ⟨_, h1, _, rfl, x.1.shp, Kd.shp .inp, ite_b (Kd.eqd x.1 .inp) (fun q => ?_) (fun q => ?_)⟩
  · have hk := of_decide_eq_true q
    unfold ownV at h
    rw [if_pos hk] at h
    have hr := hi hk
    refine ⟨w, s, rfl, ok, .int (wo.getD (rankN w s) 0), atI_nat ?_, h⟩
    rw [List.getElem?_map, List.getElem?_eq_getElem hr, List.getD_eq_getElem?_getD, List.getElem?_eq_getElem hr]
    rfl
  · have hk := of_decide_eq_false q
    unfold ownV at h
    rw [if_neg hk] at h
    exact h
abbrev s_meaning : Stmt := top 15
theorem sc_meaning : FnScope ["web", "worths", "known", "step", "kind", "inputs", "one"] ["web", "worths"] (defScope s_meaning) := ⟨rfl, rfl, rfl, by decide +kernel, rfl, by decide +kernel, by decide +kernel⟩
def meanD (w : List Sp1) (val : Nat → Int) : D := .tuple ((resL w).map fun s => PyData.int (val s))
def fs_meaning : FS := fun as n p => ∃ (w : List Sp1) (wo : List Int) (val : Nat → Int), as = [.dat (encW w), .dat (.tuple (wo.map PyData.int))] ∧ TOk w ∧ WOk w ∧ IsVal w wo val ∧ p (.val (.dat (meanD w val))) n
theorem ok_meaning (G : Fun K x qual s_meaning f fd) (T : Txt mg) (f_results : PFn P w K mg base A "results" ["web"] fs_results 2) (f_own_worth : PFn P w K mg base A "own_worth" ["web", "step", "worths"] fs_own_worth 2) (f_worth_of : PFn P w K mg base A "worth_of" ["kind", "own", "worths"] fs_worth_of 1) :
    FnOk P w K mg base CX0 3 f fd ["web", "worths"] (spD A K fs_meaning) := by
  refine Fun.okD G sc_meaning (by decide) (fun as n p ⟨w, wo, val, e, _⟩ => by rw [e]; rfl) fun cdv A' outer s H E hr => ⟨_, _,
  (psds_cons (psd_set (i := 2) sc_meaning.nd rfl (by first | exact Or.inl rfl | exact Or.inr rfl) pd_dict0)
      (psds_cons (psd_while PassesOwn.never (pdt_cmp op_lt' (pd_callB call_len' (by rfl) T.b_len (by decide +kernel) (pad_cons (pd_var 2) pad_nil)) (pd_callB call_len' (by rfl) T.b_len (by decide +kernel) (pad_cons (pd_var 0) pad_nil)) (nomark _)) (psds_one (psd_for (ks := [3, 4, 5]) PassesOwn.never rfl (pid_enum (by rfl) T.b_enumerate (pd_var 0)) (pgd_tup (n := 2) rfl (pgds_cons (pgd_name (i := 3) (by decide) sc_meaning.nd rfl (by first | exact Or.inl rfl | exact Or.inr rfl)) (pgds_cons (pgd_tup (n := 2) rfl (pgds_cons (pgd_name (i := 4) (by decide) sc_meaning.nd rfl (by first | exact Or.inl rfl | exact Or.inr rfl)) (pgds_cons (pgd_name (i := 5) (by decide) sc_meaning.nd rfl (by first | exact Or.inl rfl | exact Or.inr rfl)) pgds_nil))) pgds_nil))) (psds_one (psd_if (PDW.pdt (pdw_and (pdt_cmp (op_notIn' (u65 hr)) (pd_var 3) (pd_var 2) (by rfl)) (pdw_and1 (pdt_val (pd_callB (call_all' rfl) (by rfl) T.b_all (by decide +kernel) (pad_cons (pd_lc (own := [("one", 6)]) rfl sc_meaning.nd (pid_seq (pd_var 5)) (blkOk_by rfl) (fun _ _ _ _ _ => ⟨_, (pgd_name (i := 6) (by decide) sc_meaning.nd rfl (by first | exact Or.inl rfl | exact Or.inr rfl))⟩) (fun _ _ _ _ _ => ⟨_, pdts_nil⟩) (fun _ _ _ _ _ => ⟨_, (pd_cmp (op_in' (u65 hr)) (pd_var 6) (pd_var 2) (by rfl))⟩)) pad_nil)))))) (psds_one (psd_setD (u1 hr) (i := 2) rfl (by first | exact Or.inl rfl | exact Or.inr (Or.inl rfl) | exact Or.inr (Or.inr rfl)) (pd_var 3) (pd_fn f_worth_of hr (by decide) (by rfl) (pad_cons (pd_var 4) (pad_cons (pd_fn f_own_worth hr (by decide) (by rfl) (pad_cons (pd_var 0) (pad_cons (pd_var 3) (pad_cons (pd_var 1) pad_nil)))) (pad_cons (pd_lc (own := [("one", 6)]) rfl sc_meaning.nd (pid_seq (pd_var 5)) (blkOk_by rfl) (fun _ _ _ _ _ => ⟨_, (pgd_name (i := 6) (by decide) sc_meaning.nd rfl (by first | exact Or.inl rfl | exact Or.inr rfl))⟩) (fun _ _ _ _ _ => ⟨_, pdts_nil⟩) (fun _ _ _ _ _ => ⟨_, (pd_ix (ix' (u1 hr)) (pd_var 2) (pd_var 6) (fun _ _ => rfl))⟩)) pad_nil)))))) psds_nil)))))
      (psds_one (psd_ret (pd_callTy call_tuple' (by rfl) T.b_tuple (by decide +kernel) (pad_cons (pd_lc (own := [("step", 3)]) rfl sc_meaning.nd (pid_seq (pd_fn f_results hr (by decide) (by rfl) (pad_cons (pd_var 0) pad_nil))) (blkOk_by rfl) (fun _ _ _ _ _ => ⟨_, (pgd_name (i := 3) (by decide) sc_meaning.nd rfl (by first | exact Or.inl rfl | exact Or.inr rfl))⟩) (fun _ _ _ _ _ => ⟨_, pdts_nil⟩) (fun _ _ _ _ _ => ⟨_, (pd_ix (ix' (u1 hr)) (pd_var 2) (pd_var 3) (fun _ _ => rfl))⟩)) pad_nil)))))), fun as n p ⟨w, wo, val, e, tok, ok, iv, h⟩ => ?_⟩
  subst e
  have lw := tok.len
  have lm : (w.map encS).length = w.length := List.length_map ..
  refine ⟨fun m e => ∃ (ks : List Nat) (x y z : Sl), nOw x ∧ nOw y ∧ nOw z ∧ ks.Nodup ∧ (∀ k ∈ ks, k < w.length) ∧ m = w.length - ks.length ∧ e = ⟨[.im (.dat (encW w)), .im (.dat (.tuple (wo.map PyData.int))), .ow (.dic (kvN val ks)), x, y, z, .un], n⟩,
    ⟨_, [], .un, .un, .un, trivial, trivial, trivial, List.nodup_nil, by simp, rfl, rfl⟩, ?_⟩
  rintro m e ⟨ks, x, y, z, hx, hy, hz, nd, hk, rfl, rfl⟩
  have lk : (kvN val ks).length = ks.length := List.length_map ..
  have hle : ks.length ≤ w.length := by
    have := nd.length_le_of_subset (fun k h => List.mem_range.mpr (hk k h))
    rwa [List.length_range] at this
  refine ⟨rfl, ite_b (c := decide (ks.length < w.length)) ?_ (fun q => ?_) (fun q => ?_)⟩
  · exact decide_eq_decide.mpr (by rw [lk, lm]; omega)
  · have hlt := of_decide_eq_true q
    refine ⟨fun i e => ∃ (ks' : List Nat) (x y z : Sl), nOw x ∧ nOw y ∧ nOw z ∧ ks'.Nodup ∧ (∀ k ∈ ks', k < w.length) ∧ (∀ k ∈ ks, k ∈ ks') ∧ (∀ s < i, ∀ x, w[s]? = some x → (∀ j ∈ x.2, j ∈ ks) → s ∈ ks') ∧
      e = ⟨[.im (.dat (encW w)), .im (.dat (.tuple (wo.map PyData.int))), .ow (.dic (kvN val ks')), x, y, z, .un], n⟩, ⟨ks, x, y, z, hx, hy, hz, nd, hk, fun _ h => h, fun s hs => absurd hs (Nat.not_lt_zero s), rfl⟩, ?_, ?_⟩
    · rintro i d e hd ⟨ks', x, y, z, hx, hy, hz, nd', hk', hsub, hdo, rfl⟩
      obtain ⟨s, hs, rfl⟩ := enumW w hd
      have hil : i < w.length := (List.getElem?_eq_some_iff.mp hs).1
      have hsm := List.mem_of_getElem? hs
      have skip : ∀ (x' y' z' : Sl), nOw x' → nOw y' → nOw z' → (i ∈ ks' ∨ ¬ ∀ j ∈ s.2, j ∈ ks') → ∃ (ks'' : List Nat) (x y z : Sl), nOw x ∧ nOw y ∧ nOw z ∧ ks''.Nodup ∧ (∀ k ∈ ks'', k < w.length) ∧ (∀ k ∈ ks, k ∈ ks'') ∧ (∀ t < i + 1, ∀ x, w[t]? = some x → (∀ j ∈ x.2, j ∈ ks) → t ∈ ks'') ∧
        (⟨[.im (.dat (encW w)), .im (.dat (.tuple (wo.map PyData.int))), .ow (.dic (kvN val ks')), x', y', z', .un], n⟩ : En) = ⟨[.im (.dat (encW w)), .im (.dat (.tuple (wo.map PyData.int))), .ow (.dic (kvN val ks'')), x, y, z, .un], n⟩ := fun x' y' z' h1 h2 h3 hc =>
        ⟨ks', x', y', z', h1, h2, h3, nd', hk', hsub, fun t ht x hx hj => by
          by_cases e : t = i
          · subst e
            rw [hs] at hx; cases hx
            rcases hc with hc | hc
            · exact hc
            · exact absurd (fun j hj2 => hsub j (hj j hj2)) hc
          · exact hdo t (by omega) x hx hj, rfl⟩
      refine ⟨⟨hx, hy, hz, trivial⟩, rfl, rfl, rfl, rfl, ?_⟩
      -- step not in known and all(..)
      refine ⟨_, rfl, ite_b (c := !decide (i ∈ ks')) ?_ (fun q => ?_) (fun q => ?_)⟩
      · show (!(lookD (kvN val ks') (.inl (i : Int))).isSome) = _
        rw [kvN_look]
        by_cases c : i ∈ ks' <;> simp [c]
      · have hni : i ∉ ks' := by simpa using q
        refine lc_pure nD (fun j => some (PyData.bool (decide (j ∈ ks')))) s.2 rfl ?_ ?_ ?_ ?_
        · exact ⟨trivial, trivial⟩
        · exact Nat.le_of_lt (Nat.lt_of_lt_of_le (tok.arity s hsm) (by decide))
        · intro j hj k hk
          refine ⟨_, rfl, hk _ _ ?_ rfl⟩
          show some (PyData.bool (decide (j ∈ ks'))) = some (PyData.bool (lookD (kvN val ks') (.inl (j : Int))).isSome)
          rw [kvN_look]
          by_cases c : j ∈ ks' <;> simp [c]
        · rw [filterMap_all]
          have hall : (s.2.map fun j => PyData.bool (decide (j ∈ ks'))) = (s.2.map fun j => decide (j ∈ ks')).map PyData.bool := by rw [List.map_map]; rfl
          rw [hall]
          refine ⟨_, bls_map _, ?_⟩
          refine ite_b (c := decide (∀ j ∈ s.2, j ∈ ks')) ?_ (fun q2 => ?_) (fun q2 => ?_)
          · rw [List.all_map]
            rw [Bool.eq_iff_iff, List.all_eq_true, decide_eq_true_eq]
            exact ⟨fun h j hj => of_decide_eq_true (h j hj), fun h j hj => decide_eq_true (h j hj)⟩
          · have hin := of_decide_eq_true q2
            refine ⟨w, i, s, wo, rfl, lw, hs, iv.own i s hs, ?_⟩
            refine lc_pure nD (fun j => some (PyData.int (val j))) s.2 rfl ?_ ?_ ?_ ?_
            · exact ⟨trivial, trivial⟩
            · exact Nat.le_of_lt (Nat.lt_of_lt_of_le (tok.arity s hsm) (by decide))
            · intro j hj k hk
              refine ⟨rfl, _, _, rfl, ?_, hk _ _ rfl rfl⟩
              show lookD (kvN val ks') (.inl (j : Int)) = _
              rw [kvN_look, if_pos (hin j hj)]
            · rw [filterMap_all]
              have hv : (s.2.map fun j => PyData.int (val j)) = (s.2.map val).map PyData.int := by rw [List.map_map]; rfl
              rw [hv]
              refine ⟨s.1, ownV w wo i s.1, s.2.map val, rfl, ?_, ?_, ?_⟩
              · rw [List.length_map]; exact ok.ar s hsm
              · intro v hv
                obtain ⟨j, _, e⟩ := List.mem_map.mp hv
                subst e
                exact iv.small j
              · rw [← iv.eq i s hs]
                refine ⟨_, rfl, ?_, ks' ++ [i], .im (.dat (nD i)), .im (.dat s.1.d), .im (.dat (encN s.2)), trivial, trivial, trivial, ?_, ?_, ?_, ?_, ?_⟩
                · rw [kvN_len]
                  have := nodup_le nd' hk'
                  omega
                · exact nodup_snoc nd' hni
                · exact fun k hk => (List.mem_append.mp hk).elim (hk' k) fun z => by
                    rw [List.mem_singleton.mp z]; exact hil
                · exact fun k hk => List.mem_append_left _ (hsub k hk)
                · intro t ht x hx hj
                  by_cases e : t = i
                  · rw [e]; exact List.mem_append_right _ (List.mem_singleton.mpr rfl)
                  · exact List.mem_append_left _ (hdo t (by omega) x hx hj)
                · rw [← kvN_put hni]; rfl
          · exact skip _ _ _ trivial trivial trivial (.inr (of_decide_eq_false q2))
      · exact skip _ _ _ trivial trivial trivial (.inl (by simpa using q))
    · rintro e ⟨ks', x, y, z, hx, hy, hz, nd', hk', hsub, hdo, rfl⟩
      refine ⟨w.length - ks'.length, ?_, ks', x, y, z, hx, hy, hz, nd', hk', rfl, rfl⟩
      have e1 : (enumD (w.map encS)).length = w.length := by rw [enumD_len, List.length_map]
      rw [e1] at hdo
      obtain ⟨s, x, hs, hns, hin⟩ := some_ready ok hlt
      have hs' := hdo s (List.getElem?_eq_some_iff.mp hs).1 x hs hin
      have := nodup_lt nd nd' hsub hs' hns
      omega
  · have hge := of_decide_eq_false q
    have hall := nodup_all nd hk (by omega)
    refine ⟨w, rfl, tok, ?_⟩
    refine lc_pure nD (fun j => some (PyData.int (val j))) (resL w) rfl ?_ ?_ ?_ ?_
    · exact ⟨hx, trivial⟩
    · have := resL_len w
      omega
    · intro j hj k hk
      refine ⟨rfl, _, _, rfl, ?_, hk _ _ rfl rfl⟩
      show lookD (kvN val ks) (.inl (j : Int)) = _
      rw [kvN_look, if_pos (hall j (resL_lt hj))]
    · rw [filterMap_all]
      exact h
abbrev s_is_row : Stmt := top 16
theorem sc_is_row : FnScope ["web", "value", "one"] ["web", "value"] (defScope s_is_row) := ⟨rfl, rfl, rfl, by decide +kernel, rfl, by decide +kernel, by decide +kernel⟩
def fs_is_row : FS := fun as n p => ∃ (w : List Sp1) (l : List Nat), as = [.dat (encW w), .dat (encN l)] ∧ w.length < 64 ∧ l.Perm (List.range w.length) ∧ p (vBl true) n
theorem ok_is_row (G : Fun K x qual s_is_row f fd) (T : Txt mg) (f_is_integer : PFn P w K mg base A "is_integer" ["value", "least", "most"] fs_is_integer 1) : FnOk P w K mg base CX0 2 f fd ["web", "value"] (spD A K fs_is_row) := by
  refine Fun.okD G sc_is_row (by decide) (fun as n p ⟨x, ns, e, _⟩ => by rw [e]; rfl) fun cdv A' outer s H E hr => ⟨_, _,
  (psds_cons (psd_if (PDW.pdt (pdw_or (pdt_not (pdt_val (pd_callB (call_isi' isi_tuple) (by rfl) T.b_isinstance (by decide +kernel) (pad_cons (pd_var 1) (pad_cons (pd_ty T.b_tuple PyProof.Rows.boot_tuple (by rfl)) pad_nil))))) (pdw_or1 (pdt_cmp (op_ne' hr.units) (pd_callB call_len' (by rfl) T.b_len (by decide +kernel) (pad_cons (pd_var 1) pad_nil)) (pd_callB call_len' (by rfl) T.b_len (by decide +kernel) (pad_cons (pd_var 0) pad_nil)) (nomark _))))) (psds_one (psd_ret pd_bl)) psds_nil)
      (psds_cons (psd_if (pdt_not (pdt_val (pd_callB (call_all' rfl) (by rfl) T.b_all (by decide +kernel) (pad_cons (pd_lc (own := [("one", 2)]) rfl sc_is_row.nd (pid_seq (pd_var 1)) (blkOk_by rfl) (fun _ _ _ _ _ => ⟨_, (pgd_name (i := 2) (by decide) sc_is_row.nd rfl (by first | exact Or.inl rfl | exact Or.inr rfl))⟩) (fun _ _ _ _ _ => ⟨_, pdts_nil⟩) (fun _ _ _ _ _ => ⟨_, (pd_fn f_is_integer hr (by decide) (by rfl) (pad_cons (pd_var 2) (pad_cons pd_int (pad_cons (pd_op op_sub' (pd_callB call_len' (by rfl) T.b_len (by decide +kernel) (pad_cons (pd_var 0) pad_nil)) pd_int) pad_nil))))⟩)) pad_nil)))) (psds_one (psd_ret pd_bl)) psds_nil)
      (psds_one (psd_ret (pd_cmp (op_eq' hr.units) (pd_lenSet rfl (by rfl) T.b_len (by rfl) T.b_set (pd_var 1)) (pd_callB call_len' (by rfl) T.b_len (by decide +kernel) (pad_cons (pd_var 0) pad_nil)) (nomark _)))))), fun as n p ⟨w, l, e, hl, hp, h⟩ => ?_⟩
  subst e
  have ll := hp.length_eq
  rw [List.length_range] at ll
  have l1 : (w.map encS).length = w.length := List.length_map ..
  have l2 : (l.map nD).length = l.length := List.length_map ..
  refine ⟨rfl, gdT ?_⟩
  refine ite_b (c := false) rfl (fun q => by cases q) (fun _ => ?_)
  refine ⟨shaped_int, shaped_int, ite_b (c := false) ?_ (fun q => by cases q) (fun _ => ?_)⟩
  · rw [eqv_intD, l1, l2, ll]
    simp
  refine lc_pure nD (fun j => some (PyData.bool true)) l rfl ?_ ?_ ?_ ?_
  · exact ⟨trivial, trivial⟩
  · omega
  · intro j hj k hk
    have hj' := List.mem_range.mp (hp.mem_iff.mp hj)
    refine ⟨nD j, 0, ((w.map encS).length : Int) - 1, rfl, hk _ _ ?_ rfl⟩
    have e : isInt 0 (((w.map encS).length : Int) - 1) (nD j) = true := by
      show (decide ((0 : Int) ≤ (j : Int)) && decide ((j : Int) ≤ ((w.map encS).length : Int) - 1)) = true
      rw [Bool.and_eq_true, decide_eq_true_eq, decide_eq_true_eq]
      omega
    rw [e]
  · rw [filterMap_all]
    have e : (l.map fun j => PyData.bool true) = (l.map fun _ => true).map PyData.bool := by rw [List.map_map]; rfl
    rw [e]
    refine ⟨_, bls_map _, ?_⟩
    refine ite_b (c := false) ?_ (fun q => by cases q) (fun _ => ?_)
    · rw [List.all_map]
      have : (l.all (id ∘ fun _ => true)) = true := List.all_eq_true.mpr fun _ _ => rfl
      rw [this]; rfl
    · refine ⟨l.map fun (i : Nat) => (i : Int), by rw [nD_ints]; exact ints_map _, by rw [List.length_map]; omega, fun ks nd hk => ?_⟩
      refine ⟨shaped_int, shaped_int, ?_⟩
      have hlk : ks.length = l.length := by
        have nl : l.Nodup := hp.nodup_iff.mpr List.nodup_range
        have n2 : (l.map fun (i : Nat) => (i : Int)).Nodup := List.Pairwise.map _ (fun a b h => by intro e; exact h (by omega)) nl
        have h1 := nd.length_le_of_subset fun k h => (hk k).mp h
        have h2 := n2.length_le_of_subset fun k h => (hk k).mpr h
        rw [List.length_map] at h1 h2
        omega
      have e2 : PyData.eqv (.int (ks.length : Nat)) (.int ((w.map encS).length : Nat)) = true := by
        rw [eqv_intD, hlk, l1, ll]; simp
      rw [e2]
      exact h
end
end K39

namespace K39
open PySem L2 PL
structure Txt2 (mg : Str → Option Value) : Prop where
  b_enumerate : mg "enumerate" = none
  b_len : mg "len" = none
  b_range : mg "range" = none
  b_tuple : mg "tuple" = none
section
variable {P : Program} {w : World} {K : PySem.W.Frag} {mg : Str → Option Value} {base : Heap} {A : Amb} {f : Addr} {fd : FuncData} {x qual : Str}
theorem of_cnt {i s : Nat} : ∀ {l : List Nat}, ((tiesOf i l).filter fun t => decide (t.headD 0 = (s : Int))).length = l.count s := by
  intro l
  have go : ∀ (l : List Nat) (b : Nat), ((l.mapIdx fun p (g : Nat) => [(g : Int), (i : Int), ((p + b : Nat) : Int)]).filter fun t => decide (t.headD 0 = (s : Int))).length = l.count s := by
    intro l
    induction l with
    | nil => intro b; rfl
    | cons a l ih =>
      intro b
      rw [List.mapIdx_cons, List.filter_cons, List.count_cons]
      have e : (fun p (g : Nat) => [(g : Int), (i : Int), ((p + 1 + b : Nat) : Int)]) = fun p (g : Nat) => [(g : Int), (i : Int), ((p + (b + 1) : Nat) : Int)] := by funext p g; rw [Nat.add_assoc, Nat.add_comm 1 b]
      rw [e]
      have h := ih (b + 1)
      by_cases c : a = s
      · subst c
        rw [if_pos (by simp), List.length_cons, h]; simp
      · rw [if_neg (by simp; omega), h]; simp [c]
  exact go l 0
theorem ties_cnt {w : List Sp1} {s : Nat} : ((tiesL w).filter fun t => decide (t.headD 0 = (s : Int))).length = remN w (List.range w.length) s := by
  have go : ∀ i, i ≤ w.length → ((tiesL (w.take i)).filter fun t => decide (t.headD 0 = (s : Int))).length = remN w (List.range i) s := by
    intro i
    induction i with
    | zero => intro _; simp [tiesL, remN]
    | succ i ih =>
      intro hi
      have hl : i < w.length := by omega
      rw [tiesL_take w i w[i] (List.getElem?_eq_getElem hl), List.filter_append, List.length_append, ih (by omega), List.range_succ, remN_app, of_cnt]
      show _ = _ + ((inpW w i).count s + 0)
      rw [inpW_of (List.getElem?_eq_getElem hl)]; rfl
  have := go w.length (Nat.le_refl _)
  rwa [List.take_length] at this
abbrev s_copies_of : Stmt := top 18
theorem sc_copies_of : FnScope ["web", "step", "tie"] ["web", "step"] (defScope s_copies_of) := ⟨rfl, rfl, rfl, by decide +kernel, rfl, by decide +kernel, by decide +kernel⟩
def fs_copies_of : FS := fun as n p => ∃ (w : List Sp1) (s : Nat), as = [.dat (encW w), .dat (nD s)] ∧ TOk w ∧ p (vInt (remN w (List.range w.length) s : Nat)) n
theorem ok_copies_of (G : Fun K x qual s_copies_of f fd) (T : Txt2 mg) (f_ties : PFn P w K mg base A "ties" ["web"] fs_ties 1) : FnOk P w K mg base CX0 2 f fd ["web", "step"] (spD A K fs_copies_of) := by
  refine Fun.okD G sc_copies_of (by decide) (fun as n p ⟨w, s, e, _⟩ => by rw [e]; rfl) fun cdv A' outer s H E hr => ⟨_, _,
  (psds_one (psd_ret (pd_callB call_len' (by rfl) T.b_len (by decide +kernel) (pad_cons (pd_lc (own := [("tie", 2)]) rfl sc_copies_of.nd (pid_seq (pd_fn f_ties hr (by decide) (by rfl) (pad_cons (pd_var 0) pad_nil))) (blkOk_by rfl) (fun _ _ _ _ _ => ⟨_, (pgd_name (i := 2) (by decide) sc_copies_of.nd rfl (by first | exact Or.inl rfl | exact Or.inr rfl))⟩) (fun _ _ _ _ _ => ⟨_, (pdts_one (pdt_cmp (op_eq' hr.units) (pd_ix (ix' (u1 hr)) (pd_var 2) pd_int (fun _ _ => rfl)) (pd_var 1) (nomark _)))⟩) (fun _ _ _ _ _ => ⟨_, pd_int⟩)) pad_nil)))), fun as n p ⟨w, s, e, ok, h⟩ => ?_⟩
  subst e
  refine ⟨w, rfl, ok, fun ss h1 _ => ?_⟩
  have hl := h1.length_eq
  have hm := ok.many
  refine lc_pure encI (fun t => if decide (t.headD 0 = (s : Int)) = true then some (PyData.int 1) else none) ss rfl ?_ ?_ ?_ ?_
  · exact ⟨trivial, trivial⟩
  · omega
  · intro t ht k hk
    obtain ⟨g, a, p, rfl⟩ := heads_perm h1 t ht
    refine ⟨_, rfl, shaped_int, shaped_int, ite_b (c := decide ((g : Int) = (s : Int))) eqv_intD (fun q => hk _ _ (if_pos q) rfl) (fun q => hk _ _ (if_neg (by rw [show ([(g : Int), (a : Int), (p : Int)] : List Int).headD 0 = (g : Int) from rfl, q]; decide)) rfl)⟩
  · rw [filterMap_ite]
    show p (vInt (((ss.filter fun t => decide (t.headD 0 = (s : Int))).map fun _ => PyData.int 1).length : Nat)) n
    rw [List.length_map, (h1.filter _).length_eq, ties_cnt]
    exact h
abbrev s_takes_of : Stmt := top 19
theorem sc_takes_of : FnScope ["web", "order", "step", "is_queue", "inputs", "wanted", "giver", "place", "one"] ["web", "order", "step", "is_queue"] (defScope s_takes_of) := ⟨rfl, rfl, rfl, by decide +kernel, rfl, by decide +kernel, by decide +kernel⟩
def fs_takes_of : FS := fun as n p => ∃ (w : List Sp1) (o : List Nat) (s : Nat) (q : Bool), as = [.dat (encW w), .dat (encN o), .dat (nD s), .dat (.bool q)] ∧ s < w.length ∧ (inpW w s).length < 64 ∧ o.length < 64 ∧ o.Nodup ∧ (∀ g ∈ inpW w s, g ∈ o) ∧ p (.val (.dat (encN (takesN q o (inpW w s))))) n
theorem enum_filt (inp : List Nat) (g : Nat) : ((inp.mapIdx fun p g => (p, g)).filterMap fun x => if decide (x.2 = g) = true then some (nD x.1) else none) = ((List.range inp.length).filter fun p => decide (inp[p]? = some g)).map nD := by
  rw [filterMap_ite]
  have e : (inp.mapIdx fun p g => (p, g)) = (List.range inp.length).map fun p => (p, inp.getD p 0) := by
    refine List.ext_getElem? fun i => ?_
    rw [List.getElem?_mapIdx, List.getElem?_map]
    by_cases c : i < inp.length
    · rw [List.getElem?_range c, List.getElem?_eq_getElem c]
      show some (i, inp[i]) = some (i, inp.getD i 0)
      rw [List.getD_eq_getElem?_getD, List.getElem?_eq_getElem c]; rfl
    · rw [List.getElem?_eq_none (by omega), List.getElem?_eq_none (by rw [List.length_range]; omega)]; rfl
  rw [e, List.filter_map, List.map_map]
  have f : (List.range inp.length).filter ((fun x : Nat × Nat => decide (x.2 = g)) ∘ fun p => (p, inp.getD p 0)) = (List.range inp.length).filter fun p => decide (inp[p]? = some g) := by
    refine List.filter_congr fun p hp => ?_
    have hl := List.mem_range.mp hp
    show decide (inp.getD p 0 = g) = _
    rw [List.getD_eq_getElem?_getD, List.getElem?_eq_getElem hl]
    simp
  rw [f]; rfl
theorem ok_takes_of (G : Fun K x qual s_takes_of f fd) (T : Txt2 mg) : FnOk P w K mg base CX0 1 f fd ["web", "order", "step", "is_queue"] (spD A K fs_takes_of) := by
  refine Fun.okD G sc_takes_of (by decide) (fun as n p ⟨w, o, s, q, e, _⟩ => by rw [e]; rfl) fun cdv A' outer s H E hr => ⟨_, _,
  (psds_cons (psd_set (i := 4) sc_takes_of.nd rfl (by first | exact Or.inl rfl | exact Or.inr rfl) (pd_ix (ix' (u1 hr)) (pd_ix (ix' (u1 hr)) (pd_var 0) (pd_var 2) (fun _ _ => rfl)) pd_int (fun _ _ => rfl)))
      (psds_cons (psd_set (i := 5) sc_takes_of.nd rfl (by first | exact Or.inl rfl | exact Or.inr rfl) (pd_lst pad_nil))
      (psds_cons (psd_for (ks := [6]) PassesOwn.never rfl (pid_seq (pd_ifExp (pdt_val (pd_var 3)) (pd_var 1) (pd_revT (pd_var 1)))) (pgd_name (i := 6) (by decide) sc_takes_of.nd rfl (by first | exact Or.inl rfl | exact Or.inr rfl)) (psds_one (psd_expr (pd_extend (i := 5) rfl (by first | exact Or.inl rfl | exact Or.inr (Or.inl rfl) | exact Or.inr (Or.inr rfl)) (pd_lc (own := [("place", 7), ("one", 8)]) rfl sc_takes_of.nd (pid_enum (by rfl) T.b_enumerate (pd_var 4)) (blkOk_by rfl) (fun _ _ _ _ _ => ⟨_, (pgd_tup (n := 2) rfl (pgds_cons (pgd_name (i := 7) (by decide) sc_takes_of.nd rfl (by first | exact Or.inl rfl | exact Or.inr rfl)) (pgds_cons (pgd_name (i := 8) (by decide) sc_takes_of.nd rfl (by first | exact Or.inl rfl | exact Or.inr rfl)) pgds_nil)))⟩) (fun _ _ _ _ _ => ⟨_, (pdts_one (pdt_cmp (op_eq' hr.units) (pd_var 8) (pd_var 6) (nomark _)))⟩) (fun _ _ _ _ _ => ⟨_, (pd_var 7)⟩))))))
      (psds_one (psd_ret (pd_callTy call_tuple' (by rfl) T.b_tuple (by decide +kernel) (pad_cons (pd_lc (own := [("place", 7)]) rfl sc_takes_of.nd (pid_rng1 (by rfl) T.b_range (pd_callB call_len' (by rfl) T.b_len (by decide +kernel) (pad_cons (pd_var 4) pad_nil))) (blkOk_by rfl) (fun _ _ _ _ _ => ⟨_, (pgd_name (i := 7) (by decide) sc_takes_of.nd rfl (by first | exact Or.inl rfl | exact Or.inr rfl))⟩) (fun _ _ _ _ _ => ⟨_, pdts_nil⟩) (fun _ _ _ _ _ => ⟨_, (pd_lidx (pd_var 5) (pd_var 7))⟩)) pad_nil))))))), fun as n p ⟨w, o, s, q, e, hs, hi, ho, nd, hg, h⟩ => ?_⟩
  subst e
  have hat : L2.atI (w.map encS) (s : Int) = some (encS w[s]) := atI_nat (by rw [List.getElem?_map, List.getElem?_eq_getElem hs]; rfl)
  have einp : w[s].2 = inpW w s := (inpW_of (List.getElem?_eq_getElem hs)).symm
  obtain ⟨L, hL⟩ : ∃ L, L = (if q = true then o else o.reverse) := ⟨_, rfl⟩
  have lL : L.length = o.length := by rw [hL]; split <;> simp
  obtain ⟨W, hW⟩ : ∃ W : Nat → List Nat, W = fun g => (List.range (inpW w s).length).filter fun p => decide ((inpW w s)[p]? = some g) := ⟨_, rfl⟩
  have hw : wantN q o (inpW w s) = L.flatMap W := by rw [hL, hW]; rfl
  have hds : (if q = true then o.map nD else (o.map nD).reverse) = L.map nD := by rw [hL]; split <;> simp
  have hwl : ∀ i, ((L.take i).flatMap W).length ≤ (inpW w s).length := fun i => by
    have e := want_len (q := q) nd hg
    rw [hw] at e
    have e2 : L.flatMap W = (L.take i).flatMap W ++ (L.drop i).flatMap W := by rw [← List.flatMap_append, List.take_append_drop]
    rw [e2, List.length_append] at e
    omega
  have last : ∀ x6 x7 x8 : Sl, nOw x6 → nOw x7 → nOw x8 → wRet (wCB fTuple (wCons (wLc (wiRng1 (wCB fLen (wCons (wVar 4) wNil))) (wgName 7) wYes (wLIdx (wVar 5) (wVar 7)) [7]) wNil)) { nx := fun e => p (.val (.dat .none)) e.n, rt := p }
      ⟨[.im (.dat (encW w)), .im (.dat (encN o)), .im (.dat (nD s)), .im (.dat (.bool q)), .im (.dat (encN w[s].2)), .ow (.lst ((wantN q o (inpW w s)).map nD)), x6, x7, x8], n⟩ := by
    intro x6 x7 x8 h6 h7 h8
    refine ⟨by rw [List.length_map, einp]; omega, by rw [List.length_map, einp]; omega, ?_⟩
    refine lc_pure nD (fun j => some (nD ((wantN q o (inpW w s)).idxOf j))) (List.range (inpW w s).length) (by rw [List.length_map, einp]; exact rng_nats _) ⟨h7, trivial⟩ (by rw [List.length_range]; omega) (fun j hj k hk => ?_) ?_
    · refine ⟨rfl, (wantN q o (inpW w s)).map fun (i : Nat) => (i : Int), by rw [nD_ints]; exact ints_map _, List.mem_map.mpr ⟨j, (mem_want hg).mpr (List.mem_range.mp hj), rfl⟩, hk _ _ ?_ rfl⟩
      rw [idxOf_nat]; rfl
    · rw [filterMap_all]
      have e : ((List.range (inpW w s).length).map fun j => nD ((wantN q o (inpW w s)).idxOf j)) = (takesN q o (inpW w s)).map nD := by unfold takesN; rw [List.map_map]; rfl
      rw [e]
      exact h
  have loop : ∀ (ds : List D) (E : EndsP), ds = L.map nD → (∀ x6 x7 x8 : Sl, nOw x6 → nOw x7 → nOw x8 → E.nx ⟨[.im (.dat (encW w)), .im (.dat (encN o)), .im (.dat (nD s)), .im (.dat (.bool q)), .im (.dat (encN w[s].2)), .ow (.lst ((wantN q o (inpW w s)).map nD)), x6, x7, x8], n⟩) →
      ForOk [6] (wgName 6) (wDrop (wExtend 5 (wLc (wiEnum (wVar 4)) (wgTup 2 (wgCons (wgName 7) (wgCons (wgName 8) wgNil))) (wTest (wOp oEq (wVar 8) (wVar 6))) (wVar 7) [7, 8]))) E ds
        ⟨[.im (.dat (encW w)), .im (.dat (encN o)), .im (.dat (nD s)), .im (.dat (.bool q)), .im (.dat (encN w[s].2)), .ow (.lst []), .un, .un, .un], n⟩ := by
    rintro ds E rfl hE
    refine ⟨fun i e => ∃ x6 x7 x8 : Sl, nOw x6 ∧ nOw x7 ∧ nOw x8 ∧ e = ⟨[.im (.dat (encW w)), .im (.dat (encN o)), .im (.dat (nD s)), .im (.dat (.bool q)), .im (.dat (encN w[s].2)), .ow (.lst (((L.take i).flatMap W).map nD)), x6, x7, x8], n⟩, ⟨.un, .un, .un, trivial, trivial, trivial, rfl⟩, ?_, ?_⟩
    · rintro i d e hd ⟨x6, x7, x8, h6, h7, h8, rfl⟩
      rw [List.getElem?_map] at hd
      obtain ⟨g, hgi, rfl⟩ := Option.map_eq_some_iff.mp hd
      refine ⟨⟨h6, trivial⟩, ?_⟩
      refine lc_pure (fun x : Nat × Nat => .tuple [nD x.1, nD x.2]) (fun x => if decide (x.2 = g) = true then some (nD x.1) else none) ((inpW w s).mapIdx fun p g => (p, g)) (by rw [einp]; exact enumN _) ⟨h7, h8, trivial⟩ (by rw [List.length_mapIdx]; omega) (fun y hy k hk => ?_) ?_
      · refine ⟨rfl, rfl, shaped_int, shaped_int, ite_b (c := decide (y.2 = g)) ?_ (fun q => hk _ _ (if_pos q) rfl) (fun q => hk _ _ (if_neg (by rw [q]; decide)) rfl)⟩
        rw [show PyData.eqv (nD y.2) (nD g) = decide ((y.2 : Int) = (g : Int)) from eqv_intD]
        exact decide_eq_decide.mpr (by omega)
      · rw [enum_filt, show ((List.range (inpW w s).length).filter fun p => decide ((inpW w s)[p]? = some g)) = W g by rw [hW]]
        have e1 : (L.take (i + 1)).flatMap W = (L.take i).flatMap W ++ W g := by rw [List.take_succ, hgi, Option.toList_some, List.flatMap_append]; simp
        have hl := hwl (i + 1)
        rw [e1, List.length_append] at hl
        refine ⟨by rw [List.length_map, List.length_map]; omega, .im (.dat (nD g)), x7, x8, trivial, h7, h8, ?_⟩
        rw [e1, List.map_append]; rfl
    · rintro e ⟨x6, x7, x8, h6, h7, h8, rfl⟩
      rw [List.length_map, List.take_length, ← hw]
      exact hE x6 x7 x8 h6 h7 h8
  refine ⟨_, hat, _, rfl, ?_⟩
  refine ⟨[], rfl, le5 rfl, ?_⟩
  cases q with
  | true => exact loop _ _ hds last
  | false => exact loop _ _ hds last
end
end K39

namespace K39
open PySem L2 PL
structure Txt3 (mg : Str → Option Value) : Prop where
  b_all : mg "all" = none
  b_enumerate : mg "enumerate" = none
  b_isinstance : mg "isinstance" = none
  b_len : mg "len" = none
  b_set : mg "set" = none
  b_tuple : mg "tuple" = none
  g_MAX_COPIES : ∃ t, mg "MAX_COPIES" = some (.int 30 t)
  g_IN : ∃ t, mg "IN" = some (.str "in" t)
section
variable {P : Program} {w : World} {K : PySem.W.Frag} {mg : Str → Option Value} {base : Heap} {A : Amb} {f : Addr} {fd : FuncData} {x qual : Str}
theorem w_at {w : List Sp1} {s : Nat} (hs : s < w.length) : L2.atI (w.map encS) (s : Int) = some (encS (w[s]'hs)) := atI_nat (by rw [List.getElem?_map, List.getElem?_eq_getElem hs]; rfl)
theorem w_inp {w : List Sp1} {s : Nat} (hs : s < w.length) : (w[s]'hs).2 = inpW w s := (inpW_of (List.getElem?_eq_getElem hs)).symm
theorem sw_inp3 {w : List Sp1} (h : SW w) (s : Nat) : (inpW w s).length ≤ 3 := by
  by_cases hs : s < w.length
  · rw [← w_inp hs, h.ar _ (List.getElem_mem hs)]; exact arK_le _
  · unfold inpW
    rw [List.getD_eq_getElem?_getD, List.getElem?_eq_none (by omega)]
    exact Nat.zero_le _
abbrev s_program_of : Stmt := top 20
theorem sc_program_of : FnScope ["web", "order", "is_queue", "step"] ["web", "order", "is_queue"] (defScope s_program_of) := ⟨rfl, rfl, rfl, by decide +kernel, rfl, by decide +kernel, by decide +kernel⟩
def fs_program_of : FS := fun as n p => ∃ (w : List Sp1) (o : List Nat) (q : Bool), as = [.dat (encW w), .dat (encN o), .dat (.bool q)] ∧ SW w ∧ o.Perm (List.range w.length) ∧ p (.val (.dat (encP (progN w q o)))) n
theorem ok_program_of (G : Fun K x qual s_program_of f fd) (T : Txt3 mg) (f_takes_of : PFn P w K mg base A "takes_of" ["web", "order", "step", "is_queue"] fs_takes_of 1) (f_copies_of : PFn P w K mg base A "copies_of" ["web", "step"] fs_copies_of 2) : FnOk P w K mg base CX0 3 f fd ["web", "order", "is_queue"] (spD A K fs_program_of) := by
  refine Fun.okD G sc_program_of (by decide) (fun as n p ⟨w, o, q, e, _⟩ => by rw [e]; rfl) fun cdv A' outer s H E hr => ⟨_, _,
  (psds_one (psd_ret (pd_callTy call_tuple' (by rfl) T.b_tuple (by decide +kernel) (pad_cons (pd_lc (own := [("step", 3)]) rfl sc_program_of.nd (pid_seq (pd_var 1)) (blkOk_by rfl) (fun _ _ _ _ _ => ⟨_, (pgd_name (i := 3) (by decide) sc_program_of.nd rfl (by first | exact Or.inl rfl | exact Or.inr rfl))⟩) (fun _ _ _ _ _ => ⟨_, pdts_nil⟩) (fun _ _ _ _ _ => ⟨_, (pd_tup (pad_cons (pd_var 3) (pad_cons (pd_fn f_takes_of hr (by decide) (by rfl) (pad_cons (pd_var 0) (pad_cons (pd_var 1) (pad_cons (pd_var 3) (pad_cons (pd_var 2) pad_nil))))) (pad_cons (pd_fn f_copies_of hr (by decide) (by rfl) (pad_cons (pd_var 0) (pad_cons (pd_var 3) pad_nil))) pad_nil))))⟩)) pad_nil)))), fun as n p ⟨w, o, q, e, sw, hp, h⟩ => ?_⟩
  subst e
  have nd : o.Nodup := hp.nodup_iff.mpr List.nodup_range
  have lo := hp.length_eq
  rw [List.length_range] at lo
  have l10 := sw.l1
  refine lc_pure nD (fun s => some (encJ (s, takesN q o (inpW w s), remN w o s))) o rfl ⟨trivial, trivial⟩ (by omega) (fun s hs k hk => ?_) ?_
  · have hs' := List.mem_range.mp (hp.mem_iff.mp hs)
    refine ⟨w, o, s, q, rfl, hs', by have := sw_inp3 sw s; omega, by omega, nd, fun g hg => hp.mem_iff.mpr (List.mem_range.mpr (inpW_bd sw.bd hg).1), ?_⟩
    refine ⟨w, s, rfl, sw.tok, _, rfl, le5 rfl, ?_⟩
    rw [remN_perm w s hp.symm]
    exact hk _ _ rfl rfl
  · rw [filterMap_all]
    have e : (o.map fun s => encJ (s, takesN q o (inpW w s), remN w o s)) = (progN w q o).map encJ := by unfold progN; rw [List.map_map]; rfl
    rw [e]
    exact h
abbrev s_program : Stmt := top 28
theorem sc_program : FnScope ["web", "order"] ["web", "order"] (defScope s_program) := ⟨rfl, rfl, rfl, by decide +kernel, rfl, by decide +kernel, by decide +kernel⟩
def fs_program : FS := fun as n p => ∃ (w : List Sp1) (o : List Nat), as = [.dat (encW w), .dat (encN o)] ∧ SW w ∧ o.Perm (List.range w.length) ∧ p (.val (.dat (encP (progN w false o)))) n
theorem ok_program (G : Fun K x qual s_program f fd) (T : Txt3 mg) (f_program_of : PFn P w K mg base A "program_of" ["web", "order", "is_queue"] fs_program_of 3) : FnOk P w K mg base CX0 4 f fd ["web", "order"] (spD A K fs_program) := by
  refine Fun.okD G sc_program (by decide) (fun as n p ⟨w, o, e, _⟩ => by rw [e]; rfl) fun cdv A' outer s H E hr => ⟨_, _,
  (psds_one (psd_ret (pd_fn f_program_of hr (by decide) (by rfl) (pad_cons (pd_var 0) (pad_cons (pd_var 1) (pad_cons pd_bl pad_nil)))))), fun as n p ⟨w, o, e, sw, hp, h⟩ => ?_⟩
  subst e
  exact ⟨w, o, false, rfl, sw, hp, h⟩
theorem len_nodup {l : List Nat} (nd : l.Nodup) {ks : List Int} (hd : ks.Nodup) (hk : ∀ k, k ∈ ks ↔ k ∈ l.map fun (i : Nat) => (i : Int)) : ks.length = l.length := by
  have n2 : (l.map fun (i : Nat) => (i : Int)).Nodup := List.Pairwise.map _ (fun a b h => by intro e; exact h (by omega)) nd
  have h1 := hd.length_le_of_subset fun k h => (hk k).mp h
  have h2 := n2.length_le_of_subset fun k h => (hk k).mpr h
  rw [List.length_map] at h1 h2
  omega
abbrev s_is_instruction : Stmt := top 21
theorem sc_is_instruction : FnScope ["web", "value", "size", "step", "takes", "copies", "one"] ["web", "value"] (defScope s_is_instruction) := ⟨rfl, rfl, rfl, by decide +kernel, rfl, by decide +kernel, by decide +kernel⟩
def fs_is_instruction : FS := fun as n p => ∃ (w : List Sp1) (i : Ins), as = [.dat (encW w), .dat (encJ i)] ∧ SW w ∧ InsOk w i ∧ p (vBl true) n
theorem ok_is_instruction (G : Fun K x qual s_is_instruction f fd) (T : Txt3 mg) (f_is_integer : PFn P w K mg base A "is_integer" ["value", "least", "most"] fs_is_integer 1) : FnOk P w K mg base CX0 2 f fd ["web", "value"] (spD A K fs_is_instruction) := by
  refine Fun.okD G sc_is_instruction (by decide) (fun as n p ⟨w, i, e, _⟩ => by rw [e]; rfl) fun cdv A' outer s H E hr => ⟨_, _,
  (psds_cons (psd_if (PDW.pdt (pdw_or (pdt_not (pdt_val (pd_callB (call_isi' isi_tuple) (by rfl) T.b_isinstance (by decide +kernel) (pad_cons (pd_var 1) (pad_cons (pd_ty T.b_tuple PyProof.Rows.boot_tuple (by rfl)) pad_nil))))) (pdw_or (pdt_cmp (op_ne' hr.units) (pd_callB call_len' (by rfl) T.b_len (by decide +kernel) (pad_cons (pd_var 1) pad_nil)) pd_int (nomark _)) (pdw_or1 (pdt_not (pdt_val (pd_fn f_is_integer hr (by decide) (by rfl) (pad_cons (pd_ix (ix' (u1 hr)) (pd_var 1) pd_int (fun _ _ => rfl)) (pad_cons pd_int (pad_cons (pd_op op_sub' (pd_callB call_len' (by rfl) T.b_len (by decide +kernel) (pad_cons (pd_var 0) pad_nil)) pd_int) pad_nil)))))))))) (psds_one (psd_ret pd_bl)) psds_nil)
      (psds_cons (psd_asg (ks := [3, 4, 5]) (pd_var 1) (pgd_tup (n := 3) rfl (pgds_cons (pgd_name (i := 3) (by decide) sc_is_instruction.nd rfl (by first | exact Or.inl rfl | exact Or.inr rfl)) (pgds_cons (pgd_name (i := 4) (by decide) sc_is_instruction.nd rfl (by first | exact Or.inl rfl | exact Or.inr rfl)) (pgds_cons (pgd_name (i := 5) (by decide) sc_is_instruction.nd rfl (by first | exact Or.inl rfl | exact Or.inr rfl)) pgds_nil)))))
      (psds_cons (psd_set (i := 2) sc_is_instruction.nd rfl (by first | exact Or.inl rfl | exact Or.inr rfl) (pd_callB call_len' (by rfl) T.b_len (by decide +kernel) (pad_cons (pd_ix (ix' (u1 hr)) (pd_ix (ix' (u1 hr)) (pd_var 0) (pd_var 3) (fun _ _ => rfl)) pd_int (fun _ _ => rfl)) pad_nil)))
      (psds_cons (psd_if (PDW.pdt (pdw_or (pdt_not (pdt_val (pd_callB (call_isi' isi_tuple) (by rfl) T.b_isinstance (by decide +kernel) (pad_cons (pd_var 4) (pad_cons (pd_ty T.b_tuple PyProof.Rows.boot_tuple (by rfl)) pad_nil))))) (pdw_or (pdt_cmp (op_ne' hr.units) (pd_callB call_len' (by rfl) T.b_len (by decide +kernel) (pad_cons (pd_var 4) pad_nil)) (pd_var 2) (nomark _)) (pdw_or1 (pdt_not (pdt_val (pd_fn f_is_integer hr (by decide) (by rfl) (pad_cons (pd_var 5) (pad_cons pd_int (pad_cons (pd_gInt T.g_MAX_COPIES (by rfl)) pad_nil)))))))))) (psds_one (psd_ret pd_bl)) psds_nil)
      (psds_one (psd_ret (pd_and (pd_callB (call_all' rfl) (by rfl) T.b_all (by decide +kernel) (pad_cons (pd_lc (own := [("one", 6)]) rfl sc_is_instruction.nd (pid_seq (pd_var 4)) (blkOk_by rfl) (fun _ _ _ _ _ => ⟨_, (pgd_name (i := 6) (by decide) sc_is_instruction.nd rfl (by first | exact Or.inl rfl | exact Or.inr rfl))⟩) (fun _ _ _ _ _ => ⟨_, pdts_nil⟩) (fun _ _ _ _ _ => ⟨_, (pd_fn f_is_integer hr (by decide) (by rfl) (pad_cons (pd_var 6) (pad_cons pd_int (pad_cons (pd_op op_sub' (pd_var 2) pd_int) pad_nil))))⟩)) pad_nil)) (pd_one (pd_cmp (op_eq' hr.units) (pd_lenSet rfl (by rfl) T.b_len (by rfl) T.b_set (pd_var 4)) (pd_var 2) (nomark _)))))))))), fun as n p ⟨w, i, e, sw, ok, h⟩ => ?_⟩
  subst e
  have l1 : (w.map encS).length = w.length := List.length_map ..
  have hin : ∀ {j : Nat} {lo hi : Int}, lo = 0 → (j : Int) ≤ hi → isInt lo hi (nD j) = true := fun {j lo hi} h0 h => by
    subst h0
    show (decide ((0 : Int) ≤ (j : Int)) && decide ((j : Int) ≤ hi)) = true
    rw [Bool.and_eq_true, decide_eq_true_eq, decide_eq_true_eq]
    omega
  have i3 := sw_inp3 sw i.1
  have lt := ok.len
  refine ⟨rfl, gdT ?_⟩
  refine ite_b (c := false) rfl (fun q => by cases q) (fun _ => ?_)
  refine ⟨shaped_int, shaped_int, ite_b (c := false) rfl (fun q => by cases q) (fun _ => ?_)⟩
  refine ⟨_, rfl, _, _, _, rfl, gdI ?_⟩
  refine ite_b (c := false) (congrArg not (hin rfl (by have := ok.st; show (i.1 : Int) ≤ ((w.map encS).length : Int) - 1; rw [l1]; omega))) (fun q => by cases q) (fun _ => ?_)
  refine ⟨⟨trivial, trivial, trivial, trivial⟩, rfl, rfl, ?_⟩
  refine ⟨_, w_at ok.st, _, rfl, ?_⟩
  have einp := w_inp ok.st
  refine ⟨rfl, gdT ?_⟩
  refine ite_b (c := false) rfl (fun q => by cases q) (fun _ => ?_)
  refine ⟨shaped_int, shaped_int, ite_b (c := false) ?_ (fun q => by cases q) (fun _ => ?_)⟩
  · rw [eqv_intD, List.length_map, List.length_map, einp, lt]; simp
  refine ⟨_, _, _, rfl, gdI ?_⟩
  refine ite_b (c := false) (congrArg not (hin rfl (by have := ok.cp; show (i.2.2 : Int) ≤ 30; omega))) (fun q => by cases q) (fun _ => ?_)
  refine lc_pure nD (fun j => some (PyData.bool true)) i.2.1 rfl ⟨trivial, trivial⟩ (by omega) (fun j hj k hk => ?_) ?_
  · have hj' := List.mem_range.mp (ok.ts.mem_iff.mp hj)
    refine ⟨nD j, 0, (((w[i.1]'ok.st).2.map nD).length : Int) - 1, rfl, gdI (hk _ _ ?_ rfl)⟩
    rw [hin rfl (by rw [List.length_map, einp]; omega)]
  · rw [filterMap_all]
    have e : (i.2.1.map fun j => PyData.bool true) = (i.2.1.map fun _ => true).map PyData.bool := by rw [List.map_map]; rfl
    rw [e]
    refine ⟨_, bls_map _, ?_⟩
    have ea : ((i.2.1.map fun _ => true).all id) = true := by
      rw [List.all_map]
      exact List.all_eq_true.mpr fun _ _ => rfl
    rw [ea]
    refine ⟨i.2.1.map fun (j : Nat) => (j : Int), by rw [nD_ints]; exact ints_map _, by rw [List.length_map]; omega, fun ks nd hk => ?_⟩
    refine ⟨shaped_int, shaped_int, ?_⟩
    have hlk := len_nodup (ok.ts.nodup_iff.mpr List.nodup_range) nd hk
    have e2 : PyData.eqv (.int (ks.length : Nat)) (.int (((w[i.1]'ok.st).2.map nD).length : Nat)) = true := by
      rw [eqv_intD, hlk, List.length_map, einp, lt]; simp
    rw [e2]
    exact h
abbrev s_program_fault : Stmt := top 22
theorem sc_program_fault : FnScope ["web", "value", "known", "index", "instruction"] ["web", "value"] (defScope s_program_fault) := ⟨rfl, rfl, rfl, by decide +kernel, rfl, by decide +kernel, by decide +kernel⟩
def fs_program_fault : FS := fun as n p => ∃ (w : List Sp1) (g : List Ins), as = [.dat (encW w), .dat (encP g)] ∧ SW w ∧ (∀ i ∈ g, InsOk w i) ∧ (g.map (·.1)).Perm (List.range w.length) ∧ p (.val (.dat .none)) n
theorem ok_program_fault (G : Fun K x qual s_program_fault f fd) (T : Txt3 mg) (f_is_instruction : PFn P w K mg base A "is_instruction" ["web", "value"] fs_is_instruction 2) : FnOk P w K mg base CX0 3 f fd ["web", "value"] (spD A K fs_program_fault) := by
  refine Fun.okD G sc_program_fault (by decide) (fun as n p ⟨w, g, e, _⟩ => by rw [e]; rfl) fun cdv A' outer s H E hr => ⟨_, _,
  (psds_cons (psd_if (PDW.pdt (pdw_or (pdt_not (pdt_val (pd_callB (call_isi' isi_tuple) (by rfl) T.b_isinstance (by decide +kernel) (pad_cons (pd_var 1) (pad_cons (pd_ty T.b_tuple PyProof.Rows.boot_tuple (by rfl)) pad_nil))))) (pdw_or1 (pdt_cmp (op_ne' hr.units) (pd_callB call_len' (by rfl) T.b_len (by decide +kernel) (pad_cons (pd_var 1) pad_nil)) (pd_callB call_len' (by rfl) T.b_len (by decide +kernel) (pad_cons (pd_var 0) pad_nil)) (nomark _))))) (psds_one (psd_ret (pd_tup (pad_cons pd_non (pad_cons pd_str pad_nil))))) psds_nil)
      (psds_cons (psd_set (i := 2) sc_program_fault.nd rfl (by first | exact Or.inl rfl | exact Or.inr rfl) (pd_lst pad_nil))
      (psds_cons (psd_for (ks := [3, 4]) PassesOwn.never rfl (pid_enum (by rfl) T.b_enumerate (pd_var 1)) (pgd_tup (n := 2) rfl (pgds_cons (pgd_name (i := 3) (by decide) sc_program_fault.nd rfl (by first | exact Or.inl rfl | exact Or.inr rfl)) (pgds_cons (pgd_name (i := 4) (by decide) sc_program_fault.nd rfl (by first | exact Or.inl rfl | exact Or.inr rfl)) pgds_nil))) (psds_cons (psd_if (pdt_not (pdt_val (pd_fn f_is_instruction hr (by decide) (by rfl) (pad_cons (pd_var 0) (pad_cons (pd_var 4) pad_nil))))) (psds_one (psd_ret (pd_tup (pad_cons (pd_var 3) (pad_cons pd_str pad_nil))))) psds_nil)
      (psds_cons (psd_if (pdt_cmp (op_in' (u65 hr)) (pd_ix (ix' (u1 hr)) (pd_var 4) pd_int (fun _ _ => rfl)) (pd_var 2) (by rfl)) (psds_one (psd_ret (pd_tup (pad_cons (pd_var 3) (pad_cons pd_str pad_nil))))) psds_nil)
      (psds_one (psd_expr (pd_append (i := 2) rfl (by first | exact Or.inl rfl | exact Or.inr (Or.inl rfl) | exact Or.inr (Or.inr rfl)) (pd_ix (ix' (u1 hr)) (pd_var 4) pd_int (fun _ _ => rfl))))))))
      (psds_one (psd_ret pd_non))))), fun as n p ⟨w, g, e, sw, ok, hp, h⟩ => ?_⟩
  subst e
  have l1 : (w.map encS).length = w.length := List.length_map ..
  have lg : g.length = w.length := by
    have := hp.length_eq
    rwa [List.length_map, List.length_range] at this
  have l10 := sw.l1
  have nd : (g.map (·.1)).Nodup := hp.nodup_iff.mpr List.nodup_range
  refine ⟨rfl, gdT ?_⟩
  refine ite_b (c := false) rfl (fun q => by cases q) (fun _ => ?_)
  refine ⟨shaped_int, shaped_int, ite_b (c := false) ?_ (fun q => by cases q) (fun _ => ?_)⟩
  · rw [eqv_intD, l1, List.length_map, lg]; simp
  refine ⟨[], rfl, le5 rfl, fun i e => ∃ x3 x4 : Sl, nOw x3 ∧ nOw x4 ∧ e = ⟨[.im (.dat (encW w)), .im (.dat (encP g)), .ow (.lst (((g.take i).map (·.1)).map nD)), x3, x4], n⟩, ⟨.un, .un, trivial, trivial, rfl⟩, ?_, ?_⟩
  · rintro i d e hd ⟨x3, x4, h3, h4, rfl⟩
    obtain ⟨y, hy, rfl⟩ := enumD_get hd
    rw [List.getElem?_map] at hy
    obtain ⟨j, hj, rfl⟩ := Option.map_eq_some_iff.mp hy
    refine ⟨⟨h3, h4, trivial⟩, rfl, rfl, ?_⟩
    refine ⟨w, j, rfl, sw, ok j (List.mem_of_getElem? hj), ?_⟩
    refine ite_b (c := false) rfl (fun q => by cases q) (fun _ => ?_)
    have hni : j.1 ∉ (g.take i).map (·.1) := by
      intro z
      have hk : (g.map (·.1))[i]? = some j.1 := by rw [List.getElem?_map, hj]; rfl
      have := idx_get nd hk
      rw [List.map_take] at z
      have := (mem_take nd (List.mem_of_getElem? hk)).mp z
      omega
    refine ⟨_, rfl, shaped_int, shaped_nice (n := 1) (nice_list nice_nats), ite_b (c := false) ?_ (fun q => by cases q) (fun _ => ?_)⟩
    · rw [any_nD]; exact decide_eq_false hni
    refine ⟨_, rfl, ?_, .im (.dat (nD i)), .im (.dat (encJ j)), trivial, trivial, ?_⟩
    · rw [List.length_map, List.length_map, List.length_take]; omega
    · rw [List.take_succ, hj, Option.toList_some, List.map_append, List.map_append]; rfl
  · rintro e ⟨x3, x4, h3, h4, rfl⟩
    exact h
abbrev s_program_error : Stmt := top 29
theorem sc_program_error : FnScope ["web", "value"] ["web", "value"] (defScope s_program_error) := ⟨rfl, rfl, rfl, by decide +kernel, rfl, by decide +kernel, by decide +kernel⟩
theorem ok_program_error (G : Fun K x qual s_program_error f fd) (T : Txt3 mg) (f_program_fault : PFn P w K mg base A "program_fault" ["web", "value"] fs_program_fault 3) : FnOk P w K mg base CX0 4 f fd ["web", "value"] (spD A K fs_program_fault) := by
  refine Fun.okD G sc_program_error (by decide) (fun as n p ⟨w, g, e, _⟩ => by rw [e]; rfl) fun cdv A' outer s H E hr => ⟨_, _,
  (psds_one (psd_ret (pd_fn f_program_fault hr (by decide) (by rfl) (pad_cons (pd_var 0) (pad_cons (pd_var 1) pad_nil))))), fun as n p ⟨w, g, e, h⟩ => ?_⟩
  subst e
  exact ⟨w, g, rfl, h⟩
abbrev s_no_worths : Stmt := top 25
theorem sc_no_worths : FnScope ["web", "kind", "inputs"] ["web"] (defScope s_no_worths) := ⟨rfl, rfl, rfl, by decide +kernel, rfl, by decide +kernel, by decide +kernel⟩
def fs_no_worths : FS := fun as n p => ∃ (w : List Sp1), as = [.dat (encW w)] ∧ w.length < 64 ∧ p (.val (.dat (.tuple ((List.replicate (inpN w) (0 : Int)).map PyData.int)))) n
theorem ok_no_worths (G : Fun K x qual s_no_worths f fd) (T : Txt3 mg) : FnOk P w K mg base CX0 1 f fd ["web"] (spD A K fs_no_worths) := by
  refine Fun.okD G sc_no_worths (by decide) (fun as n p ⟨w, e, _⟩ => by rw [e]; rfl) fun cdv A' outer s H E hr => ⟨_, _,
  (psds_one (psd_ret (pd_callTy call_tuple' (by rfl) T.b_tuple (by decide +kernel) (pad_cons (pd_lc (own := [("kind", 1), ("inputs", 2)]) rfl sc_no_worths.nd (pid_seq (pd_var 0)) (blkOk_by rfl) (fun _ _ _ _ _ => ⟨_, (pgd_tup (n := 2) rfl (pgds_cons (pgd_name (i := 1) (by decide) sc_no_worths.nd rfl (by first | exact Or.inl rfl | exact Or.inr rfl)) (pgds_cons (pgd_name (i := 2) (by decide) sc_no_worths.nd rfl (by first | exact Or.inl rfl | exact Or.inr rfl)) pgds_nil)))⟩) (fun _ _ _ _ _ => ⟨_, (pdts_one (pdt_cmp (op_eq' hr.units) (pd_var 1) (pd_gStr T.g_IN (by rfl)) (nomark _)))⟩) (fun _ _ _ _ _ => ⟨_, pd_int⟩)) pad_nil)))), fun as n p ⟨w, e, hl, h⟩ => ?_⟩
  subst e
  refine lc_pure encS (fun x => if decide (x.1 = .inp) = true then some (PyData.int 0) else none) w rfl ⟨trivial, trivial, trivial⟩ (by omega) (fun x hx k hk => ?_) ?_
  · refine ⟨rfl, rfl, x.1.shp, Kd.shp .inp, ?_⟩
    exact ite_b (Kd.eqd x.1 .inp) (fun q => hk _ _ (if_pos q) rfl) (fun q => hk _ _ (if_neg (by rw [q]; decide)) rfl)
  · rw [filterMap_ite]
    have e : ((w.filter fun x => decide (x.1 = Kd.inp)).map fun _ => PyData.int 0) = (List.replicate (inpN w) (0 : Int)).map PyData.int := by
      unfold inpN
      rw [List.map_replicate, List.map_const']
    rw [e]
    exact h
end
end K39

namespace K39
open PySem L2 PL
structure Txt4 (mg : Str → Option Value) : Prop where
  b_enumerate : mg "enumerate" = none
section
variable {P : Program} {w : World} {K : PySem.W.Frag} {mg : Str → Option Value} {base : Heap} {A : Amb} {f f0 : Addr} {fd : FuncData} {x qual : Str}
def posI (row : List Nat) (s : Nat) : Int := (row.idxOf s : Nat)
theorem pos_look {row ks : List Nat} {s : Nat} (h : s ∈ ks) : lookD (kvN (posI row) ks) (.inl (s : Int)) = some (.int (posI row s)) := by rw [kvN_look, if_pos h]
abbrev s_places_of : Stmt := top 36
theorem sc_places_of : FnScope ["row", "place", "step"] ["row"] (defScope s_places_of) := ⟨rfl, rfl, rfl, by decide +kernel, rfl, by decide +kernel, by decide +kernel⟩
def fs_places_of : FS := fun as n p => ∃ (row : List Nat), as = [.dat (encN row)] ∧ row.Nodup ∧ row.length < 1000 ∧ p (.new (.dic (kvN (posI row) row))) n
theorem ok_places_of (G : Fun K x qual s_places_of f fd) (T : Txt4 mg) : FnOk P w K mg base CX0 1 f fd ["row"] (spD A K fs_places_of) := by
  refine Fun.okD G sc_places_of (by decide) (fun as n p ⟨row, e, _⟩ => by rw [e]; rfl) fun cdv A' outer s H E hr => ⟨_, _,
  (psds_one (psd_ret (pd_dc (own := [("place", 1), ("step", 2)]) rfl sc_places_of.nd (pid_enum (by rfl) T.b_enumerate (pd_var 0)) (blkOk_by rfl) (fun _ _ _ _ _ => ⟨_, (pgd_tup (n := 2) rfl (pgds_cons (pgd_name (i := 1) (by decide) sc_places_of.nd rfl (by first | exact Or.inl rfl | exact Or.inr rfl)) (pgds_cons (pgd_name (i := 2) (by decide) sc_places_of.nd rfl (by first | exact Or.inl rfl | exact Or.inr rfl)) pgds_nil)))⟩) (fun _ _ _ _ _ => ⟨_, pdts_nil⟩) (fun _ _ _ _ _ => ⟨_, (pd_var 2)⟩) (fun _ _ _ _ _ => ⟨_, (pd_var 1)⟩)))), fun as n p ⟨row, e, nd, hl, h⟩ => ?_⟩
  subst e
  have go : ∀ (pre suf : List Nat) (e : En), row = pre ++ suf → ewipe e [1, 2] = ⟨[.im (.dat (encN row)), .un, .un], n⟩ → ∀ k : List (Key × D) → En → Prop, (∀ e', ewipe e' [1, 2] = ⟨[.im (.dat (encN row)), .un, .un], n⟩ → k (kvN (posI row) row) e') →
      dcLoop (wgTup 2 (wgCons (wgName 1) (wgCons (wgName 2) wgNil))) wYes (wVar 2) (wVar 1) [1, 2] ((enumD (row.map nD)).drop pre.length) (kvN (posI row) pre) e k := by
    intro pre suf
    induction suf generalizing pre with
    | nil =>
      intro e hr he k hk
      rw [List.append_nil] at hr
      subst hr
      rw [List.drop_of_length_le (by rw [enumD_len, List.length_map]; exact Nat.le_refl _)]
      exact hk e he
    | cons a suf ih =>
      intro e hr he k hk
      have hlt : pre.length < row.length := by rw [hr]; simp
      have ha : row[pre.length]? = some a := by rw [hr, List.getElem?_append_right (Nat.le_refl _), Nat.sub_self]; rfl
      have hd : (enumD (row.map nD)).drop pre.length = .tuple [nD pre.length, nD a] :: (enumD (row.map nD)).drop (pre.length + 1) := by
        have hl' : pre.length < (enumD (row.map nD)).length := by rw [enumD_len, List.length_map]; exact hlt
        rw [List.drop_eq_getElem_cons hl']
        congr 1
        obtain ⟨y, h1, h2⟩ := enumD_get (List.getElem?_eq_getElem hl')
        rw [List.getElem?_map, ha] at h1
        have : y = nD a := by simpa using h1.symm
        rw [h2, this]; rfl
      rw [hd]
      show wgTup 2 (wgCons (wgName 1) (wgCons (wgName 2) wgNil)) (.tuple [nD pre.length, nD a]) (ewipe e [1, 2]) _
      rw [he]
      refine ⟨rfl, rfl, .inl (a : Int), rfl, ?_⟩
      have hni : a ∉ pre := by
        rw [hr] at nd
        intro z
        exact (List.nodup_append.mp nd).2.2 a z a (by simp) rfl
      have hp : (nD pre.length) = .int (posI row a) := by
        show PyData.int _ = PyData.int _
        unfold posI
        rw [idx_get nd ha]
      rw [hp, kvN_put hni]
      have := ih (pre ++ [a]) ⟨[.im (.dat (encN row)), .im (.dat (nD pre.length)), .im (.dat (nD a))], n⟩ (by rw [hr]; simp) rfl k hk
      rw [List.length_append, List.length_singleton] at this
      rw [hp] at this
      exact this
  refine ⟨⟨trivial, trivial, trivial⟩, by rw [enumD_len, List.length_map]; omega, ?_⟩
  refine go [] row _ rfl rfl _ fun e' he' => ?_
  have hn : e'.n = n := by have := congrArg En.n he'; rwa [ewipe_n] at this
  have he2 := erest_eq (vs := [1, 2]) (e1 := ⟨[.im (.dat (encN row)), .un, .un], n⟩) (e2 := e') (congrArg En.sl he')
  show Rs.fre _ (p _ (erest _ e' [1, 2]).n)
  rw [erest_n, hn]
  exact h
/-- three numbers that tell a tie -/
def tie3 (g a p : Nat) : List Int := [(g : Int), (a : Int), (p : Int)]
structure TieIn (ks : List Nat) (t : List Int) : Prop where
  ex : ∃ g a p : Nat, t = tie3 g a p ∧ g ∈ ks ∧ a ∈ ks
abbrev s_late_tie : Stmt := top 33
theorem sc_late_tie : FnScope ["places", "some", "late", "tie"] ["places", "some"] (defScope s_late_tie) := ⟨rfl, rfl, rfl, by decide +kernel, rfl, by decide +kernel, by decide +kernel⟩
def fs_late_tie : FS := fun as n p => ∃ (row : List Nat) (ss : List (List Int)), as = [.dic (kvN (posI row) row), .dat (.tuple (ss.map encI))] ∧ ss.length < 1000 ∧ (∀ t ∈ ss, ∃ g a p : Nat, t = tie3 g a p ∧ g ∈ row ∧ a ∈ row ∧ row.idxOf g < row.idxOf a) ∧ p (.val (.dat .none)) n
theorem ok_late_tie (G : Fun K x qual s_late_tie f fd) (T : Txt4 mg) : FnOk P w K mg base CX0 1 f fd ["places", "some"] (spD A K fs_late_tie) := by
  refine Fun.okD G sc_late_tie (by decide) (fun as n p ⟨row, ss, e, _⟩ => by rw [e]; rfl) fun cdv A' outer s H E hr => ⟨_, _,
  (psds_cons (psd_setLc (i := 2) rfl sc_late_tie.nd rfl rfl (sw_true rfl rfl rfl (by decide +kernel)) (own := [("tie", 3)]) (pid_seq (pd_var 1)) (blkOk_by rfl) (fun _ _ _ _ _ => ⟨_, (pgd_name (i := 3) (by decide) sc_late_tie.nd rfl (by first | exact Or.inl rfl | exact Or.inr rfl))⟩) (fun _ _ _ _ _ => ⟨_, (pdts_one (pdt_cmp op_ge' (pd_ix (ix' (u1 hr)) (pd_var 0) (pd_ix (ix' (u1 hr)) (pd_var 3) pd_int (fun _ _ => rfl)) (fun _ _ => rfl)) (pd_ix (ix' (u1 hr)) (pd_var 0) (pd_ix (ix' (u1 hr)) (pd_var 3) pd_int (fun _ _ => rfl)) (fun _ _ => rfl)) (nomark _)))⟩) (fun _ _ _ _ _ => ⟨_, (pd_var 3)⟩))
      (psds_one (psd_ret (pd_ifExp (pdt_cmp (op_ne' hr.units) (pd_var 2) (pd_lst pad_nil) (nomark _)) (pd_ix (ix' (u1 hr)) (pd_var 2) pd_int (fun _ _ => rfl)) pd_non)))), fun as n p ⟨row, ss, e, hl, ht, h⟩ => ?_⟩
  subst e
  refine lc_pure encI (fun t => none) ss rfl ⟨trivial, trivial⟩ (by omega) (fun t htm k hk => ?_) ?_
  · obtain ⟨g, a, p, rfl, hg, ha, hlt⟩ := ht t htm
    refine ⟨_, rfl, _, _, rfl, pos_look hg, _, rfl, _, _, rfl, pos_look ha, ite_b (c := false) ?_ (fun q => by cases q) (fun _ => hk _ _ rfl rfl)⟩
    exact decide_eq_false (by unfold posI; omega)
  · have e : (ss.filterMap fun t => (none : Option D)) = [] := by rw [List.filterMap_eq_nil_iff]; exact fun _ _ => rfl
    rw [e]
    refine ⟨[], rfl, le5 rfl, rfl, shaped_nice (n := 1) (nice_list fun _ h => by cases h), shaped_nice (n := 1) (nice_list fun _ h => by cases h), ?_⟩
    exact ite_b (c := false) rfl (fun q => by cases q) (fun _ => h)
abbrev s_do_cross : Stmt := top 34
theorem sc_do_cross : FnScope ["places", "tie", "another"] ["places", "tie", "another"] (defScope s_do_cross) := ⟨rfl, rfl, rfl, by decide +kernel, rfl, by decide +kernel, by decide +kernel⟩
def fs_do_cross : FS := fun as n p => ∃ (row : List Nat) (t t' : List Int), as = [.dic (kvN (posI row) row), .dat (encI t), .dat (encI t')] ∧ (∃ g a p g' a' p' : Nat, t = tie3 g a p ∧ t' = tie3 g' a' p' ∧ g ∈ row ∧ a ∈ row ∧ g' ∈ row ∧ a' ∈ row ∧ ¬ (row.idxOf g < row.idxOf g' ∧ row.idxOf g' < row.idxOf a ∧ row.idxOf a < row.idxOf a')) ∧ p (vBl false) n
theorem ok_do_cross (G : Fun K x qual s_do_cross f fd) (T : Txt4 mg) : FnOk P w K mg base CX0 1 f fd ["places", "tie", "another"] (spD A K fs_do_cross) := by
  refine Fun.okD G sc_do_cross (by decide) (fun as n p ⟨row, t, t', e, _⟩ => by rw [e]; rfl) fun cdv A' outer s H E hr => ⟨_, _,
  (psds_one (psd_ret (pd_chain3 op_lt' op_lt' op_lt' (pd_ix (ix' (u1 hr)) (pd_var 0) (pd_ix (ix' (u1 hr)) (pd_var 1) pd_int (fun _ _ => rfl)) (fun _ _ => rfl)) (pd_ix (ix' (u1 hr)) (pd_var 0) (pd_ix (ix' (u1 hr)) (pd_var 2) pd_int (fun _ _ => rfl)) (fun _ _ => rfl)) (pd_ix (ix' (u1 hr)) (pd_var 0) (pd_ix (ix' (u1 hr)) (pd_var 1) pd_int (fun _ _ => rfl)) (fun _ _ => rfl)) (pd_ix (ix' (u1 hr)) (pd_var 0) (pd_ix (ix' (u1 hr)) (pd_var 2) pd_int (fun _ _ => rfl)) (fun _ _ => rfl))))), fun as n p ⟨row, t, t', e, ⟨g, a, q, g', a', q', et, et', h1, h2, h3, h4, hc⟩, h⟩ => ?_⟩
  subst e et et'
  refine ⟨_, rfl, _, _, rfl, pos_look h1, _, rfl, _, _, rfl, pos_look h3, ?_⟩
  refine ite_b (c := decide (row.idxOf g < row.idxOf g')) (decide_eq_decide.mpr (by unfold posI; omega)) (fun q1 => ?_) (fun _ => h)
  refine ⟨_, rfl, _, _, rfl, pos_look h2, ?_⟩
  refine ite_b (c := decide (row.idxOf g' < row.idxOf a)) (decide_eq_decide.mpr (by unfold posI; omega)) (fun q2 => ?_) (fun _ => h)
  refine ⟨_, rfl, _, _, rfl, pos_look h4, ?_⟩
  have q1 := of_decide_eq_true q1
  have q2 := of_decide_eq_true q2
  have e : decide (posI row a < posI row a') = false := decide_eq_false (by unfold posI; omega)
  show p (vBl (decide (posI row a < posI row a'))) n
  rw [e]
  exact h
abbrev s_first_pair : Stmt := top 35
theorem sc_first_pair : FnScope ["places", "some", "fits", "tie", "another"] ["places", "some", "fits"] (defScope s_first_pair) := ⟨rfl, rfl, rfl, by decide +kernel, rfl, by decide +kernel, by decide +kernel⟩
def fs_first_pair (f0 : Addr) (fs0 : FS) : FS := fun as n p => ∃ (kvs : List (Key × D)) (ss : List (List Int)), as = [.dic kvs, .dat (.tuple (ss.map encI)), .raw (.ref f0)] ∧ (∀ t ∈ ss, ∀ t' ∈ ss, ∀ p' : Rs → Gh → Prop, p' (vBl false) n → fs0 [.dic kvs, .dat (encI t), .dat (encI t')] n p') ∧ p (.val (.dat .none)) n
theorem ok_first_pair {fs0 : FS} (G : Fun K x qual s_first_pair f fd) (T : Txt4 mg) (f_fits : PFnA P w K mg base A f0 ["places", "tie", "another"] fs0 1) : FnOk P w K mg base CX0 2 f fd ["places", "some", "fits"] (spD A K (fs_first_pair f0 fs0)) := by
  refine Fun.okD G sc_first_pair (by decide) (fun as n p ⟨kvs, ss, e, _⟩ => by rw [e]; rfl) fun cdv A' outer s H E hr => ⟨_, _,
  (psds_cons (psd_for (ks := [3]) PassesOwn.never rfl (pid_seq (pd_var 1)) (pgd_name (i := 3) (by decide) sc_first_pair.nd rfl (by first | exact Or.inl rfl | exact Or.inr rfl)) (psds_one (psd_for (ks := [4]) PassesOwn.never rfl (pid_seq (pd_var 1)) (pgd_name (i := 4) (by decide) sc_first_pair.nd rfl (by first | exact Or.inl rfl | exact Or.inr rfl)) (psds_one (psd_if (pdt_val (pd_callL (i := 2) f_fits hr (by decide) rfl (by first | exact Or.inl rfl | exact Or.inr (Or.inl rfl) | exact Or.inr (Or.inr rfl)) (pad_cons (pd_var 0) (pad_cons (pd_var 3) (pad_cons (pd_var 4) pad_nil))))) (psds_one (psd_ret (pd_tup (pad_cons (pd_var 3) (pad_cons (pd_var 4) pad_nil))))) psds_nil)))))
      (psds_one (psd_ret pd_non))), fun as n p ⟨kvs, ss, e, hf, h⟩ => ?_⟩
  subst e
  refine ⟨fun i e => ∃ x3 x4 : Sl, nOw x3 ∧ nOw x4 ∧ e = ⟨[.im (.dic kvs), .im (.dat (.tuple (ss.map encI))), .im (.raw (.ref f0)), x3, x4], n⟩, ⟨.un, .un, trivial, trivial, rfl⟩, ?_, ?_⟩
  · rintro i d e hd ⟨x3, x4, h3, h4, rfl⟩
    rw [List.getElem?_map] at hd
    obtain ⟨t, ht, rfl⟩ := Option.map_eq_some_iff.mp hd
    refine ⟨⟨h3, trivial⟩, ?_⟩
    refine ⟨fun j e => ∃ x4 : Sl, nOw x4 ∧ e = ⟨[.im (.dic kvs), .im (.dat (.tuple (ss.map encI))), .im (.raw (.ref f0)), .im (.dat (encI t)), x4], n⟩, ⟨x4, h4, rfl⟩, ?_, ?_⟩
    · rintro j d e hd' ⟨x4, h4, rfl⟩
      rw [List.getElem?_map] at hd'
      obtain ⟨t', ht', rfl⟩ := Option.map_eq_some_iff.mp hd'
      refine ⟨⟨h4, trivial⟩, rfl, hf t (List.mem_of_getElem? ht) t' (List.mem_of_getElem? ht') _ ?_⟩
      exact ite_b (c := false) rfl (fun q => by cases q) (fun _ => ⟨.im (.dat (encI t')), trivial, rfl⟩)
    · rintro e ⟨x4, h4, rfl⟩
      exact ⟨.im (.dat (encI t)), x4, trivial, h4, rfl⟩
  · rintro e ⟨x3, x4, h3, h4, rfl⟩
    exact h
abbrev s_order_fault : Stmt := top 37
theorem sc_order_fault : FnScope ["web", "value", "word", "fits", "late", "pair", "places", "every"] ["web", "value", "word", "fits"] (defScope s_order_fault) := ⟨rfl, rfl, rfl, by decide +kernel, rfl, by decide +kernel, by decide +kernel⟩
def fs_order_fault (f0 : Addr) : FS := fun as n p => ∃ (w : List Sp1) (row : List Nat) (word : Str), as = [.dat (encW w), .dat (encN row), .dat (.str word), .raw (.ref f0)] ∧ SW w ∧ row.Perm (List.range w.length) ∧ NCq false w row.idxOf ∧ p (.val (.dat .none)) n
theorem ok_order_fault (G : Fun K x qual s_order_fault f fd) (T : Txt4 mg) (f_is_row : PFn P w K mg base A "is_row" ["web", "value"] fs_is_row 2) (f_places_of : PFn P w K mg base A "places_of" ["row"] fs_places_of 1) (f_ties : PFn P w K mg base A "ties" ["web"] fs_ties 1)
    (f_late_tie : PFn P w K mg base A "late_tie" ["places", "some"] fs_late_tie 1) (f_first_pair : PFn P w K mg base A "first_pair" ["places", "some", "fits"] (fs_first_pair f0 fs_do_cross) 2) : FnOk P w K mg base CX0 3 f fd ["web", "value", "word", "fits"] (spD A K (fs_order_fault f0)) := by
  refine Fun.okD G sc_order_fault (by decide) (fun as n p ⟨w, row, word, e, _⟩ => by rw [e]; rfl) fun cdv A' outer s H E hr => ⟨_, _,
  (psds_cons (psd_if (pdt_not (pdt_val (pd_fn f_is_row hr (by decide) (by rfl) (pad_cons (pd_var 0) (pad_cons (pd_var 1) pad_nil))))) (psds_one (psd_ret (pd_tup (pad_cons pd_str pad_nil)))) psds_nil)
      (psds_cons (psd_par (i := 6) (j := 7) rfl sc_order_fault.nd rfl rfl (by decide) rfl rfl (pd_fn f_places_of hr (by decide) (by rfl) (pad_cons (pd_var 1) pad_nil)) (pd_fn f_ties hr (by decide) (by rfl) (pad_cons (pd_var 0) pad_nil)) (by rfl))
      (psds_cons (psd_set (i := 4) sc_order_fault.nd rfl (by first | exact Or.inl rfl | exact Or.inr rfl) (pd_fn f_late_tie hr (by decide) (by rfl) (pad_cons (pd_var 6) (pad_cons (pd_var 7) pad_nil))))
      (psds_cons (psd_if (pdt_cmp op_notN' (pd_var 4) pd_non (nomark _)) (psds_one (psd_ret (pd_tup (pad_cons pd_str (pad_cons (pd_var 4) pad_nil))))) psds_nil)
      (psds_cons (psd_set (i := 5) sc_order_fault.nd rfl (by first | exact Or.inl rfl | exact Or.inr rfl) (pd_fn f_first_pair hr (by decide) (by rfl) (pad_cons (pd_var 6) (pad_cons (pd_var 7) (pad_cons (pd_var 3) pad_nil)))))
      (psds_one (psd_ret (pd_ifExp (pdt_cmp op_notN' (pd_var 5) pd_non (nomark _)) (pd_tup (pad_cons (pd_var 2) (pad_cons (pd_ix (ix' (u1 hr)) (pd_var 5) pd_int (fun _ _ => rfl)) (pad_cons (pd_ix (ix' (u1 hr)) (pd_var 5) pd_int (fun _ _ => rfl)) pad_nil)))) pd_non)))))))), fun as n p ⟨w, row, word, e, sw, hp, nc, h⟩ => ?_⟩
  subst e
  have lr := hp.length_eq
  rw [List.length_range] at lr
  have l10 := sw.l1
  have nd : row.Nodup := hp.nodup_iff.mpr List.nodup_range
  have hm : ∀ {s}, s < w.length → s ∈ row := fun h => hp.mem_iff.mpr (List.mem_range.mpr h)
  have tl : ∀ ss : List (List Int), (∀ t ∈ ss, ∃ g a p : Nat, t = tie3 g a p ∧ g ∈ inpW w a ∧ a < w.length) → wSeq (wIfS (wTest (wOp oNotN (wVar 4) (wC .none))) (wRet (wTup (wCons (wC (.str "late")) (wCons (wVar 4) wNil)))) wSkip)
      (wSeq (wSet 5 (wCall (fs_first_pair f0 fs_do_cross) (wCons (wVar 6) (wCons (wVar 7) (wCons (wVar 3) wNil))))) (wRet (wIf (wTest (wOp oNotN (wVar 5) (wC .none))) (wTup (wCons (wVar 2) (wCons (wOp oIx (wVar 5) (wC (.int 0))) (wCons (wOp oIx (wVar 5) (wC (.int 1))) wNil)))) (wC .none)))) { nx := fun e => p (.val (.dat .none)) e.n, rt := p }
      ⟨[.im (.dat (encW w)), .im (.dat (encN row)), .im (.dat (.str word)), .im (.raw (.ref f0)), .im (.dat .none), .un, .im (.dic (kvN (posI row) row)), .im (.dat (.tuple (ss.map encI)))], n⟩ := by
    intro ss tie
    refine ⟨_, ss, rfl, fun t ht t' ht' p' hp' => ?_, ?_⟩
    · obtain ⟨g, a, p, e, hg, ha⟩ := tie t ht
      obtain ⟨g', a', p2, e', hg', ha'⟩ := tie t' ht'
      refine ⟨row, t, t', rfl, ⟨g, a, p, g', a', p2, e, e', hm (inpW_bd sw.bd hg).1, hm ha, hm (inpW_bd sw.bd hg').1, hm ha', fun ⟨c1, c2, c3⟩ => ?_⟩, hp'⟩
      have := nc.cross a ha a' ha' g hg g' hg' ⟨c1, c2⟩
      omega
    · exact h
  refine ⟨w, row, rfl, by omega, hp, ite_b (c := false) rfl (fun q => by cases q) (fun _ => ?_)⟩
  refine ⟨row, rfl, nd, by omega, w, rfl, sw.tok, fun ss h1 _ => ?_⟩
  have hss := h1.length_eq
  have hmany := sw.tok.many
  have tie : ∀ t ∈ ss, ∃ g a p : Nat, t = tie3 g a p ∧ g ∈ inpW w a ∧ a < w.length := fun t ht => by
    obtain ⟨a, y, p, g, ha, hg, e⟩ := tiesL_mem (h1.mem_iff.mp ht)
    exact ⟨g, a, p, e, by rw [inpW_of ha]; exact List.mem_of_getElem? hg, (List.getElem?_eq_some_iff.mp ha).1⟩
  refine ⟨rfl, row, ss, rfl, by omega, fun t ht => ?_, ?_⟩
  · obtain ⟨g, a, p, e, hg, ha⟩ := tie t ht
    exact ⟨g, a, p, e, hm (inpW_bd sw.bd hg).1, hm ha, nc.late a ha g hg⟩
  exact tl ss tie
abbrev s_order_error : Stmt := top 39
theorem sc_order_error : FnScope ["web", "value"] ["web", "value"] (defScope s_order_error) := ⟨rfl, rfl, rfl, by decide +kernel, rfl, by decide +kernel, by decide +kernel⟩
def fs_order_error : FS := fun as n p => ∃ (w : List Sp1) (row : List Nat), as = [.dat (encW w), .dat (encN row)] ∧ SW w ∧ row.Perm (List.range w.length) ∧ NCq false w row.idxOf ∧ p (.val (.dat .none)) n
theorem ok_order_error (G : Fun K x qual s_order_error f fd) (T : Txt4 mg) (g_do_cross : mg "do_cross" = some (.ref f0)) (f_order_fault : PFn P w K mg base A "order_fault" ["web", "value", "word", "fits"] (fs_order_fault f0) 3) : FnOk P w K mg base CX0 4 f fd ["web", "value"] (spD A K fs_order_error) := by
  refine Fun.okD G sc_order_error (by decide) (fun as n p ⟨w, row, e, _⟩ => by rw [e]; rfl) fun cdv A' outer s H E hr => ⟨_, _,
  (psds_one (psd_ret (pd_fn f_order_fault hr (by decide) (by rfl) (pad_cons (pd_var 0) (pad_cons (pd_var 1) (pad_cons pd_str (pad_cons (pd_globR (v := .ref _) (by rfl) g_do_cross rfl) pad_nil))))))), fun as n p ⟨w, row, e, sw, hp, nc, h⟩ => ?_⟩
  subst e
  exact ⟨w, row, _, rfl, sw, hp, nc, h⟩
end
end K39

namespace K39
open PySem L2 PL
structure Txt5 (mg : Str → Option Value) : Prop where
  b_len : mg "len" = none
  b_tuple : mg "tuple" = none
theorem dropsO {K : PySem.W.Frag} {B : Bse} {n : Gh} : Drops (amO K B) n n := Drops.refl fun c hc => by
  show c.1 ∈ rsG B n
  unfold rsG
  exact List.mem_append_right _ (List.mem_map.mpr ⟨c, hc, rfl⟩)
/-- a machine, as an object of the ghost -/
def mOb (a C dx : Addr) (q : Bool) (h : List Cell) : ObS := ⟨a, C, dx, [("is_queue", .dat (.bool q)), ("held", .dat (.list (h.map encC)))]⟩
section
variable {P : Program} {w : World} {K : PySem.W.Frag} {mg : Str → Option Value} {base : Heap} {B : Bse} {f : Addr} {fd : FuncData} {x qual : Str} {Cm CS : Addr}
abbrev s_Short___init__ : Stmt := inClass (top 3) 0
theorem sc_Short___init__ : FnScope ["self", "index"] ["self", "index"] (defScope s_Short___init__) := ⟨rfl, rfl, rfl, by decide +kernel, rfl, by decide +kernel, by decide +kernel⟩
theorem ok_Short {Cw : Addr} (G : Fun K x qual s_Short___init__ f fd) (oex : OexC K CS) (hno : PySem.W.findIn K (.ref CS) "index" = some none) (hm : mg "WebError" = some (.ref Cw)) (hb : BaseI K Cw) : FnOk P w K mg base CX0 1 f fd ["self", "index"] (spErr CS "index") := by
  refine G.ok sc_Short___init__ (fun vs H Q E ⟨a, v, e, _⟩ => by rw [e]; rfl) fun cdv A' outer s H vs Q E hr ⟨a, v, e, ha, k⟩ => ?_
  subst e
  exact ⟨_, pss_cons (ps_expr (pe_weinit hb (by rfl) hm (pa_cons (pe_var (i := 0) rfl (Or.inl rfl)) (pa_cons pe_str pa_nil))) rfl) (pss_one (ps_ost (pe_var (i := 0) rfl (Or.inl rfl)) (pe_var (i := 1) rfl (Or.inl rfl)) rfl)), pure_err (Q := Q) (E0' := fun _ _ => True) oex hno ha k⟩
abbrev s_Left___init__ : Stmt := inClass (top 4) 0
theorem sc_Left___init__ : FnScope ["self", "many"] ["self", "many"] (defScope s_Left___init__) := ⟨rfl, rfl, rfl, by decide +kernel, rfl, by decide +kernel, by decide +kernel⟩
theorem ok_Left {CL Cw : Addr} (G : Fun K x qual s_Left___init__ f fd) (oex : OexC K CL) (hno : PySem.W.findIn K (.ref CL) "many" = some none) (hm : mg "WebError" = some (.ref Cw)) (hb : BaseI K Cw) : FnOk P w K mg base CX0 1 f fd ["self", "many"] (spErr CL "many") := by
  refine G.ok sc_Left___init__ (fun vs H Q E ⟨a, v, e, _⟩ => by rw [e]; rfl) fun cdv A' outer s H vs Q E hr ⟨a, v, e, ha, k⟩ => ?_
  subst e
  exact ⟨_, pss_cons (ps_expr (pe_weinit hb (by rfl) hm (pa_cons (pe_var (i := 0) rfl (Or.inl rfl)) (pa_cons pe_str pa_nil))) rfl) (pss_one (ps_ost (pe_var (i := 0) rfl (Or.inl rfl)) (pe_var (i := 1) rfl (Or.inl rfl)) rfl)), pure_err (Q := Q) (E0' := fun _ _ => True) oex hno ha k⟩
abbrev s_Machine___init__ : Stmt := inClass (top 23) 0
theorem sc_Machine___init__ : FnScope ["self", "is_queue"] ["self", "is_queue"] (defScope s_Machine___init__) := ⟨rfl, rfl, rfl, by decide +kernel, rfl, by decide +kernel, by decide +kernel⟩
def fs_mk (Cm : Addr) : FS := fun as n p => ∃ (a dx : Addr) (q : Bool) (i : Nat), as = [.raw (.ref a), .dat (.bool q)] ∧ n.os[i]? = some ⟨a, Cm, dx, []⟩ ∧ p (.val (.dat .none)) (n.setO i (mOb a Cm dx q []))
theorem ok_mk (G : Fun K x qual s_Machine___init__ f fd) (T : Txt5 mg) (hC_Machine : Cls K Cm) (hn_Machine_is_queue : NoAttr K Cm "is_queue") (hn_Machine_held : NoAttr K Cm "held") : FnOk P w K mg base CX0 1 f fd ["self", "is_queue"] (spD (amO K B) K (fs_mk Cm)) := by
  refine Fun.okD G sc_Machine___init__ (by decide) (fun as n p ⟨a, dx, q, i, e, _⟩ => by rw [e]; rfl) fun cdv A' outer s H E hr => ⟨_, _,
  (psds_cons (psd_setF hC_Machine hn_Machine_is_queue (pd_var 0) (pd_var 1))
      (psds_one (psd_setF hC_Machine hn_Machine_held (pd_var 0) (pd_lst pad_nil)))), fun as n p ⟨a, dx, q, i, e, hi, h⟩ => ?_⟩
  subst e
  refine ⟨i, _, hi, rfl, rfl, by show 0 < 900; decide, ?_⟩
  refine ⟨[], rfl, le5 rfl, i, _, setO_get hi, rfl, rfl, by show 1 < 900; decide, ?_⟩
  show p (.val (.dat .none)) ((n.setO i _).setO i (mOb a Cm dx q []))
  rw [setO_setO]
  exact h
theorem cut_top (h : List Cell) (m : Nat) : (cutD ((h.map encC)) (some ((h.length - m : Nat) : Int)) none).reverse = (topM false h m).map encC := by
  rw [cutD_drop, ← List.map_drop, ← List.map_reverse]; rfl
abbrev s_Machine_take : Stmt := inClass (top 23) 1
theorem sc_Machine_take : FnScope ["self", "index", "many", "rest", "found"] ["self", "index", "many"] (defScope s_Machine_take) := ⟨rfl, rfl, rfl, by decide +kernel, rfl, by decide +kernel, by decide +kernel⟩
def fx_take (Cm CS : Addr) : FX := fun as n p px => ∃ (i : Nat) (a dx : Addr) (q : Bool) (h : List Cell) (ix m : Nat), as = [.raw (.ref a), .dat (nD ix), .dat (nD m)] ∧ n.os[i]? = some (mOb a Cm dx q h) ∧ h.length ≤ 90000 ∧
  (h.length < m → px (.ref CS) [("index", nD ix)] n) ∧ (m ≤ h.length → p (.new (.lst ((topM q h m).map encC))) (n.setO i (mOb a Cm dx q (restM q h m))))
theorem ok_take (G : Fun K x qual s_Machine_take f fd) (T : Txt5 mg) (hC_Machine : Cls K Cm) (hn_Machine_is_queue : NoAttr K Cm "is_queue") (hn_Machine_held : NoAttr K Cm "held") (e_Short : PErr P w K mg base "Short" CS "index") : FnOk P w K mg base (L2.CX P w) 3 f fd ["self", "index", "many"] (spX (amO K B) K (fx_take Cm CS)) := by
  refine Fun.okDX G sc_Machine_take (by decide) (fun as n p px ⟨i, a, dx, q, h, ix, m, e, _⟩ => by rw [e]; rfl) fun cdv A' outer s H E hr => ⟨_, _,
  (psds_cons (psd_if (pdt_cmp op_gt' (pd_var 2) (pd_callB call_len' (by rfl) T.b_len (by decide +kernel) (pad_cons (pd_fld hC_Machine hn_Machine_held (pd_var 0)) pad_nil)) (nomark _)) (psds_one (psd_raise e_Short rfl (takes_of rfl rfl rfl rfl) hr (by decide) (by rfl) (pad_cons (pd_var 1) pad_nil))) psds_nil)
      (psds_cons (psd_if (pdt_val (pd_fld hC_Machine hn_Machine_is_queue (pd_var 0))) (psds_cons (psd_set (i := 4) sc_Machine_take.nd rfl (by first | exact Or.inl rfl | exact Or.inr rfl) (pd_slice (pd_fld hC_Machine hn_Machine_held (pd_var 0)) pod_none (pod_some (pd_var 2))))
      (psds_cons (psd_setF hC_Machine hn_Machine_held (pd_var 0) (pd_slice (pd_fld hC_Machine hn_Machine_held (pd_var 0)) (pod_some (pd_var 2)) pod_none))
      (psds_one (psd_ret (pd_var 4))))) psds_nil)
      (psds_cons (psd_set (i := 3) sc_Machine_take.nd rfl (by first | exact Or.inl rfl | exact Or.inr rfl) (pd_op op_sub' (pd_callB call_len' (by rfl) T.b_len (by decide +kernel) (pad_cons (pd_fld hC_Machine hn_Machine_held (pd_var 0)) pad_nil)) (pd_var 2)))
      (psds_cons (psd_set (i := 4) sc_Machine_take.nd rfl (by first | exact Or.inl rfl | exact Or.inr rfl) (pd_revL (pd_slice (pd_fld hC_Machine hn_Machine_held (pd_var 0)) (pod_some (pd_var 3)) pod_none)))
      (psds_cons (psd_setF hC_Machine hn_Machine_held (pd_var 0) (pd_slice (pd_fld hC_Machine hn_Machine_held (pd_var 0)) pod_none (pod_some (pd_var 3))))
      (psds_one (psd_ret (pd_var 4)))))))), fun as n p px ⟨i, a, dx, q, h, ix, m, e, hi, hl, h1, h2⟩ => ?_⟩
  subst e
  refine ⟨i, _, hi, rfl, rfl, _, rfl, ?_⟩
  refine ite_b (c := decide (h.length < m)) (by rw [List.length_map]; exact decide_eq_decide.mpr (by omega)) (fun c => ?_) (fun c => ?_)
  · exact ⟨_, rfl, n, dropsO, h1 (of_decide_eq_true c)⟩
  have c : m ≤ h.length := by have := of_decide_eq_false c; omega
  have h2 := h2 c
  refine ⟨i, _, hi, rfl, rfl, _, rfl, ?_⟩
  cases q with
  | true =>
    refine ite_b (c := true) rfl (fun _ => ?_) (fun q => by cases q)
    refine ⟨i, _, hi, rfl, rfl, _, rfl, ?_⟩
    refine ⟨i, _, hi, rfl, rfl, _, rfl, ?_⟩
    refine ⟨i, _, hi, rfl, rfl, by show 2 < 900; decide, ?_⟩
    refine ⟨_, dropsO, ?_⟩
    show p (.new (.lst (cutD (h.map encC) none (some (m : Int))))) (n.setO i ⟨a, Cm, dx, [("is_queue", .dat (.bool true)), ("held", .dat (.list (cutD (h.map encC) (some (m : Int)) none)))]⟩)
    rw [cutD_take, cutD_drop, ← List.map_take, ← List.map_drop]
    exact h2
  | false =>
    refine ite_b (c := false) rfl (fun q => by cases q) (fun _ => ?_)
    have er : (((h.map encC).length : Nat) : Int) - (m : Int) = ((h.length - m : Nat) : Int) := by rw [List.length_map]; omega
    refine ⟨i, mOb a Cm dx false h, hi, rfl, rfl, _, rfl, ?_⟩
    refine ⟨i, mOb a Cm dx false h, hi, rfl, rfl, _, rfl, ?_⟩
    refine ⟨i, mOb a Cm dx false h, hi, rfl, rfl, _, rfl, ?_⟩
    refine ⟨i, _, hi, rfl, rfl, by show 2 < 900; decide, ?_⟩
    refine ⟨_, dropsO, ?_⟩
    show p (.new (.lst (cutD (h.map encC) (some (((h.map encC).length : Nat) - (m : Int))) none).reverse)) (n.setO i ⟨a, Cm, dx, [("is_queue", .dat (.bool false)), ("held", .dat (.list (cutD (h.map encC) none (some (((h.map encC).length : Nat) - (m : Int))))))]⟩)
    rw [er, cut_top, cutD_take, ← List.map_take]
    exact h2
theorem top_len {q : Bool} {h : List Cell} {m : Nat} (hm : m ≤ h.length) : (topM q h m).length = m := by
  unfold topM
  split
  · rw [List.length_take]; omega
  · rw [List.length_reverse, List.length_drop]; omega
theorem top_mem {q : Bool} {h : List Cell} {m : Nat} {c : Cell} (hc : c ∈ topM q h m) : c ∈ h := by
  unfold topM at hc
  split at hc
  · exact List.mem_of_mem_take hc
  · exact List.mem_of_mem_drop (List.mem_reverse.mp hc)
theorem rest_len {q : Bool} {h : List Cell} {m : Nat} : (restM q h m).length ≤ h.length := by
  unfold restM
  split
  · rw [List.length_drop]; omega
  · rw [List.length_take]; omega
theorem top_at {top : List Cell} {t : Nat} (ht : t < top.length) : L2.atI (top.map encC) (t : Int) = some (encC (top.getD t (0, 0))) := by
  refine atI_nat ?_
  rw [List.getElem?_map, List.getD_eq_getElem?_getD, List.getElem?_eq_getElem ht]; rfl
structure InsOk2 (w : List Sp1) (i : Ins) : Prop where
  st : i.1 < w.length
  ar : i.2.1.length = arK (kndW w i.1)
  ts : ∀ t ∈ i.2.1, t < i.2.1.length
  cp : i.2.2 ≤ 30
theorem rep_flat {d : D} : ∀ m, (List.replicate m [d]).flatten = List.replicate m d
  | 0 => rfl
  | m + 1 => by rw [List.replicate_succ, List.flatten_cons, rep_flat m, List.replicate_succ]; rfl
abbrev s_Machine_do : Stmt := inClass (top 23) 2
theorem sc_Machine_do : FnScope ["self", "web", "index", "instruction", "own", "cells", "worth", "step", "takes", "copies", "one"] ["self", "web", "index", "instruction", "own"] (defScope s_Machine_do) := ⟨rfl, rfl, rfl, by decide +kernel, rfl, by decide +kernel, by decide +kernel⟩
def fx_do (Cm CS : Addr) : FX := fun as n p px => ∃ (i : Nat) (a dx : Addr) (q : Bool) (h : List Cell) (w : List Sp1) (wo : List Int) (ix : Nat) (j : Ins), as = [.raw (.ref a), .dat (encW w), .dat (nD ix), .dat (encJ j), .dat (.int (ownV w wo j.1 (kndW w j.1)))] ∧ n.os[i]? = some (mOb a Cm dx q h) ∧ h.length ≤ 5000 ∧ InsOk2 w j ∧ (∀ c ∈ h, c.2.natAbs.log2 < 500000) ∧
  (h.length < j.2.1.length → px (.ref CS) [("index", nD ix)] n) ∧ (j.2.1.length ≤ h.length → p (.val (.dat (.tuple [.int (doW w wo q h j), encN (givM (topM q h j.2.1.length) j.2.1)]))) (n.setO i (mOb a Cm dx q (doH w wo q h j))))
theorem ok_do (G : Fun K x qual s_Machine_do f fd) (T : Txt5 mg) (hC_Machine : Cls K Cm) (hn_Machine_is_queue : NoAttr K Cm "is_queue") (hn_Machine_held : NoAttr K Cm "held") (m_Machine_take : PMeX P w K mg base (amO K B) Cm "take" ["self", "index", "many"] (fx_take Cm CS) 3) (f_worth_of : PFn P w K mg base (amO K B) "worth_of" ["kind", "own", "worths"] fs_worth_of 1) :
    FnOk P w K mg base (L2.CX P w) 5 f fd ["self", "web", "index", "instruction", "own"] (spX (amO K B) K (fx_do Cm CS)) := by
  refine Fun.okDX G sc_Machine_do (by decide) (fun as n p px ⟨i, a, dx, q, h, w, wo, ix, j, e, _⟩ => by rw [e]; rfl) fun cdv A' outer s H E hr => ⟨_, _,
  (psds_cons (psd_asg (ks := [7, 8, 9]) (pd_var 3) (pgd_tup (n := 3) rfl (pgds_cons (pgd_name (i := 7) (by decide) sc_Machine_do.nd rfl (by first | exact Or.inl rfl | exact Or.inr rfl)) (pgds_cons (pgd_name (i := 8) (by decide) sc_Machine_do.nd rfl (by first | exact Or.inl rfl | exact Or.inr rfl)) (pgds_cons (pgd_name (i := 9) (by decide) sc_Machine_do.nd rfl (by first | exact Or.inl rfl | exact Or.inr rfl)) pgds_nil)))))
      (psds_cons (psd_setX (i := 5) sc_Machine_do.nd rfl (by first | exact Or.inl rfl | exact Or.inr rfl) (pdx_meth m_Machine_take hC_Machine (takes_of rfl rfl rfl rfl) hr (by decide) (pd_var 0) (pad_cons (pd_var 2) (pad_cons (pd_callB call_len' (by rfl) T.b_len (by decide +kernel) (pad_cons (pd_var 8) pad_nil)) pad_nil))))
      (psds_cons (psd_set (i := 6) sc_Machine_do.nd rfl (by first | exact Or.inl rfl | exact Or.inr rfl) (pd_fn f_worth_of hr (by decide) (by rfl) (pad_cons (pd_ix (ix' (u1 hr)) (pd_ix (ix' (u1 hr)) (pd_var 1) (pd_var 7) (fun _ _ => rfl)) pd_int (fun _ _ => rfl)) (pad_cons (pd_var 4) (pad_cons (pd_lc (own := [("one", 10)]) rfl sc_Machine_do.nd (pid_seq (pd_var 8)) (blkOk_by rfl) (fun _ _ _ _ _ => ⟨_, (pgd_name (i := 10) (by decide) sc_Machine_do.nd rfl (by first | exact Or.inl rfl | exact Or.inr rfl))⟩) (fun _ _ _ _ _ => ⟨_, pdts_nil⟩) (fun _ _ _ _ _ => ⟨_, (pd_ix (ix' (u1 hr)) (pd_ix (ix' (u1 hr)) (pd_var 5) (pd_var 10) (fun _ _ => rfl)) pd_int (fun _ _ => rfl))⟩)) pad_nil)))))
      (psds_cons (psd_setF hC_Machine hn_Machine_held (pd_var 0) (pd_op op_add' (pd_fld hC_Machine hn_Machine_held (pd_var 0)) (pd_op op_mul' (pd_lst (pad_cons (pd_tup (pad_cons (pd_var 7) (pad_cons (pd_var 6) pad_nil))) pad_nil)) (pd_var 9))))
      (psds_one (psd_ret (pd_tup (pad_cons (pd_var 6) (pad_cons (pd_callTy call_tuple' (by rfl) T.b_tuple (by decide +kernel) (pad_cons (pd_lc (own := [("one", 10)]) rfl sc_Machine_do.nd (pid_seq (pd_var 8)) (blkOk_by rfl) (fun _ _ _ _ _ => ⟨_, (pgd_name (i := 10) (by decide) sc_Machine_do.nd rfl (by first | exact Or.inl rfl | exact Or.inr rfl))⟩) (fun _ _ _ _ _ => ⟨_, pdts_nil⟩) (fun _ _ _ _ _ => ⟨_, (pd_ix (ix' (u1 hr)) (pd_ix (ix' (u1 hr)) (pd_var 5) (pd_var 10) (fun _ _ => rfl)) pd_int (fun _ _ => rfl))⟩)) pad_nil)) pad_nil))))))))), fun as n p px ⟨i, a, dx, q, h, w, wo, ix, ⟨st, ts, cp⟩, e, hi, hl, ok, hb, h1, h2⟩ => ?_⟩
  subst e
  have hs := ok.st
  have hat : L2.atI (w.map encS) (st : Int) = some (encS w[st]) := atI_nat (by rw [List.getElem?_map, List.getElem?_eq_getElem hs]; rfl)
  have eknd : w[st].1 = kndW w st := (kndW_of (List.getElem?_eq_getElem hs)).symm
  refine ⟨⟨trivial, trivial, trivial, trivial⟩, rfl, rfl, ?_⟩
  refine ⟨i, mOb a Cm dx q h, hi, rfl, rfl, rfl, i, a, dx, q, h, ix, ts.length, ?_, hi, by omega, fun c => ⟨n, dropsO, h1 c⟩, fun c => ?_⟩
  · show [Av.raw (.ref a), .dat (nD ix), .dat (.int ((ts.map nD).length : Nat))] = [Av.raw (.ref a), .dat (nD ix), .dat (nD ts.length)]
    rw [List.length_map]; rfl
  have c : ts.length ≤ h.length := c
  have h2 := h2 c
  have tl := top_len (q := q) c
  have tat : ∀ t ∈ ts, L2.atI ((topM q h ts.length).map encC) (t : Int) = some (encC ((topM q h ts.length).getD t (0, 0))) := fun t ht => top_at (by rw [tl]; exact ok.ts t ht)
  have t3 : ts.length ≤ 3 := by have h : ts.length = _ := ok.ar; rw [h]; exact arK_le _
  have hcp : cp ≤ 30 := ok.cp
  have hlr := rest_len (q := q) (h := h) (m := ts.length)
  refine ⟨_, hat, _, rfl, ?_⟩
  refine lc_pure nD (fun t => some (.int ((topM q h ts.length).getD t (0, 0)).2)) ts rfl ⟨trivial, trivial⟩ (by omega) (fun t ht k hk => ⟨rfl, _, tat t ht, .int _, rfl, hk _ _ rfl rfl⟩) ?_
  rw [filterMap_all]
  refine ⟨kndW w st, ownV w wo st (kndW w st), wosM (topM q h ts.length) ts, ?_, ?_, fun v hv => ?_, ?_⟩
  · rw [← eknd]
    unfold wosM
    rw [List.map_map]; rfl
  · unfold wosM
    rw [List.length_map]; exact ok.ar
  · unfold wosM at hv
    obtain ⟨t, ht, rfl⟩ := List.mem_map.mp hv
    have hlt : t < (topM q h ts.length).length := by rw [tl]; exact ok.ts t ht
    rw [List.getD_eq_getElem?_getD, List.getElem?_eq_getElem hlt]
    exact hb _ (top_mem (List.getElem_mem hlt))
  have em : List.map encC (restM q h ts.length) ++ (List.replicate cp [encC (st, doW w wo q h (st, ts, cp))]).flatten = (doH w wo q h (st, ts, cp)).map encC := by
    unfold doH
    rw [List.map_append, List.map_replicate]
    congr 1
    exact rep_flat cp
  refine ⟨i, mOb a Cm dx q (restM q h ts.length), setO_get hi, rfl, rfl, _, rfl, ?_⟩
  refine ⟨_, rfl, le5 rfl, _, rfl, le5 rfl, ?_⟩
  refine ⟨by show -(2 ^ 63) ≤ (cp : Int); omega, by show (cp : Int) < 2 ^ 63; omega, ?_, ?_⟩
  · show 1 * (cp : Int).toNat ≤ 100000
    omega
  refine ⟨?_, ?_⟩
  · show (List.map encC (restM q h ts.length)).length + ((List.replicate cp [encC (st, doW w wo q h (st, ts, cp))]).flatten).length ≤ 100000
    rw [rep_flat, List.length_map, List.length_replicate]
    omega
  refine ⟨i, mOb a Cm dx q (restM q h ts.length), setO_get hi, rfl, rfl, by show 2 < 900; decide, ?_⟩
  refine lc_pure nD (fun t => some (nD ((topM q h ts.length).getD t (0, 0)).1)) ts rfl ⟨trivial, trivial⟩ (by omega) (fun t ht k hk => ⟨rfl, _, tat t ht, nD _, rfl, hk _ _ rfl rfl⟩) ?_
  rw [filterMap_all]
  refine ⟨_, rfl, le5 rfl, ?_⟩
  refine ⟨_, dropsO, ?_⟩
  have eg : encN (givM (topM q h ts.length) ts) = .tuple (ts.map fun t => nD ((topM q h ts.length).getD t (0, 0)).1) := by
    unfold givM encN
    rw [List.map_map]; rfl
  have e1 : (n.setO i (mOb a Cm dx q (restM q h ts.length))).setO i (mOb a Cm dx q (doH w wo q h (st, ts, cp))) = n.setO i (mOb a Cm dx q (doH w wo q h (st, ts, cp))) := setO_setO
  rw [← e1, show encN (givM (topM q h (st, ts, cp).2.1.length) (st, ts, cp).2.1) = _ from eg] at h2
  have e2 : mOb a Cm dx q (doH w wo q h (st, ts, cp)) = ⟨a, Cm, dx, [("is_queue", .dat (.bool q)), ("held", .dat (.list (List.map encC (restM q h ts.length) ++ (List.replicate cp [encC (st, doW w wo q h (st, ts, cp))]).flatten)))]⟩ := by rw [em]; rfl
  rw [e2] at h2
  exact h2
end
end K39

namespace K39
open PySem L2 PL
structure Txt6 (mg : Str → Option Value) : Prop where
  b_all : mg "all" = none
  b_enumerate : mg "enumerate" = none
  b_sorted : mg "sorted" = none
  b_tuple : mg "tuple" = none
theorem setO_self {g : Gh} {i : Nat} {ob : ObS} (h : g.os[i]? = some ob) : g.setO i ob = g := by
  unfold Gh.setO
  obtain ⟨hl, e⟩ := List.getElem?_eq_some_iff.mp h
  rw [← e, List.set_getElem_self]
theorem setO_get2 {g : Gh} {i : Nat} {ob ob' : ObS} (h : g.os[i]? = some ob) : (g.setO i ob').os[i]? = some ob' := setO_get h
theorem insok2 {w : List Sp1} {j : Ins} (sw : SW w) (h : InsOk w j) : InsOk2 w j := by
  have hl := h.len
  refine ⟨h.st, ?_, fun t ht => ?_, h.cp⟩
  · rw [hl, inpW_of (List.getElem?_eq_getElem h.st), kndW_of (List.getElem?_eq_getElem h.st)]
    exact sw.ar _ (List.getElem_mem h.st)
  · rw [hl]; exact List.mem_range.mp (h.ts.mem_iff.mp ht)
theorem doH_len {w : List Sp1} {wo : List Int} {q : Bool} {h : List Cell} {j : Ins} : (doH w wo q h j).length ≤ h.length + j.2.2 := by
  unfold doH
  rw [List.length_append, List.length_replicate]
  have := rest_len (q := q) (h := h) (m := j.2.1.length)
  omega
theorem rest_mem {q : Bool} {h : List Cell} {m : Nat} {c : Cell} (hc : c ∈ restM q h m) : c ∈ h := by
  unfold restM at hc
  split at hc
  · exact List.mem_of_mem_drop hc
  · exact List.mem_of_mem_take hc
theorem nice_cells {h : List Cell} : nice 2 (.list (h.map encC)) = true := nice_list fun d hd => by
  obtain ⟨c, _, rfl⟩ := List.mem_map.mp hd
  exact nice_tup fun d hd => by
    simp only [List.mem_cons, List.not_mem_nil, or_false] at hd
    rcases hd with e | e <;> subst e <;> exact nice_int
theorem encN_inj {a b : List Nat} (h : encN a = encN b) : a = b := by
  have h' : a.map nD = b.map nD := by
    have := h
    unfold encN at this
    exact PyData.tuple.inj this
  exact (List.map_inj_right (fun x y e => by
    have : (x : Int) = (y : Int) := PyData.int.inj e
    omega)).mp h'
theorem eqv_cells {h : List Cell} : PyData.eqv (.list (h.map encC)) (.list []) = h.isEmpty := by
  cases h with
  | nil => rfl
  | cons c h => rfl
section
variable {P : Program} {w : World} {K : PySem.W.Frag} {mg : Str → Option Value} {base : Heap} {B : Bse} {f : Addr} {fd : FuncData} {x qual : Str} {Cm CS : Addr}
/-- the steps whose worths a program tells -/
def resP (g : List Ins) : List Nat := (g.filter fun i => decide (i.2.2 = 0)).map (·.1)
abbrev s_run_on : Stmt := top 24
theorem sc_run_on : FnScope ["machine", "web", "value", "worths", "found", "index", "instruction", "worth", "givers", "step"] ["machine", "web", "value", "worths"] (defScope s_run_on) := ⟨rfl, rfl, rfl, by decide +kernel, rfl, by decide +kernel, by decide +kernel⟩
def fs_run_on (Cm : Addr) : FS := fun as n p => ∃ (i : Nat) (a dx : Addr) (q : Bool) (w : List Sp1) (wo : List Int) (val : Nat → Int) (g : List Ins), as = [.raw (.ref a), .dat (encW w), .dat (encP g), .dat (.tuple (wo.map PyData.int))] ∧ n.os[i]? = some (mOb a Cm dx q []) ∧ SW w ∧ IsVal w wo val ∧ (∀ j ∈ g, InsOk w j) ∧ (g.map (·.1)).Nodup ∧ g.length ≤ 10 ∧ (resP g).Perm (resL w) ∧ RunsP w wo q val [] g ∧ p (.val (.dat (meanD w val))) n
theorem ok_run_on (G : Fun K x qual s_run_on f fd) (T : Txt6 mg) (hC_Machine : Cls K Cm) (hn_Machine_held : NoAttr K Cm "held") (m_Machine_do : PMeX P w K mg base (amO K B) Cm "do" ["self", "web", "index", "instruction", "own"] (fx_do Cm CS) 5) (f_own_worth : PFn P w K mg base (amO K B) "own_worth" ["web", "step", "worths"] fs_own_worth 2) :
    FnOk P w K mg base CX0 6 f fd ["machine", "web", "value", "worths"] (spD (amO K B) K (fs_run_on Cm)) := by
  refine Fun.okD G sc_run_on (by decide) (fun as n p ⟨i, a, dx, q, w, wo, val, g, e, _⟩ => by rw [e]; rfl) fun cdv A' outer s H E hr => ⟨_, _,
  (psds_cons (psd_set (i := 4) sc_run_on.nd rfl (by first | exact Or.inl rfl | exact Or.inr rfl) pd_dict0)
      (psds_cons (psd_for (ks := [5, 6]) PassesOwn.never rfl (pid_enum (by rfl) T.b_enumerate (pd_var 2)) (pgd_tup (n := 2) rfl (pgds_cons (pgd_name (i := 5) (by decide) sc_run_on.nd rfl (by first | exact Or.inl rfl | exact Or.inr rfl)) (pgds_cons (pgd_name (i := 6) (by decide) sc_run_on.nd rfl (by first | exact Or.inl rfl | exact Or.inr rfl)) pgds_nil))) (psds_cons (psd_asgX (ks := [7, 8]) (pdx_meth m_Machine_do hC_Machine takes0 hr (by decide) (pd_var 0) (pad_cons (pd_var 1) (pad_cons (pd_var 5) (pad_cons (pd_var 6) (pad_cons (pd_fn f_own_worth hr (by decide) (by rfl) (pad_cons (pd_var 1) (pad_cons (pd_ix (ix' (u1 hr)) (pd_var 6) pd_int (fun _ _ => rfl)) (pad_cons (pd_var 3) pad_nil)))) pad_nil))))) (pgd_tup (n := 2) rfl (pgds_cons (pgd_name (i := 7) (by decide) sc_run_on.nd rfl (by first | exact Or.inl rfl | exact Or.inr rfl)) (pgds_cons (pgd_name (i := 8) (by decide) sc_run_on.nd rfl (by first | exact Or.inl rfl | exact Or.inr rfl)) pgds_nil))))
      (psds_one (psd_if (pdt_cmp (op_eq' hr.units) (pd_ix (ix' (u1 hr)) (pd_var 6) pd_int (fun _ _ => rfl)) pd_int (nomark _)) (psds_one (psd_setD (u1 hr) (i := 4) rfl (by first | exact Or.inl rfl | exact Or.inr (Or.inl rfl) | exact Or.inr (Or.inr rfl)) (pd_ix (ix' (u1 hr)) (pd_var 6) pd_int (fun _ _ => rfl)) (pd_var 7))) psds_nil))))
      (psds_cons (psd_if (pdt_cmp (op_ne' hr.units) (pd_fld hC_Machine hn_Machine_held (pd_var 0)) (pd_lst pad_nil) (nomark _)) (psds_one psd_never) psds_nil)
      (psds_one (psd_ret (pd_callTy call_tuple' (by rfl) T.b_tuple (by decide +kernel) (pad_cons (pd_lc (own := [("step", 9)]) rfl sc_run_on.nd (pid_seq (pd_callB (call_sortedDI' rfl) (by rfl) T.b_sorted (by decide +kernel) (pad_cons (pd_var 4) pad_nil))) (blkOk_by rfl) (fun _ _ _ _ _ => ⟨_, (pgd_name (i := 9) (by decide) sc_run_on.nd rfl (by first | exact Or.inl rfl | exact Or.inr rfl))⟩) (fun _ _ _ _ _ => ⟨_, pdts_nil⟩) (fun _ _ _ _ _ => ⟨_, (pd_ix (ix' (u1 hr)) (pd_var 4) (pd_var 9) (fun _ _ => rfl))⟩)) pad_nil))))))), fun as n p ⟨i, a, dx, q, w, wo, val, g, e, hi, sw, iv, ok, nd, gl, hres, hrun, hp⟩ => ?_⟩
  subst e
  refine ⟨fun k e => ∃ (h : List Cell) (x6 x7 x8 x9 : Sl), nOw x6 ∧ nOw x7 ∧ nOw x8 ∧ nOw x9 ∧ h.length ≤ 30 * k ∧ (∀ c ∈ h, c.2 = val c.1) ∧ RunsP w wo q val h (g.drop k) ∧ e = ⟨[.im (.raw (.ref a)), .im (.dat (encW w)), .im (.dat (encP g)), .im (.dat (.tuple (wo.map PyData.int))), .ow (.dic (kvN val (resP (g.take k)))), x6, x7, x8, x9, .un], n.setO i (mOb a Cm dx q h)⟩, ⟨[], .un, .un, .un, .un, trivial, trivial, trivial, trivial, Nat.zero_le _, by simp, hrun, ?_⟩, ?_, ?_⟩
  · rw [setO_self hi]; rfl
  · rintro k d e hd ⟨h, x6, x7, x8, x9, h6, h7, h8, h9, hl, hv, hrun, rfl⟩
    obtain ⟨y, hy, rfl⟩ := enumD_get hd
    rw [List.getElem?_map] at hy
    obtain ⟨j, hj, rfl⟩ := Option.map_eq_some_iff.mp hy
    have hjm := List.mem_of_getElem? hj
    have hkl : k < g.length := (List.getElem?_eq_some_iff.mp hj).1
    have hx : w[j.1]? = some (w[j.1]'(ok j hjm).st) := List.getElem?_eq_getElem (ok j hjm).st
    have hdr : g.drop k = j :: g.drop (k + 1) := by
      rw [List.drop_eq_getElem_cons hkl, (List.getElem?_eq_some_iff.mp hj).2]
    rw [hdr] at hrun
    obtain ⟨r1, r2, r3⟩ := hrun
    have hcp := (ok j hjm).cp
    have ek : (w[j.1]'(ok j hjm).st).1 = kndW w j.1 := (kndW_of hx).symm
    refine ⟨⟨h6, h7, trivial⟩, rfl, rfl, ?_⟩
    refine ⟨i, mOb a Cm dx q h, setO_get hi, rfl, rfl, rfl, ?_⟩
    refine ⟨_, rfl, ?_⟩
    refine ⟨w, j.1, _, wo, rfl, by have := sw.l1; omega, hx, iv.own _ _ hx, ?_⟩
    refine ⟨i, a, dx, q, h, w, wo, k, j, ?_, setO_get hi, by omega, insok2 sw (ok j hjm), fun c hc => by rw [hv c hc]; exact iv.small _, fun c => by omega, fun c => ?_⟩
    · rw [ek]; rfl
    rw [show doW w wo q h j = val j.1 from r2]
    have hss : n.setO i (mOb a Cm dx q (doH w wo q h j)) = (n.setO i (mOb a Cm dx q h)).setO i (mOb a Cm dx q (doH w wo q h j)) := setO_setO.symm
    have hl2 := doH_len (w := w) (wo := wo) (q := q) (h := h) (j := j)
    have hv2 : ∀ c ∈ doH w wo q h j, c.2 = val c.1 := fun c hc => by
      unfold doH at hc
      rcases List.mem_append.mp hc with hc | hc
      · exact hv c (rest_mem hc)
      · rw [(List.mem_replicate.mp hc).2]; exact r2
    have et : g.take (k + 1) = g.take k ++ [j] := by rw [List.take_succ, hj]; rfl
    have er : resP (g.take (k + 1)) = resP (g.take k) ++ if j.2.2 = 0 then [j.1] else [] := by
      unfold resP
      rw [et, List.filter_append, List.map_append]
      congr 1
      by_cases c : j.2.2 = 0
      · rw [if_pos c, List.filter_cons_of_pos (by simpa using c)]; rfl
      · rw [if_neg c, List.filter_cons_of_neg (by simpa using c)]; rfl
    refine ⟨⟨h8, h9, trivial⟩, rfl, rfl, ?_⟩
    refine ⟨_, rfl, shaped_int, shaped_int, ite_b (c := decide (j.2.2 = 0)) (Eq.trans (show PyData.eqv (.int ((j.2.2 : Nat) : Int)) (.int 0) = _ from eqv_intD) (decide_eq_decide.mpr (by omega))) (fun c => ?_) (fun c => ?_)⟩
    · have c := of_decide_eq_true c
      rw [if_pos c] at er
      have hni : j.1 ∉ resP (g.take k) := by
        intro z
        have hk : (g.map (·.1))[k]? = some j.1 := by rw [List.getElem?_map, hj]; rfl
        have := idx_get nd hk
        have z2 : j.1 ∈ (g.map (·.1)).take k := by
          unfold resP at z
          obtain ⟨y, hy, e⟩ := List.mem_map.mp z
          rw [← List.map_take, ← e]
          exact List.mem_map.mpr ⟨y, (List.mem_filter.mp hy).1, rfl⟩
        have := (mem_take nd (List.mem_of_getElem? hk)).mp z2
        omega
      refine ⟨_, rfl, _, rfl, ?_, doH w wo q h j, .im (.dat (nD k)), .im (.dat (encJ j)), .im (.dat (.int (val j.1))), .im (.dat (encN (givM (topM q h j.2.1.length) j.2.1))), trivial, trivial, trivial, trivial, by omega, hv2, r3, ?_⟩
      · rw [kvN_len]
        have : (resP (g.take k)).length ≤ g.length := by
          unfold resP
          rw [List.length_map]
          refine Nat.le_trans (List.length_filter_le _ _) ?_
          rw [List.length_take]; omega
        omega
      · rw [er, ← kvN_put hni, hss]; rfl
    · have c := of_decide_eq_false c
      rw [if_neg c, List.append_nil] at er
      refine ⟨doH w wo q h j, .im (.dat (nD k)), .im (.dat (encJ j)), .im (.dat (.int (val j.1))), .im (.dat (encN (givM (topM q h j.2.1.length) j.2.1))), trivial, trivial, trivial, trivial, by omega, hv2, r3, ?_⟩
      rw [er, hss]; rfl
  · rintro e ⟨h, x6, x7, x8, x9, h6, h7, h8, h9, hl, hv, hrun, rfl⟩
    have e1 : (enumD (g.map encJ)).length = g.length := by rw [enumD_len, List.length_map]
    rw [e1, List.drop_length] at hrun
    have hh : h = [] := hrun
    subst hh
    refine ⟨i, mOb a Cm dx q [], setO_get hi, rfl, rfl, _, rfl, _, rfl, le5 rfl, shaped_nice (n := 2) nice_cells, shaped_nice (n := 1) (nice_list (by simp)), ite_b (c := false) (by rw [eqv_cells]; rfl) (fun q => by cases q) (fun _ => ?_)⟩
    rw [e1, List.take_length]
    have rl := hres.length_eq
    have r10 := resL_len w
    have l10 := sw.l1
    refine ⟨rfl, (resP g).map fun (s : Nat) => (s : Int), by unfold kvN; rw [List.map_map, List.map_map]; rfl, by rw [List.length_map]; omega, fun ys h1 h2 => ?_⟩
    have ey : ys = (resL w).map fun (s : Nat) => (s : Int) := by
      refine List.Perm.eq_of_pairwise (le := fun a b => a ≤ b) (fun a b _ _ h1 h2 => by omega) h2 ?_ (h1.trans (hres.map _))
      refine List.pairwise_map.mpr ((List.Pairwise.filter _ List.pairwise_lt_range).imp fun h => ?_)
      omega
    subst ey
    refine lc_pure nD (fun s => some (.int (val s))) (resL w) (by rw [List.map_map]; rfl) ⟨trivial, trivial⟩ (by omega) (fun s hs k hk => ⟨rfl, _, _, rfl, ?_, hk _ _ rfl rfl⟩) ?_
    · show lookD (kvN val (resP g)) (.inl (s : Int)) = _
      rw [kvN_look, if_pos (hres.mem_iff.mpr hs)]
    · rw [filterMap_all]
      rw [← setO_self hi] at hp
      exact hp
theorem doH_bound {w : List Sp1} {wo : List Int} {q : Bool} {h : List Cell} {j : Ins} {k : Nat} (hk : kOk (kndW w j.1)) (ho : (ownV w wo j.1 (kndW w j.1)).natAbs ≤ 128) (hb : ∀ c ∈ h, c.2.natAbs ≤ bnd k) : ∀ c ∈ doH w wo q h j, c.2.natAbs ≤ bnd (k + 1) := by
  have hg := bnd_ge k
  intro c hc
  unfold doH at hc
  rcases List.mem_append.mp hc with hc | hc
  · exact Nat.le_trans (hb c (rest_mem hc)) (bnd_succ k)
  · rw [(List.mem_replicate.mp hc).2]
    refine worthV_bound (by omega) hk (by omega) fun v hv => ?_
    unfold wosM at hv
    obtain ⟨t, _, rfl⟩ := List.mem_map.mp hv
    rw [List.getD_eq_getElem?_getD]
    cases ht : (topM q h j.2.1.length)[t]? with
    | none => exact Nat.zero_le _
    | some c => exact hb c (top_mem (List.mem_of_getElem? ht))
abbrev s_finds_givers : Stmt := top 26
theorem sc_finds_givers : FnScope ["machine", "web", "value", "worths", "index", "instruction", "worth", "givers"] ["machine", "web", "value"] (defScope s_finds_givers) := ⟨rfl, rfl, rfl, by decide +kernel, rfl, by decide +kernel, by decide +kernel⟩
def zeroW (w : List Sp1) : List Int := List.replicate (inpN w) 0
def fs_finds_givers (Cm : Addr) : FS := fun as n p => ∃ (i : Nat) (a dx : Addr) (q : Bool) (w : List Sp1) (g : List Ins), as = [.raw (.ref a), .dat (encW w), .dat (encP g)] ∧ n.os[i]? = some (mOb a Cm dx q []) ∧ WX 10 w ∧ (∀ j ∈ g, InsOk w j) ∧ g.length ≤ 10 ∧ ∀ h, p (vBl (findsB w (zeroW w) q [] g)) (n.setO i (mOb a Cm dx q h))
theorem ok_finds_givers (G : Fun K x qual s_finds_givers f fd) (T : Txt6 mg) (hC_Machine : Cls K Cm) (hn_Machine_held : NoAttr K Cm "held") (c_Short : mg "Short" = some (.ref CS)) (hx : PySem.W.exmOne K (.ref CS) (.ref CS) = some true) (m_Machine_do : PMeX P w K mg base (amO K B) Cm "do" ["self", "web", "index", "instruction", "own"] (fx_do Cm CS) 5) (f_no_worths : PFn P w K mg base (amO K B) "no_worths" ["web"] fs_no_worths 1) (f_own_worth : PFn P w K mg base (amO K B) "own_worth" ["web", "step", "worths"] fs_own_worth 2) :
    FnOk P w K mg base CX0 6 f fd ["machine", "web", "value"] (spD (amO K B) K (fs_finds_givers Cm)) := by
  refine Fun.okD G sc_finds_givers (by decide) (fun as n p ⟨i, a, dx, q, w, g, e, _⟩ => by rw [e]; rfl) fun cdv A' outer s H E hr => ⟨_, _,
  (psds_cons (psd_set (i := 3) sc_finds_givers.nd rfl (by first | exact Or.inl rfl | exact Or.inr rfl) (pd_fn f_no_worths hr (by decide) (by rfl) (pad_cons (pd_var 1) pad_nil)))
      (psds_cons (psd_tryO rfl rfl ⟨by rfl, by decide, Or.inl c_Short⟩ takes0 (fun W' pn xe tk po => ⟨_, (psds_one (psd_for (ks := [4, 5]) po rfl (pid_enum (by rfl) T.b_enumerate (pd_var 2)) (pgd_tup (n := 2) rfl (pgds_cons (pgd_name (i := 4) (by decide) sc_finds_givers.nd rfl (by first | exact Or.inl rfl | exact Or.inr rfl)) (pgds_cons (pgd_name (i := 5) (by decide) sc_finds_givers.nd rfl (by first | exact Or.inl rfl | exact Or.inr rfl)) pgds_nil))) (psds_cons (psd_asgX (ks := [6, 7]) (pdx_meth m_Machine_do hC_Machine tk hr (by decide) (pd_var 0) (pad_cons (pd_var 1) (pad_cons (pd_var 4) (pad_cons (pd_var 5) (pad_cons (pd_fn f_own_worth hr (by decide) (by rfl) (pad_cons (pd_var 1) (pad_cons (pd_ix (ix' (u1 hr)) (pd_var 5) pd_int (fun _ _ => rfl)) (pad_cons (pd_var 3) pad_nil)))) pad_nil))))) (pgd_tup (n := 2) rfl (pgds_cons (pgd_name (i := 6) (by decide) sc_finds_givers.nd rfl (by first | exact Or.inl rfl | exact Or.inr rfl)) (pgds_cons (pgd_name (i := 7) (by decide) sc_finds_givers.nd rfl (by first | exact Or.inl rfl | exact Or.inr rfl)) pgds_nil))))
      (psds_one (psd_if (pdt_cmp (op_ne' hr.units) (pd_var 7) (pd_ix (ix' (u1 hr)) (pd_ix (ix' (u1 hr)) (pd_var 1) (pd_ix (ix' (u1 hr)) (pd_var 5) pd_int (fun _ _ => rfl)) (fun _ _ => rfl)) pd_int (fun _ _ => rfl)) (nomark _)) (psds_one (psd_ret pd_bl)) psds_nil)))))⟩) (fun a oe pn => ⟨_, (psds_one (psd_ret pd_bl))⟩))
      (psds_one (psd_ret (pd_cmp (op_eq' hr.units) (pd_fld hC_Machine hn_Machine_held (pd_var 0)) (pd_lst pad_nil) (nomark _)))))), fun as n p ⟨i, a, dx, q, w, g, e, hi, wx, ok, gl, hp⟩ => ?_⟩
  subst e
  have sw := wx.sw (Nat.le_refl _)
  have l10 := sw.l1
  refine ⟨w, rfl, by omega, ?_⟩
  refine ⟨fun k e => ∃ (h : List Cell) (x4 x5 x6 x7 : Sl), nOw x4 ∧ nOw x5 ∧ nOw x6 ∧ nOw x7 ∧ h.length ≤ 30 * k ∧ (∀ c ∈ h, c.2.natAbs ≤ bnd k) ∧ findsB w (zeroW w) q [] g = findsB w (zeroW w) q h (g.drop k) ∧ e = ⟨[.im (.raw (.ref a)), .im (.dat (encW w)), .im (.dat (encP g)), .im (.dat (.tuple ((zeroW w).map PyData.int))), x4, x5, x6, x7], n.setO i (mOb a Cm dx q h)⟩, ⟨[], .un, .un, .un, .un, trivial, trivial, trivial, trivial, Nat.zero_le _, by simp, rfl, ?_⟩, ?_, ?_⟩
  · rw [setO_self hi]; rfl
  · rintro k d e hd ⟨h, x4, x5, x6, x7, h4, h5, h6, h7, hl, hb, hf, rfl⟩
    obtain ⟨y, hy, rfl⟩ := enumD_get hd
    rw [List.getElem?_map] at hy
    obtain ⟨j, hj, rfl⟩ := Option.map_eq_some_iff.mp hy
    have hjm := List.mem_of_getElem? hj
    have hkl : k < g.length := (List.getElem?_eq_some_iff.mp hj).1
    have hst := (ok j hjm).st
    have hx' : w[j.1]? = some (w[j.1]'hst) := List.getElem?_eq_getElem hst
    have hdr : g.drop k = j :: g.drop (k + 1) := by
      rw [List.drop_eq_getElem_cons hkl, (List.getElem?_eq_some_iff.mp hj).2]
    rw [hdr] at hf
    have hcp := (ok j hjm).cp
    have ek : (w[j.1]'hst).1 = kndW w j.1 := (kndW_of hx').symm
    have ei : (w[j.1]'hst).2 = inpW w j.1 := (inpW_of hx').symm
    have hz : ∀ v ∈ zeroW w, -99 ≤ v ∧ v ≤ 99 := fun v hv => by rw [(List.mem_replicate.mp hv).2]; decide
    have hss : ∀ h', n.setO i (mOb a Cm dx q h') = (n.setO i (mOb a Cm dx q h)).setO i (mOb a Cm dx q h') := fun h' => setO_setO.symm
    have no : ∀ h', findsB w (zeroW w) q [] g = false → p (vBl false) (n.setO i (mOb a Cm dx q h')) := fun h' e => by have := hp h'; rwa [e] at this
    refine ⟨⟨h4, h5, trivial⟩, rfl, rfl, ?_⟩
    refine ⟨i, mOb a Cm dx q h, setO_get hi, rfl, rfl, rfl, ?_⟩
    refine ⟨_, rfl, ?_⟩
    refine ⟨w, j.1, _, zeroW w, rfl, by omega, hx', fun hin => by unfold zeroW; rw [List.length_replicate]; exact rank_lt hx' hin, ?_⟩
    refine ⟨i, a, dx, q, h, w, zeroW w, k, j, ?_, setO_get hi, by omega, insok2 sw (ok j hjm), fun c hc => bnd_log (by omega) (hb c hc), fun c => ?_, fun c => ?_⟩
    · rw [ek]; rfl
    · refine ⟨true, hx, fun _ => ?_, fun q => by cases q⟩
      refine no h ?_
      rw [hf]
      unfold findsB
      rw [decide_eq_false (by omega)]; rfl
    · have hl2 := doH_len (w := w) (wo := zeroW w) (q := q) (h := h) (j := j)
      have hb2 := doH_bound (q := q) (h := h) (k := k) (by rw [← ek]; exact (wx.ar _ (List.getElem_mem hst)).2) (ownV_bound hz j.1 (kndW w j.1)) hb
      have hat : L2.atI (w.map encS) (j.1 : Int) = some (encS (w[j.1]'hst)) := w_at hst
      refine ⟨⟨h6, h7, trivial⟩, rfl, rfl, ?_⟩
      refine ⟨_, rfl, _, hat, _, rfl, shaped_nice (n := 1) nice_encN, shaped_nice (n := 1) nice_encN, ite_b (c := !decide (givM (topM q h j.2.1.length) j.2.1 = inpW w j.1)) ?_ (fun c2 => ?_) (fun c2 => ?_)⟩
      · rw [ei]
        refine congrArg not (Bool.eq_iff_iff.mpr ?_)
        rw [decide_eq_true_eq]
        exact (eqv_nice (n := 1) (m := 1) nice_encN nice_encN).trans ⟨encN_inj, fun e => by rw [e]⟩
      · have c3 : ¬ givM (topM q h j.2.1.length) j.2.1 = inpW w j.1 := by simpa using c2
        have := no (doH w (zeroW w) q h j) (by
          rw [hf]
          unfold findsB
          rw [decide_eq_false c3, Bool.false_and, Bool.and_false])
        rw [hss (doH w (zeroW w) q h j)] at this
        exact this
      · have c3 : givM (topM q h j.2.1.length) j.2.1 = inpW w j.1 := by simpa using c2
        refine ⟨doH w (zeroW w) q h j, .im (.dat (nD k)), .im (.dat (encJ j)), .im (.dat (.int (doW w (zeroW w) q h j))), .im (.dat (encN (givM (topM q h j.2.1.length) j.2.1))), trivial, trivial, trivial, trivial, by omega, hb2, ?_, ?_⟩
        · rw [hf]
          show (_ && (_ && _)) = _
          rw [decide_eq_true (show j.2.1.length ≤ h.length from c), decide_eq_true c3]; rfl
        · rw [hss (doH w (zeroW w) q h j)]; rfl
  · rintro e ⟨h, x4, x5, x6, x7, h4, h5, h6, h7, hl, hb, hf, rfl⟩
    have e1 : (enumD (g.map encJ)).length = g.length := by rw [enumD_len, List.length_map]
    rw [e1, List.drop_length] at hf
    have hp' := hp h
    rw [hf] at hp'
    refine ⟨i, mOb a Cm dx q h, setO_get hi, rfl, rfl, _, rfl, _, rfl, le5 rfl, shaped_nice (n := 2) nice_cells, shaped_nice (n := 1) (nice_list (by simp)), ?_⟩
    rw [eqv_cells]
    exact hp'
theorem drops1 {n : Gh} {ob ob' : ObS} : Drops (amO K B) ((n.addO ob).setO n.os.length ob') n := by
  rw [addO_set]
  exact Drops.amO
abbrev s_run : Stmt := top 30
theorem sc_run : FnScope ["web", "value", "worths"] ["web", "value", "worths"] (defScope s_run) := ⟨rfl, rfl, rfl, by decide +kernel, rfl, by decide +kernel, by decide +kernel⟩
def fs_run : FS := fun as n p => ∃ (w : List Sp1) (wo : List Int) (val : Nat → Int) (g : List Ins), as = [.dat (encW w), .dat (encP g), .dat (.tuple (wo.map PyData.int))] ∧ SW w ∧ IsVal w wo val ∧ (∀ j ∈ g, InsOk w j) ∧ (g.map (·.1)).Nodup ∧ g.length ≤ 10 ∧ (resP g).Perm (resL w) ∧ RunsP w wo false val [] g ∧ p (.val (.dat (meanD w val))) n
theorem ok_run (G : Fun K x qual s_run f fd) (T : Txt6 mg) (k_Machine : PMk P w K mg base (amO K B) "Machine" Cm ["self", "is_queue"] (fs_mk Cm) 1) (f_run_on : PFn P w K mg base (amO K B) "run_on" ["machine", "web", "value", "worths"] (fs_run_on Cm) 6) : FnOk P w K mg base CX0 7 f fd ["web", "value", "worths"] (spD (amO K B) K fs_run) := by
  refine Fun.okDd G sc_run (by decide) (fun as n p ⟨w, wo, val, g, e, _⟩ => by rw [e]; rfl) fun cdv A' outer s H E hr => ⟨_, _,
  (psds_one (psd_ret (pd_fn f_run_on hr (by decide) (by rfl) (pad_cons (pd_make k_Machine hr (by decide) (by rfl) (pad_cons pd_bl pad_nil)) (pad_cons (pd_var 0) (pad_cons (pd_var 1) (pad_cons (pd_var 2) pad_nil))))))), fun as n p ⟨w, wo, val, g, e, sw, iv, ok, nd, gl, hres, hrun, hp⟩ => ?_⟩
  subst e
  intro x dx
  refine ⟨x, dx, false, n.os.length, rfl, addO_get, rfl, ?_⟩
  exact ⟨n.os.length, x, dx, false, w, wo, val, g, rfl, setO_get addO_get, sw, iv, ok, nd, gl, hres, hrun, n, drops1, hp⟩
abbrev s_is_plain : Stmt := top 31
theorem sc_is_plain : FnScope ["web", "value", "instruction"] ["web", "value"] (defScope s_is_plain) := ⟨rfl, rfl, rfl, by decide +kernel, rfl, by decide +kernel, by decide +kernel⟩
def fs_is_plain : FS := fun as n p => ∃ (w : List Sp1) (g : List Ins), as = [.dat (encW w), .dat (encP g)] ∧ WX 10 w ∧ (∀ j ∈ g, InsOk w j) ∧ (g.map (·.1)).Perm (List.range w.length) ∧ (∀ j ∈ g, j.2.2 = remN w (List.range w.length) j.1) ∧ p (vBl (findsB w (zeroW w) false [] g)) n
theorem ok_is_plain (G : Fun K x qual s_is_plain f fd) (T : Txt6 mg) (k_Machine : PMk P w K mg base (amO K B) "Machine" Cm ["self", "is_queue"] (fs_mk Cm) 1) (f_program_error : PFn P w K mg base (amO K B) "program_error" ["web", "value"] fs_program_fault 4) (f_copies_of : PFn P w K mg base (amO K B) "copies_of" ["web", "step"] fs_copies_of 2) (f_finds_givers : PFn P w K mg base (amO K B) "finds_givers" ["machine", "web", "value"] (fs_finds_givers Cm) 6) : FnOk P w K mg base CX0 7 f fd ["web", "value"] (spD (amO K B) K fs_is_plain) := by
  refine Fun.okDd G sc_is_plain (by decide) (fun as n p ⟨w, g, e, _⟩ => by rw [e]; rfl) fun cdv A' outer s H E hr => ⟨_, _,
  (psds_cons (psd_if (pdt_cmp op_notN' (pd_fn f_program_error hr (by decide) (by rfl) (pad_cons (pd_var 0) (pad_cons (pd_var 1) pad_nil))) pd_non (nomark _)) (psds_one (psd_ret pd_bl)) psds_nil)
      (psds_cons (psd_if (pdt_not (pdt_val (pd_callB (call_all' rfl) (by rfl) T.b_all (by decide +kernel) (pad_cons (pd_lc (own := [("instruction", 2)]) rfl sc_is_plain.nd (pid_seq (pd_var 1)) (blkOk_by rfl) (fun _ _ _ _ _ => ⟨_, (pgd_name (i := 2) (by decide) sc_is_plain.nd rfl (by first | exact Or.inl rfl | exact Or.inr rfl))⟩) (fun _ _ _ _ _ => ⟨_, pdts_nil⟩) (fun _ _ _ _ _ => ⟨_, (pd_cmp (op_eq' hr.units) (pd_ix (ix' (u1 hr)) (pd_var 2) pd_int (fun _ _ => rfl)) (pd_fn f_copies_of hr (by decide) (by rfl) (pad_cons (pd_var 0) (pad_cons (pd_ix (ix' (u1 hr)) (pd_var 2) pd_int (fun _ _ => rfl)) pad_nil))) (nomark _))⟩)) pad_nil)))) (psds_one (psd_ret pd_bl)) psds_nil)
      (psds_one (psd_ret (pd_fn f_finds_givers hr (by decide) (by rfl) (pad_cons (pd_make k_Machine hr (by decide) (by rfl) (pad_cons pd_bl pad_nil)) (pad_cons (pd_var 0) (pad_cons (pd_var 1) pad_nil)))))))), fun as n p ⟨w, g, e, wx, ok, hpm, hcp, hp⟩ => ?_⟩
  subst e
  have sw := wx.sw (Nat.le_refl _)
  have l10 := sw.l1
  have gl : g.length = w.length := by
    have := hpm.length_eq
    rwa [List.length_map, List.length_range] at this
  refine ⟨w, g, rfl, sw, ok, hpm, ?_⟩
  refine lc_pure encJ (fun j => some (PyData.bool true)) g rfl ⟨trivial, trivial⟩ (by omega) (fun j hj k hk => ?_) ?_
  · refine ⟨_, rfl, _, rfl, w, j.1, rfl, sw.tok, shaped_int, shaped_int, hk _ _ ?_ rfl⟩
    rw [← hcp j hj]
    show _ = some (PyData.bool (PyData.eqv (.int ((j.2.2 : Nat) : Int)) (.int ((j.2.2 : Nat) : Int))))
    rw [eqv_intD]; simp
  · rw [filterMap_all]
    have e : (g.map fun j => PyData.bool true) = (g.map fun _ => true).map PyData.bool := by rw [List.map_map]; rfl
    rw [e]
    refine ⟨_, bls_map _, ?_⟩
    refine ite_b (c := false) ?_ (fun q => by cases q) (fun _ => ?_)
    · rw [List.all_map]
      have : (g.all (id ∘ fun _ => true)) = true := List.all_eq_true.mpr fun _ _ => rfl
      rw [this]; rfl
    · intro x dx
      refine ⟨x, dx, false, n.os.length, rfl, addO_get, rfl, ?_⟩
      exact ⟨n.os.length, x, dx, false, w, g, rfl, setO_get addO_get, wx, ok, by omega, fun h => ⟨n, by rw [setO_setO]; exact drops1, hp⟩⟩
end
end K39

namespace K39
open PySem L2 PL
structure Txt7 (mg : Str → Option Value) : Prop where
  b_len : mg "len" = none
  b_list : mg "list" = none
  b_min : mg "min" = none
  b_range : mg "range" = none
  b_tuple : mg "tuple" = none
section
variable {P : Program} {w : World} {K : PySem.W.Frag} {mg : Str → Option Value} {base : Heap} {A : Amb} {f : Addr} {fd : FuncData} {x qual : Str}
abbrev s_u_law_deck : Stmt := top 41
theorem sc_u_law_deck : FnScope ["script", "cell"] ["script"] (defScope s_u_law_deck) := ⟨rfl, rfl, rfl, by decide +kernel, rfl, by decide +kernel, by decide +kernel⟩
theorem ok_deck (G : Fun K x qual s_u_law_deck f fd) (b_abs : mg "abs" = none) : FnOk P w K mg base CX0 1 f fd ["script"] (spDeckA K) := by
  refine G.ok sc_u_law_deck (fun vs H Q E ⟨a, ns, e, _⟩ => by rw [e]; rfl) fun cdv A' outer s H vs Q E hr ⟨a, ns, e, hS, hl, k⟩ => ?_
  subst e
  obtain ⟨A, hA, hri, hrs⟩ : ∃ A : Amb, (∀ n F H, A.RI n F H → SqL K H a (ns.map V.int)) ∧ RIx A K ⟨0, [], []⟩ (fun _ => none) H ∧ True := by
    rcases hS with h | h
    · exact ⟨amS1 a ns, fun _ _ _ r => .inl r, ⟨h, fun c hc => by cases hc⟩, trivial⟩
    · exact ⟨amS2, fun _ _ _ _ => .inr h, ⟨trivial, fun c hc => by cases hc⟩, trivial⟩
  have S : SSt A K ⟨0, [], []⟩ (fun _ => none) H (L2.start ["script", "cell"] [.ref a]) (fun _ => none) H (enStart 2 [.raw (.ref a)] ⟨0, [], []⟩) :=
    sst_start (N := ["script", "cell"]) (fun _ _ e => by cases e) (.cons rfl .nil) hri (fun _ _ => rfl) (by show 1 ≤ 2; decide)
  refine deckA_fn (F := fun _ => none) (e := enStart 2 [.raw (.ref a)] ⟨0, [], []⟩) (C := fun is i => is.length ≤ 64 ∧ (∀ v ∈ is, 0 ≤ v) ∧ i = 0)
    (pd_lc (own := [("cell", 1)]) rfl sc_u_law_deck.nd (pid_seq (pd_scr hA rfl (Or.inl rfl))) (blkOk_by rfl) (fun _ _ _ _ _ => ⟨_, (pgd_name (i := 1) (by decide) sc_u_law_deck.nd rfl (by first | exact Or.inl rfl | exact Or.inr rfl))⟩) (fun _ _ _ _ _ => ⟨_, pdts_nil⟩) (fun _ _ _ _ _ => ⟨_, (pd_callB call_abs' (by rfl) b_abs (by decide +kernel) (pad_cons (pd_var 1) pad_nil))⟩))
    pd_int S ?_ (fun d c0 H' is i ⟨h1, h2, h3⟩ g1 g2 n1 => k d c0 H' is ⟨by rw [g1, h3], g2, h1, h2, n1⟩)
  refine ⟨rfl, ?_⟩
  have e0 : cutD (ns.map PyData.int) none (some 63) = (ns.take 63).map PyData.int := by rw [List.map_take]; exact cutD_take' (k := 63) rfl
  refine lc_pure PyData.int (fun i => some (PyData.int (if i < 0 then -i else i))) (ns.take 63) e0 ⟨trivial, trivial⟩ (by rw [List.length_take]; omega) (fun i _ k hk => hk _ _ rfl rfl) ?_
  rw [filterMap_all]
  have e1 : ((ns.take 63).map fun i => PyData.int (if i < 0 then -i else i)) = ((ns.take 63).map fun i => (if i < 0 then -i else i)).map PyData.int := by rw [List.map_map]; rfl
  rw [e1]
  refine ⟨_, 0, rfl, rfl, by rw [List.length_map, List.length_take]; omega, fun v hv => ?_, rfl⟩
  obtain ⟨i, _, rfl⟩ := List.mem_map.mp hv
  split <;> omega
abbrev s_u_law_draw : Stmt := top 42
theorem sc_u_law_draw : FnScope ["deck", "many", "mixed", "cell", "at"] ["deck", "many"] (defScope s_u_law_draw) := ⟨rfl, rfl, rfl, by decide +kernel, rfl, by decide +kernel, by decide +kernel⟩
def fs_draw (d : Addr) : FS := fun as n p => ∃ b : Int, as = [.raw (.ref d), .dat (.int b)] ∧ 0 < b ∧ b < 2 ^ 40 ∧ n.k < 2 ^ 40 ∧ ∀ r, 0 ≤ r → r < b → ∀ m, Up n 1 m → p (vInt r) m
theorem ok_draw (G : Fun K x qual s_u_law_draw f fd) (b_int : mg "int" = none) (b_len : mg "len" = none) (d c0 : Addr) : FnOk P w K mg base CX0 1 f fd ["deck", "many"] (spD (amO K (bseA d c0)) K (fs_draw d)) := by
  refine G.ok sc_u_law_draw (fun vs H Q E ⟨F, as, n, p, _, r, _, _, ⟨b, e, _⟩, _⟩ => by rw [Paired.length r, e]; rfl) fun cdv A' outer s H vs Q E hr ⟨F, as, n, p, x, r, ri, rf, ⟨b, e, hb, hb2, hn, q⟩, k⟩ => ?_
  subst e
  obtain ⟨_, _, rfl, rfl, r1⟩ := paired2 r
  cases r1
  refine ⟨_, pss_cons (ps_asg (pe_op op_add (pe_ix ix_list (pe_var (i := 0) rfl (Or.inl rfl)) pe_int (fun _ _ => rfl)) pe_int) (pg_sub (pe_var (i := 0) rfl (Or.inl rfl)) pe_int set_list))
    (pss_cons (ps_asg (pe_tup (pa_cons pe_int (pa_cons (pe_un un_neg pe_int) pa_nil))) (pg_tup rfl (pgs_cons (pg_name (i := 3) sc_u_law_draw.nd rfl (Or.inl rfl)) (pgs_cons (pg_name (i := 4) sc_u_law_draw.nd rfl (Or.inl rfl)) pgs_nil))))
    (pss_cons (ps_if (pt_cmpR op_gt (pe_callB call_len' (by rfl) b_len PySem.boot_len (pa_cons (pe_ix ix_list (pe_var (i := 0) rfl (Or.inl rfl)) pe_int (fun _ _ => rfl)) pa_nil)) pe_int (nomark _))
      (pss_cons (ps_set (i := 4) sc_u_law_draw.nd rfl (Or.inl rfl) (pe_op op_mod (pe_callTy call_int' (by rfl) b_int PyProof.Rows.boot_int (pa_cons (pe_ix ix_list (pe_var (i := 0) rfl (Or.inl rfl)) pe_int (fun _ _ => rfl)) pa_nil)) (pe_callB call_len' (by rfl) b_len PySem.boot_len (pa_cons (pe_ix ix_list (pe_var (i := 0) rfl (Or.inl rfl)) pe_int (fun _ _ => rfl)) pa_nil))))
      (pss_one (ps_set (i := 3) sc_u_law_draw.nd rfl (Or.inl rfl) (pe_ix ix_list (pe_ix ix_list (pe_var (i := 0) rfl (Or.inl rfl)) pe_int (fun _ _ => rfl)) (pe_var (i := 4) rfl (Or.inl rfl)) (fun _ _ => rfl))))) pss_nil)
    (pss_cons (ps_if (pt_cmpR op_ge (pe_var (i := 3) rfl (Or.inl rfl)) (pe_op op_pow pe_int pe_int) (nomark _))
      (pss_cons (ps_asg (pe_op op_fdivW (pe_callTy call_int' (by rfl) b_int PyProof.Rows.boot_int (pa_cons (pe_var (i := 3) rfl (Or.inl rfl)) pa_nil)) (pe_var (i := 1) rfl (Or.inl rfl))) (pg_sub (pe_ix ix_list (pe_var (i := 0) rfl (Or.inl rfl)) pe_int (fun _ _ => rfl)) (pe_var (i := 4) rfl (Or.inl rfl)) set_list))
      (pss_one (ps_ret (pe_op op_mod (pe_callTy call_int' (by rfl) b_int PyProof.Rows.boot_int (pa_cons (pe_var (i := 3) rfl (Or.inl rfl)) pa_nil)) (pe_var (i := 1) rfl (Or.inl rfl)))))) pss_nil)
    (pss_cons (ps_set (i := 2) sc_u_law_draw.nd rfl (Or.inl rfl) (pe_op op_add (pe_op op_add (pe_op op_mod (pe_callTy call_int' (by rfl) b_int PyProof.Rows.boot_int (pa_cons (pe_var (i := 3) rfl (Or.inl rfl)) pa_nil)) pe_int) (pe_op op_mul pe_int (pe_ix ix_list (pe_var (i := 0) rfl (Or.inl rfl)) pe_int (fun _ _ => rfl)))) pe_int))
    (pss_one (ps_ret (pe_op op_mod (pe_callTy call_int' (by rfl) b_int PyProof.Rows.boot_int (pa_cons (pe_op op_mod (pe_callTy call_int' (by rfl) b_int PyProof.Rows.boot_int (pa_cons (pe_op op_pow (pe_var (i := 2) rfl (Or.inl rfl)) pe_int) pa_nil)) pe_int) pa_nil)) (pe_var (i := 1) rfl (Or.inl rfl))))))))), ?_⟩
  obtain ⟨is, m, D, hm0, hm1⟩ := ri.ri.b
  have fin : ∀ (is' : List Int) (m' : Int) (H' : Hp), Near [d, c0] H H' → DeckA d c0 is' m' H' → 0 ≤ m' → m' ≤ ((n.k + 1 : Nat) : Int) → ∀ r, 0 ≤ r → r < b → Q (.int r) H' := fun is' m' H' nr D' z0 z1 r h0 h1 => by
    obtain ⟨r1, f1, x1, rf1⟩ := DeckA.rix (m := ⟨n.k + 1, n.os, n.cs⟩) x ri rf nr D' z0 z1 rfl rfl
    exact k (vInt r) ⟨n.k + 1, n.os, n.cs⟩ (q r h0 h1 ⟨n.k + 1, n.os, n.cs⟩ ⟨rfl, rfl, by simp, by simp⟩) _ F H' f1 x1 r1 rf1 (.int r)
  -- deck[1] = deck[1] + 1
  refine ⟨.ref d, rfl, d, _, 1, .int m, rfl, rfl, SqL.of D.hd, atI_nat (j := 1) rfl, m, 1, rfl, rfl, .ref d, rfl, d, _, 1, 1, rfl, rfl, D.hd, ixn (j := 1) (by show 1 < 2; decide), ?_⟩
  have D2 := D.setN (m := m + 1)
  have N2 : Near [d, c0] H (upd H d (.lst [.ref c0, .int (m + 1)])) := Near.refl.mut (by simp)
  change tSeq _ _ _ _ (upd H d (.lst [.ref c0, .int (m + 1)]))
  generalize upd H d (.lst [.ref c0, .int (m + 1)]) = H2 at D2 N2 ⊢
  have hlog : b.natAbs.log2 < 9000 := by
    have h1 : b.natAbs < 2 ^ 40 := by omega
    have := (Nat.log2_lt (by omega)).mpr h1
    omega
  refine ⟨1, rfl, by show 2 ≤ sizeLine; decide, fun p np => ⟨p, _, rfl, .inl (.inl upd_same), rfl, _, _, rfl, _, _, rfl, rfl, ?_⟩⟩
  have D3 := D2.new (o := .tup [.int 0, .int (-1)]) np
  have N3 : Near [d, c0] H (upd H2 p (.tup [.int 0, .int (-1)])) := N2.new np
  change tSeq _ _ _ [some (.ref d), some (.int b), none, some (.int 0), some (.int (-1))] (upd H2 p (.tup [.int 0, .int (-1)]))
  generalize upd H2 p (.tup [.int 0, .int (-1)]) = H3 at D3 N3 ⊢
  have key : ∀ cell at_ : Int, 0 ≤ cell → (10 ^ 18 ≤ cell → ∃ j : Nat, at_ = (j : Int) ∧ j < is.length) →
      (tSeq (tIfS (tTest (tOp (rI0 fun i j => .bl (decide (j ≤ i))) (tVar 3) (tOp (rI CPow fun i j => .int (i ^ j.toNat)) (tC (.int 10)) (tC (.int 18)))))
        (tSeq (tAsg (tOp (rI CDivW fun i j => .int (i / j)) (tCB (RLD K fInt) (tCons (tVar 3) tNil)) (tVar 1)) (gSub (tOp (rIxL K) (tVar 0) (tC (.int 0))) (tVar 4) rSetL))
          (tRet (tOp (rI (fun _ j => 0 < j) fun i j => .int (i % j)) (tCB (RLD K fInt) (tCons (tVar 3) tNil)) (tVar 1)))) tNext)
      (tSeq (tAsg (tOp (rI0 fun i j => .int (i + j)) (tOp (rI0 fun i j => .int (i + j)) (tOp (rI (fun _ j => 0 < j) fun i j => .int (i % j)) (tCB (RLD K fInt) (tCons (tVar 3) tNil)) (tC (.int 2147483477)))
          (tOp (rI CMul fun i j => .int (i * j)) (tC (.int 11213)) (tOp (rIxL K) (tVar 0) (tC (.int 1))))) (tC (.int 7))) (gName 2))
        (tRet (tOp (rI (fun _ j => 0 < j) fun i j => .int (i % j)) (tCB (RLD K fInt) (tCons (tOp (rI (fun _ j => 0 < j) fun i j => .int (i % j)) (tCB (RLD K fInt) (tCons (tOp (rI CPow fun i j => .int (i ^ j.toNat)) (tVar 2) (tC (.int 5))) tNil)) (tC (.int 2147483543))) tNil)) (tVar 1)))))
      { nx := fun _ H' => Q .non H', rt := Q } [some (.ref d), some (.int b), none, some (.int cell), some (.int at_)] H3 := by
    intro cell at_ hc hat
    refine ⟨.int cell, rfl, 10, 18, rfl, rfl, ⟨by decide, by decide, by decide⟩, cell, _, rfl, rfl, _, rfl, ite_b (c := decide (10 ^ 18 ≤ cell)) rfl (fun q => ?_) (fun _ => ?_)⟩
    · obtain ⟨j, rfl, hj⟩ := hat (of_decide_eq_true q)
      refine ⟨.int cell, rfl, int_int ⟨.int b, rfl, cell, b, rfl, rfl, ⟨hb, hlog⟩, .ref d, rfl, d, _, 0, .ref c0, rfl, rfl, SqL.of D3.hd, at0, .int j, rfl, c0, _, j, j, rfl, rfl, D3.h0, ixn (by rw [List.length_map]; exact hj), ?_⟩⟩
      have D4 := D3.set0 (is' := is.set j (cell / b)) (by rw [List.length_set]; exact D3.il) fun i hi => by
        rcases List.mem_or_eq_of_mem_set hi with z | z
        · exact D3.ip i z
        · rw [z]; exact Int.ediv_nonneg hc (by omega)
      have N4 : Near [d, c0] H (upd H3 c0 (.lst ((is.set j (cell / b)).map V.int))) := N3.mut (by simp)
      rw [List.map_set] at D4 N4
      exact ⟨.int cell, rfl, int_int ⟨.int b, rfl, cell, b, rfl, rfl, hb, fin _ _ _ N4 (by rw [← List.map_set] at D4 ⊢; exact D4) (by omega) (by omega) _ (Int.emod_nonneg _ (by omega)) (Int.emod_lt_of_pos _ hb)⟩⟩
    · refine ⟨.int cell, rfl, int_int ⟨cell, 2147483477, rfl, rfl, pz, .ref d, rfl, d, _, 1, .int (m + 1), rfl, rfl, SqL.of D3.hd, atI_nat (j := 1) rfl, 11213, m + 1, rfl, rfl, .inl ⟨by decide, by decide⟩, _, _, rfl, rfl, _, 7, rfl, rfl, ?_⟩⟩
      have z1 := Int.emod_nonneg cell (show (2147483477 : Int) ≠ 0 by decide)
      have z2 := Int.emod_lt_of_pos cell (show (0 : Int) < 2147483477 by decide)
      refine ⟨_, rfl, _, 5, rfl, rfl, ⟨by decide, by decide, ?_⟩, int_int ⟨_, 2147483543, rfl, rfl, pz, int_int ⟨.int b, rfl, _, b, rfl, rfl, hb, fin _ _ _ N3 D3 (by omega) (by omega) _ (Int.emod_nonneg _ (by omega)) (Int.emod_lt_of_pos _ hb)⟩⟩⟩
      show (cell % 2147483477 + 11213 * (m + 1) + 7).natAbs < 2 ^ 64
      omega
  refine ⟨.ref d, rfl, d, _, 0, .ref c0, rfl, rfl, SqL.of D3.hd, at0, len_ints D3.h0 ⟨is.length, 0, rfl, rfl, _, rfl, ite_b (c := decide ((0 : Int) < is.length)) rfl (fun q => ?_) (fun _ => ?_)⟩⟩
  · have hl := of_decide_eq_true q
    have hm1' : 0 ≤ (m + 1) % (is.length : Int) := Int.emod_nonneg _ (by omega)
    have hm2 : (m + 1) % (is.length : Int) < is.length := Int.emod_lt_of_pos _ hl
    obtain ⟨j, hj⟩ : ∃ j : Nat, (m + 1) % (is.length : Int) = (j : Int) := ⟨((m + 1) % (is.length : Int)).toNat, by omega⟩
    have hjl : j < is.length := by omega
    have hat : L2.atI (is.map V.int) ((m + 1) % (is.length : Int)) = some (.int is[j]) := by
      rw [hj]
      exact atI_nat (by rw [List.getElem?_map, List.getElem?_eq_getElem hjl]; rfl)
    refine ⟨.ref d, rfl, d, _, 1, .int (m + 1), rfl, rfl, SqL.of D3.hd, atI_nat (j := 1) rfl, int_int ⟨.ref d, rfl, d, _, 0, .ref c0, rfl, rfl, SqL.of D3.hd, at0, len_ints D3.h0 ⟨m + 1, is.length, rfl, rfl, hl, .ref d, rfl, d, _, 0, .ref c0, rfl, rfl, SqL.of D3.hd, at0, _, rfl, c0, _, _, .int is[j], rfl, rfl, SqL.of D3.h0, hat, ?_⟩⟩⟩
    exact key is[j] _ (D3.ip _ (List.getElem_mem hjl)) fun _ => ⟨j, hj, hjl⟩
  · exact key 0 (-1) (by decide) fun z => absurd z (by decide)
abbrev s_u_law_one : Stmt := top 43
theorem sc_u_law_one : FnScope ["deck", "items"] ["deck", "items"] (defScope s_u_law_one) := ⟨rfl, rfl, rfl, by decide +kernel, rfl, by decide +kernel, by decide +kernel⟩
def fs_one (d : Addr) : FS := fun as n p => ∃ ds : List D, as = [.raw (.ref d), .dat (.list ds)] ∧ 0 < ds.length ∧ ds.length < 1000 ∧ n.k < 2 ^ 40 ∧ ∀ x ∈ ds, ∀ m, Up n 1 m → p (.val (.dat x)) m
theorem ok_one (G : Fun K x qual s_u_law_one f fd) (T : Txt7 mg) (d c0 : Addr) (f_u_law_draw : PFn P w K mg base (amO K (bseA d c0)) "_law_draw" ["deck", "many"] (fs_draw d) 1) : FnOk P w K mg base CX0 2 f fd ["deck", "items"] (spD (amO K (bseA d c0)) K (fs_one d)) := by
  refine Fun.okD G sc_u_law_one (by decide) (fun as n p ⟨_, e, _⟩ => by rw [e]; rfl) fun cdv A' outer s H E hr => ⟨_, _,
  (psds_one (psd_ret (pd_ix (ix' (u1 hr)) (pd_var 1) (pd_fn f_u_law_draw hr (by decide) (by rfl) (pad_cons (pd_var 0) (pad_cons (pd_callB call_len' (by rfl) T.b_len (by decide +kernel) (pad_cons (pd_var 1) pad_nil)) pad_nil))) (fun _ _ => rfl)))), fun as n p ⟨ds, e, h0, hl, hn, h⟩ => ?_⟩
  subst e
  refine ⟨(ds.length : Int), rfl, by omega, by omega, hn, fun r r0 r1 m hm => ?_⟩
  obtain ⟨j, rfl⟩ : ∃ j : Nat, r = (j : Int) := ⟨r.toNat, by omega⟩
  have hj : j < ds.length := by omega
  exact ⟨ds[j], atI_nat (List.getElem?_eq_getElem hj), h _ (List.getElem_mem hj) m hm⟩
abbrev s_u_law_mixed : Stmt := top 44
theorem sc_u_law_mixed : FnScope ["deck", "items", "k", "left", "found"] ["deck", "items"] (defScope s_u_law_mixed) := ⟨rfl, rfl, rfl, by decide +kernel, rfl, by decide +kernel, by decide +kernel⟩
def fs_mixed (d : Addr) : FS := fun as n p => ∃ ds : List D, as = [.raw (.ref d), .dat (.list ds)] ∧ ds.length < 1000 ∧ n.k + 1000 < 2 ^ 40 ∧ ∀ ds' : List D, ds'.Perm ds → ∀ m, Up n ds.length m → p (.new (.lst ds')) m
theorem ok_mixed (G : Fun K x qual s_u_law_mixed f fd) (T : Txt7 mg) (d c0 : Addr) (f_u_law_draw : PFn P w K mg base (amO K (bseA d c0)) "_law_draw" ["deck", "many"] (fs_draw d) 1) : FnOk P w K mg base CX0 2 f fd ["deck", "items"] (spD (amO K (bseA d c0)) K (fs_mixed d)) := by
  refine Fun.okD G sc_u_law_mixed (by decide) (fun as n p ⟨_, e, _⟩ => by rw [e]; rfl) fun cdv A' outer s H E hr => ⟨_, _,
  (psds_cons (psd_par (i := 3) (j := 4) rfl sc_u_law_mixed.nd rfl rfl (by decide) rfl rfl (pd_callTy call_list' (by rfl) T.b_list (by decide +kernel) (pad_cons (pd_var 1) pad_nil)) (pd_lst pad_nil) (by rfl))
      (psds_cons (psd_for (ks := [2]) PassesOwn.never rfl (pid_rng1 (by rfl) T.b_range (pd_callB call_len' (by rfl) T.b_len (by decide +kernel) (pad_cons (pd_var 1) pad_nil))) (pgd_name (i := 2) (by decide) sc_u_law_mixed.nd rfl (by first | exact Or.inl rfl | exact Or.inr rfl)) (psds_one (psd_expr (pd_append (i := 4) rfl (by first | exact Or.inl rfl | exact Or.inr (Or.inl rfl) | exact Or.inr (Or.inr rfl)) (pd_popAt (i := 3) rfl (by first | exact Or.inl rfl | exact Or.inr (Or.inl rfl) | exact Or.inr (Or.inr rfl)) (pd_fn f_u_law_draw hr (by decide) (by rfl) (pad_cons (pd_var 0) (pad_cons (pd_callB call_len' (by rfl) T.b_len (by decide +kernel) (pad_cons (pd_var 3) pad_nil)) pad_nil))))))))
      (psds_one (psd_ret (pd_var 4))))), fun as n p ⟨ds, e, hl, hn, h⟩ => ?_⟩
  subst e
  refine ⟨[], rfl, le5 rfl, by omega, by omega, fun i e => ∃ (x : Sl) (rest found : List D) (m : Gh), nOw x ∧ (rest ++ found).Perm ds ∧ found.length = i ∧ Up n i m ∧ e = ⟨[.im (.raw (.ref d)), .im (.dat (.list ds)), x, .ow (.lst rest), .ow (.lst found)], m⟩, ⟨.un, ds, [], n, trivial, by simp, rfl, Up.rfl', rfl⟩, ?_, ?_⟩
  · rintro i t e ht ⟨x, rest, found, m, hx, hp, hi, hm, rfl⟩
    have hlen := hp.length_eq
    rw [List.length_append] at hlen
    have hi2 : i < ds.length := by
      have := (List.getElem?_eq_some_iff.mp ht).1
      simp [rngD] at this
      exact this
    have hm1 := hm.hi
    refine ⟨⟨hx, trivial⟩, rfl, (rest.length : Int), rfl, by omega, by omega, by show m.k < 2 ^ 40; omega, fun r r0 r1 m' hm' => ?_⟩
    obtain ⟨j, rfl⟩ : ∃ j : Nat, r = (j : Int) := ⟨r.toNat, by omega⟩
    have hj : j < rest.length := by omega
    refine ⟨rest[j], r0, by omega, List.getElem?_eq_getElem hj, ?_⟩
    have hpm : (rest.eraseIdx j ++ (found ++ [rest[j]])).Perm ds := by
      refine List.Perm.trans ?_ hp
      have h1 : (rest[j] :: rest.eraseIdx j).Perm rest := erase_perm hj
      have h2 : (rest.eraseIdx j ++ (found ++ [rest[j]])).Perm (rest[j] :: (rest.eraseIdx j ++ found)) := by
        rw [← List.append_assoc]
        exact (List.perm_append_singleton _ _)
      exact h2.trans (by rw [← List.cons_append]; exact h1.append_right found)
    refine ⟨by rw [hi]; omega, .im (.dat t), rest.eraseIdx j, found ++ [rest[j]], m', trivial, hpm, by simp [hi], hm.trans hm', rfl⟩
  · rintro e ⟨x, rest, found, m, hx, hp, hi, hm, rfl⟩
    have hlen := hp.length_eq
    rw [List.length_append] at hlen
    have e2 : (rngD 0 (ds.length : Int).toNat).length = ds.length := by simp [rngD]
    rw [e2] at hi hm
    have : rest = [] := List.length_eq_zero_iff.mp (by omega)
    subst this
    exact h found hp m hm
abbrev s_u_law_kind : Stmt := top 45
theorem sc_u_law_kind : FnScope ["deck", "many", "kinds"] ["deck", "many"] (defScope s_u_law_kind) := ⟨rfl, rfl, rfl, by decide +kernel, rfl, by decide +kernel, by decide +kernel⟩
def fs_kind (d : Addr) : FS := fun as n p => ∃ m : Nat, as = [.raw (.ref d), .dat (nD m)] ∧ m ≤ 3 ∧ n.k + 10 < 2 ^ 40 ∧ ∀ k, arK k = m → kOk k → ∀ m', Up n 2 m' → p (.val (.dat k.d)) m'
theorem ok_kind (G : Fun K x qual s_u_law_kind f fd) (T : Txt7 mg) (d c0 : Addr) (f_u_law_draw : PFn P w K mg base (amO K (bseA d c0)) "_law_draw" ["deck", "many"] (fs_draw d) 1) (f_u_law_one : PFn P w K mg base (amO K (bseA d c0)) "_law_one" ["deck", "items"] (fs_one d) 2) : FnOk P w K mg base CX0 3 f fd ["deck", "many"] (spD (amO K (bseA d c0)) K (fs_kind d)) := by
  refine Fun.okD G sc_u_law_kind (by decide) (fun as n p ⟨_, e, _⟩ => by rw [e]; rfl) fun cdv A' outer s H E hr => ⟨_, _,
  (psds_cons (psd_set (i := 2) sc_u_law_kind.nd rfl (by first | exact Or.inl rfl | exact Or.inr rfl) (pd_lst (pad_cons (pd_lst (pad_cons pd_str (pad_cons pd_str (pad_cons pd_str (pad_cons (pd_op op_sub' (pd_fn f_u_law_draw hr (by decide) (by rfl) (pad_cons (pd_var 0) (pad_cons pd_int pad_nil))) pd_int) (pad_cons pd_int (pad_cons pd_int pad_nil))))))) (pad_cons (pd_lst (pad_cons pd_str pad_nil)) (pad_cons (pd_lst (pad_cons pd_str (pad_cons pd_str (pad_cons pd_str pad_nil)))) (pad_cons (pd_lst (pad_cons pd_str pad_nil)) pad_nil))))))
      (psds_one (psd_ret (pd_fn f_u_law_one hr (by decide) (by rfl) (pad_cons (pd_var 0) (pad_cons (pd_ix (ix' (u1 hr)) (pd_var 2) (pd_var 1) (fun _ _ => rfl)) pad_nil)))))), fun as n p ⟨m, e, hm, hn, h⟩ => ?_⟩
  subst e
  refine ⟨199, rfl, by decide, by decide, by show n.k < _; omega, fun c c0 c1 n1 hn1 => ?_⟩
  have hn1 : Up n 1 n1 := hn1
  have hk1 := hn1.hi
  refine ⟨_, rfl, le5 rfl, _, rfl, le5 rfl, _, rfl, le5 rfl, _, rfl, le5 rfl, _, rfl, le5 rfl, ?_⟩
  match m, hm with
  | 0, _ =>
    refine ⟨rfl, _, atI_nat (j := 0) rfl, _, rfl, by show 0 < 6; decide, by show 6 < 1000; decide, by show n1.k < _; omega, fun x hx m' hm' => ?_⟩
    have hu : Up n 2 m' := hn1.trans hm'
    simp only [List.mem_cons, List.not_mem_nil, or_false] at hx
    rcases hx with rfl | rfl | rfl | rfl | rfl | rfl
    · exact h .inp rfl trivial _ hu
    · exact h .inp rfl trivial _ hu
    · exact h .inp rfl trivial _ hu
    · exact h (.con (c - 99)) rfl ⟨by omega, by omega⟩ _ hu
    · exact h (.con 0) rfl ⟨by decide, by decide⟩ _ hu
    · exact h (.con 7) rfl ⟨by decide, by decide⟩ _ hu
  | 1, _ =>
    refine ⟨rfl, _, atI_nat (j := 1) rfl, _, rfl, by show 0 < 1; decide, by show 1 < 1000; decide, by show n1.k < _; omega, fun x hx m' hm' => ?_⟩
    simp only [List.mem_cons, List.not_mem_nil, or_false] at hx
    subst hx
    exact h .neg rfl trivial _ (hn1.trans hm')
  | 2, _ =>
    refine ⟨rfl, _, atI_nat (j := 2) rfl, _, rfl, by show 0 < 3; decide, by show 3 < 1000; decide, by show n1.k < _; omega, fun x hx m' hm' => ?_⟩
    simp only [List.mem_cons, List.not_mem_nil, or_false] at hx
    rcases hx with rfl | rfl | rfl
    · exact h .add rfl trivial _ (hn1.trans hm')
    · exact h .sub rfl trivial _ (hn1.trans hm')
    · exact h .mul rfl trivial _ (hn1.trans hm')
  | 3, _ =>
    refine ⟨rfl, _, atI_nat (j := 3) rfl, _, rfl, by show 0 < 1; decide, by show 1 < 1000; decide, by show n1.k < _; omega, fun x hx m' hm' => ?_⟩
    simp only [List.mem_cons, List.not_mem_nil, or_false] at hx
    subst hx
    exact h .pick rfl trivial _ (hn1.trans hm')
abbrev s_u_law_renumbered : Stmt := top 46
theorem sc_u_law_renumbered : FnScope ["web", "order", "old", "one"] ["web", "order"] (defScope s_u_law_renumbered) := ⟨rfl, rfl, rfl, by decide +kernel, rfl, by decide +kernel, by decide +kernel⟩
def fs_renumb : FS := fun as n p => ∃ (w : List Sp1) (l : List Nat), as = [.dat (.list (w.map encS)), .dat (.list (l.map nD))] ∧ w.length < 64 ∧ (∀ x ∈ w, x.2.length < 64) ∧ (∀ x ∈ w, ∀ i ∈ x.2, i < w.length) ∧ l.Perm (List.range w.length) ∧ p (.val (.dat (encW (renW w l)))) n
theorem ok_renumb (G : Fun K x qual s_u_law_renumbered f fd) (T : Txt7 mg) : FnOk P w K mg base CX0 1 f fd ["web", "order"] (spD A K fs_renumb) := by
  refine Fun.okD G sc_u_law_renumbered (by decide) (fun as n p ⟨_, _, e, _⟩ => by rw [e]; rfl) fun cdv A' outer s H E hr => ⟨_, _,
  (psds_one (psd_ret (pd_callTy call_tuple' (by rfl) T.b_tuple (by decide +kernel) (pad_cons (pd_lc (own := [("old", 2)]) rfl sc_u_law_renumbered.nd (pid_seq (pd_var 1)) (blkOk_by rfl) (fun _ _ _ _ _ => ⟨_, (pgd_name (i := 2) (by decide) sc_u_law_renumbered.nd rfl (by first | exact Or.inl rfl | exact Or.inr rfl))⟩) (fun _ _ _ _ _ => ⟨_, pdts_nil⟩) (fun _ _ _ _ _ => ⟨_, (pd_tup (pad_cons (pd_ix (ix' (u1 hr)) (pd_ix (ix' (u1 hr)) (pd_var 0) (pd_var 2) (fun _ _ => rfl)) pd_int (fun _ _ => rfl)) (pad_cons (pd_callTy call_tuple' (by rfl) T.b_tuple (by decide +kernel) (pad_cons (pd_lc (own := [("one", 3)]) rfl sc_u_law_renumbered.nd (pid_seq (pd_ix (ix' (u1 hr)) (pd_ix (ix' (u1 hr)) (pd_var 0) (pd_var 2) (fun _ _ => rfl)) pd_int (fun _ _ => rfl))) (blkOk_by rfl) (fun _ _ _ _ _ => ⟨_, (pgd_name (i := 3) (by decide) sc_u_law_renumbered.nd rfl (by first | exact Or.inl rfl | exact Or.inr rfl))⟩) (fun _ _ _ _ _ => ⟨_, pdts_nil⟩) (fun _ _ _ _ _ => ⟨_, (pd_lidx (pd_var 1) (pd_var 3))⟩)) pad_nil)) pad_nil)))⟩)) pad_nil)))), fun as n p ⟨w, l, e, hl, ha, hi, hp, h⟩ => ?_⟩
  subst e
  have ll := hp.length_eq
  rw [List.length_range] at ll
  have hm : ∀ s ∈ l, s < w.length := fun s hs => List.mem_range.mp (hp.mem_iff.mp hs)
  refine lc_pure nD (fun s => some (encS (mvS (w.getD s (.inp, [])) fun i => l.idxOf i))) l rfl ⟨trivial, trivial⟩ (by omega) (fun s hs k hk => ?_) ?_
  · have hs' := hm s hs
    have hx : w.getD s (.inp, []) ∈ w := by rw [List.getD_eq_getElem?_getD, List.getElem?_eq_getElem hs']; exact List.getElem_mem hs'
    have hat : L2.atI (w.map encS) ((s : Nat) : Int) = some (encS (w.getD s (.inp, []))) := atI_nat (by rw [List.getElem?_map, List.getD_eq_getElem?_getD, List.getElem?_eq_getElem hs']; rfl)
    refine ⟨_, hat, _, rfl, _, hat, _, rfl, ?_⟩
    refine lc_pure nD (fun j => some (nD (l.idxOf j))) (w.getD s (.inp, [])).2 rfl ⟨trivial, trivial⟩ (by have := ha _ hx; omega) (fun j hj k hk => ?_) ?_
    · have hj' : j ∈ l := hp.mem_iff.mpr (List.mem_range.mpr (hi _ hx j hj))
      refine ⟨l.map fun (i : Nat) => (i : Int), ?_, List.mem_map.mpr ⟨j, hj', rfl⟩, hk _ _ ?_ rfl⟩
      · rw [nD_ints]; exact ints_map _
      · rw [idxOf_nat]; rfl
    · rw [filterMap_all]
      have e2 : ((w.getD s (.inp, [])).2.map fun j => nD (l.idxOf j)) = ((w.getD s (.inp, [])).2.map fun i => l.idxOf i).map nD := by rw [List.map_map]; rfl
      rw [e2]
      exact ⟨_, rfl, le5 rfl, hk _ _ rfl rfl⟩
  · rw [filterMap_all]
    have e : (l.map fun s => encS (mvS (w.getD s (.inp, [])) fun i => l.idxOf i)) = (renW w l).map encS := by rw [renW_eq hm, List.map_map]; rfl
    rw [e]
    exact h
abbrev s_u_law_woven : Stmt := top 47
theorem sc_u_law_woven : FnScope ["deck", "most", "is_queue", "k", "mixed", "cells", "steps", "many", "taken"] ["deck", "most", "is_queue"] (defScope s_u_law_woven) := ⟨rfl, rfl, rfl, by decide +kernel, rfl, by decide +kernel, by decide +kernel⟩
def fs_woven (d : Addr) : FS := fun as n p => ∃ (most : Nat) (q : Bool), as = [.raw (.ref d), .dat (nD most), .dat (.bool q)] ∧ 0 < most ∧ most ≤ 10 ∧ n.k + 2000 < 2 ^ 40 ∧ ∀ w row, WX most w → row.Perm (List.range w.length) → NCq q w row.idxOf → ∀ m, Up n 120 m → p (.val (.dat (.tuple [encW w, encN row]))) m
theorem wov_rest {d : Addr} {E : EndsP} {most j k : Nat} {q : Bool} {n : Gh} {w : List Sp1} {cells cs tk : List Nat} (hk3 : k ≤ 3) (hkl : k ≤ cells.length) (hj9 : j < 10) (wv : Weave q j w cells) (hn : n.k + 1500 < 2 ^ 40) (hcs : cs = restM q cells k) (htk : tk.Perm (topM q cells k))
    (hE : ∀ w' cells' m', Weave q (j + 1) w' cells' → Up n 7 m' → E.nx ⟨[.im (.raw (.ref d)), .im (.dat (nD most)), .im (.dat (.bool q)), .im (.dat (nD j)), .un, .ow (.lst (cells'.map nD)), .ow (.lst (w'.map encS)), .im (.dat (nD k)), .im (.dat (.list (tk.map nD)))], m'⟩) :
    wSeq (wDrop (wAppend 6 (wTup (wCons (wCall (fs_kind d) (wCons (wVar 0) (wCons (wVar 7) wNil))) (wCons (wCB fTuple (wCons (wCall (fs_mixed d) (wCons (wVar 0) (wCons (wVar 8) wNil))) wNil)) wNil))))) (wSet 5 (wOp oAdd (wVar 5) (wOp oMul (wLst (wCons (wVar 3) wNil)) (wCall (fs_draw d) (wCons (wVar 0) (wCons (wC (.int 4)) wNil)))))) E
      ⟨[.im (.raw (.ref d)), .im (.dat (nD most)), .im (.dat (.bool q)), .im (.dat (nD j)), .un, .ow (.lst (cs.map nD)), .ow (.lst (w.map encS)), .im (.dat (nD k)), .ow (.lst (tk.map nD))], n⟩ := by
  have tl : tk.length = k := by rw [htk.length_eq]; exact topM_len hkl
  have hcln := wv.cln
  have wl := wv.len
  refine ⟨k, rfl, hk3, by show n.k + 10 < _; omega, fun kd hkd hkd2 n1 u1 => ?_⟩
  have u1 : Up n 2 n1 := u1
  have := u1.hi
  refine ⟨rfl, tk.map nD, rfl, by rw [List.length_map]; omega, by show n1.k + 1000 < _; omega, fun ds' hp n2 u2 => ?_⟩
  rw [List.length_map, tl] at u2
  have u2 : Up n1 k n2 := u2
  obtain ⟨l, rfl, hpp⟩ := perm_nD hp
  have := u2.hi
  refine ⟨_, rfl, le5 rfl, ?_, ?_⟩
  · rw [List.length_map]; omega
  refine ⟨_, rfl, le5 rfl, 4, rfl, by decide, by decide, by show n2.k < _; omega, fun r r0 r1 n3 u3 => ?_⟩
  have u3 : Up n2 1 n3 := u3
  obtain ⟨qq, rfl⟩ : ∃ qq : Nat, r = (qq : Int) := ⟨r.toNat, by omega⟩
  have hrl : cs.length ≤ cells.length := by
    rw [hcs]
    unfold restM
    split
    · rw [List.length_drop]; omega
    · rw [List.length_take]; omega
  have hrep : (List.replicate ((qq : Int)).toNat [nD j]).flatten = (List.replicate qq j).map nD := by rw [Int.toNat_natCast, PL.rep_flat, List.map_replicate]
  refine ⟨by omega, by omega, ?_, rfl, ?_, ?_⟩
  · show 1 * ((qq : Int)).toNat ≤ 100000
    rw [Int.toNat_natCast]; omega
  · show (cs.map nD).length + ((List.replicate ((qq : Int)).toNat [nD j]).flatten).length ≤ 100000
    rw [hrep, List.length_map, List.length_map, List.length_replicate]; omega
  · have wv' := wv.step (kd := kd) hkl (hpp.trans htk) hkd hkd2 (show qq ≤ 3 by omega)
    have := hE _ _ n3 wv' ((u1.trans u2 (c := 5) (by omega)).trans u3)
    rw [← hcs, List.map_append, List.map_append, ← hrep] at this
    exact this
theorem ok_woven (G : Fun K x qual s_u_law_woven f fd) (T : Txt7 mg) (d c0 : Addr) (f_u_law_draw : PFn P w K mg base (amO K (bseA d c0)) "_law_draw" ["deck", "many"] (fs_draw d) 1) (f_u_law_one : PFn P w K mg base (amO K (bseA d c0)) "_law_one" ["deck", "items"] (fs_one d) 2) (f_u_law_mixed : PFn P w K mg base (amO K (bseA d c0)) "_law_mixed" ["deck", "items"] (fs_mixed d) 2) (f_u_law_kind : PFn P w K mg base (amO K (bseA d c0)) "_law_kind" ["deck", "many"] (fs_kind d) 3) (f_u_law_renumbered : PFn P w K mg base (amO K (bseA d c0)) "_law_renumbered" ["web", "order"] fs_renumb 1) :
    FnOk P w K mg base CX0 4 f fd ["deck", "most", "is_queue"] (spD (amO K (bseA d c0)) K (fs_woven d)) := by
  refine Fun.okD G sc_u_law_woven (by decide) (fun as n p ⟨_, _, e, _⟩ => by rw [e]; rfl) fun cdv A' outer s H E hr => ⟨_, _,
  (psds_cons (psd_par (i := 5) (j := 6) rfl sc_u_law_woven.nd rfl rfl (by decide) rfl rfl (pd_lst pad_nil) (pd_lst pad_nil) (by rfl))
      (psds_cons (psd_for (ks := [3]) PassesOwn.never rfl (pid_rng1 (by rfl) T.b_range (pd_op op_add' pd_int (pd_fn f_u_law_draw hr (by decide) (by rfl) (pad_cons (pd_var 0) (pad_cons (pd_var 1) pad_nil))))) (pgd_name (i := 3) (by decide) sc_u_law_woven.nd rfl (by first | exact Or.inl rfl | exact Or.inr rfl)) (psds_cons (psd_set (i := 7) sc_u_law_woven.nd rfl (by first | exact Or.inl rfl | exact Or.inr rfl) (pd_callB (call_min' rfl) (by rfl) T.b_min (by decide +kernel) (pad_cons (pd_fn f_u_law_one hr (by decide) (by rfl) (pad_cons (pd_var 0) (pad_cons (pd_lst (pad_cons pd_int (pad_cons pd_int (pad_cons pd_int (pad_cons pd_int (pad_cons pd_int (pad_cons pd_int pad_nil))))))) pad_nil))) (pad_cons (pd_callB call_len' (by rfl) T.b_len (by decide +kernel) (pad_cons (pd_var 5) pad_nil)) pad_nil))))
      (psds_cons (psd_set (i := 8) sc_u_law_woven.nd rfl (by first | exact Or.inl rfl | exact Or.inr rfl) (pd_ifExp (pdt_val (pd_var 2)) (pd_slice (pd_var 5) pod_none (pod_some (pd_var 7))) (pd_slice (pd_var 5) (pod_some (pd_op op_sub' (pd_callB call_len' (by rfl) T.b_len (by decide +kernel) (pad_cons (pd_var 5) pad_nil)) (pd_var 7))) pod_none)))
      (psds_cons (psd_set (i := 5) sc_u_law_woven.nd rfl (by first | exact Or.inl rfl | exact Or.inr rfl) (pd_ifExp (pdt_val (pd_var 2)) (pd_slice (pd_var 5) (pod_some (pd_var 7)) pod_none) (pd_slice (pd_var 5) pod_none (pod_some (pd_op op_sub' (pd_callB call_len' (by rfl) T.b_len (by decide +kernel) (pad_cons (pd_var 5) pad_nil)) (pd_var 7))))))
      (psds_cons (psd_expr (pd_append (i := 6) rfl (by first | exact Or.inl rfl | exact Or.inr (Or.inl rfl) | exact Or.inr (Or.inr rfl)) (pd_tup (pad_cons (pd_fn f_u_law_kind hr (by decide) (by rfl) (pad_cons (pd_var 0) (pad_cons (pd_var 7) pad_nil))) (pad_cons (pd_callTy call_tuple' (by rfl) T.b_tuple (by decide +kernel) (pad_cons (pd_fn f_u_law_mixed hr (by decide) (by rfl) (pad_cons (pd_var 0) (pad_cons (pd_var 8) pad_nil))) pad_nil)) pad_nil)))))
      (psds_one (psd_set (i := 5) sc_u_law_woven.nd rfl (by first | exact Or.inl rfl | exact Or.inr rfl) (pd_op op_add' (pd_var 5) (pd_op op_mul' (pd_lst (pad_cons (pd_var 3) pad_nil)) (pd_fn f_u_law_draw hr (by decide) (by rfl) (pad_cons (pd_var 0) (pad_cons pd_int pad_nil))))))))))))
      (psds_cons (psd_set (i := 4) sc_u_law_woven.nd rfl (by first | exact Or.inl rfl | exact Or.inr rfl) (pd_fn f_u_law_mixed hr (by decide) (by rfl) (pad_cons (pd_var 0) (pad_cons (pd_lrg1 rfl (by rfl) T.b_list (by rfl) T.b_range (pd_callB call_len' (by rfl) T.b_len (by decide +kernel) (pad_cons (pd_var 6) pad_nil))) pad_nil))))
      (psds_one (psd_ret (pd_tup (pad_cons (pd_fn f_u_law_renumbered hr (by decide) (by rfl) (pad_cons (pd_var 6) (pad_cons (pd_var 4) pad_nil))) (pad_cons (pd_callTy call_tuple' (by rfl) T.b_tuple (by decide +kernel) (pad_cons (pd_lc (own := [("k", 3)]) rfl sc_u_law_woven.nd (pid_rng1 (by rfl) T.b_range (pd_callB call_len' (by rfl) T.b_len (by decide +kernel) (pad_cons (pd_var 6) pad_nil))) (blkOk_by rfl) (fun _ _ _ _ _ => ⟨_, (pgd_name (i := 3) (by decide) sc_u_law_woven.nd rfl (by first | exact Or.inl rfl | exact Or.inr rfl))⟩) (fun _ _ _ _ _ => ⟨_, pdts_nil⟩) (fun _ _ _ _ _ => ⟨_, (pd_lidx (pd_var 4) (pd_var 3))⟩)) pad_nil)) pad_nil)))))))), fun as n p ⟨most, q, e, h0, hm, hn, h⟩ => ?_⟩
  subst e
  refine ⟨[], rfl, le5 rfl, [], rfl, le5 rfl, (most : Int), rfl, by omega, by omega, by show n.k < _; omega, fun r r0 r1 n1 u1 => ⟨by omega, by omega, ?_⟩⟩
  have u1 : Up n 1 n1 := u1
  refine ⟨fun j e => ∃ (w : List Sp1) (cells : List Nat) (x y z : Sl) (m : Gh), nOw x ∧ nOw y ∧ Weave q j w cells ∧ Up n (1 + 9 * j) m ∧
      e = ⟨[.im (.raw (.ref d)), .im (.dat (nD most)), .im (.dat (.bool q)), x, .un, .ow (.lst (cells.map nD)), .ow (.lst (w.map encS)), y, z], m⟩, ⟨[], [], .un, .un, .un, n1, trivial, trivial, Weave.zero, u1, rfl⟩, ?_, ?_⟩
  · rintro j t e ht ⟨w, cells, x, y, z, m, hx, hy, wv, um, rfl⟩
    obtain ⟨hj, rfl⟩ := rng_get0 ht
    have hk := um.hi
    have hj9 : j < 10 := by omega
    refine ⟨⟨hx, trivial⟩, _, rfl, le5 rfl, _, rfl, by show 0 < 6; decide, by show 6 < 1000; decide, by show m.k < _; omega, fun x' hx' m1 hm1 => ?_⟩
    have hm1 : Up m 1 m1 := hm1
    obtain ⟨mm, rfl, hmm⟩ : ∃ mm : Nat, x' = nD mm ∧ mm ≤ 3 := by
      simp only [List.mem_cons, List.not_mem_nil, or_false] at hx'
      rcases hx' with rfl | rfl | rfl | rfl | rfl | rfl
      · exact ⟨0, rfl, by decide⟩
      · exact ⟨0, rfl, by decide⟩
      · exact ⟨1, rfl, by decide⟩
      · exact ⟨2, rfl, by decide⟩
      · exact ⟨2, rfl, by decide⟩
      · exact ⟨3, rfl, by decide⟩
    have l1 : (cells.map nD).length = cells.length := List.length_map ..
    refine ⟨rfl, fun v hv h1 h2 => ?_⟩
    have hv' : v = (mm : Int) ∨ v = (((cells.map nD).length : Nat) : Int) := hv
    have h1' : ¬ (mm : Int) < v := h1
    have h2' : ¬ (((cells.map nD).length : Nat) : Int) < v := h2
    obtain ⟨k, rfl⟩ : ∃ k : Nat, v = (k : Int) := ⟨v.toNat, by omega⟩
    have hk3 : k ≤ 3 := by omega
    have hkl : k ≤ cells.length := by omega
    have fin := fun (cs tk : List Nat) (h1 : cs = restM q cells k) (h2 : tk.Perm (topM q cells k)) => wov_rest (E := { nx := fun e => ∃ (w : List Sp1) (cells : List Nat) (x y z : Sl) (m : Gh), nOw x ∧ nOw y ∧ Weave q (j + 1) w cells ∧ Up n (1 + 9 * (j + 1)) m ∧
      e = ⟨[.im (.raw (.ref d)), .im (.dat (nD most)), .im (.dat (.bool q)), x, .un, .ow (.lst (cells.map nD)), .ow (.lst (w.map encS)), y, z], m⟩, rt := p }) (d := d) (most := most) (j := j) (n := m1) (w := w) hk3 hkl hj9 wv (by have := hm1.hi; omega) h1 h2 fun w' cells' m' wv' um' => ⟨w', cells', .im (.dat (nD j)), .im (.dat (nD k)), .im (.dat (.list (tk.map nD))), m', trivial, trivial, wv', (um.trans hm1 (c := 1 + 9 * j + 1) (Nat.le_refl _)).trans um' (by omega), rfl⟩
    have hz : ((cells.map nD).length : Int) - (k : Int) = ((cells.length - k : Nat) : Int) := by rw [l1]; omega
    have e1 : cutD (cells.map nD) none (some (k : Int)) = (cells.take k).map nD := by rw [List.map_take]; exact cutD_take
    have e2 : cutD (cells.map nD) (some (k : Int)) none = (cells.drop k).map nD := by rw [List.map_drop]; exact cutD_drop
    have e3 : cutD (cells.map nD) none (some (((cells.map nD).length : Int) - (k : Int))) = (cells.take (cells.length - k)).map nD := by rw [List.map_take]; exact cutD_take' hz
    have e4 : cutD (cells.map nD) (some (((cells.map nD).length : Int) - (k : Int))) none = (cells.drop (cells.length - k)).map nD := by rw [List.map_drop]; exact cutD_drop' hz
    cases q with
    | true =>
      refine ⟨rfl, rfl, rfl, rfl, ?_⟩
      have := fin (cells.drop k) (cells.take k) rfl (.refl _)
      rw [← e1, ← e2] at this
      exact this
    | false =>
      refine ⟨rfl, rfl, rfl, rfl, rfl, rfl, ?_⟩
      have := fin (cells.take (cells.length - k)) (cells.drop (cells.length - k)) rfl (List.reverse_perm _).symm
      rw [← e3, ← e4] at this
      exact this
  · rintro e ⟨w, cells, x, y, z, m, hx, hy, wv, um, rfl⟩
    rw [rng_len] at wv um
    obtain ⟨kk, hkk⟩ : ∃ kk : Nat, kk = (1 + r).toNat := ⟨_, rfl⟩
    rw [← hkk] at wv um
    have hk := um.hi
    have hw := wv.wx (most := most) (by omega) (by omega)
    have wl := wv.len
    have l2 : (w.map encS).length = w.length := List.length_map ..
    refine ⟨rfl, by omega, by omega, _, rfl, ?_, by show m.k + 1000 < _; omega, fun ds' hp n2 u2 => ?_⟩
    · rw [rng_len]; omega
    have e0 : rngD 0 ((((w.map encS).length : Nat) : Int)).toNat = (List.range w.length).map nD := by rw [l2]; exact rng_nats _
    rw [e0] at hp
    obtain ⟨l, rfl, hpp⟩ := perm_nD hp
    rw [e0, List.length_map, List.length_range] at u2
    have u2 : Up m w.length n2 := u2
    have hpk : l.Perm (List.range kk) := by rw [← wl]; exact hpp
    have hll := hpp.length_eq
    rw [List.length_range] at hll
    obtain ⟨r1, r2⟩ := weave_row wv hpk
    refine ⟨rfl, rfl, w, l, rfl, by omega, hw.ar64, hw.bd, hpp, ?_⟩
    refine ⟨by omega, by omega, ?_⟩
    refine lc_pure nD (fun j => some (nD (l.idxOf j))) (List.range kk) (by rw [l2, wl]; exact rng_nats _) ⟨hx, trivial⟩ (by rw [List.length_range]; omega) (fun j hj k hk => ?_) ?_
    · refine ⟨l.map fun (i : Nat) => (i : Int), ?_, List.mem_map.mpr ⟨j, hpk.mem_iff.mpr hj, rfl⟩, hk _ _ ?_ rfl⟩
      · rw [nD_ints]; exact ints_map _
      · rw [idxOf_nat]; rfl
    · rw [filterMap_all]
      have e5 : ((List.range kk).map fun j => nD (l.idxOf j)) = ((List.range kk).map l.idxOf).map nD := by rw [List.map_map]; rfl
      rw [e5]
      exact ⟨_, rfl, le5 rfl, h (renW w l) _ (hw.ren hpp) r1 r2 n2 (um.trans u2 (by omega))⟩
end
end K39

namespace K39
open PySem L2 PL
structure Txt8 (mg : Str → Option Value) : Prop where
  b_len : mg "len" = none
  b_list : mg "list" = none
  b_range : mg "range" = none
  b_sorted : mg "sorted" = none
  b_tuple : mg "tuple" = none
section
variable {P : Program} {w : World} {K : PySem.W.Frag} {mg : Str → Option Value} {base : Heap} {A : Amb} {B : Bse} {f : Addr} {fd : FuncData} {x qual : Str}
def encTP (t : List Int) : D := .tuple [.int (t.getD 1 0), .int (t.getD 2 0)]
theorem tp_of {a : Nat} {l : List Nat} : (tiesOf a l).map encTP = (List.range l.length).map fun p => .tuple [nD a, nD p] := by
  unfold tiesOf
  refine List.ext_getElem? fun i => ?_
  rw [List.getElem?_map, List.getElem?_mapIdx, List.getElem?_map]
  by_cases c : i < l.length
  · rw [List.getElem?_eq_getElem c, List.getElem?_range c]; rfl
  · rw [List.getElem?_eq_none (by omega), List.getElem?_eq_none (by rw [List.length_range]; omega)]; rfl
abbrev s_u_law_inputs : Stmt := top 49
theorem sc_u_law_inputs : FnScope ["web", "found", "step", "place"] ["web"] (defScope s_u_law_inputs) := ⟨rfl, rfl, rfl, by decide +kernel, rfl, by decide +kernel, by decide +kernel⟩
def fs_linputs : FS := fun as n p => ∃ w : List Sp1, as = [.dat (encW w)] ∧ TOk w ∧ p (.new (.lst ((tiesL w).map encTP))) n
theorem ok_linputs (G : Fun K x qual s_u_law_inputs f fd) (T : Txt8 mg) : FnOk P w K mg base CX0 1 f fd ["web"] (spD A K fs_linputs) := by
  refine Fun.okD G sc_u_law_inputs (by decide) (fun as n p ⟨_, e, _⟩ => by rw [e]; rfl) fun cdv A' outer s H E hr => ⟨_, _,
  (psds_cons (psd_set (i := 1) sc_u_law_inputs.nd rfl (by first | exact Or.inl rfl | exact Or.inr rfl) (pd_lst pad_nil))
      (psds_cons (psd_for (ks := [2]) PassesOwn.never rfl (pid_rng1 (by rfl) T.b_range (pd_callB call_len' (by rfl) T.b_len (by decide +kernel) (pad_cons (pd_var 0) pad_nil))) (pgd_name (i := 2) (by decide) sc_u_law_inputs.nd rfl (by first | exact Or.inl rfl | exact Or.inr rfl)) (psds_one (psd_expr (pd_extend (i := 1) rfl (by first | exact Or.inl rfl | exact Or.inr (Or.inl rfl) | exact Or.inr (Or.inr rfl)) (pd_lc (own := [("place", 3)]) rfl sc_u_law_inputs.nd (pid_rng1 (by rfl) T.b_range (pd_callB call_len' (by rfl) T.b_len (by decide +kernel) (pad_cons (pd_ix (ix' (u1 hr)) (pd_ix (ix' (u1 hr)) (pd_var 0) (pd_var 2) (fun _ _ => rfl)) pd_int (fun _ _ => rfl)) pad_nil))) (blkOk_by rfl) (fun _ _ _ _ _ => ⟨_, (pgd_name (i := 3) (by decide) sc_u_law_inputs.nd rfl (by first | exact Or.inl rfl | exact Or.inr rfl))⟩) (fun _ _ _ _ _ => ⟨_, pdts_nil⟩) (fun _ _ _ _ _ => ⟨_, (pd_tup (pad_cons (pd_var 2) (pad_cons (pd_var 3) pad_nil)))⟩))))))
      (psds_one (psd_ret (pd_var 1))))), fun as n p ⟨w, e, tok, h⟩ => ?_⟩
  subst e
  have lw := tok.len
  have l1 : (w.map encS).length = w.length := List.length_map ..
  refine ⟨[], rfl, le5 rfl, by omega, by omega, fun i e => ∃ x y : Sl, nOw x ∧ nOw y ∧ e = ⟨[.im (.dat (encW w)), .ow (.lst ((tiesL (w.take i)).map encTP)), x, y], n⟩, ⟨.un, .un, trivial, trivial, rfl⟩, ?_, ?_⟩
  · rintro i t e ht ⟨x, y, hx, hy, rfl⟩
    obtain ⟨hi, rfl⟩ := rng_get0 ht
    have hi' : i < w.length := by omega
    have hs : w[i]? = some w[i] := List.getElem?_eq_getElem hi'
    have hat : L2.atI (w.map encS) (i : Int) = some (encS w[i]) := w_at hi'
    have l2 : (w[i].2.map nD).length = w[i].2.length := List.length_map ..
    have lar := tok.arity _ (List.getElem_mem hi')
    refine ⟨⟨hx, trivial⟩, _, hat, _, rfl, ?_⟩
    refine ⟨by omega, by omega, ?_⟩
    refine lc_pure nD (fun p => some (.tuple [nD i, nD p])) (List.range w[i].2.length) (by rw [l2]; exact rng_nats _) ⟨hy, trivial⟩ (by rw [List.length_range]; omega) (fun p hp k hk => ⟨_, rfl, le5 rfl, hk _ _ rfl rfl⟩) ?_
    rw [filterMap_all, ← tp_of]
    have e1 : (tiesL (w.take i)).map encTP ++ (tiesOf i w[i].2).map encTP = (tiesL (w.take (i + 1))).map encTP := by rw [tiesL_take w i w[i] hs, List.map_append]
    refine ⟨?_, .im (.dat (nD i)), y, trivial, hy, ?_⟩
    · rw [← List.length_append, e1, List.length_map]
      have := tiesL_take_le w (i + 1)
      have := tok.many
      omega
    · rw [e1]; rfl
  · rintro e ⟨x, y, hx, hy, rfl⟩
    have e1 : w.take (rngD 0 (((w.map encS).length : Nat) : Int).toNat).length = w := by rw [rng_len, l1, Int.toNat_natCast, List.take_length]
    rw [e1]
    exact h
abbrev s_u_law_ties : Stmt := top 48
theorem sc_u_law_ties : FnScope ["web", "taker", "place"] ["web"] (defScope s_u_law_ties) := ⟨rfl, rfl, rfl, by decide +kernel, rfl, by decide +kernel, by decide +kernel⟩
def fs_lties : FS := fun as n p => ∃ w : List Sp1, as = [.dat (encW w)] ∧ TOk w ∧ ∀ ss : List (List Int), ss.Perm (tiesL w) → p (.new (.lst (ss.map encI))) n
theorem ok_lties (G : Fun K x qual s_u_law_ties f fd) (T : Txt8 mg) (f_u_law_inputs : PFn P w K mg base A "_law_inputs" ["web"] fs_linputs 1) : FnOk P w K mg base CX0 2 f fd ["web"] (spD A K fs_lties) := by
  refine Fun.okD G sc_u_law_ties (by decide) (fun as n p ⟨_, e, _⟩ => by rw [e]; rfl) fun cdv A' outer s H E hr => ⟨_, _,
  (psds_one (psd_ret (pd_callB (call_sortedT' (d := 3) (B := 64) (by decide)) (by rfl) T.b_sorted (by decide +kernel) (pad_cons (pd_lc (own := [("taker", 1), ("place", 2)]) rfl sc_u_law_ties.nd (pid_seq (pd_fn f_u_law_inputs hr (by decide) (by rfl) (pad_cons (pd_var 0) pad_nil))) (blkOk_by rfl) (fun _ _ _ _ _ => ⟨_, (pgd_tup (n := 2) rfl (pgds_cons (pgd_name (i := 1) (by decide) sc_u_law_ties.nd rfl (by first | exact Or.inl rfl | exact Or.inr rfl)) (pgds_cons (pgd_name (i := 2) (by decide) sc_u_law_ties.nd rfl (by first | exact Or.inl rfl | exact Or.inr rfl)) pgds_nil)))⟩) (fun _ _ _ _ _ => ⟨_, pdts_nil⟩) (fun _ _ _ _ _ => ⟨_, (pd_tup (pad_cons (pd_ix (ix' (u1 hr)) (pd_ix (ix' (u1 hr)) (pd_ix (ix' (u1 hr)) (pd_var 0) (pd_var 1) (fun _ _ => rfl)) pd_int (fun _ _ => rfl)) (pd_var 2) (fun _ _ => rfl)) (pad_cons (pd_var 1) (pad_cons (pd_var 2) pad_nil))))⟩)) pad_nil)))), fun as n p ⟨w, e, tok, h⟩ => ?_⟩
  subst e
  have hm := tok.many
  refine ⟨w, rfl, tok, ?_⟩
  refine lc_pure encTP (fun t => some (encI t)) (tiesL w) rfl ⟨trivial, trivial, trivial⟩ (by omega) (fun t ht k hk => ?_) ?_
  · obtain ⟨a, y, p, g, h1, h2, rfl⟩ := tiesL_mem ht
    have ha := (List.getElem?_eq_some_iff.mp h1).1
    have hat : L2.atI (w.map encS) (a : Int) = some (encS y) := atI_nat (by rw [List.getElem?_map, h1]; rfl)
    have hat2 : L2.atI (y.2.map nD) (p : Int) = some (nD g) := atI_nat (by rw [List.getElem?_map, h2]; rfl)
    exact ⟨rfl, rfl, _, hat, _, rfl, _, hat2, _, rfl, le5 rfl, hk _ _ rfl rfl⟩
  · rw [filterMap_all]
    exact ⟨tiesL w, rfl, hm, fun t ht => tok.bd ht, fun ss h1 h2 => h ss h1⟩
/-- the takers of a step -/
structure TkOk (w : List Sp1) (tk : Nat → List Nat) : Prop where
  len : ∀ s < w.length, (tk s).length = remN w (List.range w.length) s
  mem : ∀ s < w.length, ∀ t, t ∈ tk s ↔ (t < w.length ∧ s ∈ inpW w t)
def tkD (w : List Sp1) (tk : Nat → List Nat) : D := .list ((List.range w.length).map fun s => .list ((tk s).map nD))
def tkL (ss : List (List Int)) (s : Nat) : List Nat := (ss.filter fun t => decide (t.headD 0 = (s : Int))).map fun t => (t.getD 1 0).toNat
theorem tk_ok {w : List Sp1} {ss : List (List Int)} (hp : ss.Perm (tiesL w)) : TkOk w (tkL ss) := by
  refine ⟨fun s hs => ?_, fun s hs t => ?_⟩
  · unfold tkL
    rw [List.length_map, (hp.filter _).length_eq, ties_cnt]
  · unfold tkL
    rw [List.mem_map]
    constructor
    · rintro ⟨y, hy, rfl⟩
      obtain ⟨h1, h2⟩ := List.mem_filter.mp hy
      obtain ⟨a, z, p, g, k1, k2, rfl⟩ := tiesL_mem (hp.mem_iff.mp h1)
      have e : (g : Int) = (s : Int) := of_decide_eq_true h2
      have e' : g = s := by omega
      subst e'
      show (a : Int).toNat < _ ∧ g ∈ inpW w (a : Int).toNat
      rw [Int.toNat_natCast]
      exact ⟨(List.getElem?_eq_some_iff.mp k1).1, by rw [inpW_of k1]; exact List.mem_of_getElem? k2⟩
    · rintro ⟨h1, h2⟩
      have k1 : w[t]? = some w[t] := List.getElem?_eq_getElem h1
      rw [inpW_of k1] at h2
      obtain ⟨p, hp2⟩ := List.mem_iff_getElem?.mp h2
      refine ⟨[(s : Int), (t : Int), (p : Int)], List.mem_filter.mpr ⟨hp.mem_iff.mpr ?_, decide_eq_true rfl⟩, Int.toNat_natCast t⟩
      unfold tiesL
      refine List.mem_flatten.mpr ⟨tiesOf t w[t].2, List.mem_mapIdx.mpr ⟨t, h1, rfl⟩, ?_⟩
      unfold tiesOf
      obtain ⟨z1, z2⟩ := List.getElem?_eq_some_iff.mp hp2
      exact List.mem_mapIdx.mpr ⟨p, z1, by rw [z2]⟩
def csT (ps : List Addr) (ss : List (List Int)) : List (Addr × Ow) := ps.mapIdx fun s p => (p, .lst ((tkL ss s).map nD))
theorem cs_len {ps : List Addr} {ss : List (List Int)} : (csT ps ss).length = ps.length := List.length_mapIdx
theorem cs_get {ps : List Addr} {ss : List (List Int)} {g : Nat} {q : Addr} (h : ps[g]? = some q) : (csT ps ss)[g]? = some (q, .lst ((tkL ss g).map nD)) := by
  unfold csT
  rw [List.getElem?_mapIdx, h]; rfl
theorem cs_set {ps : List Addr} {ss : List (List Int)} {g a p : Nat} {q : Addr} (h : ps[g]? = some q) : (csT ps ss).set g (q, .lst ((tkL ss g).map nD ++ [nD a])) = csT ps (ss ++ [[(g : Int), (a : Int), (p : Int)]]) := by
  refine List.ext_getElem? fun i => ?_
  rw [List.getElem?_set]
  have tl : ∀ i, tkL (ss ++ [[(g : Int), (a : Int), (p : Int)]]) i = tkL ss i ++ if g = i then [a] else [] := by
    intro i
    unfold tkL
    rw [List.filter_append, List.map_append]
    congr 1
    by_cases c : g = i
    · rw [if_pos c, List.filter_cons_of_pos (by simp [c])]
      show [((a : Int)).toNat] = [a]
      rw [Int.toNat_natCast]
    · rw [if_neg c, List.filter_cons_of_neg (by simp; omega)]; rfl
  unfold csT
  rw [List.length_mapIdx, List.getElem?_mapIdx, List.getElem?_mapIdx]
  by_cases c : g = i
  · subst c
    rw [if_pos rfl, if_pos (List.getElem?_eq_some_iff.mp h).1, h, tl, if_pos rfl, Option.map_some, List.map_append]; rfl
  · rw [if_neg c, tl, if_neg c, List.append_nil]
abbrev s_u_law_takers : Stmt := top 50
theorem sc_u_law_takers : FnScope ["web", "found", "giver", "taker", "place", "step"] ["web"] (defScope s_u_law_takers) := ⟨rfl, rfl, rfl, by decide +kernel, rfl, by decide +kernel, by decide +kernel⟩
def fs_ltakers : FS := fun as n p => ∃ w : List Sp1, as = [.dat (encW w)] ∧ SW w ∧ ∀ tk, TkOk w tk → p (.new (.lst ((List.range w.length).map fun s => .list ((tk s).map nD)))) n
theorem ok_ltakers (G : Fun K x qual s_u_law_takers f fd) (T : Txt8 mg) (f_u_law_ties : PFn P w K mg base (amO K B) "_law_ties" ["web"] fs_lties 2) : FnOk P w K mg base CX0 3 f fd ["web"] (spD (amO K B) K fs_ltakers) := by
  refine Fun.okD G sc_u_law_takers (by decide) (fun as n p ⟨_, e, _⟩ => by rw [e]; rfl) fun cdv A' outer s H E hr => ⟨_, _,
  (psds_cons (psd_setLc (i := 1) rfl sc_u_law_takers.nd rfl rfl (sw_true rfl rfl rfl (by decide +kernel)) (own := [("step", 5)]) (pid_seq (pd_var 0)) (blkOk_by rfl) (fun _ _ _ _ _ => ⟨_, (pgd_name (i := 5) (by decide) sc_u_law_takers.nd rfl (by first | exact Or.inl rfl | exact Or.inr rfl))⟩) (fun _ _ _ _ _ => ⟨_, pdts_nil⟩) (fun _ _ _ _ _ => ⟨_, (pd_keep (pd_lst pad_nil))⟩))
      (psds_cons (psd_for (ks := [2, 3, 4]) PassesOwn.never rfl (pid_seq (pd_fn f_u_law_ties hr (by decide) (by rfl) (pad_cons (pd_var 0) pad_nil))) (pgd_tup (n := 3) rfl (pgds_cons (pgd_name (i := 2) (by decide) sc_u_law_takers.nd rfl (by first | exact Or.inl rfl | exact Or.inr rfl)) (pgds_cons (pgd_name (i := 3) (by decide) sc_u_law_takers.nd rfl (by first | exact Or.inl rfl | exact Or.inr rfl)) (pgds_cons (pgd_name (i := 4) (by decide) sc_u_law_takers.nd rfl (by first | exact Or.inl rfl | exact Or.inr rfl)) pgds_nil)))) (psds_one (psd_expr (pd_appendC (pd_lendD (pd_ix (ix' (u1 hr)) (pd_var 1) (pd_var 2) (fun _ _ => rfl))) (pd_var 3)))))
      (psds_one (psd_ret (pd_melt 1 (pd_var 1)))))), fun as n p ⟨w, e, sw, h⟩ => ?_⟩
  subst e
  have tok := sw.tok
  have lw := tok.len
  have l1 : (w.map encS).length = w.length := List.length_map ..
  refine lc_inv (fun j acc n' => ∃ ps : List Addr, acc = ps.map rawD ∧ ps.length = j ∧ n' = ⟨n.k, n.os, n.cs ++ csT ps []⟩) ⟨trivial, trivial⟩ (by omega) ⟨[], rfl, rfl, by show n = ⟨n.k, n.os, n.cs ++ []⟩; rw [List.append_nil]⟩ ?_ ?_
  · rintro j t acc n' kk ht ⟨ps, rfl, hl, rfl⟩ hk
    refine ⟨_, rfl, le5 rfl, fun q => hk _ _ rfl ⟨ps ++ [q], by rw [List.map_append]; rfl, by rw [List.length_append, hl]; rfl, ?_⟩⟩
    show (⟨n.k, n.os, (n.cs ++ csT ps []) ++ [(q, .lst [])]⟩ : Gh) = _
    unfold csT
    rw [List.append_assoc, List.mapIdx_append]; rfl
  · rintro acc n' ⟨ps, rfl, hl, rfl⟩
    rw [l1] at hl
    refine ⟨w, rfl, tok, fun ss hp => ?_⟩
    have lss := hp.length_eq
    have hmany := tok.many
    refine ⟨fun i e => ∃ x y z : Sl, nOw x ∧ nOw y ∧ nOw z ∧ e = ⟨[.im (.dat (encW w)), .ow (.lst (ps.map rawD)), x, y, z, .un], ⟨n.k, n.os, n.cs ++ csT ps (ss.take i)⟩⟩, ⟨.un, .un, .un, trivial, trivial, trivial, rfl⟩, ?_, ?_⟩
    · rintro i d e hd ⟨x, y, z, hx, hy, hz, rfl⟩
      rw [List.getElem?_map] at hd
      obtain ⟨t, ht, rfl⟩ := Option.map_eq_some_iff.mp hd
      obtain ⟨a, y', p', g, k1, k2, rfl⟩ := tiesL_mem (hp.mem_iff.mp (List.mem_of_getElem? ht))
      have hg : g < w.length := sw.bd _ (List.mem_of_getElem? k1) g (List.mem_of_getElem? k2)
      have hq : ps[g]? = some ps[g] := List.getElem?_eq_getElem (by omega)
      have hat : L2.atI (ps.map rawD) (g : Int) = some (rawD ps[g]) := atI_nat (by rw [List.getElem?_map, hq]; rfl)
      have hc : (n.cs ++ csT ps (ss.take i))[n.cs.length + g]? = some (ps[g], .lst ((tkL (ss.take i) g).map nD)) := by
        rw [List.getElem?_append_right (by omega), Nat.add_sub_cancel_left]
        exact cs_get hq
      refine ⟨⟨hx, hy, hz, trivial⟩, rfl, rfl, rfl, ?_⟩
      refine ⟨_, hat, ps[g], n.cs.length + g, _, rfl, hc, ?_⟩
      have ltk : (tkL (ss.take i) g).length ≤ 64 := by
        unfold tkL
        rw [List.length_map]
        refine Nat.le_trans (List.length_filter_le _ _) ?_
        rw [List.length_take]; omega
      refine appC_var (d := nD a) (ds := (tkL (ss.take i) g).map nD) rfl hc (by rw [List.length_map]; omega) ?_
      refine ⟨.im (.dat (nD g)), .im (.dat (nD a)), .im (.dat (nD p')), trivial, trivial, trivial, ?_⟩
      have et : ss.take (i + 1) = ss.take i ++ [[(g : Int), (a : Int), (p' : Int)]] := by rw [List.take_succ, ht]; rfl
      have es : (n.cs ++ csT ps (ss.take i)).set (n.cs.length + g) (ps[g], .lst ((tkL (ss.take i) g).map nD ++ [nD a])) = n.cs ++ csT ps (ss.take (i + 1)) := by
        rw [List.set_append_right _ _ (by omega), Nat.add_sub_cancel_left, cs_set (p := p') hq, et]
      rw [← es]; rfl
    · rintro e ⟨x, y, z, hx, hy, hz, rfl⟩
      rw [List.length_map, List.take_length]
      have ea : (csT ps ss).map (fun c => rawD c.1) = ps.map rawD := by
        unfold csT
        refine List.ext_getElem? fun i => ?_
        rw [List.getElem?_map, List.getElem?_mapIdx, List.getElem?_map]
        cases ps[i]? <;> rfl
      have eb : (csT ps ss).map (fun c => owD c.2) = (List.range w.length).map fun s => .list ((tkL ss s).map nD) := by
        unfold csT
        refine List.ext_getElem? fun i => ?_
        rw [List.getElem?_map, List.getElem?_mapIdx, List.getElem?_map]
        by_cases c : i < w.length
        · rw [List.getElem?_eq_getElem (by omega), List.getElem?_range c]; rfl
        · rw [List.getElem?_eq_none (by omega), List.getElem?_eq_none (by rw [List.length_range]; omega)]; rfl
      have hh := h (tkL ss) (tk_ok hp)
      rw [← eb] at hh
      exact ⟨n.cs, csT ps ss, rfl, congrArg (fun z => some (Sl.ow (.lst z))) ea.symm, hh⟩
theorem eqv_nil {l : List D} : PyData.eqv (.list l) (.list []) = l.isEmpty := by cases l <;> rfl
theorem tk_at {w : List Sp1} {tk : Nat → List Nat} {s : Nat} (hs : s < w.length) : L2.atI ((List.range w.length).map fun s => PyData.list ((tk s).map nD)) (s : Int) = some (.list ((tk s).map nD)) := atI_nat (by rw [List.getElem?_map, List.getElem?_range hs]; rfl)
theorem filt_emp {α : Type} {l : List α} {c : α → Bool} {g : α → D} : ((l.filter c).map g).isEmpty = l.all fun x => !c x := by
  rw [List.isEmpty_map]
  induction l with
  | nil => rfl
  | cons a l ih =>
    rw [List.all_cons, List.filter_cons]
    cases c a <;> simp [ih]
theorem nice_ones {α : Type} {n : Nat} {l : List α} : nice (n + 1) (.list (l.map fun _ => PyData.int 1)) = true := nice_list fun d hd => by
  obtain ⟨_, _, rfl⟩ := List.mem_map.mp hd
  exact nice_int
abbrev s_u_law_may_come : Stmt := top 51
theorem sc_u_law_may_come : FnScope ["web", "takers", "row", "step", "is_queue", "giver", "at", "others", "other", "taker"] ["web", "takers", "row", "step", "is_queue"] (defScope s_u_law_may_come) := ⟨rfl, rfl, rfl, by decide +kernel, rfl, by decide +kernel, by decide +kernel⟩
def fs_may : FS := fun as n p => ∃ (w : List Sp1) (tk : Nat → List Nat) (pre : List Nat) (s : Nat) (q : Bool), as = [.dat (encW w), .dat (tkD w tk), .dat (encN pre), .dat (nD s), .dat (.bool q)] ∧ SW w ∧ TkOk w tk ∧ s < w.length ∧ (∀ x ∈ pre, x < w.length) ∧ pre.length ≤ 10 ∧ p (vBl (mayB q w pre s)) n
theorem may_in {w : List Sp1} {tk : Nat → List Nat} {pre os : List Nat} {s : Nat} {E : EndsP} {n : Gh} {x4 x5 x6 x8 : Sl} (okO : Nat → Bool) (sw : SW w) (ok : TkOk w tk) (hpre : pre.length ≤ 10) (hos : ∀ o ∈ os, o < w.length) (h8 : nOw x8)
    (htk : ∀ o, o < w.length → ((tk o).all fun t => !(!decide (t = s) && !decide (t ∈ pre))) = okO o) (h1 : os.all okO = true → ∀ x8, nOw x8 → E.nx ⟨[.im (.dat (encW w)), .im (.dat (tkD w tk)), .im (.dat (encN pre)), .im (.dat (nD s)), x4, x5, x6, .im (.dat (encN os)), x8, .un], n⟩) (h0 : os.all okO = false → E.rt (vBl false) n) :
    ForOk [8] (wgName 8) (wIfS (wTest (wOp oNe (wLc (wiSeq (wOp oIx (wVar 1) (wVar 8))) (wgName 9) (wAnd (wTest (wOp oNe (wVar 9) (wVar 3))) (wTest (wOp oNotIn (wVar 9) (wVar 2)))) (wC (PyData.int 1)) [9]) (wLst wNil))) (wRet (wC (PyData.bool false))) wSkip) E (os.map nD)
      ⟨[.im (.dat (encW w)), .im (.dat (tkD w tk)), .im (.dat (encN pre)), .im (.dat (nD s)), x4, x5, x6, .im (.dat (encN os)), x8, .un], n⟩ := by
  refine ⟨fun i e => ∃ x8 : Sl, nOw x8 ∧ ((os.take i).all okO) = true ∧ e = ⟨[.im (.dat (encW w)), .im (.dat (tkD w tk)), .im (.dat (encN pre)), .im (.dat (nD s)), x4, x5, x6, .im (.dat (encN os)), x8, .un], n⟩, ⟨x8, h8, rfl, rfl⟩, ?_, ?_⟩
  · rintro i d e hd ⟨x8, h8, hal, rfl⟩
    rw [List.getElem?_map] at hd
    obtain ⟨o, ho, rfl⟩ := Option.map_eq_some_iff.mp hd
    have hom := List.mem_of_getElem? ho
    have hol := hos o hom
    have htl : (tk o).length ≤ 64 := by
      rw [ok.len o hol, ← ties_cnt]
      have := List.length_filter_le (fun t => decide (t.headD 0 = (o : Int))) (tiesL w)
      have := sw.tok.many
      omega
    have et : os.take (i + 1) = os.take i ++ [o] := by rw [List.take_succ, ho]; rfl
    refine ⟨⟨h8, trivial⟩, _, tk_at hol, ?_⟩
    refine lc_pure nD (fun t => if (!decide (t = s) && !decide (t ∈ pre)) = true then some (PyData.int 1) else none) (tk o) rfl ⟨trivial, trivial⟩ (by omega) (fun t ht k hk => ?_) ?_
    · refine ⟨shaped_int, shaped_int, ite_b (c := !decide (t = s)) ?_ (fun q1 => ?_) (fun q1 => ?_)⟩
      · rw [show PyData.eqv (nD t) (nD s) = decide ((t : Int) = (s : Int)) from eqv_intD]
        exact congrArg not (decide_eq_decide.mpr (by omega))
      · refine ⟨shaped_int, shaped_nice (n := 1) nice_encN, ite_b (c := !decide (t ∈ pre)) ?_ (fun q2 => hk _ _ (if_pos (by rw [q1, q2]; rfl)) rfl) (fun q2 => hk _ _ (if_neg (by rw [q1, q2]; decide)) rfl)⟩
        rw [any_nD]
      · exact hk _ _ (if_neg (by rw [q1]; simp)) rfl
    rw [filterMap_ite]
    refine ⟨_, rfl, le5 rfl, shaped_nice (n := 1) nice_ones, shaped_nice (n := 1) (nice_list (by simp)), ite_b (c := !okO o) ?_ (fun c => ?_) (fun c => ?_)⟩
    · rw [eqv_nil, filt_emp, htk o hol]
    · refine h0 ?_
      rw [List.all_eq_false]
      exact ⟨o, hom, by simpa using c⟩
    · exact ⟨.im (.dat (nD o)), trivial, by rw [et, List.all_append, hal]; simpa using c, rfl⟩
  · rintro e ⟨x8, h8, hal, rfl⟩
    rw [List.length_map, List.take_length] at hal
    exact h1 hal x8 h8
theorem ok_may (G : Fun K x qual s_u_law_may_come f fd) (T : Txt8 mg) : FnOk P w K mg base CX0 1 f fd ["web", "takers", "row", "step", "is_queue"] (spD A K fs_may) := by
  refine Fun.okD G sc_u_law_may_come (by decide) (fun as n p ⟨_, _, _, _, _, e, _⟩ => by rw [e]; rfl) fun cdv A' outer s H E hr => ⟨_, _,
  (psds_cons (psd_if (pdt_cmp (op_ne' hr.units) (pd_lc (own := [("giver", 5)]) rfl sc_u_law_may_come.nd (pid_seq (pd_ix (ix' (u1 hr)) (pd_ix (ix' (u1 hr)) (pd_var 0) (pd_var 3) (fun _ _ => rfl)) pd_int (fun _ _ => rfl))) (blkOk_by rfl) (fun _ _ _ _ _ => ⟨_, (pgd_name (i := 5) (by decide) sc_u_law_may_come.nd rfl (by first | exact Or.inl rfl | exact Or.inr rfl))⟩) (fun _ _ _ _ _ => ⟨_, (pdts_one (pdt_cmp (op_notIn' (u65 hr)) (pd_var 5) (pd_var 2) (by rfl)))⟩) (fun _ _ _ _ _ => ⟨_, pd_int⟩)) (pd_lst pad_nil) (nomark _)) (psds_one (psd_ret pd_bl)) psds_nil)
      (psds_cons (psd_for (ks := [5]) PassesOwn.never rfl (pid_seq (pd_ix (ix' (u1 hr)) (pd_ix (ix' (u1 hr)) (pd_var 0) (pd_var 3) (fun _ _ => rfl)) pd_int (fun _ _ => rfl))) (pgd_name (i := 5) (by decide) sc_u_law_may_come.nd rfl (by first | exact Or.inl rfl | exact Or.inr rfl)) (psds_cons (psd_set (i := 6) sc_u_law_may_come.nd rfl (by first | exact Or.inl rfl | exact Or.inr rfl) (pd_tidx (pd_var 2) (pd_var 5)))
      (psds_cons (psd_set (i := 7) sc_u_law_may_come.nd rfl (by first | exact Or.inl rfl | exact Or.inr rfl) (pd_ifExp (pdt_val (pd_var 4)) (pd_slice (pd_var 2) pod_none (pod_some (pd_var 6))) (pd_slice (pd_var 2) (pod_some (pd_op op_add' (pd_var 6) pd_int)) pod_none)))
      (psds_one (psd_for (ks := [8]) PassesOwn.never rfl (pid_seq (pd_var 7)) (pgd_name (i := 8) (by decide) sc_u_law_may_come.nd rfl (by first | exact Or.inl rfl | exact Or.inr rfl)) (psds_one (psd_if (pdt_cmp (op_ne' hr.units) (pd_lc (own := [("taker", 9)]) rfl sc_u_law_may_come.nd (pid_seq (pd_ix (ix' (u1 hr)) (pd_var 1) (pd_var 8) (fun _ _ => rfl))) (blkOk_by rfl) (fun _ _ _ _ _ => ⟨_, (pgd_name (i := 9) (by decide) sc_u_law_may_come.nd rfl (by first | exact Or.inl rfl | exact Or.inr rfl))⟩) (fun _ _ _ _ _ => ⟨_, (pdts_one (PDW.pdt (pdw_and (pdt_cmp (op_ne' hr.units) (pd_var 9) (pd_var 3) (nomark _)) (pdw_and1 (pdt_cmp (op_notIn' (u65 hr)) (pd_var 9) (pd_var 2) (by rfl))))))⟩) (fun _ _ _ _ _ => ⟨_, pd_int⟩)) (pd_lst pad_nil) (nomark _)) (psds_one (psd_ret pd_bl)) psds_nil)))))))
      (psds_one (psd_ret pd_bl)))), fun as n p ⟨w, tk, pre, s, q, e, sw, ok, hs, hpre, hl, hp⟩ => ?_⟩
  subst e
  have l10 := sw.l1
  have i3 := sw_inp3 sw s
  have einp := w_inp hs
  have sideF : (Nat → List Nat) := fun g => if q = true then pre.take (pre.idxOf g) else pre.drop (pre.idxOf g + 1)
  obtain ⟨okO, hokO⟩ : ∃ okO : Nat → Bool, okO = fun o => (List.range w.length).all fun t => !decide (o ∈ inpW w t) || (decide (t = s) || decide (t ∈ pre)) := ⟨_, rfl⟩
  obtain ⟨sd, hsd⟩ : ∃ sd : Nat → List Nat, sd = fun g => if q = true then pre.take (pre.idxOf g) else pre.drop (pre.idxOf g + 1) := ⟨_, rfl⟩
  have em : mayB q w pre s = ((inpW w s).all (fun g => decide (g ∈ pre)) && (inpW w s).all fun g => (sd g).all okO) := by rw [hokO, hsd]; rfl
  have hno : mayB q w pre s = false → p (vBl false) n := fun e => by rwa [e] at hp
  have htk : ∀ o, o < w.length → ((tk o).all fun t => !(!decide (t = s) && !decide (t ∈ pre))) = okO o := by
    intro o ho
    rw [hokO]
    rw [Bool.eq_iff_iff, List.all_eq_true, List.all_eq_true]
    constructor
    · intro h t ht
      by_cases c : o ∈ inpW w t
      · have := h t ((ok.mem o ho t).mpr ⟨List.mem_range.mp ht, c⟩)
        simp at this ⊢
        exact .inr this
      · simp [c]
    · intro h t ht
      obtain ⟨h1, h2⟩ := (ok.mem o ho t).mp ht
      have := h t (List.mem_range.mpr h1)
      simp [h2] at this ⊢
      exact this
  refine ⟨_, w_at hs, _, rfl, ?_⟩
  refine lc_pure nD (fun g => if (!decide (g ∈ pre)) = true then some (PyData.int 1) else none) (inpW w s) (by rw [einp]) ⟨trivial, trivial⟩ (by omega) (fun g hg k hk => ?_) ?_
  · refine ⟨shaped_int, shaped_nice (n := 1) nice_encN, ite_b (c := !decide (g ∈ pre)) ?_ (fun q => hk _ _ (if_pos q) rfl) (fun q => hk _ _ (if_neg (by rw [q]; decide)) rfl)⟩
    rw [any_nD]
  rw [filterMap_ite]
  refine ⟨_, rfl, le5 rfl, shaped_nice (n := 1) nice_ones, shaped_nice (n := 1) (nice_list (by simp)), ite_b (c := !(inpW w s).all fun g => decide (g ∈ pre)) ?_ (fun c => ?_) (fun c => ?_)⟩
  · rw [eqv_nil, filt_emp]
    simp
  · refine hno ?_
    rw [em, show ((inpW w s).all fun g => decide (g ∈ pre)) = false by simpa using c, Bool.false_and]
  have hall : ((inpW w s).all fun g => decide (g ∈ pre)) = true := by simpa using c
  have hin : ∀ g ∈ inpW w s, g ∈ pre := by simpa using hall
  refine ⟨_, w_at hs, _, rfl, ?_⟩
  rw [einp]
  refine ⟨fun i e => ∃ x5 x6 x7 x8 : Sl, nOw x5 ∧ nOw x8 ∧ (((inpW w s).take i).all fun g => (sd g).all okO) = true ∧ e = ⟨[.im (.dat (encW w)), .im (.dat (tkD w tk)), .im (.dat (encN pre)), .im (.dat (nD s)), .im (.dat (.bool q)), x5, x6, x7, x8, .un], n⟩, ⟨.un, .un, .un, .un, trivial, trivial, rfl, rfl⟩, ?_, ?_⟩
  · rintro i d e hd ⟨x5, x6, x7, x8, h5, h8, hal, rfl⟩
    rw [List.getElem?_map] at hd
    obtain ⟨g, hg, rfl⟩ := Option.map_eq_some_iff.mp hd
    have hgm := List.mem_of_getElem? hg
    refine ⟨⟨h5, trivial⟩, _, ints_map' pre, List.mem_map.mpr ⟨g, hin g hgm, rfl⟩, ?_⟩
    rw [idxOf_nat]
    have esd : sd g = if q = true then pre.take (pre.idxOf g) else pre.drop (pre.idxOf g + 1) := by rw [hsd]
    have hsl : ∀ o ∈ sd g, o < w.length := fun o ho => by
      rw [esd] at ho
      refine hpre o ?_
      split at ho
      · exact List.mem_of_mem_take ho
      · exact List.mem_of_mem_drop ho
    have et : (inpW w s).take (i + 1) = (inpW w s).take i ++ [g] := by rw [List.take_succ, hg]; rfl
    have fin := fun (x4 x5 x6 : Sl) (E : EndsP) h1 h0 => may_in (x4 := x4) (x5 := x5) (x6 := x6) (x8 := x8) (s := s) (pre := pre) (os := sd g) (E := E) (n := n) okO sw ok hl hsl h8 htk h1 h0
    have stop : (sd g).all okO = false → p (vBl false) n := fun e => hno (by
      rw [em, hall, Bool.true_and, List.all_eq_false]
      exact ⟨g, hgm, by rw [e]; decide⟩)
    cases q with
    | true =>
      have e1 : cutD (pre.map nD) none (some ((pre.idxOf g : Nat) : Int)) = (sd g).map nD := by rw [cutD_take, ← List.map_take, esd]; rfl
      show ForOk _ _ _ _ (cutD (pre.map nD) none (some ((pre.idxOf g : Nat) : Int))) ⟨[_, _, _, _, _, _, _, .im (.dat (.tuple (cutD (pre.map nD) none (some ((pre.idxOf g : Nat) : Int))))), _, _], _⟩
      rw [e1]
      exact fin _ _ _ _ (fun hal2 x8 h8 => ⟨.im (.dat (nD g)), _, _, x8, trivial, h8, by rw [et, List.all_append, hal, Bool.true_and, List.all_cons, hal2]; rfl, rfl⟩) stop
    | false =>
      have e1 : cutD (pre.map nD) (some ((pre.idxOf g : Nat) + 1 : Int)) none = (sd g).map nD := by rw [cutD_drop' (k := pre.idxOf g + 1) (by omega), ← List.map_drop, esd]; rfl
      show ForOk _ _ _ _ (cutD (pre.map nD) (some ((pre.idxOf g : Nat) + 1 : Int)) none) ⟨[_, _, _, _, _, _, _, .im (.dat (.tuple (cutD (pre.map nD) (some ((pre.idxOf g : Nat) + 1 : Int)) none))), _, _], _⟩
      rw [e1]
      exact fin _ _ _ _ (fun hal2 x8 h8 => ⟨.im (.dat (nD g)), _, _, x8, trivial, h8, by rw [et, List.all_append, hal, Bool.true_and, List.all_cons, hal2]; rfl, rfl⟩) stop
  · rintro e ⟨x5, x6, x7, x8, h5, h8, hal, rfl⟩
    rw [List.length_map, List.take_length] at hal
    have : p (vBl true) n := by rw [em, hall, hal] at hp; exact hp
    exact this
abbrev s_u_law_is_right : Stmt := top 52
theorem sc_u_law_is_right : FnScope ["web", "row", "is_queue", "takers", "at"] ["web", "row", "is_queue"] (defScope s_u_law_is_right) := ⟨rfl, rfl, rfl, by decide +kernel, rfl, by decide +kernel, by decide +kernel⟩
def fs_right : FS := fun as n p => ∃ (w : List Sp1) (row : List Nat) (q : Bool), as = [.dat (encW w), .dat (encN row), .dat (.bool q)] ∧ SW w ∧ row.Perm (List.range w.length) ∧ p (vBl (rightB q w row)) n
theorem ok_right (G : Fun K x qual s_u_law_is_right f fd) (T : Txt8 mg) (f_u_law_takers : PFn P w K mg base (amO K B) "_law_takers" ["web"] fs_ltakers 3) (f_u_law_may_come : PFn P w K mg base (amO K B) "_law_may_come" ["web", "takers", "row", "step", "is_queue"] fs_may 1) : FnOk P w K mg base CX0 4 f fd ["web", "row", "is_queue"] (spD (amO K B) K fs_right) := by
  refine Fun.okD G sc_u_law_is_right (by decide) (fun as n p ⟨_, _, _, e, _⟩ => by rw [e]; rfl) fun cdv A' outer s H E hr => ⟨_, _,
  (psds_cons (psd_set (i := 3) sc_u_law_is_right.nd rfl (by first | exact Or.inl rfl | exact Or.inr rfl) (pd_fn f_u_law_takers hr (by decide) (by rfl) (pad_cons (pd_var 0) pad_nil)))
      (psds_one (psd_ret (pd_cmp (op_eq' hr.units) (pd_frz 3 (pd_lc (own := [("at", 4)]) rfl sc_u_law_is_right.nd (pid_rng1 (by rfl) T.b_range (pd_callB call_len' (by rfl) T.b_len (by decide +kernel) (pad_cons (pd_var 1) pad_nil))) (blkOk_by rfl) (fun _ _ _ _ _ => ⟨_, (pgd_name (i := 4) (by decide) sc_u_law_is_right.nd rfl (by first | exact Or.inl rfl | exact Or.inr rfl))⟩) (fun _ _ _ _ _ => ⟨_, (pdts_one (pdt_not (pdt_val (pd_fn f_u_law_may_come hr (by decide) (by rfl) (pad_cons (pd_var 0) (pad_cons (pd_var 3) (pad_cons (pd_slice (pd_var 1) pod_none (pod_some (pd_var 4))) (pad_cons (pd_ix (ix' (u1 hr)) (pd_var 1) (pd_var 4) (fun _ _ => rfl)) (pad_cons (pd_var 2) pad_nil)))))))))⟩) (fun _ _ _ _ _ => ⟨_, pd_int⟩))) (pd_lst pad_nil) (nomark _))))), fun as n p ⟨w, row, q, e, sw, hp, h⟩ => ?_⟩
  subst e
  have l10 := sw.l1
  have lr := hp.length_eq
  rw [List.length_range] at lr
  have l1 : (row.map nD).length = row.length := List.length_map ..
  refine ⟨w, rfl, sw, fun tk ok => ?_⟩
  refine ⟨by omega, by omega, ?_⟩
  refine lc_pure nD (fun i => if (!mayB q w (row.take i) (row.getD i 0)) = true then some (PyData.int 1) else none) (List.range row.length) (by rw [l1]; exact rng_nats _) ⟨trivial, trivial⟩ (by rw [List.length_range]; omega) (fun i hi k hk => ?_) ?_
  · have hi' := List.mem_range.mp hi
    have hg : row[i]? = some (row.getD i 0) := by rw [List.getD_eq_getElem?_getD, List.getElem?_eq_getElem hi']; rfl
    have hm : row.getD i 0 < w.length := List.mem_range.mp (hp.mem_iff.mp (List.mem_of_getElem? hg))
    refine ⟨_, atI_nat (v := nD (row.getD i 0)) (by rw [List.getElem?_map, hg]; rfl), w, tk, row.take i, row.getD i 0, q, ?_, sw, ok, hm, fun x hx => List.mem_range.mp (hp.mem_iff.mp (List.mem_of_mem_take hx)), by rw [List.length_take]; omega, ?_⟩
    · have e1 : cutD (row.map nD) none (some (i : Int)) = (row.take i).map nD := by rw [cutD_take, ← List.map_take]
      show [Av.dat (encW w), .dat (tkD w tk), .dat (.tuple (cutD (row.map nD) none (some (i : Int)))), .dat (nD (row.getD i 0)), .dat (.bool q)] = _
      rw [e1]; rfl
    · exact ite_b (c := !mayB q w (row.take i) (row.getD i 0)) rfl (fun q => hk _ _ (if_pos q) rfl) (fun q => hk _ _ (if_neg (by rw [q]; decide)) rfl)
  · rw [filterMap_ite]
    refine ⟨_, rfl, le5 rfl, shaped_nice (n := 1) nice_ones, shaped_nice (n := 1) (nice_list (by simp)), ?_⟩
    rw [eqv_nil, filt_emp]
    have e : ((List.range row.length).all fun i => !(!mayB q w (row.take i) (row.getD i 0))) = rightB q w row := by
      unfold rightB
      congr 1
      funext i
      rw [Bool.not_not]
    rw [e]
    exact h
abbrev s_u_law_worths : Stmt := top 53
theorem sc_u_law_worths : FnScope ["deck", "web", "found", "step"] ["deck", "web"] (defScope s_u_law_worths) := ⟨rfl, rfl, rfl, by decide +kernel, rfl, by decide +kernel, by decide +kernel⟩
def fs_worths (d : Addr) : FS := fun as n p => ∃ w : List Sp1, as = [.raw (.ref d), .dat (encW w)] ∧ w.length ≤ 10 ∧ n.k + 1000 < 2 ^ 40 ∧ ∀ wo : List Int, wo.length = inpN w → (∀ v ∈ wo, -99 ≤ v ∧ v ≤ 99) → ∀ m, Up n 20 m → p (.val (.dat (.tuple (wo.map PyData.int)))) m
theorem ok_worths (G : Fun K x qual s_u_law_worths f fd) (T : Txt8 mg) (d c0 : Addr) (f_u_law_draw : PFn P w K mg base (amO K (bseA d c0)) "_law_draw" ["deck", "many"] (fs_draw d) 1) (f_u_law_one : PFn P w K mg base (amO K (bseA d c0)) "_law_one" ["deck", "items"] (fs_one d) 2) :
    FnOk P w K mg base CX0 3 f fd ["deck", "web"] (spD (amO K (bseA d c0)) K (fs_worths d)) := by
  refine Fun.okD G sc_u_law_worths (by decide) (fun as n p ⟨_, e, _⟩ => by rw [e]; rfl) fun cdv A' outer s H E hr => ⟨_, _,
  (psds_cons (psd_set (i := 2) sc_u_law_worths.nd rfl (by first | exact Or.inl rfl | exact Or.inr rfl) (pd_lst pad_nil))
      (psds_cons (psd_for (ks := [3]) PassesOwn.never rfl (pid_seq (pd_var 1)) (pgd_name (i := 3) (by decide) sc_u_law_worths.nd rfl (by first | exact Or.inl rfl | exact Or.inr rfl)) (psds_one (psd_if (pdt_cmp (op_eq' hr.units) (pd_ix (ix' (u1 hr)) (pd_var 3) pd_int (fun _ _ => rfl)) pd_str (nomark _)) (psds_one (psd_expr (pd_append (i := 2) rfl (by first | exact Or.inl rfl | exact Or.inr (Or.inl rfl) | exact Or.inr (Or.inr rfl)) (pd_fn f_u_law_one hr (by decide) (by rfl) (pad_cons (pd_var 0) (pad_cons (pd_lst (pad_cons pd_int (pad_cons pd_int (pad_cons (pd_un un_neg' pd_int) (pad_cons pd_int (pad_cons (pd_op op_sub' (pd_fn f_u_law_draw hr (by decide) (by rfl) (pad_cons (pd_var 0) (pad_cons pd_int pad_nil))) pd_int) pad_nil)))))) pad_nil)))))) psds_nil)))
      (psds_one (psd_ret (pd_callTy call_tuple' (by rfl) T.b_tuple (by decide +kernel) (pad_cons (pd_var 2) pad_nil)))))), fun as n p ⟨w, e, hl, hn, h⟩ => ?_⟩
  subst e
  refine ⟨[], rfl, le5 rfl, fun i e => ∃ (wo : List Int) (x : Sl) (m : Gh), nOw x ∧ wo.length = inpN (w.take i) ∧ (∀ v ∈ wo, -99 ≤ v ∧ v ≤ 99) ∧ Up n (2 * i) m ∧ e = ⟨[.im (.raw (.ref d)), .im (.dat (encW w)), .ow (.lst (wo.map PyData.int)), x], m⟩, ⟨[], .un, n, trivial, rfl, by simp, Up.rfl', rfl⟩, ?_, ?_⟩
  · rintro i t e ht ⟨wo, x, m, hx, hlw, hb, um, rfl⟩
    rw [List.getElem?_map] at ht
    obtain ⟨y, hy, rfl⟩ := Option.map_eq_some_iff.mp ht
    have hil := (List.getElem?_eq_some_iff.mp hy).1
    have hum := um.hi
    have htk : w.take (i + 1) = w.take i ++ [y] := by rw [List.take_succ, hy]; rfl
    have hwl : wo.length ≤ 10 := by
      rw [hlw]
      unfold inpN
      have := List.length_filter_le (fun x : Sp1 => decide (x.1 = .inp)) (w.take i)
      have := List.length_take_le i w
      rw [List.length_take] at *
      omega
    refine ⟨⟨hx, trivial⟩, _, rfl, y.1.shp, Kd.shp .inp, ite_b (Kd.eqd y.1 .inp) (fun q => ?_) (fun q => ?_)⟩
    · refine ⟨199, rfl, by decide, by decide, by show m.k < _; omega, fun c c0 c1 m1 hm1 => ?_⟩
      have hm1 : Up m 1 m1 := hm1
      have := hm1.hi
      refine ⟨_, rfl, le5 rfl, _, rfl, by show 0 < 5; decide, by show 5 < 1000; decide, by show m1.k < _; omega, fun v hv m2 hm2 => ?_⟩
      have hm2 : Up m1 1 m2 := hm2
      obtain ⟨vi, rfl, h1, h2⟩ : ∃ vi : Int, v = .int vi ∧ -99 ≤ vi ∧ vi ≤ 99 := by
        simp only [List.mem_cons, List.not_mem_nil, or_false] at hv
        rcases hv with rfl | rfl | rfl | rfl | rfl
        · exact ⟨0, rfl, by decide, by decide⟩
        · exact ⟨1, rfl, by decide, by decide⟩
        · exact ⟨-1, rfl, by decide, by decide⟩
        · exact ⟨2, rfl, by decide, by decide⟩
        · exact ⟨c - 99, rfl, by omega, by omega⟩
      refine ⟨by rw [List.length_map]; omega, wo ++ [vi], .im (.dat (encS y)), m2, trivial, ?_, fun v hv => ?_, (um.trans hm1 (c := 2 * i + 1) (by omega)).trans hm2 (by omega), by rw [List.map_append]; rfl⟩
      · unfold inpN
        rw [htk, List.filter_append, List.length_append, List.length_append, hlw, List.filter_cons_of_pos (by simpa using q)]
        rfl
      · rcases List.mem_append.mp hv with z | z
        · exact hb v z
        · rw [List.mem_singleton.mp z]; exact ⟨h1, h2⟩
    · refine ⟨wo, .im (.dat (encS y)), m, trivial, ?_, hb, um.mono (by omega), rfl⟩
      unfold inpN
      rw [htk, List.filter_append, List.length_append, hlw, List.filter_cons_of_neg (by simpa using q)]
      rfl
  · rintro e ⟨wo, x, m, hx, hlw, hb, um, rfl⟩
    rw [List.length_map, List.take_length] at hlw
    rw [List.length_map] at um
    exact ⟨rfl, h wo hlw hb m (um.mono (by omega))⟩
theorem rem_le {w : List Sp1} (sw : SW w) (s : Nat) : remN w (List.range w.length) s ≤ 30 := by
  rw [← ties_cnt]
  refine Nat.le_trans (List.length_filter_le _ _) ?_
  have := tiesL_len (w := w) fun x hx => by rw [sw.ar x hx]; exact arK_le _
  have := sw.l1
  omega
abbrev s_u_law_some_program : Stmt := top 54
theorem sc_u_law_some_program : FnScope ["deck", "web", "row", "step", "takers", "found", "takes"] ["deck", "web", "row"] (defScope s_u_law_some_program) := ⟨rfl, rfl, rfl, by decide +kernel, rfl, by decide +kernel, by decide +kernel⟩
def fs_some (d : Addr) : FS := fun as n p => ∃ (w : List Sp1) (row : List Nat), as = [.raw (.ref d), .dat (encW w), .dat (encN row)] ∧ SW w ∧ row.Perm (List.range w.length) ∧ n.k + 2000 < 2 ^ 40 ∧ ∀ g : List Ins, g.map (·.1) = row → (∀ j ∈ g, InsOk w j ∧ j.2.2 = remN w (List.range w.length) j.1) → ∀ m, Up n 40 m → p (.val (.dat (encP g))) m
theorem ok_some (G : Fun K x qual s_u_law_some_program f fd) (T : Txt8 mg) (d c0 : Addr) (f_u_law_mixed : PFn P w K mg base (amO K (bseA d c0)) "_law_mixed" ["deck", "items"] (fs_mixed d) 2) (f_u_law_takers : PFn P w K mg base (amO K (bseA d c0)) "_law_takers" ["web"] fs_ltakers 3) :
    FnOk P w K mg base CX0 4 f fd ["deck", "web", "row"] (spD (amO K (bseA d c0)) K (fs_some d)) := by
  refine Fun.okD G sc_u_law_some_program (by decide) (fun as n p ⟨_, _, e, _⟩ => by rw [e]; rfl) fun cdv A' outer s H E hr => ⟨_, _,
  (psds_cons (psd_par (i := 4) (j := 5) rfl sc_u_law_some_program.nd rfl rfl (by decide) rfl rfl (pd_fn f_u_law_takers hr (by decide) (by rfl) (pad_cons (pd_var 1) pad_nil)) (pd_lst pad_nil) (by rfl))
      (psds_cons (psd_for (ks := [3]) PassesOwn.never rfl (pid_seq (pd_var 2)) (pgd_name (i := 3) (by decide) sc_u_law_some_program.nd rfl (by first | exact Or.inl rfl | exact Or.inr rfl)) (psds_cons (psd_set (i := 6) sc_u_law_some_program.nd rfl (by first | exact Or.inl rfl | exact Or.inr rfl) (pd_callTy call_tuple' (by rfl) T.b_tuple (by decide +kernel) (pad_cons (pd_fn f_u_law_mixed hr (by decide) (by rfl) (pad_cons (pd_var 0) (pad_cons (pd_lrg1 rfl (by rfl) T.b_list (by rfl) T.b_range (pd_callB call_len' (by rfl) T.b_len (by decide +kernel) (pad_cons (pd_ix (ix' (u1 hr)) (pd_ix (ix' (u1 hr)) (pd_var 1) (pd_var 3) (fun _ _ => rfl)) pd_int (fun _ _ => rfl)) pad_nil))) pad_nil))) pad_nil)))
      (psds_one (psd_expr (pd_append (i := 5) rfl (by first | exact Or.inl rfl | exact Or.inr (Or.inl rfl) | exact Or.inr (Or.inr rfl)) (pd_tup (pad_cons (pd_var 3) (pad_cons (pd_var 6) (pad_cons (pd_callB call_len' (by rfl) T.b_len (by decide +kernel) (pad_cons (pd_ix (ix' (u1 hr)) (pd_var 4) (pd_var 3) (fun _ _ => rfl)) pad_nil)) pad_nil)))))))))
      (psds_one (psd_ret (pd_callTy call_tuple' (by rfl) T.b_tuple (by decide +kernel) (pad_cons (pd_var 5) pad_nil)))))), fun as n p ⟨w, row, e, sw, hp, hn, h⟩ => ?_⟩
  subst e
  have l10 := sw.l1
  have lr := hp.length_eq
  rw [List.length_range] at lr
  refine ⟨w, rfl, sw, fun tk ok => ?_⟩
  refine ⟨_, rfl, le5 rfl, fun i e => ∃ (g : List Ins) (x y : Sl) (m : Gh), nOw x ∧ g.map (·.1) = row.take i ∧ (∀ j ∈ g, InsOk w j ∧ j.2.2 = remN w (List.range w.length) j.1) ∧ Up n (3 * i) m ∧ e = ⟨[.im (.raw (.ref d)), .im (.dat (encW w)), .im (.dat (encN row)), x, .ow (.lst ((List.range w.length).map fun s => .list ((tk s).map nD))), .ow (.lst (g.map encJ)), y], m⟩, ⟨[], .un, .un, n, trivial, rfl, by simp, Up.rfl', rfl⟩, ?_, ?_⟩
  · rintro i t e ht ⟨g, x, y, m, hx, hg, hok, um, rfl⟩
    rw [List.getElem?_map] at ht
    obtain ⟨s, hs, rfl⟩ := Option.map_eq_some_iff.mp ht
    have hil := (List.getElem?_eq_some_iff.mp hs).1
    have hum := um.hi
    have hsl : s < w.length := List.mem_range.mp (hp.mem_iff.mp (List.mem_of_getElem? hs))
    have i3 := sw_inp3 sw s
    have einp := w_inp hsl
    have l2 : (w[s].2.map nD).length = (inpW w s).length := by rw [List.length_map, einp]
    refine ⟨⟨hx, trivial⟩, _, w_at hsl, _, rfl, by omega, by omega, _, rfl, ?_, by show m.k + 1000 < _; omega, fun ds' hpm m1 hm1 => ?_⟩
    · rw [rng_len]; omega
    have e0 : rngD 0 (((w[s].2.map nD).length : Nat) : Int).toNat = (List.range (inpW w s).length).map nD := by rw [l2]; exact rng_nats _
    rw [e0] at hpm
    rw [e0, List.length_map, List.length_range] at hm1
    obtain ⟨l, rfl, hpp⟩ := perm_nD hpm
    have hm1 : Up m (inpW w s).length m1 := hm1
    refine ⟨rfl, _, tk_at hsl, _, rfl, le5 rfl, ?_, g ++ [(s, l, remN w (List.range w.length) s)], .im (.dat (nD s)), .im (.dat (encN l)), m1, trivial, ?_, fun j hj => ?_, um.trans hm1 (by omega), ?_⟩
    · rw [List.length_map]
      have := congrArg List.length hg
      rw [List.length_map, List.length_take] at this
      omega
    · rw [List.map_append, hg, List.take_succ, hs]; rfl
    · rcases List.mem_append.mp hj with z | z
      · exact hok j z
      · rw [List.mem_singleton.mp z]
        exact ⟨⟨hsl, hpp, rem_le sw s⟩, rfl⟩
    · have : (encJ (s, l, remN w (List.range w.length) s)) = .tuple [nD s, encN l, .int (((tk s).map nD).length : Nat)] := by rw [List.length_map, ok.len s hsl]; rfl
      rw [List.map_append, show List.map encJ [(s, l, remN w (List.range w.length) s)] = [_] from congrArg (fun z => [z]) this]
      rfl
  · rintro e ⟨g, x, y, m, hx, hg, hok, um, rfl⟩
    rw [List.length_map] at hg um
    rw [List.take_length] at hg
    exact ⟨rfl, h g hg hok m (um.mono (by omega))⟩
end
end K39

namespace K39
open PySem L2 PL
structure Txt9 (mg : Str → Option Value) : Prop where
  b_len : mg "len" = none
  b_list : mg "list" = none
  b_range : mg "range" = none
  b_repr : mg "repr" = none
  b_tuple : mg "tuple" = none
/-! ### the plain law -/
theorem er_map {α β : Type} (f : α → β) : ∀ (l : List α) (i : Nat), (l.map f).eraseIdx i = (l.eraseIdx i).map f
  | [], _ => rfl
  | a :: l, 0 => rfl
  | a :: l, i + 1 => by rw [List.map_cons, List.eraseIdx_cons_succ, List.eraseIdx_cons_succ, List.map_cons, er_map f l i]
theorem _root_.PL.WX.mono {m m' : Nat} {w : List Sp1} (h : WX m w) (hm : m ≤ m') : WX m' w := ⟨h.l0, Nat.le_trans h.l1 hm, h.ar, h.bd, let ⟨rk, a, b⟩ := h.acy; ⟨rk, a, fun s hs => Nat.lt_of_lt_of_le (b s hs) hm⟩⟩
theorem prog_ok {w : List Sp1} (sw : SW w) {row : List Nat} (hp : row.Perm (List.range w.length)) {q : Bool} : (∀ j ∈ progN w q row, InsOk w j ∧ j.2.2 = remN w (List.range w.length) j.1) ∧ (progN w q row).map (·.1) = row := by
  have nd : row.Nodup := hp.nodup_iff.mpr List.nodup_range
  refine ⟨fun j hj => ?_, ?_⟩
  · unfold progN at hj
    obtain ⟨s, hs, rfl⟩ := List.mem_map.mp hj
    have hsl := List.mem_range.mp (hp.mem_iff.mp hs)
    refine ⟨⟨hsl, takes_perm nd fun g hg => hp.mem_iff.mpr (List.mem_range.mpr (inpW_bd sw.bd hg).1), ?_⟩, remN_perm w s hp⟩
    show remN w row s ≤ 30
    rw [remN_perm w s hp]
    exact rem_le sw s
  · unfold progN
    rw [List.map_map]
    exact List.map_id' row
theorem row_plain {w : List Sp1} (sw : SW w) {row : List Nat} (hp : row.Perm (List.range w.length)) (nc : NCq false w row.idxOf) (wo : List Int) : findsB w wo false [] (progN w false row) = true := by
  have nd : row.Nodup := hp.nodup_iff.mpr List.nodup_range
  have rr : RowR w [] row := rowR_right.mpr ((right_nc hp sw.bd).mpr nc)
  exact row_finds (wo := wo) nd (suf := row) (pre := []) (h := []) rfl (by simp) rfl rr
theorem plain_nc {w : List Sp1} (sw : SW w) {row : List Nat} (hp : row.Perm (List.range w.length)) {g : List Ins} {wo : List Int} (hg : g.map (·.1) = row) (ok : ∀ j ∈ g, InsOk w j ∧ j.2.2 = remN w (List.range w.length) j.1) (hf : findsB w wo false [] g = true) : NCq false w row.idxOf := by
  have nd : row.Nodup := hp.nodup_iff.mpr List.nodup_range
  have h1 := finds_row (w := w) (wo := wo) (row := row) (p := g) (pre := []) (h := []) ⟨fun j hj => (ok j hj).1, fun j hj => by rw [(ok j hj).2]; exact remN_perm w _ hp.symm⟩ (by rw [hg]; rfl) nd (by simp) rfl hf
  rw [hg] at h1
  exact (right_nc hp sw.bd).mp (rowR_right.mp h1)
theorem finds_wo {w : List Sp1} {wo wo' : List Int} {q : Bool} : ∀ {g : List Ins} {h h' : List Cell}, fsts h = fsts h' → findsB w wo q h g = findsB w wo' q h' g
  | [], h, h', e => by
    show h.isEmpty = h'.isEmpty
    unfold fsts at e
    have := congrArg List.length e
    rw [List.length_map, List.length_map] at this
    cases h <;> cases h' <;> first | rfl | cases this
  | j :: g, h, h', e => by
    have el : h.length = h'.length := by
      unfold fsts at e
      have := congrArg List.length e
      rwa [List.length_map, List.length_map] at this
    unfold findsB
    rw [el, givM_eq, givM_eq, fsts_top, fsts_top, e, finds_wo (g := g) (h := doH w wo q h j) (h' := doH w wo' q h' j)]
    unfold doH
    show fsts _ = fsts _
    have fa : ∀ a b : List Cell, fsts (a ++ b) = fsts a ++ fsts b := fun a b => by unfold fsts; rw [List.map_append]
    rw [fa, fa, fsts_rest, fsts_rest, e]
    congr 1
    unfold fsts
    rw [List.map_replicate, List.map_replicate]
theorem res_perm {w : List Sp1} {row : List Nat} (hp : row.Perm (List.range w.length)) {g : List Ins} (hg : g.map (·.1) = row) (ok : ∀ j ∈ g, InsOk w j ∧ j.2.2 = remN w (List.range w.length) j.1) : (resP g).Perm (resL w) := by
  have nd : (g.map (·.1)).Nodup := by rw [hg]; exact hp.nodup_iff.mpr List.nodup_range
  have nd2 : (resP g).Nodup := by
    unfold resP
    exact nd.sublist ((List.filter_sublist).map _)
  refine (List.perm_ext_iff_of_nodup nd2 (res_nd w)).mpr fun s => ?_
  rw [mem_res]
  unfold resP
  rw [List.mem_map]
  have key : ∀ s, remN w (List.range w.length) s = 0 ↔ ∀ x ∈ w, s ∉ x.2 := fun s => by
    rw [remN_zero]
    constructor
    · intro h x hx
      obtain ⟨a, ha⟩ := List.mem_iff_getElem?.mp hx
      have := h a (List.mem_range.mpr (List.getElem?_eq_some_iff.mp ha).1)
      rwa [inpW_of ha] at this
    · intro h t ht
      have ht := List.mem_range.mp ht
      rw [inpW_of (List.getElem?_eq_getElem ht)]
      exact h _ (List.getElem_mem ht)
  constructor
  · rintro ⟨j, hj, rfl⟩
    obtain ⟨h1, h2⟩ := List.mem_filter.mp hj
    have h2 := of_decide_eq_true h2
    rw [(ok j h1).2] at h2
    exact ⟨(ok j h1).1.st, (key _).mp h2⟩
  · rintro ⟨h1, h2⟩
    have : s ∈ g.map (·.1) := by rw [hg]; exact hp.mem_iff.mpr (List.mem_range.mpr h1)
    obtain ⟨j, hj, rfl⟩ := List.mem_map.mp this
    exact ⟨j, List.mem_filter.mpr ⟨hj, decide_eq_true (by rw [(ok j hj).2]; exact (key _).mpr h2)⟩, rfl⟩
/-! ### how long worths are, shown -/
theorem shown_ints {val : Nat → Int} (hb : ∀ s, (val s).natAbs ≤ bnd 8) : ∀ l : List Nat, PyData.leavesShortAll 541 (l.map fun s => PyData.int (val s)) = true ∧ PyData.weightAll (l.map fun s => PyData.int (val s)) ≤ 1922 * l.length ∧ PyData.showableAll (l.map fun s => PyData.int (val s)) = true
  | [] => ⟨rfl, Nat.le_refl _, rfl⟩
  | s :: l => by
    obtain ⟨h1, h2, h3⟩ := shown_ints hb l
    have hlog := bnd_show (Nat.le_refl 8) (hb s)
    refine ⟨?_, ?_, ?_⟩
    · show (PyData.leavesShort 541 (.int (val s)) && _) = true
      rw [h1, Bool.and_true]
      refine decide_eq_true ?_
      have hb8 : bnd 8 < 10 ^ 540 := by decide +kernel
      have := int_text_length_le10 (a := val s) (k := 540) (by decide) (Nat.lt_of_le_of_lt (hb s) hb8)
      show (Str.ofString (toString (val s))).length ≤ 541
      rw [ofString_length]
      exact this
    · show PyData.weight (.int (val s)) + 1 + _ ≤ _
      have : PyData.weight (.int (val s)) ≤ 1921 := by
        show (if val s == 0 then 0 else (val s).natAbs.log2 + 1) ≤ 1921
        split <;> omega
      rw [List.length_cons]
      omega
    · show (PyData.showable (.int (val s)) && _) = true
      rw [h3, Bool.and_true]
      exact decide_eq_true hlog
theorem shown_mean {w : List Sp1} {val : Nat → Int} (hb : ∀ s, (val s).natAbs ≤ bnd 8) (hl : w.length ≤ 10) : PyData.showable (meanD w val) = true ∧ (PyData.shown (meanD w val)).length ≤ 16000000 := by
  obtain ⟨h1, h2, h3⟩ := shown_ints hb (resL w)
  have rl := resL_len w
  refine ⟨h3, ?_⟩
  have := PyData.shown_le 541 (by decide) (meanD w val) h1
  have h4 : PyData.weight (meanD w val) ≤ 1922 * (resL w).length := h2
  have : (541 + 2) * PyData.weight (meanD w val) ≤ 543 * 19220 := Nat.mul_le_mul_left 543 (by omega)
  omega
section
variable {P : Program} {w : World} {K : PySem.W.Frag} {mg : Str → Option Value} {base : Heap} {f : Addr} {fd : FuncData} {x qual : Str}
abbrev s_law : Stmt := top 55
theorem sc_law : FnScope ["script", "deck", "turn", "k", "web", "order", "row", "at", "thing", "worths"] ["script"] (defScope s_law) := ⟨rfl, rfl, rfl, by decide +kernel, rfl, by decide +kernel, by decide +kernel⟩
theorem mov_perm {l r1 r2 : List D} {i j : Nat} {v : D} (hi : i < l.length) (h : r1 = l.eraseIdx i) (hv : v = l[i]) (h2 : r2 = r1.insertIdx j v) (hj : j ≤ r1.length) : r2.Perm l := by
  subst h hv h2
  exact (List.perm_insertIdx _ _ hj).trans (erase_perm hi)
theorem ok_law (G : Fun K x qual s_law f fd) (T : Txt9 mg)
    (deck : ∃ fa fdd, mg "_law_deck" = some (.ref fa) ∧ PySem.W.keepIn K (.ref fa) = true ∧ Binds K fdd ["script"] [] ∧ FnOk P w K mg base CX0 1 fa fdd ["script"] (spDeckA K))
    (dr : ∀ d c0, PFn P w K mg base (amO K (bseA d c0)) "_law_draw" ["deck", "many"] (fs_draw d) 1) (wov : ∀ d c0, PFn P w K mg base (amO K (bseA d c0)) "_law_woven" ["deck", "most", "is_queue"] (fs_woven d) 4) (wor : ∀ d c0, PFn P w K mg base (amO K (bseA d c0)) "_law_worths" ["deck", "web"] (fs_worths d) 3)
    (som : ∀ d c0, PFn P w K mg base (amO K (bseA d c0)) "_law_some_program" ["deck", "web", "row"] (fs_some d) 4) (rig : ∀ B, PFn P w K mg base (amO K B) "_law_is_right" ["web", "row", "is_queue"] fs_right 4)
    (mea : ∀ A, PFn P w K mg base A "meaning" ["web", "worths"] fs_meaning 3) (pro : ∀ A, PFn P w K mg base A "program" ["web", "order"] fs_program 4) (run : ∀ B, PFn P w K mg base (amO K B) "run" ["web", "value", "worths"] fs_run 7) (pla : ∀ B, PFn P w K mg base (amO K B) "is_plain" ["web", "value"] fs_is_plain 7) (oer : ∀ A, PFn P w K mg base A "order_error" ["web", "value"] fs_order_error 4) :
    FnG P w K mg base 9 f fd ["script"] (spLaw K) := by
  refine Fun.okG G sc_law (fun vs H Q E ⟨a, ns, e, _⟩ => by rw [e]; rfl) fun cdv B' outer s H vs Q E hg hr ⟨a, ns, e, hS, hl, k⟩ => ?_
  subst e
  obtain ⟨fa, fdd, hm, hk, hb, hd⟩ := deck
  refine ⟨_, pss_cons (ps_set (i := 1) sc_law.nd rfl (Or.inl rfl) (pe_call hd (hr.mono (by decide)) (by rfl) hm hk hb .nil pass0 (pa_cons (pe_var (i := 0) rfl (Or.inl rfl)) pa_nil))) pss_any, ?_⟩
  refine ⟨.ref a, rfl, a, ns, rfl, hS, hl, fun d c0 H' is D => ?_⟩
  have f_u_law_draw := dr d c0
  have f_u_law_woven := wov d c0
  have f_u_law_worths := wor d c0
  have f_u_law_some_program := som d c0
  have f_u_law_is_right := rig (bseA d c0)
  have f_meaning := mea (amO K (bseA d c0))
  have f_program := pro (amO K (bseA d c0))
  have f_run := run (bseA d c0)
  have f_is_plain := pla (bseA d c0)
  have f_order_error := oer (amO K (bseA d c0))
  have S := sst_law (K := K) (a := a) 8 D
  have B : ∃ t w', PSDs (cxOf CX0 P w K mg base ["script", "deck", "turn", "k", "web", "order", "row", "at", "thing", "worths"] qual (defScope s_law) f cdv B' outer s H E).nox (amO K (bseA d c0)) (fun _ _ _ _ => False) ((defBody s_law).drop 1) t w' ∧
      w' { nx := fun _ => False, rt := fun r _ => r = vBl true } (enLaw 8 d) := by
    refine ⟨_, _, (psds_cons (psd_for (ks := [2]) PassesOwn.never rfl (pid_rng1 (by rfl) T.b_range pd_int) (pgd_name (i := 2) (by decide) sc_law.nd rfl (by first | exact Or.inl rfl | exact Or.inr rfl)) (psds_cons (psd_asg (ks := [4, 5]) (pd_fn f_u_law_woven hr (by decide) (by rfl) (pad_cons (pd_var 1) (pad_cons pd_int (pad_cons pd_bl pad_nil)))) (pgd_tup (n := 2) rfl (pgds_cons (pgd_name (i := 4) (by decide) sc_law.nd rfl (by first | exact Or.inl rfl | exact Or.inr rfl)) (pgds_cons (pgd_name (i := 5) (by decide) sc_law.nd rfl (by first | exact Or.inl rfl | exact Or.inr rfl)) pgds_nil))))
      (psds_cons (psd_if (pdt_cmp op_notB' (pd_fn f_is_plain hr (by decide) (by rfl) (pad_cons (pd_var 4) (pad_cons (pd_fn f_program hr (by decide) (by rfl) (pad_cons (pd_var 4) (pad_cons (pd_var 5) pad_nil))) pad_nil))) pd_bl (nomark _)) (psds_one (psd_ret pd_bl)) psds_nil)
      (psds_one (psd_for (ks := [3]) PassesOwn.never rfl (pid_rng1 (by rfl) T.b_range pd_int) (pgd_name (i := 3) (by decide) sc_law.nd rfl (by first | exact Or.inl rfl | exact Or.inr rfl)) (psds_cons (psd_par (i := 6) (j := 7) rfl sc_law.nd rfl rfl (by decide) rfl rfl (pd_callTy call_list' (by rfl) T.b_list (by decide +kernel) (pad_cons (pd_var 5) pad_nil)) (pd_fn f_u_law_draw hr (by decide) (by rfl) (pad_cons (pd_var 1) (pad_cons (pd_callB call_len' (by rfl) T.b_len (by decide +kernel) (pad_cons (pd_var 5) pad_nil)) pad_nil))) (by rfl))
      (psds_cons (psd_expr (pd_insert (i := 6) rfl (by first | exact Or.inl rfl | exact Or.inr (Or.inl rfl) | exact Or.inr (Or.inr rfl)) (pd_fn f_u_law_draw hr (by decide) (by rfl) (pad_cons (pd_var 1) (pad_cons (pd_callB call_len' (by rfl) T.b_len (by decide +kernel) (pad_cons (pd_var 5) pad_nil)) pad_nil))) (pd_popAt (i := 6) rfl (by first | exact Or.inl rfl | exact Or.inr (Or.inl rfl) | exact Or.inr (Or.inr rfl)) (pd_var 7))))
      (psds_cons (psd_set (i := 6) sc_law.nd rfl (by first | exact Or.inl rfl | exact Or.inr rfl) (pd_callTy call_tuple' (by rfl) T.b_tuple (by decide +kernel) (pad_cons (pd_var 6) pad_nil)))
      (psds_cons (psd_par (i := 8) (j := 9) rfl sc_law.nd rfl rfl (by decide) rfl rfl (pd_fn f_u_law_some_program hr (by decide) (by rfl) (pad_cons (pd_var 1) (pad_cons (pd_var 4) (pad_cons (pd_var 6) pad_nil)))) (pd_fn f_u_law_worths hr (by decide) (by rfl) (pad_cons (pd_var 1) (pad_cons (pd_var 4) pad_nil))) (by rfl))
      (psds_cons (psd_if (pdt_val (pd_fn f_is_plain hr (by decide) (by rfl) (pad_cons (pd_var 4) (pad_cons (pd_var 8) pad_nil)))) (psds_cons (psd_if (PDW.pdt (pdw_or (pdt_cmp op_notN' (pd_fn f_order_error hr (by decide) (by rfl) (pad_cons (pd_var 4) (pad_cons (pd_var 6) pad_nil))) pd_non (nomark _)) (pdw_or1 (pdt_not (pdt_val (pd_fn f_u_law_is_right hr (by decide) (by rfl) (pad_cons (pd_var 4) (pad_cons (pd_var 6) (pad_cons pd_bl pad_nil))))))))) (psds_one (psd_ret pd_bl)) psds_nil)
      (psds_one (psd_if (pdt_cmp (op_ne' hr.units) (pd_callB (call_repr' hg (u65 hr)) (by rfl) T.b_repr (by decide +kernel) (pad_cons (pd_fn f_run hr (by decide) (by rfl) (pad_cons (pd_var 4) (pad_cons (pd_var 8) (pad_cons (pd_var 9) pad_nil)))) pad_nil)) (pd_callB (call_repr' hg (u65 hr)) (by rfl) T.b_repr (by decide +kernel) (pad_cons (pd_fn f_meaning hr (by decide) (by rfl) (pad_cons (pd_var 4) (pad_cons (pd_var 9) pad_nil))) pad_nil)) (nomark _)) (psds_one (psd_ret pd_bl)) psds_nil))) psds_nil)
      (psds_one (psd_if (PDW.pdt (pdw_and (pdt_val (pd_fn f_u_law_is_right hr (by decide) (by rfl) (pad_cons (pd_var 4) (pad_cons (pd_var 6) (pad_cons pd_bl pad_nil))))) (pdw_and1 (pdt_cmp op_notB' (pd_fn f_is_plain hr (by decide) (by rfl) (pad_cons (pd_var 4) (pad_cons (pd_fn f_program hr (by decide) (by rfl) (pad_cons (pd_var 4) (pad_cons (pd_var 6) pad_nil))) pad_nil))) pd_bl (nomark _))))) (psds_one (psd_ret pd_bl)) psds_nil))))))))))))
      (psds_one (psd_ret pd_bl))), ?_⟩
    refine ⟨by decide, by decide, fun i e => ∃ x2 x3 x4 x5 x6 x7 x8 x9 m, nOw x2 ∧ nOw x3 ∧ nOw x4 ∧ nOw x5 ∧ Up ⟨0, [], []⟩ (100000 * i) m ∧ e = ⟨[.un, .im (.raw (.ref d)), x2, x3, x4, x5, x6, x7, x8, x9], m⟩, ⟨.un, .un, .un, .un, .un, .un, .un, .un, ⟨0, [], []⟩, trivial, trivial, trivial, trivial, Up.rfl', rfl⟩, ?_, fun _ _ => rfl⟩
    rintro i t e ht ⟨x2, x3, x4, x5, x6, x7, x8, x9, m, h2, h3, h4, h5, um, rfl⟩
    have hi6 : i < 6 := by
      obtain ⟨q, _⟩ := List.getElem?_eq_some_iff.mp ht
      rw [rng_len] at q
      exact q
    have hum := um.hi
    have hum : m.k ≤ 100000 * i := by simpa using hum
    refine ⟨⟨h2, trivial⟩, 7, false, rfl, by decide, by decide, by show m.k + 2000 < _; omega, fun w o wx hp nc m1 um1 => ?_⟩
    have um1 : Up m 120 m1 := um1
    have sw := wx.sw (by decide)
    have wx10 := wx.mono (m' := 10) (by decide)
    have l7 := wx.l1
    have l0 := wx.l0
    have lo := hp.length_eq
    rw [List.length_range] at lo
    obtain ⟨ok1, mp1⟩ := prog_ok sw hp (q := false)
    have hpl := row_plain sw hp nc (zeroW w)
    refine ⟨⟨h4, h5, trivial⟩, rfl, rfl, w, o, rfl, sw, hp, w, _, rfl, wx10, fun j hj => (ok1 j hj).1, by rw [mp1]; exact hp, fun j hj => (ok1 j hj).2, ?_⟩
    rw [hpl]
    have um1' := um1.hi
    refine ⟨by decide, by decide, fun j e => ∃ x3 x6 x7 x8 x9 m', nOw x3 ∧ Up m1 (10000 * j) m' ∧ e = ⟨[.un, .im (.raw (.ref d)), .im (.dat t), x3, .im (.dat (encW w)), .im (.dat (encN o)), x6, x7, x8, x9], m'⟩, ⟨x3, x6, x7, x8, x9, m1, h3, Up.rfl', rfl⟩, ?_, ?_⟩
    · rintro j t' e ht' ⟨x3, x6, x7, x8, x9, m2, h3, um2, rfl⟩
      have hj6 : j < 6 := by
        obtain ⟨q, _⟩ := List.getElem?_eq_some_iff.mp ht'
        rw [rng_len] at q
        exact q
      have um2' := um2.hi
      have lno : (o.map nD).length = o.length := List.length_map ..
      refine ⟨⟨h3, trivial⟩, (o.length : Int), by rw [lno]; rfl, by omega, by omega, by show m2.k < _; omega, fun r r0 r1 m3 um3 => ?_⟩
      have um3 : Up m2 1 m3 := um3
      have um3' := um3.hi
      refine ⟨(o.length : Int), by rw [lno]; rfl, by omega, by omega, by show m3.k < _; omega, fun r' r0' r1' m4 um4 => ?_⟩
      have um4 : Up m3 1 m4 := um4
      have um4' := um4.hi
      obtain ⟨a, rfl⟩ : ∃ a : Nat, r = (a : Int) := ⟨r.toNat, by omega⟩
      obtain ⟨b, rfl⟩ : ∃ b : Nat, r' = (b : Int) := ⟨r'.toNat, by omega⟩
      have ha : a < o.length := by omega
      have ga : (o.map nD)[a]? = some (nD o[a]) := by rw [List.getElem?_map, List.getElem?_eq_getElem ha]; rfl
      obtain ⟨row, hrow⟩ : ∃ row, row = (o.eraseIdx a).take b ++ [o[a]] ++ (o.eraseIdx a).drop b := ⟨_, rfl⟩
      have erow : ((o.map nD).eraseIdx a).take b ++ [nD o[a]] ++ ((o.map nD).eraseIdx a).drop b = row.map nD := by
        rw [hrow, List.map_append, List.map_append, List.map_take, List.map_drop, er_map]; rfl
      have hpo : row.Perm o := by
        rw [hrow, List.append_assoc]
        refine (List.perm_append_comm_assoc _ _ _).trans ?_
        rw [List.take_append_drop]
        exact erase_perm ha
      have hpr := hpo.trans hp
      have lr : row.length = w.length := hpo.length_eq.trans lo
      refine ⟨nD o[a], r0, by omega, ga, ?_⟩
      refine ⟨r0', by omega, ?_, ?_⟩
      · show ((o.map nD).eraseIdx a).length < 100000
        have := List.length_eraseIdx_le (o.map nD) a
        omega
      show wSeq _ _ _ ⟨[_, _, _, _, _, _, .ow (.lst (((o.map nD).eraseIdx a).take b ++ [nD o[a]] ++ ((o.map nD).eraseIdx a).drop b)), _, _, _], _⟩
      rw [erow]
      refine ⟨rfl, ?_⟩
      refine ⟨w, row, rfl, sw, hpr, by show m4.k + 2000 < _; omega, fun g hg ok m5 um5 => ⟨w, rfl, by omega, ?_, fun wo hwl hwb m6 um6 => ?_⟩⟩
      · have := um5.hi
        show m5.k + 1000 < _
        have um5 : Up m4 40 m5 := um5
        have := um5.hi
        omega
      have um5 : Up m4 40 m5 := um5
      have um6 : Up m5 20 m6 := um6
      have umA : Up m1 (10000 * (j + 1)) m6 := ((((um2.trans um3 (c := 10000 * j + 1) (by omega)).trans um4 (c := 10000 * j + 2) (by omega)).trans um5 (c := 10000 * j + 42) (by omega)).trans um6 (by omega))
      have done : ∃ x3 x6 x7 x8 x9 m', nOw x3 ∧ Up m1 (10000 * (j + 1)) m' ∧ (⟨[.un, .im (.raw (.ref d)), .im (.dat t), .im (.dat t'), .im (.dat (encW w)), .im (.dat (encN o)), .im (.dat (encN row)), .im (.dat (nD a)), .im (.dat (encP g)), .im (.dat (.tuple (wo.map PyData.int)))], m6⟩ : En) = ⟨[.un, .im (.raw (.ref d)), .im (.dat t), x3, .im (.dat (encW w)), .im (.dat (encN o)), x6, x7, x8, x9], m'⟩ :=
        ⟨.im (.dat t'), _, _, _, _, m6, trivial, umA, rfl⟩
      obtain ⟨ok2, mp2⟩ := prog_ok sw hpr (q := false)
      have hgp : (g.map (·.1)).Perm (List.range w.length) := by rw [hg]; exact hpr
      refine ⟨w, g, rfl, wx10, fun j hj => (ok j hj).1, hgp, fun j hj => (ok j hj).2, ite_b (c := findsB w (zeroW w) false [] g) rfl (fun hf => ?_) (fun hf => ?_)⟩
      · have nc2 := plain_nc sw hpr hg ok hf
        have hrb : rightB false w row = true := (rightB_iff hpr sw.bd).mpr ((right_nc hpr sw.bd).mpr nc2)
        obtain ⟨val, iv, hvb⟩ := val_ex wx (by decide) hwl hwb
        have hf2 : findsB w wo false [] g = true := by rw [← hf]; exact finds_wo rfl
        have hruns := finds_runs iv (p := g) (h := []) (fun j hj => (ok j hj).1) (by simp) hf2
        obtain ⟨s1, s2⟩ := shown_mean (w := w) hvb (by omega)
        have hsh : SeqAt.shaped (meanD w val) = true := shaped_nice (n := 1) (nice_tup fun d hd => by
          obtain ⟨s, _, rfl⟩ := List.mem_map.mp hd
          exact nice_int)
        have hstr : PyData.strOk (PyData.shown (meanD w val)) = true := by
          have := strOk_tuple ((resL w).map val)
          rw [List.map_map] at this
          exact this
        refine ⟨w, row, rfl, sw, hpr, nc2, ?_⟩
        refine ⟨w, row, false, rfl, sw, hpr, ?_⟩
        rw [hrb]
        refine ⟨w, wo, val, g, rfl, sw, iv, fun j hj => (ok j hj).1, hgp.nodup_iff.mpr List.nodup_range, ?_, res_perm hpr hg ok, hruns, hsh, s1, s2, ?_⟩
        · have := hgp.length_eq
          rw [List.length_map, List.length_range] at this
          omega
        refine ⟨w, wo, val, rfl, sw.tok, sw.wok, iv, hsh, s1, s2, shaped_str hstr, shaped_str hstr, ite_b (c := false) ?_ (fun q => by cases q) (fun _ => ?_)⟩
        · show (!PyData.eqv (.str (PyData.shown (meanD w val))) (.str (PyData.shown (meanD w val)))) = false
          rw [(eqv_nice (n := 0) (m := 0) (nice_str hstr) (nice_str hstr)).mpr rfl]; rfl
        · exact ⟨w, row, false, rfl, sw, hpr, ite_b (c := rightB false w row) rfl (fun hr2 => by
            refine ⟨w, row, rfl, sw, hpr, w, _, rfl, wx10, fun j hj => (ok2 j hj).1, by rw [mp2]; exact hpr, fun j hj => (ok2 j hj).2, ?_⟩
            rw [row_plain sw hpr ((right_nc hpr sw.bd).mp ((rightB_iff hpr sw.bd).mp hr2)) (zeroW w)]
            exact done) (fun hr2 => done)⟩
      · exact ⟨w, row, false, rfl, sw, hpr, ite_b (c := rightB false w row) rfl (fun hr2 => by
          refine ⟨w, row, rfl, sw, hpr, w, _, rfl, wx10, fun j hj => (ok2 j hj).1, by rw [mp2]; exact hpr, fun j hj => (ok2 j hj).2, ?_⟩
          rw [row_plain sw hpr ((right_nc hpr sw.bd).mp ((rightB_iff hpr sw.bd).mp hr2)) (zeroW w)]
          exact done) (fun hr2 => done)⟩
    · rintro e ⟨x3, x6, x7, x8, x9, m', h3, um', rfl⟩
      rw [rng_len] at um'
      have um' : Up m1 60000 m' := um'
      exact ⟨.im (.dat t), x3, .im (.dat (encW w)), .im (.dat (encN o)), x6, x7, x8, x9, m', trivial, h3, trivial, trivial, (um.trans um1 (c := 100000 * i + 120) (by omega)).trans um' (by omega), rfl⟩
  obtain ⟨t, w', hb, hw⟩ := B
  refine ⟨t, hb.ps, hb.sr _ _ _ _ _ _ _ _ _ S hw ⟨fun _ _ _ _ _ _ q => q.elim, fun v r F' H' n' fin x ri rf rv q => ?_, fun _ _ _ _ _ _ q => q.elim, fun _ _ _ _ _ _ q => q.elim, fun _ _ _ _ _ _ _ _ _ _ q => q.elim⟩⟩
  subst q
  have ev : v = .bl true := by cases rv; rfl
  subst ev
  exact k H'
end
end K39

namespace K39
open PySem L2 PL
theorem all_mk {l : PySem.W.OpenLaw} {w : World} {K : PySem.W.Frag} {h : Heap} {mg : Str → Option Value} {fa f0 f1 f2 f3 f4 f5 f6 f7 f8 f9 f10 f11 f12 f13 f14 f15 f16 f17 f18 f19 f20 f21 f22 f23 f24 f25 f26 f27 f28 f29 f30 f31 f32 f33 f34 f35 f36 f37 f38 f39 f40 f41 f42 f43 f44 CM CS CW : Addr} (X : K.In h) (G : h.Ns mainGlobals mg) (hfa : mg "law" = some (.ref fa))
    {od0 an0 od1 an1 od2 an2 od3 an3 od4 an4 od5 an5 od6 an6 od7 an7 od8 an8 od9 an9 od10 an10 od11 an11 od12 an12 od13 an13 od14 an14 od15 an15 od16 an16 od17 an17 od18 an18 od19 an19 od20 an20 od21 an21 od22 an22 od23 an23 od24 an24 od25 an25 od26 an26 od27 an27 od28 an28 od29 an29 od30 an30 od31 an31 od32 an32 od33 an33 od34 an34 od35 an35 od36 an36 od37 an37 od38 an38 od39 an39 od40 an40 od41 an41 od42 an42 od43 an43 od44 an44 : Option Addr} {sl0 sl1 sl2 sl3 sl4 sl5 sl6 sl7 sl8 sl9 sl10 sl11 sl12 sl13 sl14 sl15 sl16 sl17 sl18 sl19 sl20 sl21 sl22 sl23 sl24 sl25 sl26 sl27 sl28 sl29 sl30 sl31 sl32 sl33 sl34 sl35 sl36 sl37 sl38 sl39 sl40 sl41 sl42 sl43 sl44 : Array (Option Value)} {oc0 kV0 dc0 pm0 cd0 ct0 oc1 kV1 dc1 pm1 cd1 ct1 oc2 kV2 dc2 pm2 cd2 ct2 oc3 kV3 dc3 pm3 cd3 ct3 oc4 kV4 dc4 pm4 cd4 ct4 oc5 kV5 dc5 pm5 cd5 ct5 oc6 kV6 dc6 pm6 cd6 ct6 oc7 kV7 dc7 pm7 cd7 ct7 oc8 kV8 dc8 pm8 cd8 ct8 oc9 kV9 dc9 pm9 cd9 ct9 oc10 kV10 dc10 pm10 cd10 ct10 oc11 kV11 dc11 pm11 cd11 ct11 oc12 kV12 dc12 pm12 cd12 ct12 oc13 kV13 dc13 pm13 cd13 ct13 oc14 kV14 dc14 pm14 cd14 ct14 oc15 kV15 dc15 pm15 cd15 ct15 oc16 kV16 dc16 pm16 cd16 ct16 oc17 kV17 dc17 pm17 cd17 ct17 oc18 kV18 dc18 pm18 cd18 ct18 oc19 kV19 dc19 pm19 cd19 ct19 oc20 kV20 dc20 pm20 cd20 ct20 oc21 kV21 dc21 pm21 cd21 ct21 oc22 kV22 dc22 pm22 cd22 ct22 oc23 kV23 dc23 pm23 cd23 ct23 oc24 kV24 dc24 pm24 cd24 ct24 oc25 kV25 dc25 pm25 cd25 ct25 oc26 kV26 dc26 pm26 cd26 ct26 oc27 kV27 dc27 pm27 cd27 ct27 oc28 kV28 dc28 pm28 cd28 ct28 oc29 kV29 dc29 pm29 cd29 ct29 oc30 kV30 dc30 pm30 cd30 ct30 oc31 kV31 dc31 pm31 cd31 ct31 oc32 kV32 dc32 pm32 cd32 ct32 oc33 kV33 dc33 pm33 cd33 ct33 oc34 kV34 dc34 pm34 cd34 ct34 oc35 kV35 dc35 pm35 cd35 ct35 oc36 kV36 dc36 pm36 cd36 ct36 oc37 kV37 dc37 pm37 cd37 ct37 oc38 kV38 dc38 pm38 cd38 ct38 oc39 kV39 dc39 pm39 cd39 ct39 oc40 kV40 dc40 pm40 cd40 ct40 oc41 kV41 dc41 pm41 cd41 ct41 oc42 kV42 dc42 pm42 cd42 ct42 oc43 kV43 dc43 pm43 cd43 ct43 oc44 kV44 dc44 pm44 cd44 ct44 : Value}
    (aCM : PySem.W.nsIn K mainGlobals "Machine" = some (some (.ref CM)))
    (pgCM : PySem.W.plainGet K CM Str.empty = true)
    (hdCM : PySem.W.hasDictIn K CM = true)
    (poCM : PySem.W.plainOver K CM = true)
    (saCM : PySem.W.findIn K (.ref CM) "__setattr__" = some (some (.builtin "object.__setattr__")))
    (mkCM : PySem.W.makesIn K CM = true)
    (kcCM : PySem.W.keepIn K (.ref CM) = true)
    (nCM_is_queue : PySem.W.findIn K (.ref CM) "is_queue" = some none)
    (nCM_held : PySem.W.findIn K (.ref CM) "held" = some none)
    (aCW : PySem.W.nsIn K mainGlobals "WebError" = some (some (.ref CW)))
    (gaCW : PySem.W.specialIn K (.ref CW) "__getattribute__" = some (some (.builtin "type.__getattribute__")))
    (tyCW : PySem.W.typeIn K (.ref CW) = some (.type "type"))
    (rdCW : PySem.W.readsIn K CW (.type "type") = true)
    (fdCW : PySem.W.findCls K (.ref CW) (.type "type") "__init__" = some (.val (.builtin "ValueError.__init__")))
    {nmCS qCS : Str} {NCS : Addr} {bsCS : List Value} {snCS : List Str} {subCS : List Value} {abCS : Bool} {colCS : Option Bool} {ddCS : Option Addr} {m0CS m1CS m2CS m3CS m5CS : Option Value}
    (aCS : PySem.W.nsIn K mainGlobals "Short" = some (some (.ref CS)))
    (xCS : K.lookup CS = some (excClassObj nmCS qCS CS NCS bsCS [.ref CW, .type "ValueError", .type "Exception", .type "BaseException", .type "object"] true snCS subCS abCS colCS ddCS m0CS m1CS m2CS m3CS m5CS "ValueError.__new__"))
    (saCS : PySem.W.findIn K (.ref CS) "__setattr__" = some (some (.builtin "object.__setattr__")))
    (exCS : PySem.W.subIn K (.ref CS) (.type "BaseException") = some true)
    (tyCS : PySem.W.typeIn K (.ref CS) = some (.type "type"))
    (kcCS : PySem.W.keepIn K (.ref CS) = true)
    (nCS_index : PySem.W.findIn K (.ref CS) "index" = some none)
    (icCS : PySem.W.isClsIn K CS = true)
    (scCS : PySem.W.subIn K (.ref CS) (.ref CS) = some true)
    (a0 : PySem.W.nsIn K mainGlobals "is_integer" = some (some (.ref f0)))
    (l0 : K.lookup f0 = some ⟨oc0, od0, .func (PySem.W.fnOf "is_integer" "is_integer" (defArgs s_is_integer) (defBody s_is_integer) (defScope s_is_integer) .none kV0 dc0 pm0 an0 cd0 ct0), sl0⟩)
    (c0 : PySem.W.codeIn K cd0 "is_integer" = true)
    (k0 : PySem.W.keepIn K (.ref f0) = true)
    (a1 : PySem.W.nsIn K mainGlobals "ties" = some (some (.ref f1)))
    (l1 : K.lookup f1 = some ⟨oc1, od1, .func (PySem.W.fnOf "ties" "ties" (defArgs s_ties) (defBody s_ties) (defScope s_ties) .none kV1 dc1 pm1 an1 cd1 ct1), sl1⟩)
    (c1 : PySem.W.codeIn K cd1 "ties" = true)
    (k1 : PySem.W.keepIn K (.ref f1) = true)
    (a2 : PySem.W.nsIn K mainGlobals "results" = some (some (.ref f2)))
    (l2 : K.lookup f2 = some ⟨oc2, od2, .func (PySem.W.fnOf "results" "results" (defArgs s_results) (defBody s_results) (defScope s_results) .none kV2 dc2 pm2 an2 cd2 ct2), sl2⟩)
    (c2 : PySem.W.codeIn K cd2 "results" = true)
    (k2 : PySem.W.keepIn K (.ref f2) = true)
    (a3 : PySem.W.nsIn K mainGlobals "rank_of" = some (some (.ref f3)))
    (l3 : K.lookup f3 = some ⟨oc3, od3, .func (PySem.W.fnOf "rank_of" "rank_of" (defArgs s_rank_of) (defBody s_rank_of) (defScope s_rank_of) .none kV3 dc3 pm3 an3 cd3 ct3), sl3⟩)
    (c3 : PySem.W.codeIn K cd3 "rank_of" = true)
    (k3 : PySem.W.keepIn K (.ref f3) = true)
    (a4 : PySem.W.nsIn K mainGlobals "worth_of" = some (some (.ref f4)))
    (l4 : K.lookup f4 = some ⟨oc4, od4, .func (PySem.W.fnOf "worth_of" "worth_of" (defArgs s_worth_of) (defBody s_worth_of) (defScope s_worth_of) .none kV4 dc4 pm4 an4 cd4 ct4), sl4⟩)
    (c4 : PySem.W.codeIn K cd4 "worth_of" = true)
    (k4 : PySem.W.keepIn K (.ref f4) = true)
    (a5 : PySem.W.nsIn K mainGlobals "own_worth" = some (some (.ref f5)))
    (l5 : K.lookup f5 = some ⟨oc5, od5, .func (PySem.W.fnOf "own_worth" "own_worth" (defArgs s_own_worth) (defBody s_own_worth) (defScope s_own_worth) .none kV5 dc5 pm5 an5 cd5 ct5), sl5⟩)
    (c5 : PySem.W.codeIn K cd5 "own_worth" = true)
    (k5 : PySem.W.keepIn K (.ref f5) = true)
    (a6 : PySem.W.nsIn K mainGlobals "meaning" = some (some (.ref f6)))
    (l6 : K.lookup f6 = some ⟨oc6, od6, .func (PySem.W.fnOf "meaning" "meaning" (defArgs s_meaning) (defBody s_meaning) (defScope s_meaning) .none kV6 dc6 pm6 an6 cd6 ct6), sl6⟩)
    (c6 : PySem.W.codeIn K cd6 "meaning" = true)
    (k6 : PySem.W.keepIn K (.ref f6) = true)
    (a7 : PySem.W.nsIn K mainGlobals "is_row" = some (some (.ref f7)))
    (l7 : K.lookup f7 = some ⟨oc7, od7, .func (PySem.W.fnOf "is_row" "is_row" (defArgs s_is_row) (defBody s_is_row) (defScope s_is_row) .none kV7 dc7 pm7 an7 cd7 ct7), sl7⟩)
    (c7 : PySem.W.codeIn K cd7 "is_row" = true)
    (k7 : PySem.W.keepIn K (.ref f7) = true)
    (a8 : PySem.W.nsIn K mainGlobals "copies_of" = some (some (.ref f8)))
    (l8 : K.lookup f8 = some ⟨oc8, od8, .func (PySem.W.fnOf "copies_of" "copies_of" (defArgs s_copies_of) (defBody s_copies_of) (defScope s_copies_of) .none kV8 dc8 pm8 an8 cd8 ct8), sl8⟩)
    (c8 : PySem.W.codeIn K cd8 "copies_of" = true)
    (k8 : PySem.W.keepIn K (.ref f8) = true)
    (a9 : PySem.W.nsIn K mainGlobals "takes_of" = some (some (.ref f9)))
    (l9 : K.lookup f9 = some ⟨oc9, od9, .func (PySem.W.fnOf "takes_of" "takes_of" (defArgs s_takes_of) (defBody s_takes_of) (defScope s_takes_of) .none kV9 dc9 pm9 an9 cd9 ct9), sl9⟩)
    (c9 : PySem.W.codeIn K cd9 "takes_of" = true)
    (k9 : PySem.W.keepIn K (.ref f9) = true)
    (a10 : PySem.W.nsIn K mainGlobals "program_of" = some (some (.ref f10)))
    (l10 : K.lookup f10 = some ⟨oc10, od10, .func (PySem.W.fnOf "program_of" "program_of" (defArgs s_program_of) (defBody s_program_of) (defScope s_program_of) .none kV10 dc10 pm10 an10 cd10 ct10), sl10⟩)
    (c10 : PySem.W.codeIn K cd10 "program_of" = true)
    (k10 : PySem.W.keepIn K (.ref f10) = true)
    (a11 : PySem.W.nsIn K mainGlobals "program" = some (some (.ref f11)))
    (l11 : K.lookup f11 = some ⟨oc11, od11, .func (PySem.W.fnOf "program" "program" (defArgs s_program) (defBody s_program) (defScope s_program) .none kV11 dc11 pm11 an11 cd11 ct11), sl11⟩)
    (c11 : PySem.W.codeIn K cd11 "program" = true)
    (k11 : PySem.W.keepIn K (.ref f11) = true)
    (a12 : PySem.W.nsIn K mainGlobals "is_instruction" = some (some (.ref f12)))
    (l12 : K.lookup f12 = some ⟨oc12, od12, .func (PySem.W.fnOf "is_instruction" "is_instruction" (defArgs s_is_instruction) (defBody s_is_instruction) (defScope s_is_instruction) .none kV12 dc12 pm12 an12 cd12 ct12), sl12⟩)
    (c12 : PySem.W.codeIn K cd12 "is_instruction" = true)
    (k12 : PySem.W.keepIn K (.ref f12) = true)
    (a13 : PySem.W.nsIn K mainGlobals "program_fault" = some (some (.ref f13)))
    (l13 : K.lookup f13 = some ⟨oc13, od13, .func (PySem.W.fnOf "program_fault" "program_fault" (defArgs s_program_fault) (defBody s_program_fault) (defScope s_program_fault) .none kV13 dc13 pm13 an13 cd13 ct13), sl13⟩)
    (c13 : PySem.W.codeIn K cd13 "program_fault" = true)
    (k13 : PySem.W.keepIn K (.ref f13) = true)
    (a14 : PySem.W.nsIn K mainGlobals "program_error" = some (some (.ref f14)))
    (l14 : K.lookup f14 = some ⟨oc14, od14, .func (PySem.W.fnOf "program_error" "program_error" (defArgs s_program_error) (defBody s_program_error) (defScope s_program_error) .none kV14 dc14 pm14 an14 cd14 ct14), sl14⟩)
    (c14 : PySem.W.codeIn K cd14 "program_error" = true)
    (k14 : PySem.W.keepIn K (.ref f14) = true)
    (a15 : PySem.W.nsIn K mainGlobals "no_worths" = some (some (.ref f15)))
    (l15 : K.lookup f15 = some ⟨oc15, od15, .func (PySem.W.fnOf "no_worths" "no_worths" (defArgs s_no_worths) (defBody s_no_worths) (defScope s_no_worths) .none kV15 dc15 pm15 an15 cd15 ct15), sl15⟩)
    (c15 : PySem.W.codeIn K cd15 "no_worths" = true)
    (k15 : PySem.W.keepIn K (.ref f15) = true)
    (a16 : PySem.W.nsIn K mainGlobals "places_of" = some (some (.ref f16)))
    (l16 : K.lookup f16 = some ⟨oc16, od16, .func (PySem.W.fnOf "places_of" "places_of" (defArgs s_places_of) (defBody s_places_of) (defScope s_places_of) .none kV16 dc16 pm16 an16 cd16 ct16), sl16⟩)
    (c16 : PySem.W.codeIn K cd16 "places_of" = true)
    (k16 : PySem.W.keepIn K (.ref f16) = true)
    (a17 : PySem.W.nsIn K mainGlobals "late_tie" = some (some (.ref f17)))
    (l17 : K.lookup f17 = some ⟨oc17, od17, .func (PySem.W.fnOf "late_tie" "late_tie" (defArgs s_late_tie) (defBody s_late_tie) (defScope s_late_tie) .none kV17 dc17 pm17 an17 cd17 ct17), sl17⟩)
    (c17 : PySem.W.codeIn K cd17 "late_tie" = true)
    (k17 : PySem.W.keepIn K (.ref f17) = true)
    (a18 : PySem.W.nsIn K mainGlobals "do_cross" = some (some (.ref f18)))
    (l18 : K.lookup f18 = some ⟨oc18, od18, .func (PySem.W.fnOf "do_cross" "do_cross" (defArgs s_do_cross) (defBody s_do_cross) (defScope s_do_cross) .none kV18 dc18 pm18 an18 cd18 ct18), sl18⟩)
    (c18 : PySem.W.codeIn K cd18 "do_cross" = true)
    (k18 : PySem.W.keepIn K (.ref f18) = true)
    (a19 : PySem.W.nsIn K mainGlobals "first_pair" = some (some (.ref f19)))
    (l19 : K.lookup f19 = some ⟨oc19, od19, .func (PySem.W.fnOf "first_pair" "first_pair" (defArgs s_first_pair) (defBody s_first_pair) (defScope s_first_pair) .none kV19 dc19 pm19 an19 cd19 ct19), sl19⟩)
    (c19 : PySem.W.codeIn K cd19 "first_pair" = true)
    (k19 : PySem.W.keepIn K (.ref f19) = true)
    (a20 : PySem.W.nsIn K mainGlobals "order_fault" = some (some (.ref f20)))
    (l20 : K.lookup f20 = some ⟨oc20, od20, .func (PySem.W.fnOf "order_fault" "order_fault" (defArgs s_order_fault) (defBody s_order_fault) (defScope s_order_fault) .none kV20 dc20 pm20 an20 cd20 ct20), sl20⟩)
    (c20 : PySem.W.codeIn K cd20 "order_fault" = true)
    (k20 : PySem.W.keepIn K (.ref f20) = true)
    (a21 : PySem.W.nsIn K mainGlobals "order_error" = some (some (.ref f21)))
    (l21 : K.lookup f21 = some ⟨oc21, od21, .func (PySem.W.fnOf "order_error" "order_error" (defArgs s_order_error) (defBody s_order_error) (defScope s_order_error) .none kV21 dc21 pm21 an21 cd21 ct21), sl21⟩)
    (c21 : PySem.W.codeIn K cd21 "order_error" = true)
    (k21 : PySem.W.keepIn K (.ref f21) = true)
    (a22 : PySem.W.findIn K (.ref CS) "__init__" = some (some (.ref f22)))
    (t22 : PySem.W.typeIn K (.ref f22) = some (.type "function"))
    (l22 : K.lookup f22 = some ⟨oc22, od22, .func (PySem.W.fnOf "__init__" "Short.__init__" (defArgs s_Short___init__) (defBody s_Short___init__) (defScope s_Short___init__) .none kV22 dc22 pm22 an22 cd22 ct22), sl22⟩)
    (c22 : PySem.W.codeIn K cd22 "Short.__init__" = true)
    (k22 : PySem.W.keepIn K (.ref f22) = true)
    (a23 : PySem.W.findIn K (.ref CM) "__init__" = some (some (.ref f23)))
    (i23 : PySem.W.isFn K (.ref f23) = true)
    (l23 : K.lookup f23 = some ⟨oc23, od23, .func (PySem.W.fnOf "__init__" "Machine.__init__" (defArgs s_Machine___init__) (defBody s_Machine___init__) (defScope s_Machine___init__) .none kV23 dc23 pm23 an23 cd23 ct23), sl23⟩)
    (c23 : PySem.W.codeIn K cd23 "Machine.__init__" = true)
    (k23 : PySem.W.keepIn K (.ref f23) = true)
    (a24 : PySem.W.findIn K (.ref CM) "take" = some (some (.ref f24)))
    (i24 : PySem.W.isFn K (.ref f24) = true)
    (l24 : K.lookup f24 = some ⟨oc24, od24, .func (PySem.W.fnOf "take" "Machine.take" (defArgs s_Machine_take) (defBody s_Machine_take) (defScope s_Machine_take) .none kV24 dc24 pm24 an24 cd24 ct24), sl24⟩)
    (c24 : PySem.W.codeIn K cd24 "Machine.take" = true)
    (k24 : PySem.W.keepIn K (.ref f24) = true)
    (a25 : PySem.W.findIn K (.ref CM) "do" = some (some (.ref f25)))
    (i25 : PySem.W.isFn K (.ref f25) = true)
    (l25 : K.lookup f25 = some ⟨oc25, od25, .func (PySem.W.fnOf "do" "Machine.do" (defArgs s_Machine_do) (defBody s_Machine_do) (defScope s_Machine_do) .none kV25 dc25 pm25 an25 cd25 ct25), sl25⟩)
    (c25 : PySem.W.codeIn K cd25 "Machine.do" = true)
    (k25 : PySem.W.keepIn K (.ref f25) = true)
    (a26 : PySem.W.nsIn K mainGlobals "run_on" = some (some (.ref f26)))
    (l26 : K.lookup f26 = some ⟨oc26, od26, .func (PySem.W.fnOf "run_on" "run_on" (defArgs s_run_on) (defBody s_run_on) (defScope s_run_on) .none kV26 dc26 pm26 an26 cd26 ct26), sl26⟩)
    (c26 : PySem.W.codeIn K cd26 "run_on" = true)
    (k26 : PySem.W.keepIn K (.ref f26) = true)
    (a27 : PySem.W.nsIn K mainGlobals "finds_givers" = some (some (.ref f27)))
    (l27 : K.lookup f27 = some ⟨oc27, od27, .func (PySem.W.fnOf "finds_givers" "finds_givers" (defArgs s_finds_givers) (defBody s_finds_givers) (defScope s_finds_givers) .none kV27 dc27 pm27 an27 cd27 ct27), sl27⟩)
    (c27 : PySem.W.codeIn K cd27 "finds_givers" = true)
    (k27 : PySem.W.keepIn K (.ref f27) = true)
    (a28 : PySem.W.nsIn K mainGlobals "run" = some (some (.ref f28)))
    (l28 : K.lookup f28 = some ⟨oc28, od28, .func (PySem.W.fnOf "run" "run" (defArgs s_run) (defBody s_run) (defScope s_run) .none kV28 dc28 pm28 an28 cd28 ct28), sl28⟩)
    (c28 : PySem.W.codeIn K cd28 "run" = true)
    (k28 : PySem.W.keepIn K (.ref f28) = true)
    (a29 : PySem.W.nsIn K mainGlobals "is_plain" = some (some (.ref f29)))
    (l29 : K.lookup f29 = some ⟨oc29, od29, .func (PySem.W.fnOf "is_plain" "is_plain" (defArgs s_is_plain) (defBody s_is_plain) (defScope s_is_plain) .none kV29 dc29 pm29 an29 cd29 ct29), sl29⟩)
    (c29 : PySem.W.codeIn K cd29 "is_plain" = true)
    (k29 : PySem.W.keepIn K (.ref f29) = true)
    (a30 : PySem.W.nsIn K mainGlobals "_law_deck" = some (some (.ref f30)))
    (l30 : K.lookup f30 = some ⟨oc30, od30, .func (PySem.W.fnOf "_law_deck" "_law_deck" (defArgs s_u_law_deck) (defBody s_u_law_deck) (defScope s_u_law_deck) .none kV30 dc30 pm30 an30 cd30 ct30), sl30⟩)
    (c30 : PySem.W.codeIn K cd30 "_law_deck" = true)
    (k30 : PySem.W.keepIn K (.ref f30) = true)
    (a31 : PySem.W.nsIn K mainGlobals "_law_draw" = some (some (.ref f31)))
    (l31 : K.lookup f31 = some ⟨oc31, od31, .func (PySem.W.fnOf "_law_draw" "_law_draw" (defArgs s_u_law_draw) (defBody s_u_law_draw) (defScope s_u_law_draw) .none kV31 dc31 pm31 an31 cd31 ct31), sl31⟩)
    (c31 : PySem.W.codeIn K cd31 "_law_draw" = true)
    (k31 : PySem.W.keepIn K (.ref f31) = true)
    (a32 : PySem.W.nsIn K mainGlobals "_law_one" = some (some (.ref f32)))
    (l32 : K.lookup f32 = some ⟨oc32, od32, .func (PySem.W.fnOf "_law_one" "_law_one" (defArgs s_u_law_one) (defBody s_u_law_one) (defScope s_u_law_one) .none kV32 dc32 pm32 an32 cd32 ct32), sl32⟩)
    (c32 : PySem.W.codeIn K cd32 "_law_one" = true)
    (k32 : PySem.W.keepIn K (.ref f32) = true)
    (a33 : PySem.W.nsIn K mainGlobals "_law_mixed" = some (some (.ref f33)))
    (l33 : K.lookup f33 = some ⟨oc33, od33, .func (PySem.W.fnOf "_law_mixed" "_law_mixed" (defArgs s_u_law_mixed) (defBody s_u_law_mixed) (defScope s_u_law_mixed) .none kV33 dc33 pm33 an33 cd33 ct33), sl33⟩)
    (c33 : PySem.W.codeIn K cd33 "_law_mixed" = true)
    (k33 : PySem.W.keepIn K (.ref f33) = true)
    (a34 : PySem.W.nsIn K mainGlobals "_law_kind" = some (some (.ref f34)))
    (l34 : K.lookup f34 = some ⟨oc34, od34, .func (PySem.W.fnOf "_law_kind" "_law_kind" (defArgs s_u_law_kind) (defBody s_u_law_kind) (defScope s_u_law_kind) .none kV34 dc34 pm34 an34 cd34 ct34), sl34⟩)
    (c34 : PySem.W.codeIn K cd34 "_law_kind" = true)
    (k34 : PySem.W.keepIn K (.ref f34) = true)
    (a35 : PySem.W.nsIn K mainGlobals "_law_renumbered" = some (some (.ref f35)))
    (l35 : K.lookup f35 = some ⟨oc35, od35, .func (PySem.W.fnOf "_law_renumbered" "_law_renumbered" (defArgs s_u_law_renumbered) (defBody s_u_law_renumbered) (defScope s_u_law_renumbered) .none kV35 dc35 pm35 an35 cd35 ct35), sl35⟩)
    (c35 : PySem.W.codeIn K cd35 "_law_renumbered" = true)
    (k35 : PySem.W.keepIn K (.ref f35) = true)
    (a36 : PySem.W.nsIn K mainGlobals "_law_woven" = some (some (.ref f36)))
    (l36 : K.lookup f36 = some ⟨oc36, od36, .func (PySem.W.fnOf "_law_woven" "_law_woven" (defArgs s_u_law_woven) (defBody s_u_law_woven) (defScope s_u_law_woven) .none kV36 dc36 pm36 an36 cd36 ct36), sl36⟩)
    (c36 : PySem.W.codeIn K cd36 "_law_woven" = true)
    (k36 : PySem.W.keepIn K (.ref f36) = true)
    (a37 : PySem.W.nsIn K mainGlobals "_law_inputs" = some (some (.ref f37)))
    (l37 : K.lookup f37 = some ⟨oc37, od37, .func (PySem.W.fnOf "_law_inputs" "_law_inputs" (defArgs s_u_law_inputs) (defBody s_u_law_inputs) (defScope s_u_law_inputs) .none kV37 dc37 pm37 an37 cd37 ct37), sl37⟩)
    (c37 : PySem.W.codeIn K cd37 "_law_inputs" = true)
    (k37 : PySem.W.keepIn K (.ref f37) = true)
    (a38 : PySem.W.nsIn K mainGlobals "_law_ties" = some (some (.ref f38)))
    (l38 : K.lookup f38 = some ⟨oc38, od38, .func (PySem.W.fnOf "_law_ties" "_law_ties" (defArgs s_u_law_ties) (defBody s_u_law_ties) (defScope s_u_law_ties) .none kV38 dc38 pm38 an38 cd38 ct38), sl38⟩)
    (c38 : PySem.W.codeIn K cd38 "_law_ties" = true)
    (k38 : PySem.W.keepIn K (.ref f38) = true)
    (a39 : PySem.W.nsIn K mainGlobals "_law_takers" = some (some (.ref f39)))
    (l39 : K.lookup f39 = some ⟨oc39, od39, .func (PySem.W.fnOf "_law_takers" "_law_takers" (defArgs s_u_law_takers) (defBody s_u_law_takers) (defScope s_u_law_takers) .none kV39 dc39 pm39 an39 cd39 ct39), sl39⟩)
    (c39 : PySem.W.codeIn K cd39 "_law_takers" = true)
    (k39 : PySem.W.keepIn K (.ref f39) = true)
    (a40 : PySem.W.nsIn K mainGlobals "_law_may_come" = some (some (.ref f40)))
    (l40 : K.lookup f40 = some ⟨oc40, od40, .func (PySem.W.fnOf "_law_may_come" "_law_may_come" (defArgs s_u_law_may_come) (defBody s_u_law_may_come) (defScope s_u_law_may_come) .none kV40 dc40 pm40 an40 cd40 ct40), sl40⟩)
    (c40 : PySem.W.codeIn K cd40 "_law_may_come" = true)
    (k40 : PySem.W.keepIn K (.ref f40) = true)
    (a41 : PySem.W.nsIn K mainGlobals "_law_is_right" = some (some (.ref f41)))
    (l41 : K.lookup f41 = some ⟨oc41, od41, .func (PySem.W.fnOf "_law_is_right" "_law_is_right" (defArgs s_u_law_is_right) (defBody s_u_law_is_right) (defScope s_u_law_is_right) .none kV41 dc41 pm41 an41 cd41 ct41), sl41⟩)
    (c41 : PySem.W.codeIn K cd41 "_law_is_right" = true)
    (k41 : PySem.W.keepIn K (.ref f41) = true)
    (a42 : PySem.W.nsIn K mainGlobals "_law_worths" = some (some (.ref f42)))
    (l42 : K.lookup f42 = some ⟨oc42, od42, .func (PySem.W.fnOf "_law_worths" "_law_worths" (defArgs s_u_law_worths) (defBody s_u_law_worths) (defScope s_u_law_worths) .none kV42 dc42 pm42 an42 cd42 ct42), sl42⟩)
    (c42 : PySem.W.codeIn K cd42 "_law_worths" = true)
    (k42 : PySem.W.keepIn K (.ref f42) = true)
    (a43 : PySem.W.nsIn K mainGlobals "_law_some_program" = some (some (.ref f43)))
    (l43 : K.lookup f43 = some ⟨oc43, od43, .func (PySem.W.fnOf "_law_some_program" "_law_some_program" (defArgs s_u_law_some_program) (defBody s_u_law_some_program) (defScope s_u_law_some_program) .none kV43 dc43 pm43 an43 cd43 ct43), sl43⟩)
    (c43 : PySem.W.codeIn K cd43 "_law_some_program" = true)
    (k43 : PySem.W.keepIn K (.ref f43) = true)
    (a44 : PySem.W.nsIn K mainGlobals "law" = some (some (.ref f44)))
    (l44 : K.lookup f44 = some ⟨oc44, od44, .func (PySem.W.fnOf "law" "law" (defArgs s_law) (defBody s_law) (defScope s_law) .none kV44 dc44 pm44 an44 cd44 ct44), sl44⟩)
    (c44 : PySem.W.codeIn K cd44 "law" = true)
    (k44 : PySem.W.keepIn K (.ref f44) = true)
    (z_all : PySem.W.nsIn K mainGlobals "all" = some none)
    (z_bool : PySem.W.nsIn K mainGlobals "bool" = some none)
    (z_enumerate : PySem.W.nsIn K mainGlobals "enumerate" = some none)
    (z_int : PySem.W.nsIn K mainGlobals "int" = some none)
    (z_isinstance : PySem.W.nsIn K mainGlobals "isinstance" = some none)
    (z_len : PySem.W.nsIn K mainGlobals "len" = some none)
    (z_range : PySem.W.nsIn K mainGlobals "range" = some none)
    (z_set : PySem.W.nsIn K mainGlobals "set" = some none)
    (z_sorted : PySem.W.nsIn K mainGlobals "sorted" = some none)
    (z_tuple : PySem.W.nsIn K mainGlobals "tuple" = some none)
    (z_list : PySem.W.nsIn K mainGlobals "list" = some none)
    (z_min : PySem.W.nsIn K mainGlobals "min" = some none)
    (z_repr : PySem.W.nsIn K mainGlobals "repr" = some none)
    (z_abs : PySem.W.nsIn K mainGlobals "abs" = some none)
    {t_IN : Tok}
    (g_IN : PySem.W.nsIn K mainGlobals "IN" = some (some (.str "in" t_IN)))
    {t_NEG : Tok}
    (g_NEG : PySem.W.nsIn K mainGlobals "NEG" = some (some (.str "neg" t_NEG)))
    {t_PICK : Tok}
    (g_PICK : PySem.W.nsIn K mainGlobals "PICK" = some (some (.str "pick" t_PICK)))
    {t_MAX_COPIES : Tok}
    (g_MAX_COPIES : PySem.W.nsIn K mainGlobals "MAX_COPIES" = some (some (.int 30 t_MAX_COPIES))) :
    ∃ fd : FuncData, (∀ (s : Shared) (v : Value), BindsTo s fd ⟨[v], []⟩ [("script", v)]) ∧ ∀ base : Heap, K.In base → base.Ns mainGlobals mg → FnG l.prog w K mg base 9 fa fd ["script"] (spLaw K) := by
  have e := hfa.symm.trans (PySem.W.mg_of X G a44)
  cases e
  have b_all := PySem.W.mg_none_of X G z_all
  have b_bool := PySem.W.mg_none_of X G z_bool
  have b_enumerate := PySem.W.mg_none_of X G z_enumerate
  have b_int := PySem.W.mg_none_of X G z_int
  have b_isinstance := PySem.W.mg_none_of X G z_isinstance
  have b_len := PySem.W.mg_none_of X G z_len
  have b_range := PySem.W.mg_none_of X G z_range
  have b_set := PySem.W.mg_none_of X G z_set
  have b_sorted := PySem.W.mg_none_of X G z_sorted
  have b_tuple := PySem.W.mg_none_of X G z_tuple
  have b_list := PySem.W.mg_none_of X G z_list
  have b_min := PySem.W.mg_none_of X G z_min
  have b_repr := PySem.W.mg_none_of X G z_repr
  have b_abs := PySem.W.mg_none_of X G z_abs
  have h_IN : ∃ t, mg "IN" = some (.str "in" t) := ⟨_, PySem.W.mg_of X G g_IN⟩
  have h_NEG : ∃ t, mg "NEG" = some (.str "neg" t) := ⟨_, PySem.W.mg_of X G g_NEG⟩
  have h_PICK : ∃ t, mg "PICK" = some (.str "pick" t) := ⟨_, PySem.W.mg_of X G g_PICK⟩
  have h_MAX_COPIES : ∃ t, mg "MAX_COPIES" = some (.int 30 t) := ⟨_, PySem.W.mg_of X G g_MAX_COPIES⟩
  have F0 := fun_mk (st := s_is_integer) l0 c0 k0
  have F1 := fun_mk (st := s_ties) l1 c1 k1
  have F2 := fun_mk (st := s_results) l2 c2 k2
  have F3 := fun_mk (st := s_rank_of) l3 c3 k3
  have F4 := fun_mk (st := s_worth_of) l4 c4 k4
  have F5 := fun_mk (st := s_own_worth) l5 c5 k5
  have F6 := fun_mk (st := s_meaning) l6 c6 k6
  have F7 := fun_mk (st := s_is_row) l7 c7 k7
  have F8 := fun_mk (st := s_copies_of) l8 c8 k8
  have F9 := fun_mk (st := s_takes_of) l9 c9 k9
  have F10 := fun_mk (st := s_program_of) l10 c10 k10
  have F11 := fun_mk (st := s_program) l11 c11 k11
  have F12 := fun_mk (st := s_is_instruction) l12 c12 k12
  have F13 := fun_mk (st := s_program_fault) l13 c13 k13
  have F14 := fun_mk (st := s_program_error) l14 c14 k14
  have F15 := fun_mk (st := s_no_worths) l15 c15 k15
  have F16 := fun_mk (st := s_places_of) l16 c16 k16
  have F17 := fun_mk (st := s_late_tie) l17 c17 k17
  have F18 := fun_mk (st := s_do_cross) l18 c18 k18
  have F19 := fun_mk (st := s_first_pair) l19 c19 k19
  have F20 := fun_mk (st := s_order_fault) l20 c20 k20
  have F21 := fun_mk (st := s_order_error) l21 c21 k21
  have F22 := fun_mk (st := s_Short___init__) l22 c22 k22
  have F23 := fun_mk (st := s_Machine___init__) l23 c23 k23
  have F24 := fun_mk (st := s_Machine_take) l24 c24 k24
  have F25 := fun_mk (st := s_Machine_do) l25 c25 k25
  have F26 := fun_mk (st := s_run_on) l26 c26 k26
  have F27 := fun_mk (st := s_finds_givers) l27 c27 k27
  have F28 := fun_mk (st := s_run) l28 c28 k28
  have F29 := fun_mk (st := s_is_plain) l29 c29 k29
  have F30 := fun_mk (st := s_u_law_deck) l30 c30 k30
  have F31 := fun_mk (st := s_u_law_draw) l31 c31 k31
  have F32 := fun_mk (st := s_u_law_one) l32 c32 k32
  have F33 := fun_mk (st := s_u_law_mixed) l33 c33 k33
  have F34 := fun_mk (st := s_u_law_kind) l34 c34 k34
  have F35 := fun_mk (st := s_u_law_renumbered) l35 c35 k35
  have F36 := fun_mk (st := s_u_law_woven) l36 c36 k36
  have F37 := fun_mk (st := s_u_law_inputs) l37 c37 k37
  have F38 := fun_mk (st := s_u_law_ties) l38 c38 k38
  have F39 := fun_mk (st := s_u_law_takers) l39 c39 k39
  have F40 := fun_mk (st := s_u_law_may_come) l40 c40 k40
  have F41 := fun_mk (st := s_u_law_is_right) l41 c41 k41
  have F42 := fun_mk (st := s_u_law_worths) l42 c42 k42
  have F43 := fun_mk (st := s_u_law_some_program) l43 c43 k43
  have F44 := fun_mk (st := s_law) l44 c44 k44
  have Txt : Txt mg := ⟨b_all, b_bool, b_enumerate, b_int, b_isinstance, b_len, b_range, b_set, b_sorted, b_tuple, h_IN, h_NEG, h_PICK⟩
  have Txt2 : Txt2 mg := ⟨b_enumerate, b_len, b_range, b_tuple⟩
  have Txt3 : Txt3 mg := ⟨b_all, b_enumerate, b_isinstance, b_len, b_set, b_tuple, h_MAX_COPIES, h_IN⟩
  have Txt4 : Txt4 mg := ⟨b_enumerate⟩
  have Txt5 : Txt5 mg := ⟨b_len, b_tuple⟩
  have Txt6 : Txt6 mg := ⟨b_all, b_enumerate, b_sorted, b_tuple⟩
  have Txt7 : Txt7 mg := ⟨b_len, b_list, b_min, b_range, b_tuple⟩
  have Txt8 : Txt8 mg := ⟨b_len, b_list, b_range, b_sorted, b_tuple⟩
  have Txt9 : Txt9 mg := ⟨b_len, b_list, b_range, b_repr, b_tuple⟩
  have hC_Machine : Cls K CM := ⟨pgCM, hdCM, poCM, saCM⟩
  have hn_Machine_is_queue : NoAttr K CM "is_queue" := nCM_is_queue
  have hn_Machine_held : NoAttr K CM "held" := nCM_held
  have bi_WebError : BaseI K CW := ⟨gaCW, tyCW, rdCW, fdCW⟩
  have mg_WebError := PySem.W.mg_of X G aCW
  have o_Short : OexC K CS := ⟨⟨nmCS, qCS, NCS, bsCS, _, snCS, subCS, abCS, colCS, ddCS, m0CS, m1CS, m2CS, m3CS, m5CS, xCS, refs1 _⟩, saCS, exCS, tyCS, kcCS⟩
  have mg_Short := PySem.W.mg_of X G aCS
  have cxCS := exm_self exCS icCS tyCS scCS
  refine ⟨PySem.W.fnOf "law" "law" (defArgs s_law) (defBody s_law) (defScope s_law) .none kV44 dc44 pm44 an44 cd44 ct44, fun s v => .of_eq rfl, fun base _ _ => ?_⟩
  have p0 : ∀ (A : Amb), PFn l.prog w K mg base A "is_integer" ["value", "least", "most"] fs_is_integer 1 := fun A => pfn_mk F0 (PySem.W.mg_of X G a0) (fun _ _ _ _ _ _ us hl => match us, hl with | [_, _, _], _ => rfl) (ok_is_integer F0 Txt)
  have p1 : ∀ (A : Amb), PFn l.prog w K mg base A "ties" ["web"] fs_ties 1 := fun A => pfn_mk F1 (PySem.W.mg_of X G a1) (fun _ _ _ _ _ _ us hl => match us, hl with | [_], _ => rfl) (ok_ties F1 Txt)
  have p2 : ∀ (A : Amb), PFn l.prog w K mg base A "results" ["web"] fs_results 2 := fun A => pfn_mk F2 (PySem.W.mg_of X G a2) (fun _ _ _ _ _ _ us hl => match us, hl with | [_], _ => rfl) (ok_results F2 Txt (p1 A))
  have p3 : ∀ (A : Amb), PFn l.prog w K mg base A "rank_of" ["web", "step"] fs_rank_of 1 := fun A => pfn_mk F3 (PySem.W.mg_of X G a3) (fun _ _ _ _ _ _ us hl => match us, hl with | [_, _], _ => rfl) (ok_rank_of F3 Txt)
  have p4 : ∀ (A : Amb), PFn l.prog w K mg base A "worth_of" ["kind", "own", "worths"] fs_worth_of 1 := fun A => pfn_mk F4 (PySem.W.mg_of X G a4) (fun _ _ _ _ _ _ us hl => match us, hl with | [_, _, _], _ => rfl) (ok_worth_of F4 Txt)
  have p5 : ∀ (A : Amb), PFn l.prog w K mg base A "own_worth" ["web", "step", "worths"] fs_own_worth 2 := fun A => pfn_mk F5 (PySem.W.mg_of X G a5) (fun _ _ _ _ _ _ us hl => match us, hl with | [_, _, _], _ => rfl) (ok_own_worth F5 Txt (p3 A))
  have p6 : ∀ (A : Amb), PFn l.prog w K mg base A "meaning" ["web", "worths"] fs_meaning 3 := fun A => pfn_mk F6 (PySem.W.mg_of X G a6) (fun _ _ _ _ _ _ us hl => match us, hl with | [_, _], _ => rfl) (ok_meaning F6 Txt (p2 A) (p5 A) (p4 A))
  have p7 : ∀ (A : Amb), PFn l.prog w K mg base A "is_row" ["web", "value"] fs_is_row 2 := fun A => pfn_mk F7 (PySem.W.mg_of X G a7) (fun _ _ _ _ _ _ us hl => match us, hl with | [_, _], _ => rfl) (ok_is_row F7 Txt (p0 A))
  have p8 : ∀ (A : Amb), PFn l.prog w K mg base A "copies_of" ["web", "step"] fs_copies_of 2 := fun A => pfn_mk F8 (PySem.W.mg_of X G a8) (fun _ _ _ _ _ _ us hl => match us, hl with | [_, _], _ => rfl) (ok_copies_of F8 Txt2 (p1 A))
  have p9 : ∀ (A : Amb), PFn l.prog w K mg base A "takes_of" ["web", "order", "step", "is_queue"] fs_takes_of 1 := fun A => pfn_mk F9 (PySem.W.mg_of X G a9) (fun _ _ _ _ _ _ us hl => match us, hl with | [_, _, _, _], _ => rfl) (ok_takes_of F9 Txt2)
  have p10 : ∀ (A : Amb), PFn l.prog w K mg base A "program_of" ["web", "order", "is_queue"] fs_program_of 3 := fun A => pfn_mk F10 (PySem.W.mg_of X G a10) (fun _ _ _ _ _ _ us hl => match us, hl with | [_, _, _], _ => rfl) (ok_program_of F10 Txt3 (p9 A) (p8 A))
  have p11 : ∀ (A : Amb), PFn l.prog w K mg base A "program" ["web", "order"] fs_program 4 := fun A => pfn_mk F11 (PySem.W.mg_of X G a11) (fun _ _ _ _ _ _ us hl => match us, hl with | [_, _], _ => rfl) (ok_program F11 Txt3 (p10 A))
  have p12 : ∀ (A : Amb), PFn l.prog w K mg base A "is_instruction" ["web", "value"] fs_is_instruction 2 := fun A => pfn_mk F12 (PySem.W.mg_of X G a12) (fun _ _ _ _ _ _ us hl => match us, hl with | [_, _], _ => rfl) (ok_is_instruction F12 Txt3 (p0 A))
  have p13 : ∀ (A : Amb), PFn l.prog w K mg base A "program_fault" ["web", "value"] fs_program_fault 3 := fun A => pfn_mk F13 (PySem.W.mg_of X G a13) (fun _ _ _ _ _ _ us hl => match us, hl with | [_, _], _ => rfl) (ok_program_fault F13 Txt3 (p12 A))
  have p14 : ∀ (A : Amb), PFn l.prog w K mg base A "program_error" ["web", "value"] fs_program_fault 4 := fun A => pfn_mk F14 (PySem.W.mg_of X G a14) (fun _ _ _ _ _ _ us hl => match us, hl with | [_, _], _ => rfl) (ok_program_error F14 Txt3 (p13 A))
  have p15 : ∀ (A : Amb), PFn l.prog w K mg base A "no_worths" ["web"] fs_no_worths 1 := fun A => pfn_mk F15 (PySem.W.mg_of X G a15) (fun _ _ _ _ _ _ us hl => match us, hl with | [_], _ => rfl) (ok_no_worths F15 Txt3)
  have p16 : ∀ (A : Amb), PFn l.prog w K mg base A "places_of" ["row"] fs_places_of 1 := fun A => pfn_mk F16 (PySem.W.mg_of X G a16) (fun _ _ _ _ _ _ us hl => match us, hl with | [_], _ => rfl) (ok_places_of F16 Txt4)
  have p17 : ∀ (A : Amb), PFn l.prog w K mg base A "late_tie" ["places", "some"] fs_late_tie 1 := fun A => pfn_mk F17 (PySem.W.mg_of X G a17) (fun _ _ _ _ _ _ us hl => match us, hl with | [_, _], _ => rfl) (ok_late_tie F17 Txt4)
  have p18 : ∀ (A : Amb), PFnA l.prog w K mg base A f18 ["places", "tie", "another"] fs_do_cross 1 := fun A => ⟨_, k18, F18.binds (fun _ _ _ _ _ _ us hl => match us, hl with | [_, _, _], _ => rfl), ok_do_cross F18 Txt4⟩
  have p19 : ∀ (A : Amb), PFn l.prog w K mg base A "first_pair" ["places", "some", "fits"] (fs_first_pair f18 fs_do_cross) 2 := fun A => pfn_mk F19 (PySem.W.mg_of X G a19) (fun _ _ _ _ _ _ us hl => match us, hl with | [_, _, _], _ => rfl) (ok_first_pair F19 Txt4 (p18 A))
  have p20 : ∀ (A : Amb), PFn l.prog w K mg base A "order_fault" ["web", "value", "word", "fits"] (fs_order_fault f18) 3 := fun A => pfn_mk F20 (PySem.W.mg_of X G a20) (fun _ _ _ _ _ _ us hl => match us, hl with | [_, _, _, _], _ => rfl) (ok_order_fault F20 Txt4 (p7 A) (p16 A) (p1 A) (p17 A) (p19 A))
  have p21 : ∀ (A : Amb), PFn l.prog w K mg base A "order_error" ["web", "value"] fs_order_error 4 := fun A => pfn_mk F21 (PySem.W.mg_of X G a21) (fun _ _ _ _ _ _ us hl => match us, hl with | [_, _], _ => rfl) (ok_order_error F21 Txt4 (PySem.W.mg_of X G a18) (p20 A))
  have e_Short : PErr l.prog w K mg base "Short" CS "index" := ⟨o_Short, mg_Short, _, _, a22, t22, F22.binds (fun _ _ _ _ _ _ us hl => match us, hl with | [_, _], _ => rfl), ok_Short F22 o_Short nCS_index mg_WebError bi_WebError⟩
  have p23 : ∀ (B : Bse), PMk l.prog w K mg base (amO K B) "Machine" CM ["self", "is_queue"] (fs_mk CM) 1 := fun B => ⟨_, _, PySem.W.mg_of X G aCM, ⟨mkCM, a23, i23, kcCM⟩, F23.binds (fun _ _ _ _ _ _ us hl => match us, hl with | [_, _], _ => rfl), ok_mk F23 Txt5 hC_Machine hn_Machine_is_queue hn_Machine_held⟩
  have p24 : ∀ (B : Bse), PMeX l.prog w K mg base (amO K B) CM "take" ["self", "index", "many"] (fx_take CM CS) 3 := fun B => ⟨_, _, ⟨a24, i24, k24⟩, F24.binds (fun _ _ _ _ _ _ us hl => match us, hl with | [_, _, _], _ => rfl), ok_take F24 Txt5 hC_Machine hn_Machine_is_queue hn_Machine_held e_Short⟩
  have p25 : ∀ (B : Bse), PMeX l.prog w K mg base (amO K B) CM "do" ["self", "web", "index", "instruction", "own"] (fx_do CM CS) 5 := fun B => ⟨_, _, ⟨a25, i25, k25⟩, F25.binds (fun _ _ _ _ _ _ us hl => match us, hl with | [_, _, _, _, _], _ => rfl), ok_do F25 Txt5 hC_Machine hn_Machine_is_queue hn_Machine_held (p24 B) (p4 (amO K B))⟩
  have p26 : ∀ (B : Bse), PFn l.prog w K mg base (amO K B) "run_on" ["machine", "web", "value", "worths"] (fs_run_on CM) 6 := fun B => pfn_mk F26 (PySem.W.mg_of X G a26) (fun _ _ _ _ _ _ us hl => match us, hl with | [_, _, _, _], _ => rfl) (ok_run_on F26 Txt6 hC_Machine hn_Machine_held (p25 B) (p5 (amO K B)))
  have p27 : ∀ (B : Bse), PFn l.prog w K mg base (amO K B) "finds_givers" ["machine", "web", "value"] (fs_finds_givers CM) 6 := fun B => pfn_mk F27 (PySem.W.mg_of X G a27) (fun _ _ _ _ _ _ us hl => match us, hl with | [_, _, _], _ => rfl) (ok_finds_givers F27 Txt6 hC_Machine hn_Machine_held mg_Short cxCS (p25 B) (p15 (amO K B)) (p5 (amO K B)))
  have p28 : ∀ (B : Bse), PFn l.prog w K mg base (amO K B) "run" ["web", "value", "worths"] fs_run 7 := fun B => pfn_mk F28 (PySem.W.mg_of X G a28) (fun _ _ _ _ _ _ us hl => match us, hl with | [_, _, _], _ => rfl) (ok_run F28 Txt6 (p23 B) (p26 B))
  have p29 : ∀ (B : Bse), PFn l.prog w K mg base (amO K B) "is_plain" ["web", "value"] fs_is_plain 7 := fun B => pfn_mk F29 (PySem.W.mg_of X G a29) (fun _ _ _ _ _ _ us hl => match us, hl with | [_, _], _ => rfl) (ok_is_plain F29 Txt6 (p23 B) (p14 (amO K B)) (p8 (amO K B)) (p27 B))
  have p31 : ∀ (d c0 : Addr), PFn l.prog w K mg base (amO K (bseA d c0)) "_law_draw" ["deck", "many"] (fs_draw d) 1 := fun d c0 => pfn_mk F31 (PySem.W.mg_of X G a31) (fun _ _ _ _ _ _ us hl => match us, hl with | [_, _], _ => rfl) (ok_draw F31 b_int b_len d c0)
  have p32 : ∀ (d c0 : Addr), PFn l.prog w K mg base (amO K (bseA d c0)) "_law_one" ["deck", "items"] (fs_one d) 2 := fun d c0 => pfn_mk F32 (PySem.W.mg_of X G a32) (fun _ _ _ _ _ _ us hl => match us, hl with | [_, _], _ => rfl) (ok_one F32 Txt7 d c0 (p31 d c0))
  have p33 : ∀ (d c0 : Addr), PFn l.prog w K mg base (amO K (bseA d c0)) "_law_mixed" ["deck", "items"] (fs_mixed d) 2 := fun d c0 => pfn_mk F33 (PySem.W.mg_of X G a33) (fun _ _ _ _ _ _ us hl => match us, hl with | [_, _], _ => rfl) (ok_mixed F33 Txt7 d c0 (p31 d c0))
  have p34 : ∀ (d c0 : Addr), PFn l.prog w K mg base (amO K (bseA d c0)) "_law_kind" ["deck", "many"] (fs_kind d) 3 := fun d c0 => pfn_mk F34 (PySem.W.mg_of X G a34) (fun _ _ _ _ _ _ us hl => match us, hl with | [_, _], _ => rfl) (ok_kind F34 Txt7 d c0 (p31 d c0) (p32 d c0))
  have p35 : ∀ (A : Amb), PFn l.prog w K mg base A "_law_renumbered" ["web", "order"] fs_renumb 1 := fun A => pfn_mk F35 (PySem.W.mg_of X G a35) (fun _ _ _ _ _ _ us hl => match us, hl with | [_, _], _ => rfl) (ok_renumb F35 Txt7)
  have p36 : ∀ (d c0 : Addr), PFn l.prog w K mg base (amO K (bseA d c0)) "_law_woven" ["deck", "most", "is_queue"] (fs_woven d) 4 := fun d c0 => pfn_mk F36 (PySem.W.mg_of X G a36) (fun _ _ _ _ _ _ us hl => match us, hl with | [_, _, _], _ => rfl) (ok_woven F36 Txt7 d c0 (p31 d c0) (p32 d c0) (p33 d c0) (p34 d c0) (p35 (amO K (bseA d c0))))
  have p37 : ∀ (A : Amb), PFn l.prog w K mg base A "_law_inputs" ["web"] fs_linputs 1 := fun A => pfn_mk F37 (PySem.W.mg_of X G a37) (fun _ _ _ _ _ _ us hl => match us, hl with | [_], _ => rfl) (ok_linputs F37 Txt8)
  have p38 : ∀ (A : Amb), PFn l.prog w K mg base A "_law_ties" ["web"] fs_lties 2 := fun A => pfn_mk F38 (PySem.W.mg_of X G a38) (fun _ _ _ _ _ _ us hl => match us, hl with | [_], _ => rfl) (ok_lties F38 Txt8 (p37 A))
  have p39 : ∀ (B : Bse), PFn l.prog w K mg base (amO K B) "_law_takers" ["web"] fs_ltakers 3 := fun B => pfn_mk F39 (PySem.W.mg_of X G a39) (fun _ _ _ _ _ _ us hl => match us, hl with | [_], _ => rfl) (ok_ltakers F39 Txt8 (p38 (amO K B)))
  have p40 : ∀ (A : Amb), PFn l.prog w K mg base A "_law_may_come" ["web", "takers", "row", "step", "is_queue"] fs_may 1 := fun A => pfn_mk F40 (PySem.W.mg_of X G a40) (fun _ _ _ _ _ _ us hl => match us, hl with | [_, _, _, _, _], _ => rfl) (ok_may F40 Txt8)
  have p41 : ∀ (B : Bse), PFn l.prog w K mg base (amO K B) "_law_is_right" ["web", "row", "is_queue"] fs_right 4 := fun B => pfn_mk F41 (PySem.W.mg_of X G a41) (fun _ _ _ _ _ _ us hl => match us, hl with | [_, _, _], _ => rfl) (ok_right F41 Txt8 (p39 B) (p40 (amO K B)))
  have p42 : ∀ (d c0 : Addr), PFn l.prog w K mg base (amO K (bseA d c0)) "_law_worths" ["deck", "web"] (fs_worths d) 3 := fun d c0 => pfn_mk F42 (PySem.W.mg_of X G a42) (fun _ _ _ _ _ _ us hl => match us, hl with | [_, _], _ => rfl) (ok_worths F42 Txt8 d c0 (p31 d c0) (p32 d c0))
  have p43 : ∀ (d c0 : Addr), PFn l.prog w K mg base (amO K (bseA d c0)) "_law_some_program" ["deck", "web", "row"] (fs_some d) 4 := fun d c0 => pfn_mk F43 (PySem.W.mg_of X G a43) (fun _ _ _ _ _ _ us hl => match us, hl with | [_, _, _], _ => rfl) (ok_some F43 Txt8 d c0 (p33 d c0) (p39 (bseA d c0)))
  exact ok_law F44 Txt9 ⟨_, _, PySem.W.mg_of X G a30, F30.kp, F30.binds (fun _ _ _ _ _ _ us hl => match us, hl with | [_], _ => rfl), ok_deck F30 b_abs⟩ p31 p36 p42 p43 p41 p6 p11 p28 p29 p21
theorem walk {l : PySem.W.OpenLaw} {q : Program} {loose : List Str} {XP : (Str → Option Value) → Heap → Prop} {YP : World → Heap → Prop} {d : DefRec} {K : Params → PySem.W.Frag} (hn : l.most = some 63) (hdf : d.params.defaults = [])
    (hY : ∀ (w : World) (h : Heap), YP w h → (K w.params).In h)
    (F : ∀ (w : World) (mg : Str → Option Value) (fa : Addr) (h : Heap), (K w.params).In h → h.Ns mainGlobals mg → mg d.name = some (.ref fa) →
      ∃ fd : FuncData, (∀ (s : Shared) (u : Value), BindsTo s fd ⟨[u], []⟩ [("script", u)]) ∧ ∀ base : Heap, (K w.params).In base → base.Ns mainGlobals mg → FnG l.prog w (K w.params) mg base 9 fa fd ["script"] (spLaw (K w.params))) :
    PySem.W.WalkO q loose XP YP l.row.toRowW d [] (fun f vs => PySem.call f vs) := walkG (k := 9) hn hdf ⟨rfl, by decide, by decide⟩ hY F
end K39
open PySem PySem.W PyProof.Rows
set_option maxRecDepth 100000 in
set_option maxHeartbeats 0 in
theorem PySem.Challenge.cw_pilepass_k39_whole_plain_programs_and_ri_holds : PySem.Challenge.rw_pilepass_k39_whole_plain_programs_and_ri.Holds := by
  w_on; o_law; k_head; (case hw => w_witness2)
  k_fill
  refine K39.walk (l := PySem.Challenge.rw_pilepass_k39_whole_plain_programs_and_ri) rfl rfl (fun w h Y => PySem.W.kIn_of Y) ?F
  case F =>
    intro w mg fa h KX G hmg
    refine' K39.all_mk KX G hmg ?aCM ?pgCM ?hdCM ?poCM ?saCM ?mkCM ?kcCM ?nCM_is_queue ?nCM_held ?aCW ?gaCW ?tyCW ?rdCW ?fdCW ?aCS ?xCS ?saCS ?exCS ?tyCS ?kcCS ?nCS_index ?icCS ?scCS ?a0 ?l0 ?c0 ?k0 ?a1 ?l1 ?c1 ?k1 ?a2 ?l2 ?c2 ?k2 ?a3 ?l3 ?c3 ?k3 ?a4 ?l4 ?c4 ?k4 ?a5 ?l5 ?c5 ?k5 ?a6 ?l6 ?c6 ?k6 ?a7 ?l7 ?c7 ?k7 ?a8 ?l8 ?c8 ?k8 ?a9 ?l9 ?c9 ?k9 ?a10 ?l10 ?c10 ?k10 ?a11 ?l11 ?c11 ?k11 ?a12 ?l12 ?c12 ?k12 ?a13 ?l13 ?c13 ?k13 ?a14 ?l14 ?c14 ?k14 ?a15 ?l15 ?c15 ?k15 ?a16 ?l16 ?c16 ?k16 ?a17 ?l17 ?c17 ?k17 ?a18 ?l18 ?c18 ?k18 ?a19 ?l19 ?c19 ?k19 ?a20 ?l20 ?c20 ?k20 ?a21 ?l21 ?c21 ?k21 ?a22 ?t22 ?l22 ?c22 ?k22 ?a23 ?i23 ?l23 ?c23 ?k23 ?a24 ?i24 ?l24 ?c24 ?k24 ?a25 ?i25 ?l25 ?c25 ?k25 ?a26 ?l26 ?c26 ?k26 ?a27 ?l27 ?c27 ?k27 ?a28 ?l28 ?c28 ?k28 ?a29 ?l29 ?c29 ?k29 ?a30 ?l30 ?c30 ?k30 ?a31 ?l31 ?c31 ?k31 ?a32 ?l32 ?c32 ?k32 ?a33 ?l33 ?c33 ?k33 ?a34 ?l34 ?c34 ?k34 ?a35 ?l35 ?c35 ?k35 ?a36 ?l36 ?c36 ?k36 ?a37 ?l37 ?c37 ?k37 ?a38 ?l38 ?c38 ?k38 ?a39 ?l39 ?c39 ?k39 ?a40 ?l40 ?c40 ?k40 ?a41 ?l41 ?c41 ?k41 ?a42 ?l42 ?c42 ?k42 ?a43 ?l43 ?c43 ?k43 ?a44 ?l44 ?c44 ?k44 ?z_all ?z_bool ?z_enumerate ?z_int ?z_isinstance ?z_len ?z_range ?z_set ?z_sorted ?z_tuple ?z_list ?z_min ?z_repr ?z_abs ?g_IN ?g_NEG ?g_PICK ?g_MAX_COPIES
    (case aCM => k_is)
    (case pgCM => k_is)
    (case hdCM => k_is)
    (case poCM => k_is)
    (case saCM => k_is)
    (case mkCM => k_is)
    (case kcCM => k_is)
    (case nCM_is_queue => k_is)
    (case nCM_held => k_is)
    (case aCW => k_is)
    (case gaCW => k_is)
    (case tyCW => k_is)
    (case rdCW => k_is)
    (case fdCW => k_is)
    (case aCS => k_is)
    (case xCS => k_is)
    (case saCS => k_is)
    (case exCS => k_is)
    (case tyCS => k_is)
    (case kcCS => k_is)
    (case nCS_index => k_is)
    (case icCS => k_is)
    (case scCS => first | rfl | k_is)
    (case a0 => k_is)
    (case l0 => k_is)
    (case c0 => k_is)
    (case k0 => k_is)
    (case a1 => k_is)
    (case l1 => k_is)
    (case c1 => k_is)
    (case k1 => k_is)
    (case a2 => k_is)
    (case l2 => k_is)
    (case c2 => k_is)
    (case k2 => k_is)
    (case a3 => k_is)
    (case l3 => k_is)
    (case c3 => k_is)
    (case k3 => k_is)
    (case a4 => k_is)
    (case l4 => k_is)
    (case c4 => k_is)
    (case k4 => k_is)
    (case a5 => k_is)
    (case l5 => k_is)
    (case c5 => k_is)
    (case k5 => k_is)
    (case a6 => k_is)
    (case l6 => k_is)
    (case c6 => k_is)
    (case k6 => k_is)
    (case a7 => k_is)
    (case l7 => k_is)
    (case c7 => k_is)
    (case k7 => k_is)
    (case a8 => k_is)
    (case l8 => k_is)
    (case c8 => k_is)
    (case k8 => k_is)
    (case a9 => k_is)
    (case l9 => k_is)
    (case c9 => k_is)
    (case k9 => k_is)
    (case a10 => k_is)
    (case l10 => k_is)
    (case c10 => k_is)
    (case k10 => k_is)
    (case a11 => k_is)
    (case l11 => k_is)
    (case c11 => k_is)
    (case k11 => k_is)
    (case a12 => k_is)
    (case l12 => k_is)
    (case c12 => k_is)
    (case k12 => k_is)
    (case a13 => k_is)
    (case l13 => k_is)
    (case c13 => k_is)
    (case k13 => k_is)
    (case a14 => k_is)
    (case l14 => k_is)
    (case c14 => k_is)
    (case k14 => k_is)
    (case a15 => k_is)
    (case l15 => k_is)
    (case c15 => k_is)
    (case k15 => k_is)
    (case a16 => k_is)
    (case l16 => k_is)
    (case c16 => k_is)
    (case k16 => k_is)
    (case a17 => k_is)
    (case l17 => k_is)
    (case c17 => k_is)
    (case k17 => k_is)
    (case a18 => k_is)
    (case l18 => k_is)
    (case c18 => k_is)
    (case k18 => k_is)
    (case a19 => k_is)
    (case l19 => k_is)
    (case c19 => k_is)
    (case k19 => k_is)
    (case a20 => k_is)
    (case l20 => k_is)
    (case c20 => k_is)
    (case k20 => k_is)
    (case a21 => k_is)
    (case l21 => k_is)
    (case c21 => k_is)
    (case k21 => k_is)
    (case a22 => k_is)
    (case t22 => k_is)
    (case l22 => k_is)
    (case c22 => k_is)
    (case k22 => k_is)
    (case a23 => k_is)
    (case i23 => k_is)
    (case l23 => k_is)
    (case c23 => k_is)
    (case k23 => k_is)
    (case a24 => k_is)
    (case i24 => k_is)
    (case l24 => k_is)
    (case c24 => k_is)
    (case k24 => k_is)
    (case a25 => k_is)
    (case i25 => k_is)
    (case l25 => k_is)
    (case c25 => k_is)
    (case k25 => k_is)
    (case a26 => k_is)
    (case l26 => k_is)
    (case c26 => k_is)
    (case k26 => k_is)
    (case a27 => k_is)
    (case l27 => k_is)
    (case c27 => k_is)
    (case k27 => k_is)
    (case a28 => k_is)
    (case l28 => k_is)
    (case c28 => k_is)
    (case k28 => k_is)
    (case a29 => k_is)
    (case l29 => k_is)
    (case c29 => k_is)
    (case k29 => k_is)
    (case a30 => k_is)
    (case l30 => k_is)
    (case c30 => k_is)
    (case k30 => k_is)
    (case a31 => k_is)
    (case l31 => k_is)
    (case c31 => k_is)
    (case k31 => k_is)
    (case a32 => k_is)
    (case l32 => k_is)
    (case c32 => k_is)
    (case k32 => k_is)
    (case a33 => k_is)
    (case l33 => k_is)
    (case c33 => k_is)
    (case k33 => k_is)
    (case a34 => k_is)
    (case l34 => k_is)
    (case c34 => k_is)
    (case k34 => k_is)
    (case a35 => k_is)
    (case l35 => k_is)
    (case c35 => k_is)
    (case k35 => k_is)
    (case a36 => k_is)
    (case l36 => k_is)
    (case c36 => k_is)
    (case k36 => k_is)
    (case a37 => k_is)
    (case l37 => k_is)
    (case c37 => k_is)
    (case k37 => k_is)
    (case a38 => k_is)
    (case l38 => k_is)
    (case c38 => k_is)
    (case k38 => k_is)
    (case a39 => k_is)
    (case l39 => k_is)
    (case c39 => k_is)
    (case k39 => k_is)
    (case a40 => k_is)
    (case l40 => k_is)
    (case c40 => k_is)
    (case k40 => k_is)
    (case a41 => k_is)
    (case l41 => k_is)
    (case c41 => k_is)
    (case k41 => k_is)
    (case a42 => k_is)
    (case l42 => k_is)
    (case c42 => k_is)
    (case k42 => k_is)
    (case a43 => k_is)
    (case l43 => k_is)
    (case c43 => k_is)
    (case k43 => k_is)
    (case a44 => k_is)
    (case l44 => k_is)
    (case c44 => k_is)
    (case k44 => k_is)
    (case z_all => k_is)
    (case z_bool => k_is)
    (case z_enumerate => k_is)
    (case z_int => k_is)
    (case z_isinstance => k_is)
    (case z_len => k_is)
    (case z_range => k_is)
    (case z_set => k_is)
    (case z_sorted => k_is)
    (case z_tuple => k_is)
    (case z_list => k_is)
    (case z_min => k_is)
    (case z_repr => k_is)
    (case z_abs => k_is)
    (case g_IN => k_is)
    (case g_NEG => k_is)
    (case g_PICK => k_is)
    (case g_MAX_COPIES => k_is)
