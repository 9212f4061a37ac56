import PyProof.Rows.All
import Wide.All
import OpenK.AllK
import Wide.FinOn
import PyProof.EqAt
import PyProof.EqKinds
import PyProof.TupleCall
import HandS.ForMost
import HandS.ForExc
import HandS.TupAny
import HandS.SetKeys
import KE.KeyNested
import KE.KDictKeyed
import HandS.IsInst
import HandS.Style
import HandS.RevRange
import HandS.Rev
import HandS.CallSlots
import HandS.Ends
import KE.DataEq
import HandS.Deep
import HandS.Dict
import HandS.Text
import HandS.Conv
import HandS.More
import KE.KDictSum
import PyProof.SeqIndex
import KE.SortData
import PyProof.Rows.TupMore
import HandS.DictComp
import HandS.SetBool
import KE.GoesEnum
import HandS.Iter
import KE.DataCmp
import KE.KDictPairs
import KE.KDictDisplayH
import PyProof.ReprRoads
import HandS.Defaults
import PySem.Challenge.RW_aheadbook_k24_marks_round_a_ring
/-! Pl1 -/
set_option Elab.async false
set_option linter.all false
set_option maxRecDepth 100000
set_option maxHeartbeats 4000000
/-! The pure layer: values as data trees, slots that hold data or own an object, mirror functions. -/
namespace Pl
open PySem PySem.Spec PyProof.Rows L2

abbrev St := L2.St
def keyD : Key → PyData
  | .inl i => .int i
  | .inr x => .str x

/-- what is fixed throughout: the module's objects, the world -/
structure KW where
  K : PySem.W.Frag
  w : World
  P : Program
abbrev kw (X : Cx) : KW := ⟨X.K, X.w, X.prog⟩
/-- a plain tuple object -/
def TupO (o : Obj) : Prop := o.cls = .type "tuple" ∧ o.dict = none
def TupAt (H : Hp) (a : Addr) (xs : List V) : Prop := ∃ o, TupO o ∧ H a = some (.frz o (.tup xs))
theorem TupAt.sq {K : PySem.W.Frag} {H : Hp} {a : Addr} {xs : List V} (h : TupAt H a xs) : SqT K H a xs := let ⟨o, _, e⟩ := h; .inl (.inr ⟨o, e⟩)
theorem TupAt.of {H : Hp} {p : Addr} {o : Obj} {xs : List V} (h : TupO o) : TupAt (upd H p (.frz o (.tup xs))) p xs := ⟨o, h, upd_same⟩
section
variable {X : Cx}
theorem laidT {pins : List (Addr × Obj)} {σ : L2.St} {H : Hp} {s : Shared} {its : List Value} {xs : List V} {Q : VK} (I : Inv X pins σ H s) (r : Vals xs its) (hz : xs.length ≤ sizeLine) (q : ∀ p o, H p = none → TupO o → Q (.ref p) (upd H p (.frz o (.tup xs)))) :
    EP X pins σ Q (.ref s.heap.objs.size) { s with heap := s.heap.push { cls := .type "tuple", data := .seq its.toArray } } := by
  refine ⟨.ref s.heap.objs.size, _, I.laid (t' := s.toks) (o := .frz { cls := .type "tuple", data := .seq its.toArray } (.tup xs)) (fun b ob q => Heap.get?_push_of_some _ q) (Nat.le_refl _) ?_, rfl, q _ _ (I.hok.fresh (Nat.le_refl _)) ⟨rfl, rfl⟩⟩
  exact ⟨Heap.get?_push_size _ rfl, hz, _, r, IsTup.new _ _⟩
def tTupF (t : TA) : TE := fun σ H Q => t σ H fun xs H1 => xs.length ≤ sizeLine ∧ ∀ p o, H1 p = none → TupO o → Q (.ref p) (upd H1 p (.frz o (.tup xs)))
theorem pe_tupF {es : List Expr} {t : TA} {x1} {pos : Pos} (h : PA X es t) : PE X (.Tuple es x1 pos) (tTupF t) := by
  refine ⟨fun pins s σ H Q I hq => ?_⟩
  refine wpAny_Tuple_spliced (thn (h.run pos pins s σ H _ I hq) fun us s1 ⟨xs, H1, I1, r, z, q⟩ => ⟨by rw [← r.length]; exact z, ?_⟩)
  exact laidT I1 r z q
def rCatF (K : PySem.W.Frag) : R2 := fun x y H Q => ∃ a b xs ys, x = .ref a ∧ y = .ref b ∧ SqT K H a xs ∧ SqT K H b ys ∧ xs.length + ys.length ≤ sizeLine ∧
  (xs = [] → Q (.ref b) H) ∧ (xs ≠ [] → ys = [] → Q (.ref a) H) ∧ (xs ≠ [] → ys ≠ [] → ∀ p o, H p = none → TupO o → Q (.ref p) (upd H p (.frz o (.tup (xs ++ ys)))))
theorem op_catF : OpR X (binaryOp .Add) (rCatF X.K) := by
  intro pins s σ H x y v u Q I rx ry h
  obtain ⟨a, b, xs, ys, rfl, rfl, ha, hb, hz, q0, q1, q2⟩ := h
  cases rx
  cases ry
  obtain ⟨its, r1, p1, _⟩ := I.tuple ha
  obtain ⟨its2, r2, p2, _⟩ := I.tuple hb
  by_cases hx : xs = []
  · subst hx
    cases r1
    exact cat_tup0 p1 p2 ⟨.ref b, H, I, rfl, q0 rfl⟩
  · exact HT.cat_tup p1 p2 (fun z => hx (r1.nil_iff.mp z)) (fun z => ⟨.ref a, H, I, rfl, q1 hx (r2.nil_iff.mp z)⟩) (fun z => laidT I (r1.append r2) (by rw [List.length_append]; exact hz) (q2 hx fun w => z (r2.nil_iff.mpr w))) (by rw [← r1.length, ← r2.length]; exact hz)
def rSlF (K : PySem.W.Frag) : V → Option Int → Option Int → Hp → VK → Prop := fun x lo hi H Q => ∃ a xs, x = .ref a ∧ SqT K H a xs ∧
  (HT.sIx xs.length 0 lo = 0 ∧ HT.sIx xs.length xs.length hi = xs.length → Q (.ref a) H) ∧ (¬ (HT.sIx xs.length 0 lo = 0 ∧ HT.sIx xs.length xs.length hi = xs.length) → ∀ p o, H p = none → TupO o → Q (.ref p) (upd H p (.frz o (.tup (cutV xs lo hi)))))
theorem sl_tupF : SlR X (rSlF X.K) := by
  intro pins s σ H x v vl vu lo hi sl Q I rx hs pl pu h
  obtain ⟨a, xs, rfl, hx, q1, q2⟩ := h
  cases rx
  obtain ⟨its, r, ht, hz⟩ := I.tuple hx
  have hlen : its.toArray.size = xs.length := by rw [List.size_toArray]; exact r.length.symm
  refine ⟨"tuple", _, PyProof.Rows.slot_tuple_getitem.lookup, ht.typeIs, ?_⟩
  by_cases hw : HT.sIx xs.length 0 lo = 0 ∧ HT.sIx xs.length xs.length hi = xs.length
  · exact getItem_tuple_whole ht hs pl pu (by rw [hlen]; exact hw) ⟨.ref a, H, I, rfl, q1 hw⟩
  · refine HT.getItem_tuple_cut ht hs pl pu (by rw [hlen]; exact hw) ?_ (by rw [hlen]; exact hz)
    rw [hlen]
    exact laidT I ((r.drop (HT.sIx xs.length 0 lo)).take (HT.sIx xs.length xs.length hi - HT.sIx xs.length 0 lo)) (Nat.le_trans (cutV_length xs lo hi) hz) (q2 hw)
theorem call_tupleF : CallR X (.type "tuple") (fun xs H Q => ∃ p ys, xs = [.ref p] ∧ ((SqL X.K H p ys ∧ ∀ l o, H l = none → TupO o → Q (.ref l) (upd H l (.frz o (.tup ys)))) ∨ (SqT X.K H p ys ∧ Q (.ref p) H))) := by
  intro pins s σ H xs us Q I r h
  obtain ⟨p, ys, rfl, h⟩ := h
  obtain ⟨u, rfl, rx⟩ := vals1 r
  cases rx
  rcases h with ⟨hq, q⟩ | ⟨hq, q⟩
  · obtain ⟨its, r', pl, hz⟩ := I.list hq
    have hlen := r'.length
    refine call_tuple_list pl.isList (fun h' kp => ?_) (by simp only [List.size_toArray] <;> omega)
    have I1 : Inv X pins σ H { s with heap := h' } := I.kept (t' := s.toks) kp
    exact laidT I1 r' hz q
  · obtain ⟨its, r', pl, hz⟩ := I.tuple hq
    exact call_tuple_same pl ⟨.ref p, H, I, rfl, q⟩
end
/-- a set of ints and texts, told as data by its members (in whatever order) -/
def stD (ds : List PyData) : PyData := .dict [(.list [.none], .list ds)]
structure SetIs (S : Key → Bool) (n : Nat) (ds : List PyData) : Prop where
  mem : ∀ k, S k = true ↔ keyD k ∈ ds
  keys : ∀ d ∈ ds, ∃ k, d = keyD k
  nd : ds.Nodup
  len : n = ds.length
/-- a list that is only read (the script) as data: no value of Python's own reads so -/
def roD (ds : List PyData) : PyData := .dict [(.list [], .list ds)]

/-- an instance as data: its class by name, its fields in their order -/
def fldD (es : List (Str × PyData)) : List PyData := es.map fun p => .tuple [.str p.1, p.2]
def insD (c : Str) (es : List (Str × PyData)) : PyData := .dict [(.list [.str c], .list (fldD es))]
/-- a class of the module -/
def ClsAt (K : KW) (c : Str) (C : Addr) : Prop := PySem.W.nsIn K.K mainGlobals c = some (some (.ref C))
/-! a key's data as the library's key -/
mutual
def keyOf : PyData → Option NestedKey
  | .none => some .none
  | .bool b => some (.num (if b = true then 1 else 0))
  | .int i => some (.num i)
  | .str x => some (.text x)
  | .tuple ds => (keysOf ds).map .tup
  | _ => none
def keysOf : List PyData → Option (List NestedKey)
  | [] => some []
  | d :: ds => match keyOf d with
    | none => none
    | some k => (keysOf ds).map (k :: ·)
end
/-- the dict at a, its keys tuples: what stands in its own object -/
def DnP (w : World) (a : Addr) (ep : Nat) (xs : List (NestedKey × Addr × Value)) (h : Heap) : Prop :=
  xs.length ≤ sizeLine ∧ (a == sysModules) = false ∧ (xs.map (·.1)).Nodup ∧ ∃ o es, h.get? a = some o ∧ o.ExactDict ∧ o.data = .dict es ep ∧ es.toList = xs.map fun x => (⟨x.1.hash w, .ref x.2.1, x.2.2⟩ : DictEntry)
def DnO (w : World) (a : Addr) (ep : Nat) (xs : List (NestedKey × Addr × Value)) : HO := .ext (DnP w a ep xs)

mutual
inductive Rep (K : KW) (H : Hp) : V → PyData → Prop
  | non : Rep K H .non .none
  | bl (b : Bool) : Rep K H (.bl b) (.bool b)
  | int (i : Int) : Rep K H (.int i) (.int i)
  | str (x : Str) : Rep K H (.str x) (.str x)
  | lst {a : Addr} {xs : List V} {ds : List PyData} : H a = some (.lst xs) → RepAll K H xs ds → Rep K H (.ref a) (.list ds)
  | tup {a : Addr} {xs : List V} {ds : List PyData} : TupAt H a xs → RepAll K H xs ds → Rep K H (.ref a) (.tuple ds)
  | dk {a : Addr} {kvs : List (Key × V)} {es : List (PyData × PyData)} : H a = some (.dK kvs) → RepKv K H kvs es → Rep K H (.ref a) (.dict es)
  | dn {a : Addr} {ep : Nat} {xs : List (NestedKey × Addr × Value)} {es : List (PyData × PyData)} : H a = some (DnO K.w a ep xs) → RepNt K H xs es → Rep K H (.ref a) (.dict es)
  | st {a : Addr} {S : Key → Bool} {n : Nat} {ds : List PyData} : H a = some (SetK K.P K.w a S n) → SetIs S n ds → Rep K H (.ref a) (stD ds)
  | ro {a : Addr} {xs : List V} {ds : List PyData} : SqL K.K H a xs → RepAll K H xs ds → Rep K H (.ref a) (roD ds)
  | ins {a dx C : Addr} {c : Str} {fs : List (Str × V)} {es : List (Str × PyData)} : H a = some (.ins C dx fs) → H dx = some (.own a) → ClsAt K c C → RepFl K H fs es → Rep K H (.ref a) (insD c es)
inductive RepFl (K : KW) (H : Hp) : List (Str × V) → List (Str × PyData) → Prop
  | nil : RepFl K H [] []
  | cons {f : Str} {v : V} {vs : List (Str × V)} {d : PyData} {ds : List (Str × PyData)} : Rep K H v d → RepFl K H vs ds → RepFl K H ((f, v) :: vs) ((f, d) :: ds)
inductive RepAll (K : KW) (H : Hp) : List V → List PyData → Prop
  | nil : RepAll K H [] []
  | cons {v : V} {vs : List V} {d : PyData} {ds : List PyData} : Rep K H v d → RepAll K H vs ds → RepAll K H (v :: vs) (d :: ds)
inductive RepKv (K : KW) (H : Hp) : List (Key × V) → List (PyData × PyData) → Prop
  | nil : RepKv K H [] []
  | cons {k : Key} {v : V} {vs : List (Key × V)} {d : PyData} {ds : List (PyData × PyData)} : Rep K H v d → RepKv K H vs ds → RepKv K H ((k, v) :: vs) ((keyD k, d) :: ds)
inductive RepNt (K : KW) (H : Hp) : List (NestedKey × Addr × Value) → List (PyData × PyData) → Prop
  | nil : RepNt K H [] []
  | cons {k : NestedKey} {p : Addr} {v : V} {u : Value} {vs : List (NestedKey × Addr × Value)} {c d : PyData} {ds : List (PyData × PyData)} : Rep K H (.ref p) c → keyOf c = some k → k.depth ≤ 8 → RelV v u → Rep K H v d → RepNt K H vs ds → RepNt K H ((k, p, u) :: vs) ((c, d) :: ds)
end

/-- an object of one's own: what it holds stands in the frozen part -/
inductive OObj (K : KW) (Hf : Hp) (a : Addr) : HO → PyData → Prop
  | lst {xs : List V} {ds : List PyData} : RepAll K Hf xs ds → OObj K Hf a (.lst xs) (.list ds)
  | dk {kvs : List (Key × V)} {es : List (PyData × PyData)} : RepKv K Hf kvs es → OObj K Hf a (.dK kvs) (.dict es)
  | dn {ep : Nat} {xs : List (NestedKey × Addr × Value)} {es : List (PyData × PyData)} : RepNt K Hf xs es → OObj K Hf a (DnO K.w a ep xs) (.dict es)
  | st {S : Key → Bool} {n : Nat} {ds : List PyData} : SetIs S n ds → OObj K Hf a (SetK K.P K.w a S n) (stD ds)
  | ins {dx C : Addr} {c : Str} {fs : List (Str × V)} {es : List (Str × PyData)} : Hf dx = some (.own a) → ClsAt K c C → RepFl K Hf fs es → OObj K Hf a (.ins C dx fs) (insD c es)

theorem TupAt.mono {H H' : Hp} {a : Addr} {xs : List V} (e : Same H H') (h : TupAt H a xs) : TupAt H' a xs := let ⟨o, t, q⟩ := h; ⟨o, t, e _ _ q⟩
section
variable {K : KW} {H H' : Hp}
mutual
theorem Rep.mono (e : Same H H') : ∀ {v : V} {d : PyData}, Rep K H v d → Rep K H' v d
  | _, _, .non => .non
  | _, _, .bl b => .bl b
  | _, _, .int i => .int i
  | _, _, .str x => .str x
  | _, _, .lst h r => .lst (e _ _ h) (RepAll.mono e r)
  | _, _, .tup h r => .tup (TupAt.mono e h) (RepAll.mono e r)
  | _, _, .dk h r => .dk (e _ _ h) (RepKv.mono e r)
  | _, _, .dn h r => .dn (e _ _ h) (RepNt.mono e r)
  | _, _, .st h r => .st (e _ _ h) r
  | _, _, .ro h r => .ro (e.seq h) (RepAll.mono e r)
  | _, _, .ins h g c r => .ins (e _ _ h) (e _ _ g) c (RepFl.mono e r)
theorem RepFl.mono (e : Same H H') : ∀ {v : List (Str × V)} {d : List (Str × PyData)}, RepFl K H v d → RepFl K H' v d
  | _, _, .nil => .nil
  | _, _, .cons h r => .cons (Rep.mono e h) (RepFl.mono e r)
theorem RepAll.mono (e : Same H H') : ∀ {v : List V} {d : List PyData}, RepAll K H v d → RepAll K H' v d
  | _, _, .nil => .nil
  | _, _, .cons h r => .cons (Rep.mono e h) (RepAll.mono e r)
theorem RepKv.mono (e : Same H H') : ∀ {v : List (Key × V)} {d : List (PyData × PyData)}, RepKv K H v d → RepKv K H' v d
  | _, _, .nil => .nil
  | _, _, .cons h r => .cons (Rep.mono e h) (RepKv.mono e r)
theorem RepNt.mono (e : Same H H') : ∀ {v : List (NestedKey × Addr × Value)} {d : List (PyData × PyData)}, RepNt K H v d → RepNt K H' v d
  | _, _, .nil => .nil
  | _, _, .cons h q dp rv g r => .cons (Rep.mono e h) q dp rv (Rep.mono e g) (RepNt.mono e r)
end
theorem OObj.mono (e : Same H H') {a : Addr} {o : HO} {d : PyData} (h : OObj K H a o d) : OObj K H' a o d := by
  cases h with
  | lst r => exact .lst (r.mono e)
  | dk r => exact .dk (r.mono e)
  | dn r => exact .dn (r.mono e)
  | st r => exact .st r
  | ins g c r => exact .ins (e _ _ g) c (r.mono e)
theorem OObj.rep {o : HO} {d : PyData} {a : Addr} (h : OObj K H a o d) (e : H a = some o) : Rep K H (.ref a) d := by
  cases h with
  | lst r => exact .lst e r
  | dk r => exact .dk e r
  | dn r => exact .dn e r
  | st r => exact .st e r
  | ins g c r => exact .ins e g c r
theorem RepAll.length : ∀ {v : List V} {d : List PyData}, RepAll K H v d → v.length = d.length
  | _, _, .nil => rfl
  | _, _, .cons _ r => congrArg (· + 1) (RepAll.length r)
theorem RepAll.append : ∀ {v w : List V} {d e : List PyData}, RepAll K H v d → RepAll K H w e → RepAll K H (v ++ w) (d ++ e)
  | _, _, _, _, .nil, q => q
  | _, _, _, _, .cons h r, q => .cons h (RepAll.append r q)
theorem RepAll.get : ∀ {v : List V} {d : List PyData} {i : Nat} {x : V}, RepAll K H v d → v[i]? = some x → ∃ y, d[i]? = some y ∧ Rep K H x y
  | _, _, i, x, .nil, e => by simp at e
  | _, _, 0, x, .cons h r, e => by simp at e; subst e; exact ⟨_, rfl, h⟩
  | _, _, i + 1, x, .cons h r, e => by
    obtain ⟨y, q, z⟩ := RepAll.get (i := i) r (by simpa using e)
    exact ⟨y, by simpa using q, z⟩
theorem RepAll.get' : ∀ {v : List V} {d : List PyData} {i : Nat} {y : PyData}, RepAll K H v d → d[i]? = some y → ∃ x, v[i]? = some x ∧ Rep K H x y
  | _, _, i, x, .nil, e => by simp at e
  | _, _, 0, x, .cons h r, e => by simp at e; subst e; exact ⟨_, rfl, h⟩
  | _, _, i + 1, x, .cons h r, e => by
    obtain ⟨y, q, z⟩ := RepAll.get' (i := i) r (by simpa using e)
    exact ⟨y, by simpa using q, z⟩
theorem RepAll.take : ∀ {v : List V} {d : List PyData} (n : Nat), RepAll K H v d → RepAll K H (v.take n) (d.take n)
  | _, _, 0, _ => .nil
  | _, _, n + 1, .nil => .nil
  | _, _, n + 1, .cons h r => .cons h (RepAll.take n r)
theorem RepAll.drop : ∀ {v : List V} {d : List PyData} (n : Nat), RepAll K H v d → RepAll K H (v.drop n) (d.drop n)
  | _, _, 0, r => r
  | _, _, n + 1, .nil => .nil
  | _, _, n + 1, .cons h r => RepAll.drop n r
theorem RepAll.reverse : ∀ {v : List V} {d : List PyData}, RepAll K H v d → RepAll K H v.reverse d.reverse
  | _, _, .nil => .nil
  | _, _, .cons h r => by
    rw [List.reverse_cons, List.reverse_cons]
    exact (RepAll.reverse r).append (.cons h .nil)
theorem RepAll.eraseIdx : ∀ {v : List V} {d : List PyData} (n : Nat), RepAll K H v d → RepAll K H (v.eraseIdx n) (d.eraseIdx n)
  | _, _, n, .nil => by simpa using RepAll.nil
  | _, _, 0, .cons h r => r
  | _, _, n + 1, .cons h r => .cons h (RepAll.eraseIdx n r)
theorem RepAll.set {x : V} {y : PyData} (q : Rep K H x y) : ∀ {v : List V} {d : List PyData} (n : Nat), RepAll K H v d → RepAll K H (v.set n x) (d.set n y)
  | _, _, n, .nil => by simpa using RepAll.nil
  | _, _, 0, .cons h r => .cons q r
  | _, _, n + 1, .cons h r => .cons h (RepAll.set q n r)
theorem RepAll.dropLast {v : List V} {d : List PyData} (r : RepAll K H v d) : RepAll K H v.dropLast d.dropLast := by
  rw [List.dropLast_eq_take, List.dropLast_eq_take, r.length]
  exact r.take _
end

/-- what is read: data of the frozen part, or an object of one's own -/
def Vw (K : KW) (H Hf : Hp) (v : V) (d : PyData) : Prop := Rep K Hf v d ∨ ∃ a o, v = .ref a ∧ H a = some o ∧ OObj K Hf a o d
section
variable {K : KW} {H Hf : Hp} {v : V} {ds : List PyData} {d : PyData} {es : List (PyData × PyData)}
theorem Vw.rep (s : Same Hf H) (h : Vw K H Hf v d) : Rep K H v d := by
  rcases h with h | ⟨a, o, rfl, e, q⟩
  · exact h.mono s
  · exact (q.mono s).rep e
theorem Vw.int {i : Int} (h : Vw K H Hf v (.int i)) : v = .int i := by
  rcases h with h | ⟨a, o, rfl, e, q⟩
  · cases h; rfl
  · cases q
theorem Vw.bl {i : Bool} (h : Vw K H Hf v (.bool i)) : v = .bl i := by
  rcases h with h | ⟨a, o, rfl, e, q⟩
  · cases h; rfl
  · cases q
theorem Vw.str {i : Str} (h : Vw K H Hf v (.str i)) : v = .str i := by
  rcases h with h | ⟨a, o, rfl, e, q⟩
  · cases h; rfl
  · cases q
theorem Vw.non (h : Vw K H Hf v .none) : v = .non := by
  rcases h with h | ⟨a, o, rfl, e, q⟩
  · cases h; rfl
  · cases q
theorem Vw.lst (s : Same Hf H) (h : Vw K H Hf v (.list ds)) : ∃ a xs, v = .ref a ∧ H a = some (.lst xs) ∧ RepAll K Hf xs ds := by
  rcases h with h | ⟨a, o, rfl, e, q⟩
  · cases h with
    | lst h r => exact ⟨_, _, rfl, s _ _ h, r⟩
  · cases q with
    | lst r => exact ⟨_, _, rfl, e, r⟩
theorem Vw.tup (s : Same Hf H) (h : Vw K H Hf v (.tuple ds)) : ∃ a xs, v = .ref a ∧ TupAt H a xs ∧ RepAll K Hf xs ds := by
  rcases h with h | ⟨a, o, rfl, e, q⟩
  · cases h with
    | tup h r => exact ⟨_, _, rfl, h.mono s, r⟩
  · cases q
theorem keyD_list (k : Key) (d : List PyData) : PyData.list d ≠ keyD k := by
  intro h
  rcases k with i | x
  · exact PyData.noConfusion h
  · exact PyData.noConfusion h
theorem repKv_key {kvs : List (Key × V)} {a : PyData} : RepKv K H kvs ((.list [], a) :: es) → False := by
  intro r
  generalize hd : ((PyData.list [], a) :: es) = l at r
  cases r with
  | nil => cases hd
  | cons h r =>
    injection hd with h1 _
    injection h1 with h1 _
    exact keyD_list _ _ h1
theorem repNt_key {kvs : List (NestedKey × Addr × Value)} {ds : List PyData} {a : PyData} : RepNt K H kvs ((.list ds, a) :: es) → False := by
  intro r
  cases r with
  | cons h q => simp [keyOf] at q
theorem Vw.ro (s : Same Hf H) (h : Vw K H Hf v (roD ds)) : ∃ a xs, v = .ref a ∧ SqL K.K H a xs ∧ RepAll K Hf xs ds := by
  rcases h with h | ⟨a, o, rfl, e, q⟩
  · generalize hd : roD ds = d at h
    cases h with
    | ro h r =>
      unfold roD at hd
      injection hd with hd
      injection hd with hd _
      injection hd with _ hd
      injection hd with hd
      subst hd
      exact ⟨_, _, rfl, s.seq h, r⟩
    | dk h r =>
      unfold roD at hd
      injection hd with hd
      subst hd
      exact (repKv_key r).elim
    | dn h r =>
      unfold roD at hd
      injection hd with hd
      subst hd
      exact (repNt_key r).elim
    | st h r => simp [roD, stD] at hd
    | ins h g c r => simp [roD, insD] at hd
    | _ => cases hd
  · unfold roD at q
    generalize hd : PyData.dict [(.list [], .list ds)] = d at q
    cases q with
    | lst r => cases hd
    | dk r => injection hd with hd; subst hd; exact (repKv_key r).elim
    | dn r => injection hd with hd; subst hd; exact (repNt_key r).elim
    | st r => simp [stD] at hd
    | ins g c r => simp [insD] at hd
theorem repKv_keyL {kvs : List (Key × V)} {l : List PyData} {a : PyData} : RepKv K H kvs ((.list l, a) :: es) → False := by
  intro r
  generalize hd : ((PyData.list l, a) :: es) = z at r
  cases r with
  | nil => cases hd
  | cons h r =>
    injection hd with h1 _
    injection h1 with h1 _
    exact keyD_list _ _ h1
theorem Vw.st (s : Same Hf H) (h : Vw K H Hf v (stD ds)) : ∃ a S n, v = .ref a ∧ H a = some (SetK K.P K.w a S n) ∧ SetIs S n ds := by
  rcases h with h | ⟨a, o, rfl, e, q⟩
  · generalize hd : stD ds = d at h
    cases h with
    | st h r => simp only [stD, PyData.dict.injEq, List.cons.injEq, Prod.mk.injEq, PyData.list.injEq, and_true, true_and] at hd; subst hd; exact ⟨_, _, _, rfl, s _ _ h, r⟩
    | ro h r => simp [roD, stD] at hd
    | ins h g c r => simp [insD, stD] at hd
    | dk h r => unfold stD at hd; injection hd with hd; subst hd; exact (repKv_keyL r).elim
    | dn h r => unfold stD at hd; injection hd with hd; subst hd; exact (repNt_key r).elim
    | _ => cases hd
  · generalize hd : stD ds = d at q
    cases q with
    | lst r => cases hd
    | st r => simp only [stD, PyData.dict.injEq, List.cons.injEq, Prod.mk.injEq, PyData.list.injEq, and_true, true_and] at hd; subst hd; exact ⟨_, _, _, rfl, e, r⟩
    | dk r => unfold stD at hd; injection hd with hd; subst hd; exact (repKv_keyL r).elim
    | dn r => unfold stD at hd; injection hd with hd; subst hd; exact (repNt_key r).elim
    | ins g c r => simp [insD, stD] at hd
end
end Pl

/-! Pl2 -/
set_option Elab.async false
set_option linter.all false
set_option maxRecDepth 100000
set_option maxHeartbeats 4000000
/-! Slots, mirror functions, what a reading by a mirror function is. -/
namespace Pl
open PySem PySem.Spec PyProof.Rows L2

inductive SV where
  | dat (d : PyData)
  | own (l : Bool) (d : PyData)
abbrev MS := List (Option SV)
inductive Rv where
  | dat (d : PyData)
  | new (d : PyData)
  | slot (i : Nat)
inductive Out (α : Type) where
  | stuck
  | ok (a : α) (ms : MS)
  | exc (c : Str) (fs : List (Str × PyData)) (ms : MS)
inductive SO where
  | stuck
  | nx (ms : MS)
  | bk (ms : MS)
  | ct (ms : MS)
  | rt (r : Rv) (ms : MS)
  | exc (c : Str) (fs : List (Str × PyData)) (ms : MS)
def Out.bind {α β : Type} (x : Out α) (k : α → MS → Out β) : Out β :=
  match x with
  | .stuck => .stuck
  | .ok a ms => k a ms
  | .exc c fs ms => .exc c fs ms
@[simp] theorem Out.bind_ok {α β : Type} (a : α) (ms : MS) (k : α → MS → Out β) : (Out.ok a ms).bind k = k a ms := rfl
@[simp] theorem Out.bind_exc {α β : Type} (c : Str) (fs : List (Str × PyData)) (ms : MS) (k : α → MS → Out β) : (Out.exc c fs ms : Out α).bind k = .exc c fs ms := rfl
@[simp] theorem Out.bind_stuck {α β : Type} (k : α → MS → Out β) : (Out.stuck : Out α).bind k = .stuck := rfl

abbrev ME := MS → Out Rv
abbrev MA := MS → Out (List Rv)
abbrev MT := MS → Out Bool
abbrev MX := MS → SO

/-- what stays through a run: where lent objects lie, the objects of others -/
structure Fm where
  la : List (Nat × Addr)
  fr : Hp
structure SR (K : KW) (la : Fm) (ms : MS) (σ : St) (H Hf : Hp) : Prop where
  len : ms.length = σ.length
  dat : ∀ (i : Nat) (d : PyData), ms[i]? = some (some (.dat d)) → ∃ v : V, σ[i]? = some (some v) ∧ Rep K Hf v d
  own : ∀ (i : Nat) (l : Bool) (d : PyData), ms[i]? = some (some (.own l d)) → ∃ (a : Addr) (o : HO), σ[i]? = some (some (.ref a)) ∧ (l = true → (i, a) ∈ la.la) ∧ la.fr a = none ∧ Hf a = none ∧ H a = some o ∧ OObj K Hf a o d
  apart : ∀ (i j : Nat) (a : Addr) (l : Bool) (d : PyData) (l' : Bool) (d' : PyData), ms[i]? = some (some (.own l d)) → ms[j]? = some (some (.own l' d')) → σ[i]? = some (some (.ref a)) → σ[j]? = some (some (.ref a)) → i = j
  sub : Same Hf H
  fr : ∀ (a : Addr) (o : HO), la.fr a = some o → H a = some o ∧ Hf a = none

def RvR (K : KW) (la : Fm) (ms : MS) (σ : St) (H Hf : Hp) (v : V) : Rv → Prop
  | .dat d => Rep K Hf v d
  | .new d => ∃ a o, v = .ref a ∧ la.fr a = none ∧ Hf a = none ∧ H a = some o ∧ OObj K Hf a o d ∧ ∀ (i : Nat) (l : Bool) (d' : PyData), ms[i]? = some (some (.own l d')) → σ[i]? ≠ some (some (.ref a))
  | .slot i => σ[i]? = some (some v)

def view (ms : MS) : Rv → Option PyData
  | .dat d => some d
  | .new d => some d
  | .slot i => match ms[i]? with
    | some (some (.dat d)) => some d
    | some (some (.own _ d)) => some d
    | _ => none

theorem view_slot {ms : MS} {i : Nat} {d : PyData} (e : view ms (.slot i) = some d) : ms[i]? = some (some (.dat d)) ∨ ∃ l, ms[i]? = some (some (.own l d)) := by
  simp only [view] at e
  cases hq : ms[i]? with
  | none => rw [hq] at e; cases e
  | some x =>
    rw [hq] at e
    cases x with
    | none => cases e
    | some y =>
      cases y with
      | dat d' => cases e; exact .inl rfl
      | own l d' => cases e; exact .inr ⟨l, rfl⟩
structure Grow (H Hf H' Hf' : Hp) : Prop where
  hh : Same H H'
  ff : Same Hf Hf'
  sub : Same Hf' H'
  fresh : ∀ a, H a ≠ none → Hf a = none → Hf' a = none

/-- what a built-in operation gives -/
def RvN (K : KW) (H H' Hf' : Hp) (v : V) : Rv → Prop
  | .dat d => Rep K Hf' v d
  | .new d => ∃ a o, v = .ref a ∧ H a = none ∧ Hf' a = none ∧ H' a = some o ∧ OObj K Hf' a o d
  | .slot _ => False

section
variable {K : KW} {la : Fm} {ms : MS} {σ : St} {H Hf H' Hf' : Hp} {v : V} {r : Rv} {d : PyData}
theorem Grow.refl (s : Same Hf H) : Grow H Hf H Hf := ⟨.refl _, .refl _, s, fun _ _ h => h⟩
theorem same_upd {H : Hp} {p : Addr} {o : HO} (h : H p = none) : Same H (upd H p o) := fun b x e => by
  rw [upd_ne (ne_of_none e h)]
  exact e
theorem same_none {H H' : Hp} (s : Same H H') {a : Addr} (h : H' a = none) : H a = none := s.free h
theorem Grow.new {p : Addr} {o : HO} (s : Same Hf H) (h : H p = none) : Grow H Hf (upd H p o) Hf :=
  ⟨same_upd h, .refl _, s.trans (same_upd h), fun _ _ q => q⟩
theorem Grow.frozen {p : Addr} {o : HO} (s : Same Hf H) (h : H p = none) : Grow H Hf (upd H p o) (upd Hf p o) :=
  ⟨same_upd h, same_upd (same_none s h), fun b u e => by
    by_cases hb : b = p
    · subst hb; rw [upd_same] at e ⊢; exact e
    · rw [upd_ne hb] at e ⊢; exact s _ _ e, fun a ha q => by
    have hap : a ≠ p := fun e => ha (e ▸ h)
    rw [upd_ne hap]; exact q⟩
theorem Grow.trans {H2 Hf2 : Hp} (a : Grow H Hf H' Hf') (b : Grow H' Hf' H2 Hf2) : Grow H Hf H2 Hf2 :=
  ⟨a.hh.trans b.hh, a.ff.trans b.ff, b.sub, fun x hx q => b.fresh x (fun z => hx (same_none a.hh z)) (a.fresh x hx q)⟩

theorem SR.grow (S : SR K la ms σ H Hf) (g : Grow H Hf H' Hf') : SR K la ms σ H' Hf' where
  len := S.len
  dat := fun i d h => let ⟨v, e, r⟩ := S.dat i d h; ⟨v, e, r.mono g.ff⟩
  own := fun i l d h => let ⟨a, o, e, m, f, n, q, r⟩ := S.own i l d h; ⟨a, o, e, m, f, g.fresh a (by rw [q]; simp) n, g.hh _ _ q, r.mono g.ff⟩
  apart := S.apart
  sub := g.sub
  fr := fun a o h => let ⟨h1, h2⟩ := S.fr a o h; ⟨g.hh _ _ h1, g.fresh a (by rw [h1]; simp) h2⟩
theorem RvN.rv (S : SR K la ms σ H Hf) (h : RvN K H H' Hf' v r) : RvR K la ms σ H' Hf' v r := by
  cases r with
  | dat d => exact h
  | new d =>
    obtain ⟨a, o, e, n, nf, q, r⟩ := h
    refine ⟨a, o, e, ?_, nf, q, r, fun i l d' hi z => ?_⟩
    · cases hq : la.fr a with
      | none => rfl
      | some o' => rw [(S.fr a o' hq).1] at n; cases n
    obtain ⟨b, ob, e2, _, _, _, q2, _⟩ := S.own i l d' hi
    rw [e2] at z
    injection z with z
    injection z with z
    injection z with z
    rw [z, n] at q2
    cases q2
  | slot i => exact h.elim
theorem RvR.vw (S : SR K la ms σ H Hf) (h : RvR K la ms σ H Hf v r) (e : view ms r = some d) : Vw K H Hf v d := by
  cases r with
  | dat d' => cases e; exact .inl h
  | new d' =>
    cases e
    obtain ⟨a, o, rfl, _, _, q, r, _⟩ := h
    exact .inr ⟨a, o, rfl, q, r⟩
  | slot i =>
    have h' : σ[i]? = some (some v) := h
    rcases view_slot e with hi | ⟨l, hi⟩
    · obtain ⟨w, e1, r⟩ := S.dat i _ hi
      rw [h'] at e1; cases e1
      exact .inl r
    · obtain ⟨a, o, e1, _, _, _, q, r⟩ := S.own i _ _ hi
      rw [h'] at e1; cases e1
      exact .inr ⟨a, o, rfl, q, r⟩
end

/-- a new thing becomes data -/
def settle : Rv → Rv
  | .new d => .dat d
  | r => r
/-- a thing that is no new one: whatever the slots hold -/
def RvS (K : KW) (σ : St) (Hf : Hp) (v : V) : Rv → Prop
  | .dat d => Rep K Hf v d
  | .new _ => False
  | .slot i => σ[i]? = some (some v)
theorem RvS.rv {K : KW} {ms : MS} {σ : St} {H Hf : Hp} {v : V} {r : Rv} (h : RvS K σ Hf v r) : RvR K la ms σ H Hf v r := by
  cases r with
  | dat d => exact h
  | new d => exact h.elim
  | slot i => exact h
theorem RvS.later {K : KW} {σ : St} {Hf Hf2 : Hp} {v : V} {r : Rv} (s : Same Hf Hf2) (h : RvS K σ Hf v r) : RvS K σ Hf2 v r := by
  cases r with
  | dat d => exact Rep.mono s h
  | new d => exact h
  | slot i => exact h
def frz (ms : MS) : Rv → Option (PyData × MS)
  | .dat d => some (d, ms)
  | .new d => some (d, ms)
  | .slot i => match ms[i]? with
    | some (some (.dat d)) => some (d, ms)
    | some (some (.own false d)) => some (d, ms.set i (some (.dat d)))
    | _ => none
theorem frz_slot {ms ms' : MS} {i : Nat} {d : PyData} (e : frz ms (.slot i) = some (d, ms')) : (ms[i]? = some (some (.dat d)) ∧ ms' = ms) ∨ (ms[i]? = some (some (.own false d)) ∧ ms' = ms.set i (some (.dat d))) := by
  simp only [frz] at e
  cases hq : ms[i]? with
  | none => rw [hq] at e; cases e
  | some x =>
    rw [hq] at e
    cases x with
    | none => cases e
    | some y =>
      cases y with
      | dat d' => cases e; exact .inl ⟨rfl, rfl⟩
      | own l d' => cases l <;> cases e; exact .inr ⟨rfl, rfl⟩
section
variable {K : KW} {la : Fm} {ms ms' : MS} {σ : St} {H Hf H' Hf' : Hp} {v : V} {r : Rv} {d : PyData}
@[simp] theorem view_settle : view ms (settle r) = view ms r := by cases r <;> rfl
theorem same_frz {a : Addr} {o : HO} (s : Same Hf H) (h : Hf a = none) (q : H a = some o) : Same (upd Hf a o) H := fun b u e => by
  by_cases hb : b = a
  · subst hb; rw [upd_same] at e; cases e; exact q
  · rw [upd_ne hb] at e; exact s _ _ e
theorem fr_frz {a : Addr} {o : HO} (S : SR K la ms σ H Hf) (ff : la.fr a = none) : ∀ (b : Addr) (u : HO), la.fr b = some u → H b = some u ∧ upd Hf a o b = none := fun b u e => by
  obtain ⟨h1, h2⟩ := S.fr b u e
  have hb : b ≠ a := fun z => by subst z; rw [ff] at e; cases e
  exact ⟨h1, by rw [upd_ne hb]; exact h2⟩
theorem rv_settle (S : SR K la ms σ H Hf) (h : RvR K la ms σ H Hf v r) : ∃ Hf', Same Hf Hf' ∧ SR K la ms σ H Hf' ∧ RvS K σ Hf' v (settle r) := by
  cases r with
  | dat d => exact ⟨Hf, .refl _, S, h⟩
  | slot i => exact ⟨Hf, .refl _, S, h⟩
  | new d =>
    obtain ⟨a, o, rfl, ff, nf, q, ro, ap⟩ := h
    have sm : Same Hf (upd Hf a o) := same_upd nf
    refine ⟨upd Hf a o, sm, ⟨S.len, fun i d h => let ⟨v, e, r⟩ := S.dat i d h; ⟨v, e, r.mono sm⟩, fun i l d' hi => ?_, S.apart, same_frz S.sub nf q, fr_frz S ff⟩, (ro.mono sm).rep upd_same⟩
    obtain ⟨b, ob, e, m, f, n, q2, r2⟩ := S.own i l d' hi
    have hb : b ≠ a := fun z => ap i l d' hi (z ▸ e)
    exact ⟨b, ob, e, m, f, by rw [upd_ne hb]; exact n, q2, r2.mono sm⟩
theorem rv_frz (S : SR K la ms σ H Hf) (h : RvR K la ms σ H Hf v r) (e : frz ms r = some (d, ms')) : ∃ Hf', Same Hf Hf' ∧ SR K la ms' σ H Hf' ∧ Rep K Hf' v d := by
  cases r with
  | dat d' => cases e; exact ⟨Hf, .refl _, S, h⟩
  | new d' =>
    cases e
    obtain ⟨Hf', s, S', r⟩ := rv_settle S h
    exact ⟨Hf', s, S', r⟩
  | slot i =>
    have h' : σ[i]? = some (some v) := h
    rcases frz_slot e with ⟨hi, rfl⟩ | ⟨hi, rfl⟩
    · obtain ⟨w, e1, r⟩ := S.dat i _ hi
      rw [h'] at e1; cases e1
      exact ⟨Hf, .refl _, S, r⟩
    · obtain ⟨a, o, e1, _, ff, nf, q, ro⟩ := S.own i _ _ hi
      rw [h'] at e1; cases e1
      have sm : Same Hf (upd Hf a o) := same_upd nf
      have hlt : i < ms.length := (List.getElem?_eq_some_iff.mp hi).1
      refine ⟨upd Hf a o, sm, ⟨by rw [List.length_set]; exact S.len, fun j d hj => ?_, fun j l d2 hj => ?_, fun j k b l d1 l' d2 hj hk => ?_, same_frz S.sub nf q, fr_frz S ff⟩, (ro.mono sm).rep upd_same⟩
      · by_cases hij : i = j
        · subst hij
          rw [List.getElem?_set_self hlt] at hj
          injection hj with hj; injection hj with hj; injection hj with hj; subst hj
          exact ⟨_, h', (ro.mono sm).rep upd_same⟩
        · rw [List.getElem?_set_ne hij] at hj
          obtain ⟨w, e, r⟩ := S.dat j d hj
          exact ⟨w, e, r.mono sm⟩
      · by_cases hij : i = j
        · subst hij
          rw [List.getElem?_set_self hlt] at hj
          cases hj
        · rw [List.getElem?_set_ne hij] at hj
          obtain ⟨b, ob, e, m, f, n, q2, r2⟩ := S.own j l d2 hj
          have hb : b ≠ a := fun z => hij (S.apart i j a _ _ _ _ hi hj h' (z ▸ e))
          exact ⟨b, ob, e, m, f, by rw [upd_ne hb]; exact n, q2, r2.mono sm⟩
      · have nj : i ≠ j := fun z => by subst z; rw [List.getElem?_set_self hlt] at hj; cases hj
        have nk : i ≠ k := fun z => by subst z; rw [List.getElem?_set_self hlt] at hk; cases hk
        rw [List.getElem?_set_ne nj] at hj
        rw [List.getElem?_set_ne nk] at hk
        exact S.apart j k b _ _ _ _ hj hk
end

/-! ### readings by mirror functions -/
def RepFs (K : KW) (H : Hp) (vs : List (Str × V)) (fs : List (Str × PyData)) : Prop := Paired (fun p q => p.1 = q.1 ∧ Rep K H p.2 q.2) vs fs
/-- an exception: its class by name, its fields -/
def ExcR (K : KW) (mg : Str → Option Value) (Hf : Hp) (cls : Value) (d : Option Addr) (c : Str) (fs : List (Str × PyData)) : Prop :=
  ∃ C dd vs, mg c = some (.ref C) ∧ cls = .ref C ∧ d = some dd ∧ Hf dd = some (.xd vs) ∧ RepFs K Hf vs fs

def After (K : KW) (mg : Str → Option Value) (W : WX) (la : Fm) (σ : St) (Hf : Hp) {α : Type} (G : α → MS → Hp → Hp → Prop) : Out α → Prop
  | .stuck => False
  | .ok a ms' => ∀ H' Hf', Same Hf Hf' → SR K la ms' σ H' Hf' → G a ms' H' Hf'
  | .exc c fs ms' => ∀ cls d H' Hf', Same Hf Hf' → SR K la ms' σ H' Hf' → ExcR K mg Hf' cls d c fs → W cls d σ H'
section
variable {K : KW} {mg : Str → Option Value} {W : WX} {la : Fm} {σ : St} {Hf Hf1 : Hp} {α β : Type} {G G' : α → MS → Hp → Hp → Prop} {x : Out α}
theorem After.hf (s : Same Hf Hf1) (h : After K mg W la σ Hf G x) : After K mg W la σ Hf1 G x := by
  cases x with
  | stuck => exact h
  | ok a ms => exact fun H' Hf' s' => h H' Hf' (s.trans s')
  | exc c fs ms => exact fun cls d H' Hf' s' => h cls d H' Hf' (s.trans s')
theorem After.imp (h : After K mg W la σ Hf G x) (k : ∀ a ms' H' Hf', Same Hf Hf' → SR K la ms' σ H' Hf' → G a ms' H' Hf' → G' a ms' H' Hf') : After K mg W la σ Hf G' x := by
  cases x with
  | stuck => exact h
  | ok a ms => exact fun H' Hf' s' S => k _ _ _ _ s' S (h H' Hf' s' S)
  | exc c fs ms => exact h
theorem After.bind {F : β → MS → Hp → Hp → Prop} {k : α → MS → Out β} (h : After K mg W la σ Hf F (x.bind k)) :
    After K mg W la σ Hf (fun a ms1 H1 Hf1 => After K mg W la σ Hf1 F (k a ms1)) x := by
  cases x with
  | stuck => exact h
  | ok a ms => exact fun H' Hf' s' S => After.hf s' h
  | exc c fs ms => exact h
end

def tE (K : KW) (mg : Str → Option Value) (W : WX) (f : ME) : TE := fun σ H Q => ∃ la ms Hf, SR K la ms σ H Hf ∧ After K mg W la σ Hf (fun r ms' H' Hf' => ∀ v, RvR K la ms' σ H' Hf' v r → Q v H') (f ms)
def RvRs (K : KW) (σ : St) (Hf : Hp) : List V → List Rv → Prop := Paired (RvS K σ Hf)
theorem RvRs.later {K : KW} {σ : St} {Hf Hf2 : Hp} (s : Same Hf Hf2) : ∀ {vs : List V} {rs : List Rv}, RvRs K σ Hf vs rs → RvRs K σ Hf2 vs rs
  | _, _, .nil => .nil
  | _, _, .cons h t => .cons (h.later s) (RvRs.later s t)
def tAx (K : KW) (mg : Str → Option Value) (W : WX) (f : MA) : TA := fun σ H Q => ∃ la ms Hf, SR K la ms σ H Hf ∧ After K mg W la σ Hf (fun rs ms' H' Hf' => ∀ vs, RvRs K σ Hf' vs rs → Q vs H') (f ms)
def tTx (K : KW) (mg : Str → Option Value) (W : WX) (f : MT) : TT := fun σ H Q => ∃ la ms Hf, SR K la ms σ H Hf ∧ After K mg W la σ Hf (fun b ms' H' Hf' => Q b H') (f ms)

def AfterS (K : KW) (mg : Str → Option Value) (W : WX) (la : Fm) (Hf : Hp) (D : Ends) : SO → Prop
  | .stuck => False
  | .nx ms' => ∀ σ' H' Hf', Same Hf Hf' → SR K la ms' σ' H' Hf' → D.nx σ' H'
  | .bk ms' => ∀ σ' H' Hf', Same Hf Hf' → SR K la ms' σ' H' Hf' → D.bk σ' H'
  | .ct ms' => ∀ σ' H' Hf', Same Hf Hf' → SR K la ms' σ' H' Hf' → D.ct σ' H'
  | .rt r ms' => ∀ σ' H' Hf', Same Hf Hf' → SR K la ms' σ' H' Hf' → ∀ v, RvR K la ms' σ' H' Hf' v r → D.rt v H'
  | .exc c fs ms' => ∀ cls d σ' H' Hf', Same Hf Hf' → SR K la ms' σ' H' Hf' → ExcR K mg Hf' cls d c fs → W cls d σ' H'
def tSx (K : KW) (mg : Str → Option Value) (W : WX) (f : MX) : TS := fun D σ H => ∃ la ms Hf, SR K la ms σ H Hf ∧ AfterS K mg W la Hf D (f ms)

structure EX (X : Cx) (W : WX) (e : Expr) (f : ME) : Prop where
  pe : PE X e (tE (kw X) X.mg W f)
structure AX (X : Cx) (W : WX) (es : List Expr) (f : MA) : Prop where
  pa : PA X es (tAx (kw X) X.mg W f)
structure TX (X : Cx) (W : WX) (e : Expr) (f : MT) : Prop where
  pt : PT X e (tTx (kw X) X.mg W f)
structure WXx (X : Cx) (W : WX) (e : Expr) (f : MT) : Prop where
  pw : PW X e (tTx (kw X) X.mg W f)
structure SX (X : Cx) (W : WX) (s : Stmt) (f : MX) : Prop where
  ps : PS X s (tSx (kw X) X.mg W f)
structure SXs (X : Cx) (W : WX) (s : List Stmt) (f : MX) : Prop where
  ps : PSs X s (tSx (kw X) X.mg W f)

section
variable {X : Cx} {W : WX}
theorem PE.imp {e : Expr} {t t' : TE} (h : PE X e t) (k : ∀ σ H Q, t' σ H Q → t σ H Q) : PE X e t' := ⟨fun pins s σ H Q I q => h.run pins s σ H Q I (k _ _ _ q)⟩
theorem PA.imp {e : List Expr} {t t' : TA} (h : PA X e t) (k : ∀ σ H Q, t' σ H Q → t σ H Q) : PA X e t' := ⟨fun pos pins s σ H Q I q => h.run pos pins s σ H Q I (k _ _ _ q)⟩
theorem PT.imp {e : Expr} {t t' : TT} (h : PT X e t) (k : ∀ σ H Q, t' σ H Q → t σ H Q) : PT X e t' := ⟨fun pins s σ H Q I q => h.run pins s σ H Q I (k _ _ _ q)⟩
theorem PW.imp {e : Expr} {t t' : TT} (h : PW X e t) (k : ∀ σ H Q, t' σ H Q → t σ H Q) : PW X e t' := ⟨fun wh pins s σ H Q I q => h.run wh pins s σ H Q I (k _ _ _ q)⟩
theorem PS.imp {e : Stmt} {t t' : TS} (h : PS X e t) (k : ∀ D σ H, t' D σ H → t D σ H) : PS X e t' := ⟨fun pins s σ H D I q => h.run pins s σ H D I (k _ _ _ q)⟩
theorem PSs.imp {e : List Stmt} {t t' : TS} (h : PSs X e t) (k : ∀ D σ H, t' D σ H → t D σ H) : PSs X e t' := ⟨fun pins s σ H D I q => h.run pins s σ H D I (k _ _ _ q)⟩
end
end Pl

/-! Pl3 -/
set_option Elab.async false
set_option linter.all false
set_option maxRecDepth 100000
set_option maxHeartbeats 4000000
/-! Expressions: names, constants, displays, built-in operations on data. -/
namespace Pl
open PySem PySem.Spec PyProof.Rows L2
abbrev SZ : Nat := 16777216
theorem szLine : sizeLine = SZ := sizeLine_eq

section
variable {X : Cx} {W : WX} {e : Expr} {es : List Expr} {pos : Pos}

/-! ### names and constants -/
def mVar (i : Nat) : ME := fun ms => match ms[i]? with
  | some (some (.dat d)) => .ok (.dat d) ms
  | some (some (.own _ _)) => .ok (.slot i) ms
  | _ => .stuck
def mC (d : PyData) : ME := fun ms => .ok (.dat d) ms
theorem ex_var (i : Nat) {x : Str} (h : PE X (.Name x pos) (tVar i)) : EX X W (.Name x pos) (mVar i) := by
  refine ⟨PE.imp h fun σ H Q q => ?_⟩
  obtain ⟨la, ms, Hf, S, q⟩ := q
  unfold mVar at q
  cases hq : ms[i]? with
  | none => rw [hq] at q; exact q.elim
  | some y =>
    cases y with
    | none => rw [hq] at q; exact q.elim
    | some z =>
      cases z with
      | dat d =>
        rw [hq] at q
        obtain ⟨v, e, r⟩ := S.dat i d hq
        exact ⟨v, e, q H Hf (.refl _) S v r⟩
      | own l d =>
        rw [hq] at q
        obtain ⟨a, o, e, _⟩ := S.own i l d hq
        exact ⟨_, e, q H Hf (.refl _) S _ e⟩
theorem tE_c {v : V} {d : PyData} {σ : St} {H : Hp} {Q : VK} (r : ∀ H, Rep (kw X) H v d) (q : tE (kw X) X.mg W (mC d) σ H Q) : tC v σ H Q := by
  obtain ⟨la, ms, Hf, S, q⟩ := q
  exact q H Hf (.refl _) S v (r _)
theorem ex_int {i j} : EX X W (.Constant (.int i) j pos) (mC (.int i)) := ⟨PE.imp pe_int fun _ _ _ q => tE_c (fun _ => .int _) q⟩
theorem ex_bl {b j} : EX X W (.Constant (.bool b) j pos) (mC (.bool b)) := ⟨PE.imp pe_bl fun _ _ _ q => tE_c (fun _ => .bl _) q⟩
theorem ex_non {j} : EX X W (.Constant .none j pos) (mC .none) := ⟨PE.imp pe_non fun _ _ _ q => tE_c (fun _ => .non) q⟩
theorem ex_str {x j} : EX X W (.Constant (.str x) j pos) (mC (.str x)) := ⟨PE.imp pe_str fun _ _ _ q => tE_c (fun _ => .str _) q⟩
theorem ex_gint {x : Str} {i : Int} {t : Tok} (hg : Gl X x) (hm : X.mg x = some (.int i t)) (hd : (x == ("__debug__" : Str)) = false := by decide) : EX X W (.Name x pos) (mC (.int i)) :=
  ⟨PE.imp (pe_glob (v := .int i) hg hm ⟨t, rfl⟩ hd) fun _ _ _ q => tE_c (fun _ => .int _) q⟩
theorem ex_gstr {x y : Str} {t : Tok} (hg : Gl X x) (hm : X.mg x = some (.str y t)) (hd : (x == ("__debug__" : Str)) = false := by decide) : EX X W (.Name x pos) (mC (.str y)) :=
  ⟨PE.imp (pe_glob (v := .str y) hg hm ⟨t, rfl⟩ hd) fun _ _ _ q => tE_c (fun _ => .str _) q⟩

/-! ### argument lists -/
def mNil : MA := fun ms => .ok [] ms
def mOne (f : ME) : MA := fun ms => (f ms).bind fun r ms1 => .ok [settle r] ms1
def mCons (f : ME) (g : MA) : MA := fun ms => (f ms).bind fun r ms1 => (g ms1).bind fun rs ms2 => .ok (settle r :: rs) ms2
theorem ax_nil : AX X W [] mNil := ⟨PA.imp pa_nil fun σ H Q q => by
  obtain ⟨la, ms, Hf, S, q⟩ := q
  exact q H Hf (.refl _) S [] .nil⟩
theorem ax_one {f : ME} (h : EX X W e f) (hs : starEach [e] X.env = (false, eval e X.env) :: starEach [] X.env := by rfl) : AX X W [e] (mOne f) := ⟨PA.imp (pa_cons h.pe pa_nil hs) fun σ H Q q => by
  obtain ⟨la, ms, Hf, S, q⟩ := q
  refine ⟨la, ms, Hf, S, (After.bind q).imp fun r ms1 H1 Hf1 s1 S1 q1 v rv => ?_⟩
  obtain ⟨Hf1', s1', S1', rv'⟩ := rv_settle S1 rv
  exact q1 H1 Hf1' s1' S1' [v] (.cons rv' .nil)⟩
theorem ax_cons {f : ME} {g : MA} (h : EX X W e f) (hr : AX X W es g) (hs : starEach (e :: es) X.env = (false, eval e X.env) :: starEach es X.env := by rfl) : AX X W (e :: es) (mCons f g) := ⟨PA.imp (pa_cons h.pe hr.pa hs) fun σ H Q q => by
  obtain ⟨la, ms, Hf, S, q⟩ := q
  refine ⟨la, ms, Hf, S, (After.bind q).imp fun r ms1 H1 Hf1 s1 S1 q1 v rv => ?_⟩
  obtain ⟨Hf1', s1', S1', rv'⟩ := rv_settle S1 rv
  refine ⟨la, ms1, Hf1', S1', (After.bind (q1.hf s1')).imp fun rs ms2 H2 Hf2 s2 S2 q2 vs rvs => ?_⟩
  exact q2 H2 Hf2 (.refl _) S2 (v :: vs) (.cons (rv'.later s2) rvs)⟩

/-! ### a built-in operation on two things -/
def app2 (g : PyData → PyData → Option Rv) (ra rb : Rv) (ms : MS) : Out Rv := match view ms ra, view ms rb with
  | some d, some e => match g d e with
    | some r => .ok r ms
    | none => .stuck
  | _, _ => .stuck
def mOp2 (g : PyData → PyData → Option Rv) (fa fb : ME) : ME := fun ms => (fa ms).bind fun ra ms1 => (fb ms1).bind fun rb ms2 => app2 g ra rb ms2
/-- the operation's want on data -/
def rD (K : KW) (g : PyData → PyData → Option Rv) : R2 := fun x y H Q => ∃ Hf d e r, Same Hf H ∧ Vw K H Hf x d ∧ Vw K H Hf y e ∧ g d e = some r ∧ ∀ v H' Hf', Grow H Hf H' Hf' → RvN K H H' Hf' v r → Q v H'
theorem tE_op2 {g : PyData → PyData → Option Rv} {fa fb : ME} {σ : St} {H : Hp} {Q : VK} (q : tE (kw X) X.mg W (mOp2 g fa fb) σ H Q) : tOp (rD (kw X) g) (tE (kw X) X.mg W fa) (tE (kw X) X.mg W fb) σ H Q := by
  obtain ⟨la, ms, Hf, S, q⟩ := q
  refine ⟨la, ms, Hf, S, (After.bind q).imp fun ra ms1 H1 Hf1 s1 S1 q1 v rv => ?_⟩
  obtain ⟨Hf1', s1', S1', rv'⟩ := rv_settle S1 rv
  refine ⟨la, ms1, Hf1', S1', (After.bind (q1.hf s1')).imp fun rb ms2 H2 Hf2 s2 S2 q2 w rw' => ?_⟩
  unfold app2 at q2
  cases e1 : view ms2 ra with
  | none => rw [e1] at q2; exact q2.elim
  | some d =>
    cases e2 : view ms2 rb with
    | none => rw [e1, e2] at q2; exact q2.elim
    | some e =>
      rw [e1, e2] at q2
      cases e3 : g d e with
      | none => simp only [e3] at q2; exact q2.elim
      | some r =>
        simp only [e3] at q2
        have v1 := RvR.vw S2 (RvS.rv (rv'.later s2)) (d := d) (by rw [view_settle]; exact e1)
        have v2 := RvR.vw S2 rw' e2
        exact ⟨Hf2, d, e, r, S2.sub, v1, v2, e3, fun v' H' Hf' G rn => q2 H' Hf' G.ff (S2.grow G) v' (RvN.rv (S2) rn)⟩
variable {a b c : Expr}
theorem ex_bin {op : Operator} {g : PyData → PyData → Option Rv} {fa fb : ME} (ho : OpR X (binaryOp op) (rD (kw X) g)) (ha : EX X W a fa) (hb : EX X W b fb) : EX X W (.BinOp a op b pos) (mOp2 g fa fb) :=
  ⟨PE.imp (pe_op ho ha.pe hb.pe) fun _ _ _ q => tE_op2 q⟩
theorem ex_cmp {op : CmpOp} {g : PyData → PyData → Option Rv} {fa fb : ME} (ho : OpR X (compareOp op) (rD (kw X) g)) (ha : EX X W a fa) (hb : EX X W b fb) (hm : behindInMarks op b = false) : EX X W (.Compare a [op] [b] pos) (mOp2 g fa fb) :=
  ⟨PE.imp (pe_cmpR ho ha.pe hb.pe hm) fun _ _ _ q => tE_op2 q⟩
theorem ex_ix {g : PyData → PyData → Option Rv} {fa fb : ME} (ho : IxR X (rD (kw X) g)) (ha : EX X W a fa) (hb : EX X W b fb) (hs : PlainIx b) : EX X W (.Subscript a b pos) (mOp2 g fa fb) :=
  ⟨PE.imp (pe_ix ho ha.pe hb.pe hs) fun _ _ _ q => tE_op2 q⟩

/-! ### a built-in function on things -/
def views (ms : MS) : List Rv → Option (List PyData)
  | [] => some []
  | r :: rs => match view ms r, views ms rs with
    | some d, some ds => some (d :: ds)
    | _, _ => none
def appN (g : List PyData → Option Rv) (rs : List Rv) (ms : MS) : Out Rv := match views ms rs with
  | some ds => match g ds with
    | some r => .ok r ms
    | none => .stuck
  | none => .stuck
def mFun (g : List PyData → Option Rv) (fa : MA) : ME := fun ms => (fa ms).bind fun rs ms1 => appN g rs ms1
def VwAll (K : KW) (H Hf : Hp) (vs : List V) (ds : List PyData) : Prop := Paired (Vw K H Hf) vs ds
def rDs (K : KW) (g : List PyData → Option Rv) : List V → Hp → VK → Prop := fun xs H Q => ∃ Hf ds r, Same Hf H ∧ VwAll K H Hf xs ds ∧ g ds = some r ∧ ∀ v H' Hf', Grow H Hf H' Hf' → RvN K H H' Hf' v r → Q v H'
theorem views_all {K : KW} {la : Fm} {ms : MS} {σ : St} {H Hf : Hp} (S : SR K la ms σ H Hf) : ∀ {vs : List V} {rs : List Rv} {ds : List PyData}, RvRs K σ Hf vs rs → views ms rs = some ds → VwAll K H Hf vs ds
  | _, [], ds, .nil, e => by cases e; exact .nil
  | _, r :: rs, ds, .cons h t, e => by
    simp only [views] at e
    cases e1 : view ms r with
    | none => rw [e1] at e; cases e
    | some d =>
      cases e2 : views ms rs with
      | none => rw [e1, e2] at e; cases e
      | some ds' =>
        rw [e1, e2] at e
        cases e
        exact .cons (RvR.vw S h.rv e1) (views_all S t e2)
theorem tE_fun {g : List PyData → Option Rv} {fa : MA} {σ : St} {H : Hp} {Q : VK} (q : tE (kw X) X.mg W (mFun g fa) σ H Q) : tCB (rDs (kw X) g) (tAx (kw X) X.mg W fa) σ H Q := by
  obtain ⟨la, ms, Hf, S, q⟩ := q
  refine ⟨la, ms, Hf, S, (After.bind q).imp fun rs ms1 H1 Hf1 s1 S1 q1 vs rv => ?_⟩
  unfold appN at q1
  cases e1 : views ms1 rs with
  | none => rw [e1] at q1; exact q1.elim
  | some ds =>
    rw [e1] at q1
    cases e3 : g ds with
    | none => simp only [e3] at q1; exact q1.elim
    | some r =>
      simp only [e3] at q1
      exact ⟨Hf1, ds, r, S1.sub, views_all S1 rv e1, e3, fun v' H' Hf' G rn => q1 H' Hf' G.ff (S1.grow G) v' (RvN.rv S1 rn)⟩
variable {x id T : String} {p : Pos}
theorem ex_callB {x : Str} {g : List PyData → Option Rv} {fa : MA} (hc : CallR X (.builtin id) (rDs (kw X) g)) (hg : Gl X x) (hm : X.mg x = none) (hv : bootBuiltins x = some (.builtin id)) (ha : AX X W (e :: es) fa) (hn : x ≠ "__name__" := by decide) (hdb : (x == ("__debug__" : Str)) = false := by decide)
    (he : starEach (e :: es) X.env = (false, eval e X.env) :: starEach es X.env := by rfl) (hpl : (backTo pos (starEach es X.env)).any (·.1) = false := by rfl) : EX X W (.Call (.Name x p) (e :: es) [] pos) (mFun g fa) :=
  ⟨PE.imp (pe_callB hc hg hm hv ha.pa hn hdb he hpl) fun _ _ _ q => tE_fun q⟩
theorem ex_callTy {x : Str} {g : List PyData → Option Rv} {fa : MA} (hc : CallR X (.type T) (rDs (kw X) g)) (hg : Gl X x) (hm : X.mg x = none) (hv : bootBuiltins x = some (.type T)) (ha : AX X W (e :: es) fa) (hn : x ≠ "__name__" := by decide) (hdb : (x == ("__debug__" : Str)) = false := by decide)
    (he : starEach (e :: es) X.env = (false, eval e X.env) :: starEach es X.env := by rfl) (hpl : (backTo pos (starEach es X.env)).any (·.1) = false := by rfl) : EX X W (.Call (.Name x p) (e :: es) [] pos) (mFun g fa) :=
  ⟨PE.imp (pe_callTy hc hg hm hv ha.pa hn hdb he hpl) fun _ _ _ q => tE_fun q⟩

/-! ### displays -/
/-- things become data, one by one -/
def frzs (ms : MS) : List Rv → Option (List PyData × MS)
  | [] => some ([], ms)
  | r :: rs => match frz ms r with
    | some (d, ms1) => match frzs ms1 rs with
      | some (ds, ms2) => some (d :: ds, ms2)
      | none => none
    | none => none
theorem rvs_frz {K : KW} {la : Fm} {σ : St} {H : Hp} : ∀ {rs : List Rv} {vs : List V} {ds : List PyData} {ms ms' : MS} {Hf : Hp}, SR K la ms σ H Hf → RvRs K σ Hf vs rs → frzs ms rs = some (ds, ms') → ∃ Hf', Same Hf Hf' ∧ SR K la ms' σ H Hf' ∧ RepAll K Hf' vs ds
  | [], _, ds, ms, ms', Hf, S, .nil, e => by cases e; exact ⟨Hf, .refl _, S, .nil⟩
  | r :: rs, _, ds, ms, ms', Hf, S, .cons h t, e => by
    simp only [frzs] at e
    cases e1 : frz ms r with
    | none => rw [e1] at e; cases e
    | some p =>
      obtain ⟨d, ms1⟩ := p
      rw [e1] at e
      simp only at e
      cases e2 : frzs ms1 rs with
      | none => rw [e2] at e; cases e
      | some p2 =>
        obtain ⟨ds2, ms2⟩ := p2
        rw [e2] at e
        cases e
        obtain ⟨Hf1, s1, S1, r1⟩ := rv_frz S (RvS.rv h) e1
        obtain ⟨Hf2, s2, S2, r2⟩ := rvs_frz S1 (RvRs.later s1 t) e2
        exact ⟨Hf2, s1.trans s2, S2, .cons (r1.mono s2) r2⟩
def mkTup (rs : List Rv) (ms : MS) : Out Rv := match frzs ms rs with
  | some (ds, ms') => if ds.length ≤ SZ then .ok (.dat (.tuple ds)) ms' else .stuck
  | none => .stuck
def mkLst (rs : List Rv) (ms : MS) : Out Rv := match frzs ms rs with
  | some (ds, ms') => if ds.length ≤ SZ then .ok (.new (.list ds)) ms' else .stuck
  | none => .stuck
def mTup (fa : MA) : ME := fun ms => (fa ms).bind mkTup
def mLst (fa : MA) : ME := fun ms => (fa ms).bind mkLst
theorem SR.frozen {K : KW} {la : Fm} {ms : MS} {σ : St} {H Hf : Hp} {p : Addr} {o : HO} (S : SR K la ms σ H Hf) (h : H p = none) : SR K la ms σ (upd H p o) (upd Hf p o) := S.grow (Grow.frozen S.sub h)
theorem SR.laid {K : KW} {la : Fm} {ms : MS} {σ : St} {H Hf : Hp} {p : Addr} {o : HO} (S : SR K la ms σ H Hf) (h : H p = none) : SR K la ms σ (upd H p o) Hf := S.grow (Grow.new S.sub h)
theorem ex_tup {k : Nat} {fa : MA} (h : AX X W es fa) : EX X W (.Tuple es k pos) (mTup fa) := ⟨PE.imp (pe_tupF h.pa) fun σ H Q q => by
  obtain ⟨la, ms, Hf, S, q⟩ := q
  refine ⟨la, ms, Hf, S, (After.bind q).imp fun rs ms1 H1 Hf1 s1 S1 q1 vs rv => ?_⟩
  unfold mkTup at q1
  cases e1 : frzs ms1 rs with
  | none => rw [e1] at q1; exact q1.elim
  | some pr =>
    obtain ⟨ds, ms'⟩ := pr
    rw [e1] at q1
    simp only at q1
    obtain ⟨Hf', s', S', r'⟩ := rvs_frz S1 rv e1
    by_cases hl : ds.length ≤ SZ
    · rw [if_pos hl] at q1
      refine ⟨by rw [r'.length, szLine]; exact hl, fun p o hp ho => ?_⟩
      exact q1 _ _ (s'.trans (same_upd (same_none S'.sub hp))) (S'.frozen (p := p) (o := .frz o (.tup vs)) hp) (.ref p) (.tup (TupAt.of ho) (r'.mono (same_upd (same_none S'.sub hp))))
    · rw [if_neg hl] at q1; exact q1.elim⟩
theorem new_rv {K : KW} {la : Fm} {ms : MS} {σ : St} {H Hf : Hp} {p : Addr} {o : HO} {d : PyData} (S : SR K la ms σ H Hf) (h : H p = none) (r : OObj K Hf p o d) : RvR K la ms σ (upd H p o) Hf (.ref p) (.new d) :=
  RvN.rv (H := H) S ⟨p, o, rfl, h, same_none S.sub h, upd_same, r⟩
theorem ex_lst {fa : MA} (h : AX X W es fa) : EX X W (.List es pos) (mLst fa) := ⟨PE.imp (pe_lst h.pa) fun σ H Q q => by
  obtain ⟨la, ms, Hf, S, q⟩ := q
  refine ⟨la, ms, Hf, S, (After.bind q).imp fun rs ms1 H1 Hf1 s1 S1 q1 vs rv => ?_⟩
  unfold mkLst at q1
  cases e1 : frzs ms1 rs with
  | none => rw [e1] at q1; exact q1.elim
  | some pr =>
    obtain ⟨ds, ms'⟩ := pr
    rw [e1] at q1
    simp only at q1
    obtain ⟨Hf', s', S', r'⟩ := rvs_frz S1 rv e1
    by_cases hl : ds.length ≤ SZ
    · rw [if_pos hl] at q1
      refine ⟨by rw [r'.length, szLine]; exact hl, fun p hp => ?_⟩
      exact q1 _ _ s' (S'.laid (p := p) (o := .lst vs) hp) (.ref p) (new_rv S' hp (.lst r'))
    · rw [if_neg hl] at q1; exact q1.elim⟩
end
end Pl

/-! Pl4 -/
set_option Elab.async false
set_option linter.all false
set_option maxRecDepth 100000
set_option maxHeartbeats 4000000
/-! Tests, truth, and/or/not, statements, while. -/
namespace Pl
open PySem PySem.Spec PyProof.Rows L2

section
variable {X : Cx} {W : WX} {e a b c : Expr} {es : List Expr} {pos : Pos}

def asB (r : Rv) (ms : MS) : Out Bool := match r with
  | .dat (.bool b) => .ok b ms
  | _ => .stuck
def mB (f : ME) : MT := fun ms => (f ms).bind asB
theorem tE_of_mB {f : ME} {σ : St} {H : Hp} {Q : Bool → Hp → Prop} (q : tTx (kw X) X.mg W (mB f) σ H Q) : tE (kw X) X.mg W f σ H (fun x H' => ∃ k, x = .bl k ∧ Q k H') := by
  obtain ⟨la, ms, Hf, S, q⟩ := q
  refine ⟨la, ms, Hf, S, (After.bind q).imp fun r ms1 H1 Hf1 s1 S1 q1 v rv => ?_⟩
  cases r with
  | dat d =>
    cases d with
    | bool b =>
      have rv' : Rep (kw X) Hf1 v (.bool b) := rv
      cases rv'
      exact ⟨b, rfl, q1 H1 Hf1 (.refl _) S1⟩
    | _ => exact False.elim q1
  | _ => exact False.elim q1
theorem tx_cmp {op : CmpOp} {g : PyData → PyData → Option Rv} {fa fb : ME} (ho : OpR X (compareOp op) (rD (kw X) g)) (ha : EX X W a fa) (hb : EX X W b fb) (hm : behindInMarks op b = false) : TX X W (.Compare a [op] [b] pos) (mB (mOp2 g fa fb)) :=
  ⟨PT.imp (pt_cmpR ho ha.pe hb.pe hm) fun σ H Q q => tE_op2 (tE_of_mB q)⟩
/-- a op b op' c -/
def mChain (g g' : PyData → PyData → Option Rv) (fa fb fc : ME) : ME := fun ms => (fa ms).bind fun ra ms1 => (fb ms1).bind fun rb ms2 => (app2 g ra rb ms2).bind fun z ms3 => (asB z ms3).bind fun k ms4 =>
  if k = true then (fc ms4).bind fun rc ms5 => app2 g' rb rc ms5 else .ok (.dat (.bool false)) ms4
theorem app2_some {g : PyData → PyData → Option Rv} {K : KW} {mg : Str → Option Value} {la : Fm} {σ : St} {Hf : Hp} {G : Rv → MS → Hp → Hp → Prop} {ra rb : Rv} {ms : MS} (q : After K mg W la σ Hf G (app2 g ra rb ms)) :
    ∃ d e r, view ms ra = some d ∧ view ms rb = some e ∧ g d e = some r ∧ After K mg W la σ Hf G (.ok r ms) := by
  unfold app2 at q
  cases e1 : view ms ra with
  | none => rw [e1] at q; exact q.elim
  | some d =>
    cases e2 : view ms rb with
    | none => rw [e1, e2] at q; exact q.elim
    | some e =>
      rw [e1, e2] at q
      cases e3 : g d e with
      | none => simp only [e3] at q; exact q.elim
      | some r =>
        simp only [e3] at q
        exact ⟨d, e, r, rfl, rfl, e3, q⟩
theorem app2_bind {g : PyData → PyData → Option Rv} {K : KW} {mg : Str → Option Value} {la : Fm} {σ : St} {Hf : Hp} {α : Type} {G : α → MS → Hp → Hp → Prop} {ra rb : Rv} {ms : MS} {k : Rv → MS → Out α} (q : After K mg W la σ Hf G ((app2 g ra rb ms).bind k)) :
    ∃ d e r, view ms ra = some d ∧ view ms rb = some e ∧ g d e = some r ∧ After K mg W la σ Hf G (k r ms) := by
  unfold app2 at q
  cases e1 : view ms ra with
  | none => rw [e1] at q; exact q.elim
  | some d =>
    cases e2 : view ms rb with
    | none => rw [e1, e2] at q; exact q.elim
    | some e =>
      rw [e1, e2] at q
      cases e3 : g d e with
      | none => simp only [e3] at q; exact q.elim
      | some r =>
        simp only [e3] at q
        exact ⟨d, e, r, rfl, rfl, e3, q⟩
theorem tE_chain {g g' : PyData → PyData → Option Rv} {fa fb fc : ME} {σ : St} {H : Hp} {Q : VK} (q : tE (kw X) X.mg W (mChain g g' fa fb fc) σ H Q) : tChain (rD (kw X) g) (rD (kw X) g') (tE (kw X) X.mg W fa) (tE (kw X) X.mg W fb) (tE (kw X) X.mg W fc) σ H Q := by
  obtain ⟨la, ms, Hf, S, q⟩ := q
  refine ⟨la, ms, Hf, S, (After.bind q).imp fun ra ms1 H1 Hf1 s1 S1 q1 v rv => ?_⟩
  obtain ⟨Hf1', s1', S1', rv'⟩ := rv_settle S1 rv
  refine ⟨la, ms1, Hf1', S1', (After.bind (q1.hf s1')).imp fun rb ms2 H2 Hf2 s2 S2 q2 w rw' => ?_⟩
  obtain ⟨Hf2', s2', S2', rw2⟩ := rv_settle S2 rw'
  obtain ⟨d, e, r, e1, e2, e3, q3⟩ := app2_bind (q2.hf s2')
  have v1 := RvR.vw S2' (RvS.rv (rv'.later (s2.trans s2'))) (d := d) (by rw [view_settle]; exact e1)
  have v2 := RvR.vw S2' (RvS.rv rw2) (d := e) (by rw [view_settle]; exact e2)
  refine ⟨Hf2', d, e, r, S2'.sub, v1, v2, e3, fun z H3 Hf3 G rn => ?_⟩
  have S3 := S2'.grow G
  have q4 := q3.hf G.ff
  cases r with
  | dat d =>
    cases d with
    | bool k =>
      have rn' : Rep (kw X) Hf3 z (.bool k) := rn
      cases rn'
      refine ⟨k, rfl, ?_⟩
      cases k with
      | false =>
        rw [if_neg Bool.false_ne_true]
        exact q4 H3 Hf3 (.refl _) S3 _ (.bl false)
      | true =>
        rw [if_pos rfl]
        simp only [asB, Out.bind_ok, ↓reduceIte] at q4
        refine ⟨la, ms2, Hf3, S3, (After.bind q4).imp fun rc ms5 H5 Hf5 s5 S5 q5 u ru => ?_⟩
        obtain ⟨d', e', r', e1', e2', e3', q6⟩ := app2_some q5
        have v3 := RvR.vw S5 (RvS.rv (rw2.later (G.ff.trans s5))) (d := d') (by rw [view_settle]; exact e1')
        have v4 := RvR.vw S5 ru e2'
        exact ⟨Hf5, d', e', r', S5.sub, v3, v4, e3', fun v' H' Hf' G' rn' => q6 H' Hf' G'.ff (S5.grow G') v' (RvN.rv S5 rn')⟩
    | _ => exact False.elim q4
  | _ => exact False.elim q4
theorem ex_chain {op op' : CmpOp} {g g' : PyData → PyData → Option Rv} {fa fb fc : ME} (ho : OpR X (compareOp op) (rD (kw X) g)) (ho' : OpR X (compareOp op') (rD (kw X) g')) (ha : EX X W a fa) (hb : EX X W b fb) (hc : EX X W c fc)
    (hm : lastMarks [op, op'] [b, c] = false := by with_unfolding_all rfl) : EX X W (.Compare a [op, op'] [b, c] pos) (mChain g g' fa fb fc) :=
  ⟨PE.imp (pe_chain ho ho' ha.pe hb.pe hc.pe hm) fun _ _ _ q => tE_chain q⟩
theorem tx_chain {op op' : CmpOp} {g g' : PyData → PyData → Option Rv} {fa fb fc : ME} (ho : OpR X (compareOp op) (rD (kw X) g)) (ho' : OpR X (compareOp op') (rD (kw X) g')) (ha : EX X W a fa) (hb : EX X W b fb) (hc : EX X W c fc)
    (hm : lastMarks [op, op'] [b, c] = false := by with_unfolding_all rfl) : TX X W (.Compare a [op, op'] [b, c] pos) (mB (mChain g g' fa fb fc)) :=
  ⟨PT.imp (pt_chain ho ho' ha.pe hb.pe hc.pe hm) fun _ _ _ q => tE_chain (tE_of_mB q)⟩
/-- a value known to be a truth, as a test -/
theorem tx_val {f : ME} (h : EX X W e f) (he : ∀ whole, isTrue e X.env whole = (do let v ← whole; standAt e.pos; holding [v] (truthy v)) := by intro _; rfl) : TX X W e (mB f) :=
  ⟨PT.imp (pt_val h.pe he) fun _ _ _ q => tE_of_mB q⟩
/-- truth of data -/
def pTru : PyData → Option Bool
  | .none => some false
  | .bool b => some b
  | .int i => some (i != 0)
  | .str x => if x.length ≤ SZ then some ((x.length : Int) != 0) else none
  | .list xs => some (!xs.isEmpty)
  | .tuple xs => some (!xs.isEmpty)
  | .dict _ => none
def asT (r : Rv) (ms : MS) : Out Bool := match view ms r with
  | some d => match pTru d with
    | some b => .ok b ms
    | none => .stuck
  | none => .stuck
def mTru (f : ME) : MT := fun ms => (f ms).bind asT
theorem isEmpty_len {α β : Type} {xs : List α} {ys : List β} (h : xs.length = ys.length) : xs.isEmpty = ys.isEmpty := by
  cases xs <;> cases ys <;> first | rfl | (simp at h)
theorem tru_vw {K : KW} {H Hf : Hp} {v : V} {d : PyData} {k : Bool} (s : Same Hf H) (h : Vw K H Hf v d) (e : pTru d = some k) : TruV K.K v H k := by
  cases d with
  | none => cases h.non; cases e; rfl
  | bool b => cases h.bl; cases e; rfl
  | int i => cases h.int; cases e; rfl
  | str x =>
    cases h.str
    simp only [pTru] at e
    by_cases hl : x.length ≤ SZ
    · rw [if_pos hl] at e; cases e; exact ⟨by rw [szLine]; exact hl, rfl⟩
    · rw [if_neg hl] at e; cases e
  | list xs =>
    obtain ⟨a, ys, rfl, h1, r⟩ := h.lst s
    cases e
    exact .inl ⟨ys, SqL.of h1, by rw [isEmpty_len r.length]⟩
  | tuple xs =>
    obtain ⟨a, ys, rfl, h1, r⟩ := h.tup s
    cases e
    exact .inr (.inl ⟨ys, h1.sq, by rw [isEmpty_len r.length]⟩)
  | dict xs => cases e
theorem tx_tru {f : ME} (h : EX X W e f) (he : ∀ whole, isTrue e X.env whole = (do let v ← whole; standAt e.pos; holding [v] (truthy v)) := by intro _; rfl) : TX X W e (mTru f) :=
  ⟨PT.imp (pt_truth h.pe he) fun σ H Q q => by
    obtain ⟨la, ms, Hf, S, q⟩ := q
    refine ⟨la, ms, Hf, S, (After.bind q).imp fun r ms1 H1 Hf1 s1 S1 q1 v rv => ?_⟩
    unfold asT at q1
    cases e1 : view ms1 r with
    | none => rw [e1] at q1; exact q1.elim
    | some d =>
      rw [e1] at q1
      cases e2 : pTru d with
      | none => simp only [e2] at q1; exact q1.elim
      | some k =>
        simp only [e2] at q1
        exact ⟨k, tru_vw S1.sub (RvR.vw S1 rv e1) e2, q1 H1 Hf1 (.refl _) S1⟩⟩

/-! ### and, or, not -/
def mAnd (f g : MT) : MT := fun ms => (f ms).bind fun b ms1 => if b = true then g ms1 else .ok false ms1
def mOr (f g : MT) : MT := fun ms => (f ms).bind fun b ms1 => if b = true then .ok true ms1 else g ms1
def mNot (f : MT) : MT := fun ms => (f ms).bind fun b ms1 => .ok (!b) ms1
theorem wx_and1 {f : MT} (h : TX X W a f) : WXx X W (.BoolOp .And [a] pos) f := ⟨pw_and1 h.pt⟩
theorem wx_or1 {f : MT} (h : TX X W a f) : WXx X W (.BoolOp .Or [a] pos) f := ⟨pw_or1 h.pt⟩
variable {rest : List Expr}
theorem wx_and {f g : MT} (h : TX X W a f) (hr : WXx X W (.BoolOp .And (b :: rest) pos) g) : WXx X W (.BoolOp .And (a :: b :: rest) pos) (mAnd f g) :=
  ⟨PW.imp (pw_and h.pt hr.pw) fun σ H Q q => by
    obtain ⟨la, ms, Hf, S, q⟩ := q
    refine ⟨la, ms, Hf, S, (After.bind q).imp fun k ms1 H1 Hf1 s1 S1 q1 => ?_⟩
    cases k with
    | true => rw [if_pos rfl] at q1 ⊢; exact ⟨la, ms1, Hf1, S1, q1⟩
    | false => rw [if_neg Bool.false_ne_true] at q1 ⊢; exact q1 H1 Hf1 (.refl _) S1⟩
theorem wx_or {f g : MT} (h : TX X W a f) (hr : WXx X W (.BoolOp .Or (b :: rest) pos) g) : WXx X W (.BoolOp .Or (a :: b :: rest) pos) (mOr f g) :=
  ⟨PW.imp (pw_or h.pt hr.pw) fun σ H Q q => by
    obtain ⟨la, ms, Hf, S, q⟩ := q
    refine ⟨la, ms, Hf, S, (After.bind q).imp fun k ms1 H1 Hf1 s1 S1 q1 => ?_⟩
    cases k with
    | true => rw [if_pos rfl] at q1 ⊢; exact q1 H1 Hf1 (.refl _) S1
    | false => rw [if_neg Bool.false_ne_true] at q1 ⊢; exact ⟨la, ms1, Hf1, S1, q1⟩⟩
theorem tx_wx {f : MT} (h : WXx X W e f) : TX X W e f := ⟨h.pw.pt⟩
theorem tx_not {f : MT} (h : TX X W a f) : TX X W (.UnaryOp .Not a pos) (mNot f) :=
  ⟨PT.imp (pt_not h.pt) fun σ H Q q => by
    obtain ⟨la, ms, Hf, S, q⟩ := q
    refine ⟨la, ms, Hf, S, (After.bind q).imp fun k ms1 H1 Hf1 s1 S1 q1 => ?_⟩
    exact q1 H1 Hf1 (.refl _) S1⟩
def vB (b : Bool) : Rv := .dat (.bool b)
def mAndV (f g : ME) : ME := fun ms => (f ms).bind fun r ms1 => (asB r ms1).bind fun b ms2 => if b = true then g ms2 else .ok (vB false) ms2
def mOrV (f g : ME) : ME := fun ms => (f ms).bind fun r ms1 => (asB r ms1).bind fun b ms2 => if b = true then .ok (vB true) ms2 else g ms2
def mNotV (f : ME) : ME := fun ms => (f ms).bind fun r ms1 => (asB r ms1).bind fun b ms2 => .ok (vB (!b)) ms2
theorem asB_bind {K : KW} {mg : Str → Option Value} {la : Fm} {σ : St} {H Hf : Hp} {α : Type} {G : α → MS → Hp → Hp → Prop} {r : Rv} {v : V} {ms : MS} {k : Bool → MS → Out α} (rv : RvR K la ms σ H Hf v r) (q : After K mg W la σ Hf G ((asB r ms).bind k)) :
    ∃ b, v = .bl b ∧ After K mg W la σ Hf G (k b ms) := by
  cases r with
  | dat d =>
    cases d with
    | bool b =>
      have rv' : Rep K Hf v (.bool b) := rv
      cases rv'
      exact ⟨b, rfl, q⟩
    | _ => exact False.elim q
  | _ => exact False.elim q
theorem ex_one {op} {f : ME} (h : EX X W a f) : EX X W (.BoolOp op [a] pos) f := ⟨pe_one h.pe⟩
theorem ex_and {f g : ME} (ha : EX X W a f) (hb : EX X W (.BoolOp .And (b :: rest) pos) g) : EX X W (.BoolOp .And (a :: b :: rest) pos) (mAndV f g) :=
  ⟨PE.imp (pe_and ha.pe hb.pe) fun σ H Q q => by
    obtain ⟨la, ms, Hf, S, q⟩ := q
    refine ⟨la, ms, Hf, S, (After.bind q).imp fun r ms1 H1 Hf1 s1 S1 q1 v rv => ?_⟩
    obtain ⟨k, rfl, q2⟩ := asB_bind rv q1
    refine ⟨k, rfl, ?_⟩
    cases k with
    | true => rw [if_pos rfl] at q2 ⊢; exact ⟨la, ms1, Hf1, S1, q2⟩
    | false => rw [if_neg Bool.false_ne_true] at q2 ⊢; exact q2 H1 Hf1 (.refl _) S1 _ (.bl false)⟩
theorem ex_or {f g : ME} (ha : EX X W a f) (hb : EX X W (.BoolOp .Or (b :: rest) pos) g) : EX X W (.BoolOp .Or (a :: b :: rest) pos) (mOrV f g) :=
  ⟨PE.imp (pe_or ha.pe hb.pe) fun σ H Q q => by
    obtain ⟨la, ms, Hf, S, q⟩ := q
    refine ⟨la, ms, Hf, S, (After.bind q).imp fun r ms1 H1 Hf1 s1 S1 q1 v rv => ?_⟩
    obtain ⟨k, rfl, q2⟩ := asB_bind rv q1
    refine ⟨k, rfl, ?_⟩
    cases k with
    | true => rw [if_pos rfl] at q2 ⊢; exact q2 H1 Hf1 (.refl _) S1 _ (.bl true)
    | false => rw [if_neg Bool.false_ne_true] at q2 ⊢; exact ⟨la, ms1, Hf1, S1, q2⟩⟩
theorem ex_not {f : ME} (ha : EX X W a f) : EX X W (.UnaryOp .Not a pos) (mNotV f) :=
  ⟨PE.imp (pe_not ha.pe) fun σ H Q q => by
    obtain ⟨la, ms, Hf, S, q⟩ := q
    refine ⟨la, ms, Hf, S, (After.bind q).imp fun r ms1 H1 Hf1 s1 S1 q1 v rv => ?_⟩
    obtain ⟨k, rfl, q2⟩ := asB_bind rv q1
    exact ⟨k, rfl, q2 H1 Hf1 (.refl _) S1 _ (.bl _)⟩⟩
def mIte (t : MT) (f g : ME) : ME := fun ms => (t ms).bind fun b ms1 => if b = true then f ms1 else g ms1
theorem ex_ite {t : MT} {f g : ME} (hc : TX X W c t) (ha : EX X W a f) (hb : EX X W b g) : EX X W (.IfExp c a b pos) (mIte t f g) :=
  ⟨PE.imp (pe_ifExp hc.pt ha.pe hb.pe) fun σ H Q q => by
    obtain ⟨la, ms, Hf, S, q⟩ := q
    refine ⟨la, ms, Hf, S, (After.bind q).imp fun k ms1 H1 Hf1 s1 S1 q1 => ?_⟩
    cases k with
    | true => rw [if_pos rfl] at q1 ⊢; exact ⟨la, ms1, Hf1, S1, q1⟩
    | false => rw [if_neg Bool.false_ne_true] at q1 ⊢; exact ⟨la, ms1, Hf1, S1, q1⟩⟩
end

/-! ### statements -/
theorem AfterS.hf {K : KW} {mg : Str → Option Value} {W : WX} {la : Fm} {Hf Hf1 : Hp} {D : Ends} {x : SO} (s : Same Hf Hf1) (h : AfterS K mg W la Hf D x) : AfterS K mg W la Hf1 D x := by
  cases x with
  | stuck => exact h
  | nx ms => exact fun σ' H' Hf' s' => h σ' H' Hf' (s.trans s')
  | bk ms => exact fun σ' H' Hf' s' => h σ' H' Hf' (s.trans s')
  | ct ms => exact fun σ' H' Hf' s' => h σ' H' Hf' (s.trans s')
  | rt r ms => exact fun σ' H' Hf' s' => h σ' H' Hf' (s.trans s')
  | exc c fs ms => exact fun cls d σ' H' Hf' s' => h cls d σ' H' Hf' (s.trans s')
/-- an expression ahead of a statement -/
def SO.of {α : Type} (x : Out α) (k : α → MS → SO) : SO := match x with
  | .stuck => .stuck
  | .ok a ms => k a ms
  | .exc c fs ms => .exc c fs ms
@[simp] theorem SO.of_ok {α : Type} (a : α) (ms : MS) (k : α → MS → SO) : SO.of (.ok a ms) k = k a ms := rfl
@[simp] theorem SO.of_exc {α : Type} (c : Str) (fs : List (Str × PyData)) (ms : MS) (k : α → MS → SO) : SO.of (.exc c fs ms : Out α) k = .exc c fs ms := rfl
@[simp] theorem SO.of_stuck {α : Type} (k : α → MS → SO) : SO.of (.stuck : Out α) k = .stuck := rfl
theorem AfterS.of {K : KW} {mg : Str → Option Value} {W : WX} {la : Fm} {Hf : Hp} {D : Ends} {α : Type} {x : Out α} {k : α → MS → SO} {σ : St} (h : AfterS K mg W la Hf D (SO.of x k)) :
    After K mg W la σ Hf (fun a ms1 H1 Hf1 => AfterS K mg W la Hf1 D (k a ms1)) x := by
  cases x with
  | stuck => exact h
  | ok a ms => exact fun H' Hf' s' S => AfterS.hf s' h
  | exc c fs ms => exact fun cls d H' Hf' s' S => h cls d σ H' Hf' s' S
def mSkip : MX := fun ms => .nx ms
def mBreak : MX := fun ms => .bk ms
def mCont : MX := fun ms => .ct ms
def SO.then (x : SO) (g : MX) : SO := match x with
  | .nx ms => g ms
  | o => o
@[simp] theorem SO.then_nx (ms : MS) (g : MX) : (SO.nx ms).then g = g ms := rfl
@[simp] theorem SO.then_rt (r : Rv) (ms : MS) (g : MX) : (SO.rt r ms).then g = .rt r ms := rfl
@[simp] theorem SO.then_bk (ms : MS) (g : MX) : (SO.bk ms).then g = .bk ms := rfl
@[simp] theorem SO.then_ct (ms : MS) (g : MX) : (SO.ct ms).then g = .ct ms := rfl
@[simp] theorem SO.then_exc (c : Str) (fs : List (Str × PyData)) (ms : MS) (g : MX) : (SO.exc c fs ms).then g = .exc c fs ms := rfl
@[simp] theorem SO.then_stuck (g : MX) : (SO.stuck).then g = .stuck := rfl
def mSeq (f g : MX) : MX := fun ms => (f ms).then g
def mIf (t : MT) (f g : MX) : MX := fun ms => SO.of (t ms) fun b ms1 => if b = true then f ms1 else g ms1
def mRet (f : ME) : MX := fun ms => SO.of (f ms) fun r ms1 => .rt r ms1
def mRetN : MX := fun ms => .rt (.dat .none) ms
def mDrop (f : ME) : MX := fun ms => SO.of (f ms) fun _ ms1 => .nx ms1
def isLent (ms : MS) (i : Nat) : Bool := match ms[i]? with
  | some (some (.own true _)) => true
  | _ => false
/-- a name is stored -/
def asg (i : Nat) (r : Rv) (ms : MS) : SO := if isLent ms i then .stuck else match r with
  | .dat d => .nx (ms.set i (some (.dat d)))
  | .new d => .nx (ms.set i (some (.own false d)))
  | .slot j => match frz ms (.slot j) with
    | some (d, ms') => .nx (ms'.set i (some (.dat d)))
    | none => .stuck
def mSet (i : Nat) (f : ME) : MX := fun ms => SO.of (f ms) (asg i)

section
variable {K : KW} {la : Fm} {ms : MS} {σ : St} {H Hf : Hp} {v : V} {d : PyData}
theorem isLent_own {i : Nat} {l : Bool} {d : PyData} (hl : isLent ms i = false) (h : ms[i]? = some (some (.own l d))) : l = false := by
  unfold isLent at hl
  rw [h] at hl
  cases l with
  | false => rfl
  | true => cases hl
theorem SR.setDat {i : Nat} (S : SR K la ms σ H Hf) (r : Rep K Hf v d) : SR K la (ms.set i (some (.dat d))) (σ.set i (some v)) H Hf where
  len := by rw [List.length_set, List.length_set]; exact S.len
  dat := fun j d' h => by
    by_cases hij : i = j
    · subst hij
      by_cases hl : i < ms.length
      · rw [List.getElem?_set_self hl] at h
        cases h
        exact ⟨v, List.getElem?_set_self (by rw [← S.len]; exact hl), r⟩
      · rw [List.getElem?_eq_none (by rw [List.length_set]; omega)] at h; cases h
    · rw [List.getElem?_set_ne hij] at h ⊢
      exact S.dat j d' h
  own := fun j l d' h => by
    by_cases hij : i = j
    · subst hij
      by_cases hl : i < ms.length
      · rw [List.getElem?_set_self hl] at h; cases h
      · rw [List.getElem?_eq_none (by rw [List.length_set]; omega)] at h; cases h
    · rw [List.getElem?_set_ne hij] at h ⊢
      exact S.own j l d' h
  apart := fun j k a l d1 l' d2 hj hk ej ek => by
    have ne : ∀ {m : Nat} {l : Bool} {d1 : PyData}, (ms.set i (some (.dat d)))[m]? = some (some (.own l d1)) → i ≠ m := fun {m l d1} h z => by
      subst z
      by_cases hl : i < ms.length
      · rw [List.getElem?_set_self hl] at h; cases h
      · rw [List.getElem?_eq_none (by rw [List.length_set]; omega)] at h; cases h
    have nj := ne hj
    have nk := ne hk
    rw [List.getElem?_set_ne nj] at hj ej
    rw [List.getElem?_set_ne nk] at hk ek
    exact S.apart j k a l d1 l' d2 hj hk ej ek
  sub := S.sub
  fr := S.fr
theorem SR.setOwn {i : Nat} (S : SR K la ms σ H Hf) (r : RvR K la ms σ H Hf v (.new d)) : SR K la (ms.set i (some (.own false d))) (σ.set i (some v)) H Hf := by
  obtain ⟨p, o, rfl, ff, nf, q, ro, ap⟩ := r
  have hσ : ∀ {j : Nat}, i = j → j < ms.length → (σ.set i (some (V.ref p)))[j]? = some (some (V.ref p)) := fun {j} e hl => by
    subst e
    exact List.getElem?_set_self (by rw [← S.len]; exact hl)
  have inl : ∀ {j : Nat} {x : Option SV}, (ms.set i (some (.own false d)))[j]? = some x → j < ms.length := fun {j x} h => by
    have := (List.getElem?_eq_some_iff.mp h).1
    rw [List.length_set] at this
    exact this
  refine ⟨by rw [List.length_set, List.length_set]; exact S.len, fun j d' h => ?_, fun j l d' h => ?_, fun j k a l d1 l' d2 hj hk ej ek => ?_, S.sub, S.fr⟩
  · by_cases hij : i = j
    · have hl := inl h
      subst hij
      rw [List.getElem?_set_self hl] at h; cases h
    · rw [List.getElem?_set_ne hij] at h ⊢
      exact S.dat j d' h
  · by_cases hij : i = j
    · have hl := inl h
      have e := hσ hij hl
      subst hij
      rw [List.getElem?_set_self hl] at h
      injection h with h; injection h with h; injection h with h1 h2
      subst h1; subst h2
      exact ⟨p, o, e, (fun z => nomatch z), ff, nf, q, ro⟩
    · rw [List.getElem?_set_ne hij] at h ⊢
      exact S.own j l d' h
  · by_cases hij : i = j
    · by_cases hik : i = k
      · rw [← hij, ← hik]
      · have e := hσ hij (inl hj)
        rw [e] at ej
        injection ej with ej; injection ej with ej; injection ej with ej
        rw [List.getElem?_set_ne hik] at hk ek
        rw [← ej] at ek
        exact absurd ek (ap k _ _ hk)
    · rw [List.getElem?_set_ne hij] at hj ej
      by_cases hik : i = k
      · have e := hσ hik (inl hk)
        rw [e] at ek
        injection ek with ek; injection ek with ek; injection ek with ek
        rw [← ek] at ej
        exact absurd ej (ap j _ _ hj)
      · rw [List.getElem?_set_ne hik] at hk ek
        exact S.apart j k a l d1 l' d2 hj hk ej ek
theorem frz_len {ms ms' : MS} {r : Rv} {d : PyData} (e : frz ms r = some (d, ms')) : ms'.length = ms.length := by
  cases r with
  | dat d => cases e; rfl
  | new d => cases e; rfl
  | slot i =>
    rcases frz_slot e with ⟨_, rfl⟩ | ⟨_, rfl⟩
    · rfl
    · rw [List.length_set]
theorem asg_ok {mg : Str → Option Value} {W : WX} {D : Ends} {i : Nat} {r : Rv} (S : SR K la ms σ H Hf) (rv : RvR K la ms σ H Hf v r) (q : AfterS K mg W la Hf D (asg i r ms)) : D.nx (σ.set i (some v)) H := by
  unfold asg at q
  cases hl : isLent ms i with
  | true => rw [hl] at q; exact q.elim
  | false =>
    rw [hl] at q
    simp only [Bool.false_eq_true, if_false] at q
    cases r with
    | dat d => exact q _ H Hf (.refl _) (S.setDat rv)
    | new d => exact q _ H Hf (.refl _) (S.setOwn rv)
    | slot j =>
      simp only at q
      cases e : frz ms (.slot j) with
      | none => rw [e] at q; exact q.elim
      | some p =>
        obtain ⟨d, ms'⟩ := p
        rw [e] at q
        obtain ⟨Hf', s', S', r'⟩ := rv_frz S rv e
        exact q _ H Hf' s' (S'.setDat r')
end
section
variable {X : Cx} {W : WX} {e a b c : Expr} {st : Stmt} {sts sts' : List Stmt} {pos : Pos}
theorem sxs_nil : SXs X W [] mSkip := ⟨PSs.imp pss_nil fun D σ H q => by
  obtain ⟨la, ms, Hf, S, q⟩ := q
  exact q σ H Hf (.refl _) S⟩
theorem seq_ends {K : KW} {mg : Str → Option Value} {la : Fm} {Hf : Hp} {D : Ends} {x : SO} {g : MX} (q : AfterS K mg W la Hf D (x.then g)) : AfterS K mg W la Hf { D with nx := tSx K mg W g D } x := by
  cases x with
  | stuck => exact q
  | nx ms => exact fun σ' H' Hf' s' S' => ⟨la, ms, Hf', S', AfterS.hf s' q⟩
  | bk ms => exact q
  | ct ms => exact q
  | rt r ms => exact q
  | exc c fs ms => exact q
theorem sxs_cons {f g : MX} (h : SX X W st f) (hr : SXs X W sts g) : SXs X W (st :: sts) (mSeq f g) := ⟨PSs.imp (pss_cons h.ps hr.ps) fun D σ H q => by
  obtain ⟨la, ms, Hf, S, q⟩ := q
  exact ⟨la, ms, Hf, S, seq_ends q⟩⟩
theorem sxs_one {f : MX} (h : SX X W st f) : SXs X W [st] f := ⟨pss_one h.ps⟩
theorem sx_pass : SX X W (.Pass pos) mSkip := ⟨PS.imp ps_pass fun D σ H q => by
  obtain ⟨la, ms, Hf, S, q⟩ := q
  exact q σ H Hf (.refl _) S⟩
theorem sx_break : SX X W (.Break pos) mBreak := ⟨PS.imp ps_break fun D σ H q => by
  obtain ⟨la, ms, Hf, S, q⟩ := q
  exact q σ H Hf (.refl _) S⟩
theorem sx_cont : SX X W (.Continue pos) mCont := ⟨PS.imp ps_continue fun D σ H q => by
  obtain ⟨la, ms, Hf, S, q⟩ := q
  exact q σ H Hf (.refl _) S⟩
theorem sx_ret {f : ME} (h : EX X W e f) : SX X W (.Return (some e) pos) (mRet f) := ⟨PS.imp (ps_ret h.pe) fun D σ H q => by
  obtain ⟨la, ms, Hf, S, q⟩ := q
  refine ⟨la, ms, Hf, S, (AfterS.of q).imp fun r ms1 H1 Hf1 s1 S1 q1 v rv => ?_⟩
  exact q1 σ H1 Hf1 (.refl _) S1 v rv⟩
theorem sx_retN : SX X W (.Return none pos) mRetN := ⟨PS.imp ps_retN fun D σ H q => by
  obtain ⟨la, ms, Hf, S, q⟩ := q
  exact q σ H Hf (.refl _) S .non .non⟩
theorem sx_drop {f : ME} (h : EX X W e f) (hs : swapsWith e none pos.line X.env = pure false := by rfl) : SX X W (.Expr e pos) (mDrop f) := ⟨PS.imp (ps_expr h.pe hs) fun D σ H q => by
  obtain ⟨la, ms, Hf, S, q⟩ := q
  refine ⟨la, ms, Hf, S, (AfterS.of q).imp fun r ms1 H1 Hf1 s1 S1 q1 v rv => ?_⟩
  exact q1 σ H1 Hf1 (.refl _) S1⟩
theorem sx_if {t : MT} {f g : MX} (hc : TX X W c t) (ha : SXs X W sts f) (hb : SXs X W sts' g) : SX X W (.If c sts sts' pos) (mIf t f g) := ⟨PS.imp (ps_if hc.pt ha.ps hb.ps) fun D σ H q => by
  obtain ⟨la, ms, Hf, S, q⟩ := q
  refine ⟨la, ms, Hf, S, (AfterS.of q).imp fun k ms1 H1 Hf1 s1 S1 q1 => ?_⟩
  cases k with
  | true => rw [if_pos rfl] at q1 ⊢; exact ⟨la, ms1, Hf1, S1, q1⟩
  | false => rw [if_neg Bool.false_ne_true] at q1 ⊢; exact ⟨la, ms1, Hf1, S1, q1⟩⟩
theorem sx_set (i : Nat) {x : Str} {f : ME} {pos' : Pos} (hN : X.N.Nodup) (hi : X.N[i]? = some x) (hx : Loc X.env.scope x) (h : EX X W e f) (hs : swapsWith e (some (.Name x pos')) pos.line X.env = pure false := by rfl) (hf : X.fn x = true ∨ X.env.scope.names.lookup x = some .local := by first | exact .inl rfl | exact .inr rfl | assumption) :
    SX X W (.Assign [.Name x pos'] e pos) (mSet i f) := ⟨PS.imp (ps_set hN hi hx h.pe hs hf) fun D σ H q => by
  obtain ⟨la, ms, Hf, S, q⟩ := q
  refine ⟨la, ms, Hf, S, (AfterS.of q).imp fun r ms1 H1 Hf1 s1 S1 q1 v rv => ?_⟩
  exact asg_ok S1 rv q1⟩
/-- while -/
def mWhile : Nat → MT → MX → MX
  | 0, _, _ => fun _ => .stuck
  | n + 1, t, f => fun ms => SO.of (t ms) fun b ms1 => if b = true then (match f ms1 with
      | .nx ms2 => mWhile n t f ms2
      | .ct ms2 => mWhile n t f ms2
      | .bk ms2 => .nx ms2
      | o => o) else .nx ms1
theorem sx_while (n : Nat) {t : MT} {f : MX} (hp : PassesOwn (model X.prog X.w) X.A X.env X.xe) (hc : TX X W c t) (hb : SXs X W sts f) : SX X W (.While c sts [] pos) (mWhile n t f) := ⟨PS.imp (ps_while hp hc.pt hb.ps) fun D σ H q => by
  obtain ⟨la, ms, Hf, S, q⟩ := q
  refine ⟨fun m σ H => ∃ la ms Hf, SR (kw X) la ms σ H Hf ∧ AfterS (kw X) X.mg W la Hf D (mWhile m t f ms), ⟨n, la, ms, Hf, S, q⟩, ?_⟩
  rintro m σ H ⟨la, ms, Hf, S, q⟩
  cases m with
  | zero => exact False.elim q
  | succ m =>
    refine ⟨la, ms, Hf, S, (AfterS.of q).imp fun k ms1 H1 Hf1 s1 S1 q1 => ?_⟩
    cases k with
    | false => rw [if_neg Bool.false_ne_true] at q1 ⊢; exact q1 σ H1 Hf1 (.refl _) S1
    | true =>
      rw [if_pos rfl] at q1 ⊢
      refine ⟨fun σ' H' => ∃ la ms Hf, SR (kw X) la ms σ' H' Hf ∧ AfterS (kw X) X.mg W la Hf D (mWhile m t f ms), fun σ' H' h => ⟨m, Nat.lt_succ_self m, h⟩, la, ms1, Hf1, S1, ?_⟩
      cases hf : f ms1 with
      | stuck => rw [hf] at q1; exact q1
      | nx ms2 => rw [hf] at q1; exact fun σ' H' Hf' s' S' => ⟨la, ms2, Hf', S', AfterS.hf s' q1⟩
      | ct ms2 => rw [hf] at q1; exact fun σ' H' Hf' s' S' => ⟨la, ms2, Hf', S', AfterS.hf s' q1⟩
      | bk ms2 => rw [hf] at q1; exact q1
      | rt r ms2 => rw [hf] at q1; exact q1
      | exc c fs ms2 => rw [hf] at q1; exact q1⟩
end
end Pl

/-! Pl5 -/
set_option Elab.async false
set_option linter.all false
set_option maxRecDepth 100000
set_option maxHeartbeats 4000000
/-! Targets, what is walked, for, list comprehensions. -/
namespace Pl
open PySem PySem.Spec PyProof.Rows L2

/-! ### targets -/
def tGx (K : KW) (T : List Nat) (g : PyData → MS → SO) : TG := fun v σ H Q => ∃ la ms Hf d ms', SR K la ms σ H Hf ∧ Rep K Hf v d ∧ g d ms = .nx ms' ∧
  ∀ σ' H' Hf', Same Hf Hf' → SR K la ms' σ' H' Hf' → wipe σ' T = wipe σ T → Q σ' H'
structure GX (X : Cx) (tg : Expr) (T : List Nat) (g : PyData → MS → SO) : Prop where
  pg : PG X tg (tGx (kw X) T g)
/-- several, one after another -/
def tGs (K : KW) (T : List Nat) (g : List PyData → MS → SO) : TGs := fun vs σ H Q => ∃ la ms Hf ds ms', SR K la ms σ H Hf ∧ RepAll K Hf vs ds ∧ g ds ms = .nx ms' ∧
  ∀ σ' H' Hf', Same Hf Hf' → SR K la ms' σ' H' Hf' → wipe σ' T = wipe σ T → Q σ' H'
structure GXs (X : Cx) (tg : List Expr) (T : List Nat) (g : List PyData → MS → SO) : Prop where
  pg : PGs X tg (tGs (kw X) T g)
theorem PG.imp {X : Cx} {e : Expr} {t t' : TG} (h : PG X e t) (k : ∀ v σ H Q, t' v σ H Q → t v σ H Q) : PG X e t' := ⟨fun pins s σ H v u Q I r q => h.run pins s σ H v u Q I r (k _ _ _ _ q)⟩
theorem PGs.imp {X : Cx} {e : List Expr} {t t' : TGs} (h : PGs X e t) (k : ∀ v σ H Q, t' v σ H Q → t v σ H Q) : PGs X e t' := ⟨fun pins s σ H v u Q I r q => h.run pins s σ H v u Q I r (k _ _ _ _ q)⟩
def gNm (i : Nat) (d : PyData) (ms : MS) : SO := if isLent ms i then .stuck else .nx (ms.set i (some (.dat d)))
def gsNil (ds : List PyData) (ms : MS) : SO := match ds with
  | [] => .nx ms
  | _ => .stuck
def gsCons (g : PyData → MS → SO) (gs : List PyData → MS → SO) (ds : List PyData) (ms : MS) : SO := match ds with
  | d :: ds => (g d ms).then (gs ds)
  | [] => .stuck
def gSeq (n : Nat) (gs : List PyData → MS → SO) (d : PyData) (ms : MS) : SO := match d with
  | .tuple ds => if ds.length = n then gs ds ms else .stuck
  | .list ds => if ds.length = n then gs ds ms else .stuck
  | _ => .stuck
theorem wipe_mem {σ : St} {i : Nat} {x : Option V} : ∀ {T : List Nat}, i ∈ T → wipe (σ.set i x) T = wipe σ T
  | j :: T, h => by
    unfold wipe
    by_cases hj : i ∈ T
    · rw [wipe_mem hj]
    · have e : i = j := by
        rcases List.mem_cons.mp h with h | h
        · exact h
        · exact absurd h hj
      subst e
      have e2 : ∀ (T : List Nat) (σ : St), i ∉ T → wipe (σ.set i x) T = (wipe σ T).set i x := by
        intro T
        induction T with
        | nil => intro σ _; rfl
        | cons k T ih =>
          intro σ hk
          simp only [List.mem_cons, not_or] at hk
          unfold wipe
          rw [ih σ hk.2, List.set_comm _ _ hk.1]
      rw [e2 T σ hj, List.set_set]
theorem wipe_more {σ σ' : St} {T T' : List Nat} (h : wipe σ' T = wipe σ T) : wipe σ' (T' ++ T) = wipe σ (T' ++ T) := by
  induction T' with
  | nil => exact h
  | cons j T' ih => exact congrArg (fun l => List.set l j none) ih
theorem wipe_comm (σ : St) (i : Nat) : ∀ T : List Nat, wipe (σ.set i none) T = (wipe σ T).set i none
  | [] => rfl
  | j :: T => by
    unfold wipe
    rw [wipe_comm σ i T]
    by_cases h : i = j
    · subst h; rfl
    · rw [List.set_comm _ _ h]
theorem wipe_app (σ : St) : ∀ T T' : List Nat, wipe σ (T ++ T') = wipe (wipe σ T') T
  | [], T' => rfl
  | j :: T, T' => by
    show (wipe σ (T ++ T')).set j none = (wipe (wipe σ T') T).set j none
    rw [wipe_app σ T T']
theorem wipe_swap (σ : St) : ∀ T T' : List Nat, wipe (wipe σ T') T = wipe (wipe σ T) T'
  | [], T' => rfl
  | j :: T, T' => by
    show (wipe (wipe σ T') T).set j none = wipe ((wipe σ T).set j none) T'
    rw [wipe_swap σ T T', wipe_comm]
theorem wipe_left {σ σ' : St} {T T' : List Nat} (h : wipe σ' T = wipe σ T) : wipe σ' (T ++ T') = wipe σ (T ++ T') := by
  rw [wipe_app, wipe_app, wipe_swap σ' T T', wipe_swap σ T T', h]
section
variable {X : Cx} {pos : Pos} {e : Expr} {es : List Expr}
theorem gx_name (i : Nat) {x : Str} (hN : X.N.Nodup) (hi : X.N[i]? = some x) (hx : Loc X.env.scope x) (hf : X.fn x = true ∨ X.env.scope.names.lookup x = some .local := by first | exact .inl rfl | exact .inr rfl | assumption) : GX X (.Name x pos) [i] (gNm i) := ⟨PG.imp (pg_name hN hi hx hf) fun v σ H Q q => by
  obtain ⟨la, ms, Hf, d, ms', S, r, e, q⟩ := q
  unfold gNm at e
  split at e
  · cases e
  · injection e with e
    subst e
    exact q _ H Hf (.refl _) (S.setDat r) (wipe_mem (List.mem_singleton.mpr rfl))⟩
theorem gxs_nil : GXs X [] [] gsNil := ⟨PGs.imp pgs_nil fun vs σ H Q q => by
  obtain ⟨la, ms, Hf, ds, ms', S, r, e, q⟩ := q
  cases r with
  | nil => injection e with e; subst e; exact ⟨rfl, q σ H Hf (.refl _) S rfl⟩
  | cons => cases e⟩
theorem gxs_cons {T T' : List Nat} {g : PyData → MS → SO} {gs : List PyData → MS → SO} (h1 : GX X e T g) (h2 : GXs X es T' gs) (hs : (assignEach (e :: es) X.env).map (·.2) = assign e X.env :: (assignEach es X.env).map (·.2) := by rfl) : GXs X (e :: es) (T ++ T') (gsCons g gs) := ⟨PGs.imp (pgs_cons h1.pg h2.pg hs) fun vs σ H Q q => by
  obtain ⟨la, ms, Hf, ds, ms', S, r, e, q⟩ := q
  cases r with
  | nil => cases e
  | @cons v vs d ds r1 r2 =>
    unfold gsCons at e
    simp only at e
    cases e1 : g d ms with
    | nx ms1 =>
      rw [e1] at e
      have e : gs ds ms1 = .nx ms' := e
      refine ⟨v, vs, rfl, la, ms, Hf, d, ms1, S, r1, e1, fun σ1 H1 Hf1 s1 S1 w1 => ?_⟩
      refine ⟨la, ms1, Hf1, ds, ms', S1, r2.mono s1, e, fun σ2 H2 Hf2 s2 S2 w2 => ?_⟩
      exact q σ2 H2 Hf2 (s1.trans s2) S2 ((wipe_more w2).trans (wipe_left w1))
    | _ => rw [e1] at e; cases e⟩
theorem pg_or {t t' : TG} (h : PG X e t) (h' : PG X e t') : PG X e (fun v σ H Q => t v σ H Q ∨ t' v σ H Q) := ⟨fun pins s σ H v u Q I r q => by
  rcases q with q | q
  · exact h.run pins s σ H v u Q I r q
  · exact h'.run pins s σ H v u Q I r q⟩
theorem gx_seq {k : Nat} {T : List Nat} {gs : List PyData → MS → SO} {n : Nat} (hc : X.calm = true) (h : GXs X es T gs)
    (hn : (assignEach es X.env).length = n := by rfl) (hst : (assignEach es X.env).findIdx? (·.1) = none := by rfl) : GX X (.Tuple es k pos) T (gSeq n gs) := ⟨PG.imp (pg_or (pg_tup hc h.pg hn hst) (pg_lst hc h.pg hn hst)) fun v σ H Q q => by
  obtain ⟨la, ms, Hf, d, ms', S, r, e, q⟩ := q
  unfold gSeq at e
  cases r with
  | tup h1 r1 =>
    simp only at e
    split at e
    · rename_i hl
      exact .inl ⟨_, _, rfl, (h1.mono S.sub).sq, by rw [r1.length]; exact hl, la, ms, Hf, _, ms', S, r1, e, q⟩
    · cases e
  | lst h1 r1 =>
    simp only at e
    split at e
    · rename_i hl
      exact .inr ⟨_, _, rfl, SqL.of (S.sub _ _ h1), by rw [r1.length]; exact hl, la, ms, Hf, _, ms', S, r1, e, q⟩
    · cases e
  | _ => cases e⟩
/-- target = e, the value as data -/
def mAsg (g : PyData → MS → SO) (f : ME) : MX := fun ms => SO.of (f ms) fun r ms1 => match frz ms1 r with
  | some (d, ms2) => g d ms2
  | none => .stuck
theorem sx_asg {W : WX} {tg : Expr} {T : List Nat} {g : PyData → MS → SO} {f : ME} (h : EX X W e f) (hg : GX X tg T g) (hn : ∀ d ms, g d ms = .stuck ∨ ∃ ms', g d ms = .nx ms') (hs : swapsWithSole [tg] e pos.line X.env = pure false := by rfl) (hw : swappedStores [tg] e X.env = pure none := by rfl)
    (h1 : (assignEach [tg] X.env).map (·.2) = [assign tg X.env] := by rfl) : SX X W (.Assign [tg] e pos) (mAsg g f) := ⟨PS.imp (ps_asg h.pe hg.pg hs hw h1) fun D σ H q => by
  obtain ⟨la, ms, Hf, S, q⟩ := q
  refine ⟨la, ms, Hf, S, (AfterS.of q).imp fun r ms1 H1 Hf1 s1 S1 q1 v rv => ?_⟩
  cases e1 : frz ms1 r with
  | none => rw [e1] at q1; exact q1.elim
  | some p =>
    obtain ⟨d, ms2⟩ := p
    rw [e1] at q1
    obtain ⟨Hf2, s2, S2, r2⟩ := rv_frz S1 rv e1
    rcases hn d ms2 with hs | ⟨ms3, hs⟩
    · simp only [hs] at q1; exact q1.elim
    · simp only [hs] at q1
      exact ⟨la, ms2, Hf2, d, ms3, S2, r2, hs, fun σ' H' Hf' s' S' _ => q1 σ' H' Hf' (s2.trans s') S'⟩⟩
end
theorem gNm_nx (i : Nat) (d : PyData) (ms : MS) : gNm i d ms = .stuck ∨ ∃ ms', gNm i d ms = .nx ms' := by
  unfold gNm
  split
  · exact .inl rfl
  · exact .inr ⟨_, rfl⟩
theorem gsNil_nx (d : List PyData) (ms : MS) : gsNil d ms = .stuck ∨ ∃ ms', gsNil d ms = .nx ms' := by
  cases d with
  | nil => exact .inr ⟨_, rfl⟩
  | cons => exact .inl rfl
theorem gsCons_nx {g : PyData → MS → SO} {gs : List PyData → MS → SO} (h : ∀ d ms, g d ms = .stuck ∨ ∃ ms', g d ms = .nx ms') (h2 : ∀ d ms, gs d ms = .stuck ∨ ∃ ms', gs d ms = .nx ms') (d : List PyData) (ms : MS) : gsCons g gs d ms = .stuck ∨ ∃ ms', gsCons g gs d ms = .nx ms' := by
  cases d with
  | nil => exact .inl rfl
  | cons d ds =>
    show (g d ms).then (gs ds) = .stuck ∨ ∃ ms', (g d ms).then (gs ds) = .nx ms'
    rcases h d ms with e | ⟨ms', e⟩
    · rw [e]; exact .inl rfl
    · rw [e]; exact h2 ds ms'
theorem gSeq_nx {n : Nat} {gs : List PyData → MS → SO} (h2 : ∀ d ms, gs d ms = .stuck ∨ ∃ ms', gs d ms = .nx ms') (d : PyData) (ms : MS) : gSeq n gs d ms = .stuck ∨ ∃ ms', gSeq n gs d ms = .nx ms' := by
  unfold gSeq
  split
  · split
    · exact h2 _ _
    · exact .inl rfl
  · split
    · exact h2 _ _
    · exact .inl rfl
  · exact .inl rfl

/-! ### what is walked -/
inductive Src where
  | fix (ds : List PyData)
  | live (i : Nat)
def ItFix (K : KW) (Hf0 : Hp) (J : It) (ds : List PyData) : Prop := ∀ (i : Nat) (H Hf : Hp), Same Hf0 Hf → Same Hf H → (i = ds.length → J.stop i H) ∧ (∀ d, ds[i]? = some d → J.go i H ∧ ∀ x H', J.yld i H x H' → ∃ Hf', Grow H Hf H' Hf' ∧ Rep K Hf' x d)
def ItLive (J : It) (a : Addr) : Prop := ∀ (i : Nat) (H : Hp) (xs : List V), H a = some (.lst xs) → (xs.length ≤ i → J.stop i H) ∧ (∀ x, xs[i]? = some x → J.go i H ∧ ∀ x' H', J.yld i H x' H' → H' = H ∧ x' = x)
def ItOk (K : KW) (σ : St) (Hf : Hp) (J : It) : Src → Prop
  | .fix ds => ItFix K Hf J ds
  | .live i => ∃ a, σ[i]? = some (some (.ref a)) ∧ ItLive J a
def tIx (K : KW) (mg : Str → Option Value) (W : WX) (f : MS → Out Src) : TI := fun σ H R => ∃ la ms Hf, SR K la ms σ H Hf ∧ After K mg W la σ Hf (fun src ms' H' Hf' => ∀ J H2 Hf2, Grow H' Hf' H2 Hf2 → ItOk K σ Hf2 J src → R J H2) (f ms)
structure IX (X : Cx) (W : WX) (tg e : Expr) (f : MS → Out Src) : Prop where
  pi : PI X tg e (tIx (kw X) X.mg W f)
theorem PI.imp {X : Cx} {tg e : Expr} {t t' : TI} (h : PI X tg e t) (k : ∀ σ H Q, t' σ H Q → t σ H Q) : PI X tg e t' := ⟨fun pins s σ H Q I q => h.run pins s σ H Q I (k _ _ _ q)⟩
section
variable {X : Cx} {W : WX} {tg e : Expr} {es : List Expr} {pos : Pos}
/-- a list, a tuple, a text -/
theorem pi_sq {te : TE} (he : PE X e te) : PI X tg e (fun σ H R => te σ H fun x H1 => (∃ a, x = .ref a ∧ (∃ xs, SqL X.K H1 a xs) ∧ R (Itl X.K a) H1) ∨ (∃ a, x = .ref a ∧ (∃ xs, SqT X.K H1 a xs) ∧ R (Itt X.K a) H1) ∨ ∃ z, x = .str z ∧ R (Its z) H1) := by
  refine ⟨fun pins s σ H R I h => ?_⟩
  refine thn (he.run pins s σ H _ I h) fun v s1 ⟨x, H1, I1, r1, q1⟩ => ?_
  rcases q1 with ⟨a, e, ⟨xs, hq⟩, q⟩ | ⟨a, e, ⟨xs, hq⟩, q⟩ | ⟨z, e, q⟩
  · subst e
    cases r1
    obtain ⟨its, rv, p, hz⟩ := I1.list hq
    refine wpAny_pyIter_list p.isList ?_
    refine ⟨s1.heap.objs.size, [s1.heap.objs.size], _, _, H1, rfl, I1.kept (t' := s1.toks) fun b o e => Heap.get?_push_of_some _ e, turn_list a _, ⟨_, Heap.get?_push_size _ rfl, rfl, rfl⟩, fun b hb => ?_, q⟩
    have e : b = s1.heap.objs.size := by simpa using hb
    subst e
    exact I1.fpOk (Nat.le_refl _) (I1.hok.fresh (Nat.le_refl _))
  · subst e
    cases r1
    obtain ⟨its, rv, p, hz⟩ := I1.tuple hq
    refine wpAny_pyIter_tuple (show s1.heap.IsTuple a its.toArray from p) ?_
    refine ⟨s1.heap.objs.size, [s1.heap.objs.size], _, _, H1, rfl, I1.kept (t' := s1.toks) fun b o e => Heap.get?_push_of_some _ e, turn_tuple a _, ⟨_, Heap.get?_push_size _ rfl, rfl, rfl⟩, fun b hb => ?_, q⟩
    have e : b = s1.heap.objs.size := by simpa using hb
    subst e
    exact I1.fpOk (Nat.le_refl _) (I1.hok.fresh (Nat.le_refl _))
  · subst e
    obtain ⟨t, rfl⟩ := r1
    cases ha : z.cps.all (· < 128)
    · exact wpAny_pyIter_wide ha (pi_one (tk := s1.toks) I1 _ (turn_str _ z t "str_iterator" (.inr rfl)) ⟨_, Heap.get?_push_size _ rfl, rfl, rfl⟩ q)
    · exact wpAny_pyIter_ascii ha (pi_one (tk := s1.toks) I1 _ (turn_str _ z t "str_ascii_iterator" (.inl rfl)) ⟨_, Heap.get?_push_size _ rfl, rfl, rfl⟩ q)
def signs (z : Str) : List PyData := z.cps.toList.map fun c => .str ⟨#[c]⟩
def srcOf (r : Rv) (ms : MS) : Out Src := match r with
  | .dat (.list ds) => .ok (.fix ds) ms
  | .dat (.tuple ds) => .ok (.fix ds) ms
  | .dat (.str z) => .ok (.fix (signs z)) ms
  | .new (.list ds) => .ok (.fix ds) ms
  | .slot i => match view ms (.slot i) with
    | some (.list _) => .ok (.live i) ms
    | _ => .stuck
  | _ => .stuck
theorem itFix_lst {K : KW} {Hf0 : Hp} {a : Addr} {xs : List V} {ds : List PyData} (h : Hf0 a = some (.lst xs)) (r : RepAll K Hf0 xs ds) : ItFix K Hf0 (Itl K.K a) ds := fun i H Hf s1 s2 => by
  have hq : SqL K.K H a xs := SqL.of (s2 _ _ (s1 _ _ h))
  refine ⟨fun e => ⟨xs, hq, by rw [r.length, e]; exact Nat.le_refl _⟩, fun d hd => ?_⟩
  obtain ⟨x, hx, rx⟩ := r.get' hd
  refine ⟨⟨xs, x, hq, hx⟩, fun x' H' y => ?_⟩
  obtain ⟨e, y⟩ := y
  subst e
  have e := y xs hq
  rw [hx] at e; cases e
  exact ⟨Hf, Grow.refl s2, rx.mono s1⟩
theorem itFix_tup {K : KW} {Hf0 : Hp} {a : Addr} {xs : List V} {ds : List PyData} (h : TupAt Hf0 a xs) (r : RepAll K Hf0 xs ds) : ItFix K Hf0 (Itt K.K a) ds := fun i H Hf s1 s2 => by
  have hq : SqT K.K H a xs := ((h.mono s1).mono s2).sq
  refine ⟨fun e => ⟨xs, hq, by rw [r.length, e]; exact Nat.le_refl _⟩, fun d hd => ?_⟩
  obtain ⟨x, hx, rx⟩ := r.get' hd
  refine ⟨⟨xs, x, hq, hx⟩, fun x' H' y => ?_⟩
  obtain ⟨e, y⟩ := y
  subst e
  have e := y xs hq
  rw [hx] at e; cases e
  exact ⟨Hf, Grow.refl s2, rx.mono s1⟩
theorem itFix_str {K : KW} {Hf0 : Hp} {z : Str} : ItFix K Hf0 (Its z) (signs z) := fun i H Hf s1 s2 => by
  refine ⟨fun e => ?_, fun d hd => ?_⟩
  · show z.cps.size ≤ i
    unfold signs at e
    rw [List.length_map, Array.length_toList] at e
    omega
  · unfold signs at hd
    rw [List.getElem?_map] at hd
    cases hc : z.cps.toList[i]? with
    | none => rw [hc] at hd; cases hd
    | some c =>
      rw [hc] at hd
      cases hd
      have hlt : i < z.cps.size := by
        have := (List.getElem?_eq_some_iff.mp hc).1
        rw [Array.length_toList] at this
        exact this
      refine ⟨hlt, fun x' H' y => ?_⟩
      obtain ⟨e, c', hc', e2⟩ := y
      subst e
      rw [Array.getElem?_toList] at hc
      rw [hc] at hc'; cases hc'
      subst e2
      exact ⟨Hf, Grow.refl s2, .str _⟩
theorem itLive_lst {K : KW} {a : Addr} : ItLive (Itl K.K a) a := fun i H xs h => by
  refine ⟨fun e => ⟨xs, SqL.of h, e⟩, fun x hx => ⟨⟨xs, x, SqL.of h, hx⟩, fun x' H' y => ?_⟩⟩
  obtain ⟨e, y⟩ := y
  have e2 := y xs (SqL.of h)
  rw [hx] at e2; cases e2
  exact ⟨e, rfl⟩
theorem ix_seq {f : ME} (h : EX X W e f) : IX X W tg e (fun ms => (f ms).bind srcOf) := ⟨PI.imp (pi_sq h.pe) fun σ H R q => by
  obtain ⟨la, ms, Hf, S, q⟩ := q
  refine ⟨la, ms, Hf, S, (After.bind q).imp fun r ms1 H1 Hf1 s1 S1 q1 v rv => ?_⟩
  unfold srcOf at q1
  cases r with
  | dat d =>
    have rv : Rep (kw X) Hf1 v d := rv
    cases rv with
    | lst h r => exact .inl ⟨_, rfl, ⟨_, SqL.of (S1.sub _ _ h)⟩, q1 H1 Hf1 (.refl _) S1 _ _ _ (Grow.refl S1.sub) (itFix_lst h r)⟩
    | tup h r => exact .inr (.inl ⟨_, rfl, ⟨_, (h.mono S1.sub).sq⟩, q1 H1 Hf1 (.refl _) S1 _ _ _ (Grow.refl S1.sub) (itFix_tup h r)⟩)
    | str z => exact .inr (.inr ⟨_, rfl, q1 H1 Hf1 (.refl _) S1 _ _ _ (Grow.refl S1.sub) itFix_str⟩)
    | _ => exact False.elim q1
  | new d =>
    obtain ⟨Hf2, s2, S2, r2⟩ := rv_settle S1 rv
    have rv : Rep (kw X) Hf2 v d := r2
    cases rv with
    | lst h r => exact .inl ⟨_, rfl, ⟨_, SqL.of (S2.sub _ _ h)⟩, (q1.hf s2) H1 Hf2 (.refl _) S2 _ _ _ (Grow.refl S2.sub) (itFix_lst h r)⟩
    | _ => exact False.elim q1
  | slot i =>
    have hi : σ[i]? = some (some v) := rv
    simp only at q1
    cases e1 : view ms1 (.slot i) with
    | none => rw [e1] at q1; exact q1.elim
    | some d =>
      rw [e1] at q1
      cases d with
      | list ds =>
        obtain ⟨a, xs, rfl, hq, r⟩ := (RvR.vw S1 rv e1).lst S1.sub
        exact .inl ⟨a, rfl, ⟨xs, SqL.of hq⟩, q1 H1 Hf1 (.refl _) S1 _ _ _ (Grow.refl S1.sub) ⟨a, hi, itLive_lst (K := kw X)⟩⟩
      | _ => exact False.elim q1⟩
/-- range -/
def rgInts (lo : Int) (n : Nat) : List PyData := (List.range n).map fun k => .int (lo + (k : Nat))
def rng1 (rs : List Rv) (ms : MS) : Out Src := match rs with
  | [r] => (match view ms r with
    | some (.int j) => if -(2 ^ 62) ≤ j ∧ j < 2 ^ 62 then .ok (.fix (rgInts 0 j.toNat)) ms else .stuck
    | _ => .stuck)
  | _ => .stuck
def rng2 (rs : List Rv) (ms : MS) : Out Src := match rs with
  | [r, r'] => (match view ms r, view ms r' with
    | some (.int i), some (.int j) => if -(2 ^ 62) ≤ i ∧ i < 2 ^ 62 ∧ -(2 ^ 62) ≤ j ∧ j < 2 ^ 62 then .ok (.fix (rgInts i (j - i).toNat)) ms else .stuck
    | _, _ => .stuck)
  | _ => .stuck
theorem itFix_rng {K : KW} {Hf0 : Hp} {lo : Int} {n : Nat} : ItFix K Hf0 (Itr lo n) (rgInts lo n) := fun i H Hf s1 s2 => by
  refine ⟨fun e => ?_, fun d hd => ?_⟩
  · show n ≤ i
    unfold rgInts at e
    rw [List.length_map, List.length_range] at e
    omega
  · unfold rgInts at hd
    rw [List.getElem?_map] at hd
    by_cases hl : i < n
    · rw [List.getElem?_range hl] at hd
      cases hd
      refine ⟨hl, fun x' H' y => ?_⟩
      obtain ⟨e, e2⟩ := y
      subst e; subst e2
      exact ⟨Hf, Grow.refl s2, .int _⟩
    · rw [List.getElem?_eq_none (by rw [List.length_range]; omega)] at hd
      cases hd
theorem rng1_some {rs : List Rv} {ms : MS} {K : KW} {mg : Str → Option Value} {la : Fm} {σ : St} {Hf : Hp} {G : Src → MS → Hp → Hp → Prop} (q : After K mg W la σ Hf G (rng1 rs ms)) :
    ∃ r j, rs = [r] ∧ view ms r = some (.int j) ∧ -(2 ^ 62) ≤ j ∧ j < 2 ^ 62 ∧ After K mg W la σ Hf G (.ok (.fix (rgInts 0 j.toNat)) ms) := by
  cases rs with
  | nil => exact False.elim q
  | cons r rs =>
    cases rs with
    | cons r' rs => exact False.elim q
    | nil =>
      simp only [rng1] at q
      cases e : view ms r with
      | none => rw [e] at q; exact q.elim
      | some d =>
        rw [e] at q
        cases d with
        | int j =>
          simp only at q
          split at q
          · rename_i hb
            exact ⟨r, j, rfl, e, hb.1, hb.2, q⟩
          · exact q.elim
        | _ => exact False.elim q
theorem rng2_some {rs : List Rv} {ms : MS} {K : KW} {mg : Str → Option Value} {la : Fm} {σ : St} {Hf : Hp} {G : Src → MS → Hp → Hp → Prop} (q : After K mg W la σ Hf G (rng2 rs ms)) :
    ∃ r r' i j, rs = [r, r'] ∧ view ms r = some (.int i) ∧ view ms r' = some (.int j) ∧ (-(2 ^ 62) ≤ i ∧ i < 2 ^ 62 ∧ -(2 ^ 62) ≤ j ∧ j < 2 ^ 62) ∧ After K mg W la σ Hf G (.ok (.fix (rgInts i (j - i).toNat)) ms) := by
  cases rs with
  | nil => exact False.elim q
  | cons r rs =>
    cases rs with
    | nil => exact False.elim q
    | cons r' rs =>
      cases rs with
      | cons r3 rs => exact False.elim q
      | nil =>
        simp only [rng2] at q
        cases e : view ms r with
        | none => rw [e] at q; exact q.elim
        | some d =>
          cases e2 : view ms r' with
          | none => rw [e, e2] at q; cases d <;> exact False.elim q
          | some d2 =>
            rw [e, e2] at q
            cases d with
            | int i =>
              cases d2 with
              | int j =>
                simp only at q
                split at q
                · rename_i hb
                  exact ⟨r, r', i, j, rfl, e, e2, hb, q⟩
                · exact q.elim
              | _ => exact False.elim q
            | _ => exact False.elim q
theorem ix_range1 {a : Expr} {p : Pos} {fa : MA} (hg : Gl X "range") (hm : X.mg "range" = none) (ha : AX X W [a] fa) (hs : starEach [a] X.env = [(false, eval a X.env)] := by rfl) : IX X W tg (.Call (.Name "range" p) [a] [] pos) (fun ms => (fa ms).bind rng1) := ⟨PI.imp (pi_range1 hg hm ha.pa hs) fun σ H R q => by
  obtain ⟨la, ms, Hf, S, q⟩ := q
  refine ⟨la, ms, Hf, S, (After.bind q).imp fun rs ms1 H1 Hf1 s1 S1 q1 vs rv => ?_⟩
  obtain ⟨r, j, rfl, e, h1, h2, q2⟩ := rng1_some q1
  cases rv with
  | cons h t =>
    cases t
    cases (RvR.vw S1 h.rv e).int
    exact ⟨j, rfl, h1, h2, q2 H1 Hf1 (.refl _) S1 _ _ _ (Grow.refl S1.sub) itFix_rng⟩⟩
theorem ix_range2 {a b : Expr} {p : Pos} {fa : MA} (hg : Gl X "range") (hm : X.mg "range" = none) (ha : AX X W [a, b] fa) (hs : starEach [a, b] X.env = [(false, eval a X.env), (false, eval b X.env)] := by rfl) (hs2 : starEach [b] X.env = [(false, eval b X.env)] := by rfl) : IX X W tg (.Call (.Name "range" p) [a, b] [] pos) (fun ms => (fa ms).bind rng2) := ⟨PI.imp (pi_range2 hg hm ha.pa hs hs2) fun σ H R q => by
  obtain ⟨la, ms, Hf, S, q⟩ := q
  refine ⟨la, ms, Hf, S, (After.bind q).imp fun rs ms1 H1 Hf1 s1 S1 q1 vs rv => ?_⟩
  obtain ⟨r, r', i, j, rfl, e, e2, h1, q2⟩ := rng2_some q1
  cases rv with
  | cons h t =>
    cases t with
    | cons h2 t2 =>
      cases t2
      cases (RvR.vw S1 h.rv e).int
      cases (RvR.vw S1 h2.rv e2).int
      exact ⟨i, j, rfl, h1, q2 H1 Hf1 (.refl _) S1 _ _ _ (Grow.refl S1.sub) itFix_rng⟩⟩
end

/-! ### for -/
/-- a turn's end -/
def again (x : SO) (g : MX) : SO := match x with
  | .nx ms => g ms
  | .ct ms => g ms
  | .bk ms => .nx ms
  | o => o
@[simp] theorem again_nx (ms : MS) (g : MX) : again (.nx ms) g = g ms := rfl
@[simp] theorem again_ct (ms : MS) (g : MX) : again (.ct ms) g = g ms := rfl
@[simp] theorem again_bk (ms : MS) (g : MX) : again (.bk ms) g = .nx ms := rfl
@[simp] theorem again_rt (r : Rv) (ms : MS) (g : MX) : again (.rt r ms) g = .rt r ms := rfl
@[simp] theorem again_exc (c : Str) (fs : List (Str × PyData)) (ms : MS) (g : MX) : again (.exc c fs ms) g = .exc c fs ms := rfl
@[simp] theorem again_stuck (g : MX) : again .stuck g = .stuck := rfl
def loopF (g : PyData → MS → SO) (b : MX) : List PyData → MX
  | [], ms => .nx ms
  | d :: ds, ms => (g d ms).then fun ms1 => again (b ms1) (loopF g b ds)
def loopS (g : PyData → MS → SO) (b : MX) (src : Src) (ms : MS) : SO := match src with
  | .fix ds => loopF g b ds ms
  | .live _ => .stuck
def mFor (fi : MS → Out Src) (g : PyData → MS → SO) (b : MX) : MX := fun ms => SO.of (fi ms) (loopS g b)
section
variable {X : Cx} {W : WX} {tg e : Expr} {sts : List Stmt} {pos : Pos}
theorem again_ends {K : KW} {mg : Str → Option Value} {la : Fm} {Hf : Hp} {D : Ends} {x : SO} {g : MX} {N : L2.St → Hp → Prop} (q : AfterS K mg W la Hf D (again x g)) (hN : ∀ ms σ' H' Hf', Same Hf Hf' → SR K la ms σ' H' Hf' → AfterS K mg W la Hf' D (g ms) → N σ' H') :
    AfterS K mg W la Hf { D with nx := N, ct := N, bk := D.nx } x := by
  cases x with
  | stuck => exact q
  | nx ms => exact fun σ' H' Hf' s' S' => hN ms σ' H' Hf' s' S' (AfterS.hf s' q)
  | bk ms => exact q
  | ct ms => exact fun σ' H' Hf' s' S' => hN ms σ' H' Hf' s' S' (AfterS.hf s' q)
  | rt r ms => exact q
  | exc c fs ms => exact q
theorem sx_for {T : List Nat} {fi : MS → Out Src} {g : PyData → MS → SO} {b : MX} (hp : PassesOwn (model X.prog X.w) X.A X.env X.xe) (hc : X.calm = true) (hi : IX X W tg e fi) (hg : GX X tg T g) (hgn : ∀ d ms, g d ms = .stuck ∨ ∃ ms', g d ms = .nx ms') (hb : SXs X W sts b)
    (hs : ∀ x, foldedSetIterable e X.env x = pure x := by intro _; rfl) : SX X W (.For tg e sts [] pos) (mFor fi g b) := ⟨PS.imp (ps_for hp hc hi.pi hg.pg hb.ps hs) fun D σ H q => by
  obtain ⟨la, ms, Hf, S, q⟩ := q
  refine ⟨la, ms, Hf, S, (AfterS.of q).imp fun src ms1 H1 Hf1 s1 S1 q1 J H2 Hf2 G2 hJ => ?_⟩
  have S2 := S1.grow G2
  have q2 := AfterS.hf G2.ff q1
  cases src with
  | fix ds =>
    have hJ : ItFix (kw X) Hf2 J ds := hJ
    refine ⟨fun i m σ' H' => m = ds.length - i ∧ i ≤ ds.length ∧ ∃ ms' Hf', Same Hf2 Hf' ∧ SR (kw X) la ms' σ' H' Hf' ∧ AfterS (kw X) X.mg W la Hf' D (loopF g b (ds.drop i) ms'), ⟨_, rfl, Nat.zero_le _, ms1, Hf2, .refl _, S2, q2⟩, ?_⟩
    rintro i m σ' H' ⟨rfl, hi, ms', Hf', s', S', q'⟩
    obtain ⟨j1, j2⟩ := hJ i H' Hf' s' S'.sub
    by_cases hl : i < ds.length
    · obtain ⟨hgo, hy⟩ := j2 ds[i] (List.getElem?_eq_getElem hl)
      have ed : ds.drop i = ds[i] :: ds.drop (i + 1) := List.drop_eq_getElem_cons hl
      rw [ed] at q'
      refine .inr ⟨hgo, fun σ'' H'' => ∃ ms' Hf', Same Hf2 Hf' ∧ SR (kw X) la ms' σ'' H'' Hf' ∧ AfterS (kw X) X.mg W la Hf' D (loopF g b (ds.drop (i + 1)) ms'), fun σ'' H'' h => ⟨_, by omega, rfl, hl, h⟩, fun x H3 hx => ?_⟩
      obtain ⟨Hf3, G3, r3⟩ := hy x H3 hx
      have S3 := S'.grow G3
      have q3 := AfterS.hf G3.ff q'
      unfold loopF at q3
      rcases hgn ds[i] ms' with e | ⟨ms4, e⟩
      · rw [e] at q3; exact q3.elim
      · rw [e] at q3
        refine ⟨la, ms', Hf3, ds[i], ms4, S3, r3, e, fun σ4 H4 Hf4 s4 S4 _ => ?_⟩
        refine ⟨la, ms4, Hf4, S4, again_ends (AfterS.hf s4 q3) fun ms5 σ5 H5 Hf5 s5 S5 q5 => ⟨ms5, Hf5, ((s'.trans G3.ff).trans s4).trans s5, S5, q5⟩⟩
    · have ei : i = ds.length := by omega
      refine .inl ⟨j1 ei, ?_⟩
      rw [List.drop_of_length_le (by omega)] at q'
      exact q' σ' H' Hf' (.refl _) S'
  | live j => exact False.elim q2⟩
/-- for: a list of one's own is frozen -/
def srcFz (r : Rv) (ms : MS) : Out Src := match frz ms r with
  | some (.list ds, ms') => .ok (.fix ds) ms'
  | some (.tuple ds, ms') => .ok (.fix ds) ms'
  | some (.str z, ms') => .ok (.fix (signs z)) ms'
  | _ => .stuck
theorem ix_fz {f : ME} (h : EX X W e f) : IX X W tg e (fun ms => (f ms).bind srcFz) := ⟨PI.imp (pi_sq h.pe) fun σ H R q => by
  obtain ⟨la, ms, Hf, S, q⟩ := q
  refine ⟨la, ms, Hf, S, (After.bind q).imp fun r ms1 H1 Hf1 s1 S1 q1 v rv => ?_⟩
  unfold srcFz at q1
  cases e1 : frz ms1 r with
  | none => rw [e1] at q1; exact False.elim q1
  | some p =>
    obtain ⟨d, ms2⟩ := p
    rw [e1] at q1
    obtain ⟨Hf2, s2, S2, r2⟩ := rv_frz S1 rv e1
    have q2 := After.hf s2 q1
    cases r2 with
    | lst h r => exact .inl ⟨_, rfl, ⟨_, SqL.of (S2.sub _ _ h)⟩, q2 H1 Hf2 (.refl _) S2 _ _ _ (Grow.refl S2.sub) (itFix_lst h r)⟩
    | tup h r => exact .inr (.inl ⟨_, rfl, ⟨_, (h.mono S2.sub).sq⟩, q2 H1 Hf2 (.refl _) S2 _ _ _ (Grow.refl S2.sub) (itFix_tup h r)⟩)
    | str z => exact .inr (.inr ⟨_, rfl, q2 H1 Hf2 (.refl _) S2 _ _ _ (Grow.refl S2.sub) itFix_str⟩)
    | _ => exact False.elim q2⟩
end

/-! ### list comprehensions -/
def wipeM (ms : MS) : List Nat → MS
  | [] => ms
  | v :: vs => (wipeM ms vs).set v none
theorem wipeM_len (ms : MS) : ∀ vs : List Nat, (wipeM ms vs).length = ms.length
  | [] => rfl
  | v :: vs => by unfold wipeM; rw [List.length_set, wipeM_len ms vs]
theorem wipeM_some {ms : MS} {i : Nat} {x : SV} : ∀ {vs : List Nat}, (wipeM ms vs)[i]? = some (some x) → ms[i]? = some (some x) ∧ i ∉ vs
  | [], h => ⟨h, by simp⟩
  | v :: vs, h => by
    unfold wipeM at h
    by_cases hi : v = i
    · subst hi
      by_cases hv : v < (wipeM ms vs).length
      · rw [List.getElem?_set_self hv] at h; cases h
      · rw [List.getElem?_eq_none (by simpa using hv)] at h; cases h
    · rw [List.getElem?_set_ne hi] at h
      obtain ⟨h1, h2⟩ := wipeM_some h
      exact ⟨h1, by simp only [List.mem_cons, not_or]; exact ⟨fun e => hi e.symm, h2⟩⟩
theorem wipe_other {σ : L2.St} {i : Nat} : ∀ {vs : List Nat}, i ∉ vs → (wipe σ vs)[i]? = σ[i]?
  | [], _ => rfl
  | v :: vs, h => by
    simp only [List.mem_cons, not_or] at h
    unfold wipe
    rw [List.getElem?_set_ne (fun e => h.1 e.symm)]
    exact wipe_other h.2
section
variable {K : KW} {la : Fm} {ms : MS} {σ : L2.St} {H Hf : Hp}
theorem SR.wipe (S : SR K la ms σ H Hf) (vs : List Nat) : SR K la (wipeM ms vs) (L2.wipe σ vs) H Hf where
  len := by rw [wipeM_len, wipe_length]; exact S.len
  dat := fun i d h => by
    obtain ⟨h1, h2⟩ := wipeM_some h
    rw [wipe_other h2]
    exact S.dat i d h1
  own := fun i l d h => by
    obtain ⟨h1, h2⟩ := wipeM_some h
    rw [wipe_other h2]
    exact S.own i l d h1
  apart := fun i j a l d l' d' hi hj ei ej => by
    obtain ⟨h1, h2⟩ := wipeM_some hi
    obtain ⟨h3, h4⟩ := wipeM_some hj
    rw [wipe_other h2] at ei
    rw [wipe_other h4] at ej
    exact S.apart i j a l d l' d' h1 h3 ei ej
  sub := S.sub
  fr := S.fr
theorem SR.unwipe {vs : List Nat} (S : SR K la ms (L2.wipe σ vs) H Hf) : SR K la ms σ H Hf where
  len := by rw [S.len, wipe_length]
  dat := fun i d h => let ⟨v, e, r⟩ := S.dat i d h; ⟨v, (wipe_some e).1, r⟩
  own := fun i l d h => let ⟨a, o, e, r⟩ := S.own i l d h; ⟨a, o, (wipe_some e).1, r⟩
  apart := fun i j a l d l' d' hi hj ei ej => by
    obtain ⟨a1, _, e1, _⟩ := S.own i l d hi
    obtain ⟨a2, _, e2, _⟩ := S.own j l' d' hj
    have q1 := (wipe_some e1).1
    have q2 := (wipe_some e2).1
    rw [ei] at q1; rw [ej] at q2
    cases q1; cases q2
    exact S.apart i j a l d l' d' hi hj e1 e2
  sub := S.sub
  fr := S.fr
/-- the frame with one object more -/
abbrev Fm.with (la : Fm) (D : Addr) (o : HO) : Fm := ⟨la.la, upd la.fr D o⟩
theorem SR.framed {D : Addr} {o : HO} (S : SR K la ms σ H Hf) (h : H D = none) : SR K (la.with D o) ms σ (upd H D o) Hf where
  len := S.len
  dat := S.dat
  own := fun i l d hi => by
    obtain ⟨a, ob, e, m, f, n, q, r⟩ := S.own i l d hi
    have hd : a ≠ D := fun z => by subst z; rw [h] at q; cases q
    exact ⟨a, ob, e, m, by show upd la.fr D o a = none; rw [upd_ne hd]; exact f, n, by rw [upd_ne hd]; exact q, r⟩
  apart := S.apart
  sub := S.sub.trans (same_upd h)
  fr := fun a ob e => by
    have e : upd la.fr D o a = some ob := e
    by_cases hd : a = D
    · subst hd
      rw [upd_same] at e ⊢
      exact ⟨e, same_none S.sub h⟩
    · rw [upd_ne hd] at e ⊢
      exact S.fr a ob e
theorem SR.reframed {D : Addr} {o o' : HO} (S : SR K (la.with D o) ms σ H Hf) : SR K (la.with D o') ms σ (upd H D o') Hf where
  len := S.len
  dat := S.dat
  own := fun i l d hi => by
    obtain ⟨a, ob, e, m, f, n, q, r⟩ := S.own i l d hi
    have f : upd la.fr D o a = none := f
    have hd : a ≠ D := fun z => by subst z; rw [upd_same] at f; cases f
    rw [upd_ne hd] at f
    exact ⟨a, ob, e, m, by show upd la.fr D o' a = none; rw [upd_ne hd]; exact f, n, by rw [upd_ne hd]; exact q, r⟩
  apart := S.apart
  sub := fun b u e => by
    have hd : b ≠ D := fun z => by
      subst z
      rw [(S.fr b o (by show upd la.fr b o b = some o; exact upd_same)).2] at e
      cases e
    rw [upd_ne hd]
    exact S.sub b u e
  fr := fun a ob e => by
    have e : upd la.fr D o' a = some ob := e
    by_cases hd : a = D
    · subst hd
      rw [upd_same] at e ⊢
      exact ⟨e, (S.fr a o (by show upd la.fr a o a = some o; exact upd_same)).2⟩
    · rw [upd_ne hd] at e ⊢
      exact S.fr a ob (by show upd la.fr D o a = some ob; rw [upd_ne hd]; exact e)
theorem SR.unframed {D : Addr} {o : HO} (hD : la.fr D = none) (S : SR K (la.with D o) ms σ H Hf) : SR K la ms σ H Hf where
  len := S.len
  dat := S.dat
  own := fun i l d hi => by
    obtain ⟨a, ob, e, m, f, n, q, r⟩ := S.own i l d hi
    have f : upd la.fr D o a = none := f
    have hd : a ≠ D := fun z => by subst z; rw [upd_same] at f; cases f
    rw [upd_ne hd] at f
    exact ⟨a, ob, e, m, f, n, q, r⟩
  apart := S.apart
  sub := S.sub
  fr := fun a ob e => S.fr a ob (by
    have hd : a ≠ D := fun z => by subst z; rw [hD] at e; cases e
    show upd la.fr D o a = some ob
    rw [upd_ne hd]; exact e)
theorem SR.inFrame {D : Addr} {o : HO} (S : SR K (la.with D o) ms σ H Hf) : H D = some o ∧ Hf D = none := S.fr D o (by show upd la.fr D o D = some o; exact upd_same)
end
/-- in a comprehension nothing is raised -/
def noExc {α : Type} (x : Out α) : Out α := match x with
  | .ok a ms => .ok a ms
  | _ => .stuck
@[simp] theorem noExc_ok {α : Type} (a : α) (ms : MS) : noExc (.ok a ms) = .ok a ms := rfl
@[simp] theorem noExc_stuck {α : Type} : noExc (.stuck : Out α) = .stuck := rfl
@[simp] theorem noExc_exc {α : Type} (c : Str) (fs : List (Str × PyData)) (ms : MS) : noExc (.exc c fs ms : Out α) = .stuck := rfl
def W0 : WX := fun _ _ _ _ => False
def grown (acc : List PyData) (r : Rv) (ms : MS) : Out (List PyData) := match frz ms r with
  | some (d, ms') => if acc.length < SZ then .ok (acc ++ [d]) ms' else .stuck
  | none => .stuck
def ofSO {α : Type} (x : SO) (k : MS → Out α) : Out α := match x with
  | .nx ms => k ms
  | _ => .stuck
@[simp] theorem ofSO_nx {α : Type} (ms : MS) (k : MS → Out α) : ofSO (.nx ms) k = k ms := rfl
def lcTurn (vs : List Nat) (g : PyData → MS → SO) (t : MT) (f : ME) (d : PyData) (acc : List PyData) (ms : MS) : Out (List PyData) :=
  ofSO (g d ms) fun ms1 => (noExc (t ms1)).bind fun b ms2 => (if b = true then (noExc (f ms2)).bind (grown acc) else .ok acc ms2).bind fun acc' ms3 => .ok acc' (wipeM ms3 vs)
def lcF (vs : List Nat) (g : PyData → MS → SO) (t : MT) (f : ME) : List PyData → List PyData → MS → Out (List PyData)
  | [], acc, ms => .ok acc ms
  | d :: ds, acc, ms => (lcTurn vs g t f d acc ms).bind (lcF vs g t f ds)
def lcL (vs : List Nat) (g : PyData → MS → SO) (t : MT) (f : ME) (j : Nat) : Nat → Nat → List PyData → MS → Out (List PyData)
  | 0, _, _, _ => .stuck
  | n + 1, i, acc, ms => match view ms (.slot j) with
    | some (.list ds) => (match ds[i]? with
      | some d => (lcTurn vs g t f d acc ms).bind (lcL vs g t f j n (i + 1))
      | none => .ok acc ms)
    | _ => .stuck
/-- the most turns over a list that stands in a slot -/
def lcN : Nat := 16777300
def lcS (vs : List Nat) (g : PyData → MS → SO) (t : MT) (f : ME) (src : Src) (ms : MS) : Out (List PyData) := match src with
  | .fix ds => lcF vs g t f ds [] (wipeM ms vs)
  | .live j => lcL vs g t f j lcN 0 [] (wipeM ms vs)
def newL (acc : List PyData) (ms : MS) : Out Rv := .ok (.new (.list acc)) ms
def mLc (vs : List Nat) (fi : MS → Out Src) (g : PyData → MS → SO) (t : MT) (f : ME) : ME := fun ms => ((fi ms).bind (lcS vs g t f)).bind newL
def mYes : MT := fun ms => .ok true ms
structure TXs (X : Cx) (W : WX) (es : List Expr) (f : MT) : Prop where
  pts : PTs X es (tTx (kw X) X.mg W f)
theorem PTs.imp {X : Cx} {e : List Expr} {t t' : TT} (h : PTs X e t) (k : ∀ σ H Q, t' σ H Q → t σ H Q) : PTs X e t' := ⟨fun pins s σ H Q I q => h.run pins s σ H Q I (k _ _ _ q)⟩
theorem txs_nil {X : Cx} {W : WX} : TXs X W [] mYes := ⟨PTs.imp pts_nil fun σ H Q q => by
  obtain ⟨la, ms, Hf, S, q⟩ := q
  exact q H Hf (.refl _) S⟩
theorem txs_one {X : Cx} {W : WX} {e : Expr} {f : MT} (h : TX X W e f) : TXs X W [e] f := ⟨pts_one h.pt⟩
theorem noExc_after {K : KW} {mg : Str → Option Value} {W W' : WX} {la la' : Fm} {σ σ' : L2.St} {Hf : Hp} {α β : Type} {G : β → MS → Hp → Hp → Prop} {G' : α → MS → Hp → Hp → Prop} {x : Out α} {k : α → MS → Out β} (h : After K mg W la σ Hf G ((noExc x).bind k))
    (hk : ∀ a ms1 H1 Hf1, Same Hf Hf1 → SR K la' ms1 σ' H1 Hf1 → After K mg W la σ Hf1 G (k a ms1) → G' a ms1 H1 Hf1) : After K mg W' la' σ' Hf G' x := by
  cases x with
  | stuck => exact False.elim h
  | ok a ms => exact fun H' Hf' s' S' => hk a ms H' Hf' s' S' (After.hf s' h)
  | exc c fs ms => exact False.elim h
section
variable {X : Cx} {W : WX}
theorem lc_turn {K : KW} {mg : Str → Option Value} {la : Fm} {σ : L2.St} {vs : List Nat} {g : PyData → MS → SO} {t : MT} {f : ME} {d : PyData} {acc : List PyData} {accV : List V} {ms : MS} {H Hf : Hp} {D : Addr} {x : V} {β : Type} {G : β → MS → Hp → Hp → Prop} {k : List PyData → MS → Out β} {Nx : Hp → Prop}
    (hgn : ∀ d ms, g d ms = .stuck ∨ ∃ ms', g d ms = .nx ms')
    (S : SR K (la.with D (.lst accV)) ms (L2.wipe σ vs) H Hf) (ra : RepAll K Hf accV acc) (rx : Rep K Hf x d)
    (q : After K mg W la σ Hf G ((lcTurn vs g t f d acc ms).bind k))
    (hN : ∀ acc' accV' ms' H' Hf', Same Hf Hf' → SR K (la.with D (.lst accV')) ms' (L2.wipe σ vs) H' Hf' → RepAll K Hf' accV' acc' → After K mg W la σ Hf' G (k acc' ms') → Nx H') :
    tGx K vs g x (L2.wipe σ vs) H fun σ2 H2 => L2.wipe σ2 vs = L2.wipe σ vs ∧ tTx K mg W0 t σ2 H2 fun b H3 =>
      if b = true then tE K mg W0 f σ2 H3 fun y H4 => ∃ acc, H4 D = some (.lst acc) ∧ acc.length < sizeLine ∧ Nx (upd H4 D (.lst (acc ++ [y]))) else Nx H3 := by
  unfold lcTurn at q
  rcases hgn d ms with e | ⟨ms1, e⟩
  · rw [e] at q; exact False.elim q
  · rw [e] at q
    have ww : ∀ σ : L2.St, L2.wipe (L2.wipe σ vs) vs = L2.wipe σ vs := by
      intro σ
      have : ∀ (T : List Nat) (τ : L2.St), (∀ i ∈ T, ∀ x, τ[i]? ≠ some (some x)) → L2.wipe τ T = τ := by
        intro T
        induction T with
        | nil => intro τ _; rfl
        | cons j T ih =>
          intro τ hτ
          unfold L2.wipe
          rw [ih τ fun i hi => hτ i (List.mem_cons_of_mem _ hi)]
          apply List.ext_getElem?
          intro n
          by_cases hn : j = n
          · subst hn
            by_cases hl : j < τ.length
            · rw [List.getElem?_set_self hl]
              have := hτ j List.mem_cons_self
              cases hq : τ[j]? with
              | none => rw [List.getElem?_eq_none_iff] at hq; omega
              | some o => cases o with
                | none => rfl
                | some x => exact absurd hq (this x)
            · rw [List.getElem?_eq_none (by rw [List.length_set]; omega), List.getElem?_eq_none (by omega)]
          · rw [List.getElem?_set_ne hn]
      exact this vs _ fun i hi x hx => absurd hi (wipe_some hx).2
    have q : After K mg W la σ Hf G (((noExc (t ms1)).bind fun b ms2 => (if b = true then (noExc (f ms2)).bind (grown acc) else .ok acc ms2).bind fun acc' ms3 => .ok acc' (wipeM ms3 vs)).bind k) := q
    refine ⟨la.with D (.lst accV), ms, Hf, d, ms1, S, rx, e, fun σ2 H2 Hf2 s2 S2 w2 => ?_⟩
    have w2' : L2.wipe σ2 vs = L2.wipe σ vs := w2.trans (ww σ)
    have qb : ∀ (x : Out Bool) (F : Bool → MS → Out (List PyData)), ((noExc x).bind F).bind k = (noExc x).bind fun b m => (F b m).bind k := fun x F => by cases x <;> rfl
    rw [qb] at q
    refine ⟨w2', la.with D (.lst accV), ms1, Hf2, S2, noExc_after (q.hf s2) fun b ms2 H3 Hf3 s3 S3 q3 => ?_⟩
    cases b with
    | false =>
      rw [if_neg Bool.false_ne_true] at q3 ⊢
      have S3' := S3.wipe vs
      rw [w2'] at S3'
      exact hN acc accV (wipeM ms2 vs) H3 Hf3 (s2.trans s3) S3' (ra.mono (s2.trans s3)) q3
    | true =>
      rw [if_pos rfl] at q3 ⊢
      have qe : ∀ (x : Out Rv), ((((noExc x).bind (grown acc)).bind fun acc' ms3 => (.ok acc' (wipeM ms3 vs) : Out (List PyData))).bind k) = (noExc x).bind fun r m => ((grown acc r m).bind fun acc' ms3 => (.ok acc' (wipeM ms3 vs) : Out (List PyData))).bind k := fun x => by cases x <;> rfl
      rw [qe] at q3
      refine ⟨la.with D (.lst accV), ms2, Hf3, S3, noExc_after q3 fun r ms3 H4 Hf4 s4 S4 q4 y ry => ?_⟩
      unfold grown at q4
      cases e4 : frz ms3 r with
      | none => rw [e4] at q4; exact False.elim q4
      | some p =>
        obtain ⟨dy, ms4⟩ := p
        rw [e4] at q4
        simp only at q4
        obtain ⟨Hf5, s5, S5, r5⟩ := rv_frz S4 ry e4
        by_cases hl : acc.length < SZ
        · rw [if_pos hl] at q4
          have hal : accV.length = acc.length := ra.length
          refine ⟨accV, S4.inFrame.1, by rw [hal, szLine]; exact hl, ?_⟩
          have S6 : SR K (la.with D (.lst (accV ++ [y]))) ms4 σ2 (upd H4 D (.lst (accV ++ [y]))) Hf5 := S5.reframed
          have S7 := S6.wipe vs
          rw [w2'] at S7
          have sm := ((s2.trans s3).trans s4).trans s5
          exact hN (acc ++ [dy]) (accV ++ [y]) (wipeM ms4 vs) _ Hf5 sm S7 ((ra.mono sm).append (.cons r5 .nil)) (After.hf s5 q4)
        · rw [if_neg hl] at q4; exact False.elim q4
variable {tg iter elt : Expr} {ifs : List Expr} {scope : Scope} {pos : Pos}
theorem bind_bind {α β γ : Type} (x : Out α) (f : α → MS → Out β) (g : β → MS → Out γ) : (x.bind f).bind g = x.bind fun a m => (f a m).bind g := by cases x <;> rfl
theorem tE_lc {vs : List Nat} {fi : MS → Out Src} {g : PyData → MS → SO} {t : MT} {f : ME} {σ : L2.St} {H : Hp} {Q : VK} (hgn : ∀ d ms, g d ms = .stuck ∨ ∃ ms', g d ms = .nx ms') (q : tE (kw X) X.mg W (mLc vs fi g t f) σ H Q) :
    tLc (tIx (kw X) X.mg W fi) (tGx (kw X) vs g) (tTx (kw X) X.mg W0 t) (tE (kw X) X.mg W0 f) vs σ H Q := by
  obtain ⟨la, ms, Hf, S, q⟩ := q
  unfold mLc at q
  rw [bind_bind] at q
  refine ⟨la, ms, Hf, S, (After.bind q).imp fun src ms1 H1 Hf1 s1 S1 q1 J H2 Hf2 G2 hJ D hD => ?_⟩
  have S2 := S1.grow G2
  have q2 := After.hf G2.ff q1
  have hla : la.fr D = none := by
    cases hq : la.fr D with
    | none => rfl
    | some o => rw [(S2.fr D o hq).1] at hD; cases hD
  have S3 := (S2.wipe vs).framed (o := .lst []) hD
  have fin : ∀ {acc : List PyData} {accV : List V} {ms' : MS} {H' Hf' : Hp}, SR (kw X) (la.with D (.lst accV)) ms' (L2.wipe σ vs) H' Hf' → RepAll (kw X) Hf' accV acc →
      After (kw X) X.mg W la σ Hf' (fun r ms' H' Hf' => ∀ v, RvR (kw X) la ms' σ H' Hf' v r → Q v H') (newL acc ms') → Q (.ref D) H' := fun {acc accV ms' H' Hf'} S' ra q' => by
    refine q' H' Hf' (.refl _) (S'.unframed hla).unwipe _ ⟨D, .lst accV, rfl, hla, S'.inFrame.2, S'.inFrame.1, .lst ra, fun i l d' hi z => ?_⟩
    obtain ⟨a, ob, e, m, fr, n, qq, r⟩ := S'.own i l d' hi
    have e2 := (wipe_some e).1
    rw [z] at e2
    cases e2
    have fr : upd la.fr D (.lst accV) D = none := fr
    rw [upd_same] at fr
    cases fr
  cases src with
  | fix ds =>
    have hJ : ItFix (kw X) Hf2 J ds := hJ
    refine ⟨fun i m H' => m = ds.length - i ∧ i ≤ ds.length ∧ ∃ acc accV ms' Hf', Same Hf2 Hf' ∧ SR (kw X) (la.with D (.lst accV)) ms' (L2.wipe σ vs) H' Hf' ∧ RepAll (kw X) Hf' accV acc ∧
      After (kw X) X.mg W la σ Hf' (fun r ms' H' Hf' => ∀ v, RvR (kw X) la ms' σ H' Hf' v r → Q v H') ((lcF vs g t f (ds.drop i) acc ms').bind newL), ⟨_, rfl, Nat.zero_le _, [], [], _, Hf2, .refl _, S3, .nil, q2⟩, ?_⟩
    rintro i m H' ⟨rfl, hi, acc, accV, ms', Hf', s', S', ra, q'⟩
    obtain ⟨j1, j2⟩ := hJ i H' Hf' s' S'.sub
    by_cases hl : i < ds.length
    · obtain ⟨hgo, hy⟩ := j2 ds[i] (List.getElem?_eq_getElem hl)
      have ed : ds.drop i = ds[i] :: ds.drop (i + 1) := List.drop_eq_getElem_cons hl
      rw [ed] at q'
      refine .inr ⟨hgo, fun H'' => ∃ acc accV ms' Hf', Same Hf2 Hf' ∧ SR (kw X) (la.with D (.lst accV)) ms' (L2.wipe σ vs) H'' Hf' ∧ RepAll (kw X) Hf' accV acc ∧
        After (kw X) X.mg W la σ Hf' (fun r ms' H' Hf' => ∀ v, RvR (kw X) la ms' σ H' Hf' v r → Q v H') ((lcF vs g t f (ds.drop (i + 1)) acc ms').bind newL), fun H'' h => ⟨_, by omega, rfl, hl, h⟩, fun x H4 hx => ?_⟩
      obtain ⟨Hf4, G4, r4⟩ := hy x H4 hx
      have S4 := S'.grow G4
      unfold lcF at q'
      rw [bind_bind] at q'
      exact lc_turn hgn S4 (ra.mono G4.ff) r4 (After.hf G4.ff q') fun acc' accV' ms5 H5 Hf5 s5 S5 ra5 q5 => ⟨acc', accV', ms5, Hf5, (s'.trans G4.ff).trans s5, S5, ra5, q5⟩
    · have ei : i = ds.length := by omega
      rw [List.drop_of_length_le (by omega)] at q'
      exact .inl ⟨j1 ei, fin S' ra q'⟩
  | live j =>
    obtain ⟨a, ha, hJ⟩ := hJ
    refine ⟨fun i m H' => ∃ acc accV ms' Hf', Same Hf2 Hf' ∧ SR (kw X) (la.with D (.lst accV)) ms' (L2.wipe σ vs) H' Hf' ∧ RepAll (kw X) Hf' accV acc ∧
      After (kw X) X.mg W la σ Hf' (fun r ms' H' Hf' => ∀ v, RvR (kw X) la ms' σ H' Hf' v r → Q v H') ((lcL vs g t f j m i acc ms').bind newL), ⟨lcN, [], [], _, Hf2, .refl _, S3, .nil, q2⟩, ?_⟩
    rintro i m H' ⟨acc, accV, ms', Hf', s', S', ra, q'⟩
    cases m with
    | zero => exact False.elim q'
    | succ m =>
      unfold lcL at q'
      cases ev : view ms' (.slot j) with
      | none => rw [ev] at q'; exact False.elim q'
      | some dd =>
        rw [ev] at q'
        cases dd with
        | list ds =>
          simp only at q'
          -- the slot's present object is the list that is walked
          have hcase : ∃ xs, H' a = some (.lst xs) ∧ RepAll (kw X) Hf' xs ds := by
            rcases view_slot ev with hd | ⟨l, ho⟩
            · obtain ⟨v, e, r⟩ := S'.dat j _ hd
              have e2 := (wipe_some e).1
              rw [ha] at e2; cases e2
              cases r with
              | lst h r => exact ⟨_, S'.sub _ _ h, r⟩
            · obtain ⟨b, o, e, _, _, _, hq, r⟩ := S'.own j _ _ ho
              have e2 := (wipe_some e).1
              rw [ha] at e2; cases e2
              cases r with
              | lst r => exact ⟨_, hq, r⟩
          obtain ⟨xs, hxs, rxs⟩ := hcase
          obtain ⟨j1, j2⟩ := hJ i H' xs hxs
          cases hd : ds[i]? with
          | none =>
            rw [hd] at q'
            have hle : ds.length ≤ i := List.getElem?_eq_none_iff.mp hd
            exact .inl ⟨j1 (by rw [rxs.length]; exact hle), fin S' ra q'⟩
          | some d =>
            rw [hd] at q'
            obtain ⟨x, hx, rx⟩ := rxs.get' hd
            obtain ⟨hgo, hy⟩ := j2 x hx
            refine .inr ⟨hgo, fun H'' => ∃ acc accV ms' Hf', Same Hf2 Hf' ∧ SR (kw X) (la.with D (.lst accV)) ms' (L2.wipe σ vs) H'' Hf' ∧ RepAll (kw X) Hf' accV acc ∧
              After (kw X) X.mg W la σ Hf' (fun r ms' H' Hf' => ∀ v, RvR (kw X) la ms' σ H' Hf' v r → Q v H') ((lcL vs g t f j m (i + 1) acc ms').bind newL), fun H'' h => ⟨m, Nat.lt_succ_self m, h⟩, fun x' H4 hx' => ?_⟩
            obtain ⟨e1, e2⟩ := hy x' H4 hx'
            subst e1; subst e2
            simp only [bind_bind] at q'
            exact lc_turn hgn S' ra rx q' fun acc' accV' ms5 H5 Hf5 s5 S5 ra5 q5 => ⟨acc', accV', ms5, Hf5, s'.trans s5, S5, ra5, q5⟩
        | _ => exact False.elim q'
theorem ex_lc {own : List (Str × Nat)} {vs : List Nat} {fi : MS → Out Src} {g : PyData → MS → SO} {t : MT} {f : ME} (hc : X.calm = true) (hN : X.N.Nodup) (hi : IX X W tg iter fi) (ok : BlkOk X.N X.env.scope scope own)
    (hg : ∀ (s : Shared) (H : Hp) (C : Addr) (cl : List (Str × Addr)) (fp : List Addr), GX (X.blk s H scope (compEnvC scope cl C X.env) fp) tg vs g) (hgn : ∀ d ms, g d ms = .stuck ∨ ∃ ms', g d ms = .nx ms')
    (ht : ∀ (s : Shared) (H : Hp) (C : Addr) (cl : List (Str × Addr)) (fp : List Addr), TXs (X.blk s H scope (compEnvC scope cl C X.env) fp) W0 ifs t)
    (he : ∀ (s : Shared) (H : Hp) (C : Addr) (cl : List (Str × Addr)) (fp : List Addr), EX (X.blk s H scope (compEnvC scope cl C X.env) fp) W0 elt f)
    (hvs : own.map (·.2) = vs := by rfl) (hs : ∀ x, foldedSetIterable iter X.env x = pure x := by intro _; rfl) :
    EX X W (.ListComp elt [⟨tg, iter, ifs, 0⟩] scope pos) (mLc vs fi g t f) := by
  have h := pe_lc (elt := elt) (g := tGx (kw X) vs g) (tt := tTx (kw X) X.mg W0 t) (te := tE (kw X) X.mg W0 f) (pos := pos) hc hN hi.pi ok (fun s H C cl fp => (hg s H C cl fp).pg) (fun s H C cl fp => (ht s H C cl fp).pts) (fun s H C cl fp => (he s H C cl fp).pe) hs
  rw [hvs] at h
  exact ⟨PE.imp h fun σ H Q q => tE_lc hgn q⟩
/-- name = [..] on one line, the name a plain local -/
theorem sx_setLc (i : Nat) {y : Str} {py spos : Pos} {own : List (Str × Nat)} {vs : List Nat} {fi : MS → Out Src} {g : PyData → MS → SO} {t : MT} {f : ME} (hc : X.calm = true) (hN : X.N.Nodup) (hy : X.N[i]? = some y) (hyl : X.env.scope.names.lookup y = some .local)
    (hsw : swapsWith (.ListComp elt [⟨tg, iter, ifs, 0⟩] scope pos) (some (.Name y py)) spos.line X.env = pure true) (hi : IX X W tg iter fi) (ok : BlkOk X.N X.env.scope scope own)
    (hg : ∀ (s : Shared) (H : Hp) (C : Addr) (cl : List (Str × Addr)) (fp : List Addr), GX (X.blk s H scope (compEnvC scope cl C X.env) fp) tg vs g) (hgn : ∀ d ms, g d ms = .stuck ∨ ∃ ms', g d ms = .nx ms')
    (ht : ∀ (s : Shared) (H : Hp) (C : Addr) (cl : List (Str × Addr)) (fp : List Addr), TXs (X.blk s H scope (compEnvC scope cl C X.env) fp) W0 ifs t)
    (he : ∀ (s : Shared) (H : Hp) (C : Addr) (cl : List (Str × Addr)) (fp : List Addr), EX (X.blk s H scope (compEnvC scope cl C X.env) fp) W0 elt f)
    (hvs : own.map (·.2) = vs := by rfl) (hs : ∀ x, foldedSetIterable iter X.env x = pure x := by intro _; rfl) :
    SX X W (.Assign [.Name y py] (.ListComp elt [⟨tg, iter, ifs, 0⟩] scope pos) spos) (mSet i (mLc vs fi g t f)) := by
  have h := ps_setLc (elt := elt) (g := tGx (kw X) vs g) (tt := tTx (kw X) X.mg W0 t) (te := tE (kw X) X.mg W0 f) (pos := pos) hc hN hy hyl hsw hi.pi ok (fun s H C cl fp => (hg s H C cl fp).pg) (fun s H C cl fp => (ht s H C cl fp).pts) (fun s H C cl fp => (he s H C cl fp).pe) hs
  rw [hvs] at h
  refine ⟨PS.imp h fun D σ H q => ?_⟩
  obtain ⟨la, ms, Hf, S, q⟩ := q
  exact tE_lc hgn ⟨la, ms, Hf, S, (AfterS.of q).imp fun r ms1 H1 Hf1 s1 S1 q1 v rv => asg_ok S1 rv q1⟩
end
end Pl

/-! Pg -/
set_option Elab.async false
set_option linter.all false
set_option maxRecDepth 100000
set_option maxHeartbeats 4000000
/-! Defs that run while nothing is being shown (no repr is under way): what they promise, how they are called, the law at its outermost call. -/
namespace Pl
open PySem PySem.Spec PyProof.Rows L2
structure GdOk (P : Program) (w : World) (K : PySem.W.Frag) (mg : Str → Option Value) (base : Heap) (k : Nat) (f : Addr) (fd : FuncData) (ps : List Str) (sp : Sp) : Prop where
  lenG : ∀ vs H Q E, sp vs H Q E → vs.length = ps.length
  runG : ∀ (A : Around), A.guards = some [] → ∀ (outer : List Env) (s : Shared) (H : Hp) (args : Args) (us : List Value) (vs : List V) (Q : VK) (E : XK), Room k A → Env0 P w K mg base A outer s H → BindsTo s fd args (ps.zip us) → Vals vs us → sp vs H Q E →
    codeAny (model P w) A (.call (.ref f) args) (CR (L2.CX P w) outer P w H s Q E) s
theorem GdOk.mono {P : Program} {w : World} {K : PySem.W.Frag} {mg : Str → Option Value} {base : Heap} {j k : Nat} {f : Addr} {fd : FuncData} {ps : List Str} {sp : Sp} (F : GdOk P w K mg base j f fd ps sp) (h : j ≤ k) : GdOk P w K mg base k f fd ps sp :=
  ⟨F.lenG, fun A g outer s H args us vs Q E hr => F.runG A g outer s H args us vs Q E (hr.mono h)⟩
theorem GdOk.imp {P : Program} {w : World} {K : PySem.W.Frag} {mg : Str → Option Value} {base : Heap} {k : Nat} {f : Addr} {fd : FuncData} {ps : List Str} {sp sp' : Sp} (F : GdOk P w K mg base k f fd ps sp) (h : ∀ vs H Q E, sp' vs H Q E → sp vs H Q E) : GdOk P w K mg base k f fd ps sp' :=
  ⟨fun vs H Q E q => F.lenG vs H Q E (h _ _ _ _ q), fun A g outer s H args us vs Q E hr he hb hv hs => F.runG A g outer s H args us vs Q E hr he hb hv (h _ _ _ _ hs)⟩
section
variable {P : Program} {w : World} {K : PySem.W.Frag} {mg : Str → Option Value} {base : Heap}
/-- a def of the text, whatever its defaults -/
structure FunG (K : PySem.W.Frag) (x qual : Str) (st : Stmt) (f : Addr) (fd : FuncData) : Prop where
  exG : ∃ (oc : Value) (od : Option Addr) (dV kV doc pm : Value) (an : Option Addr) (cdv ct : Value) (osl : Array (Option Value)),
    fd = PySem.W.fnOf x qual (defArgs st) (defBody st) (defScope st) dV kV doc pm an cdv ct ∧ K.lookup f = some ⟨oc, od, .func fd, osl⟩ ∧ PySem.W.codeIn K cdv qual = true
theorem FunG.of {x qual : Str} {st : Stmt} {f : Addr} {fd : FuncData} (F : L2.Fun K x qual st f fd) : FunG K x qual st f fd := by
  obtain ⟨oc, od, kV, doc, pm, an, cdv, ct, osl, e, lk, hcd⟩ := F.ex
  exact ⟨oc, od, _, kV, doc, pm, an, cdv, ct, osl, e, lk, hcd⟩
/-- a def by its body -/
theorem gd_of {x qual : Str} {st : Stmt} {f : Addr} {fd : FuncData} {N ps : List Str} {k : Nat} {sp : Sp} (F : FunG K x qual st f fd) (S : FnScope N ps (defScope st)) (len : ∀ vs H Q E, sp vs H Q E → vs.length = ps.length)
    (body : ∀ (cdv : Value) (A : Around) (outer : List Env) (s : Shared) (H : Hp) (vs : List V) (Q : VK) (E : XK), Room k (A.deeper (envOfC qual (defScope st) s.heap.objs.size f cdv)) → (A.deeper (envOfC qual (defScope st) s.heap.objs.size f cdv)).guards = some [] → sp vs H Q E →
      ∃ t, PSs (cxOf (L2.CX P w) P w K mg base N qual (defScope st) f cdv A outer s H E) (defBody st) t ∧ t { nx := fun _ H' => Q .non H', rt := Q } (start N vs) H) : GdOk P w K mg base (k + 1) f fd ps sp := by
  obtain ⟨oc, od, dV, kV, doc, pm, an, cdv, ct, osl, rfl, lk, hcd⟩ := F.exG
  refine ⟨len, ?_⟩
  intro A g outer s H args us vs Q E hr e0 hb rv hsp
  have hl := len _ _ _ _ hsp
  have kept := fun (b : Addr) (o : Obj) (e : base.get? b = some o) => (e0.bs b o e).1
  have kin : K.In s.heap := e0.mod.kin.keeps kept
  have nolim : s.heap.NoLimit := e0.mod.nolimit.keeps kept
  refine codeAny_call_function hr.depth (kin _ _ lk) rfl S.co S.gen rfl (PySem.W.codeRec_of kin hcd) (hb _ _ _ _ ?_)
  refine wpAny_newFunctionEnv_cells S.kind ?_ ?_
  · rintro ⟨n, v⟩ hy
    cases S.par n (List.of_mem_zip hy).1 with
    | inl q => exact .inl q
    | inr q => exact .inr ⟨q, PySem.W.cellsFrom_some _ _ _ (.inl q)⟩
  · intro env heq s2 he
    subst heq
    refine ⟨nolim.keeps he.toInCall.keep, codeAny_func ?_⟩
    obtain ⟨t, ht, hq⟩ := body cdv A outer s H vs Q E (hr.deeper _) g hsp
    have I : Inv (cxOf (L2.CX P w) P w K mg base N qual (defScope st) f cdv A outer s H E) [] (start N vs) H _ := inv_start S hr.hd e0 hl rv he
    refine wpAny_mono (ht.run [] _ (start N vs) H _ I hq) ?_ (fun e s' hs => hs)
    intro fl s' hs
    cases fl with
    | ret u =>
      obtain ⟨v, σ', H', J, r, q⟩ := hs
      exact ⟨v, H', J.os, J.bare, J.base, J.hok, r, q⟩
    | next =>
      obtain ⟨σ', H', J, q⟩ := hs
      exact ⟨.non, H', J.os, J.bare, J.base, J.hok, rfl, q⟩
    | brk =>
      obtain ⟨_, _, _, q⟩ := hs
      exact q.elim
    | cont =>
      obtain ⟨_, _, _, q⟩ := hs
      exact q.elim
end
section
variable {X : Cx} {k : Nat} {f : Addr} {fd : FuncData} {ps : List Str} {sp : Sp} {E : St → XK} {x : Str} {p pos : Pos} {e : Expr} {es : List Expr} {t : TA}
theorem gd_call (F : GdOk X.prog X.w X.K X.mg X.base k f fd ps sp) (hG : X.A.guards = some []) (hr : Room k X.A) (hg : Gl X x) (hm : X.mg x = some (.ref f)) (hk : PySem.W.keepIn X.K (.ref f) = true) (hb : Binds X.K fd ps []) (hx : ∀ σ, PassesAt (L2.CX X.prog X.w) X σ (E σ))
    (ha : PA X (e :: es) t) (hdb : (x == ("__debug__" : Str)) = false := by decide) (he : starEach (e :: es) X.env = (false, eval e X.env) :: starEach es X.env := by rfl) (hpl : (backTo pos (starEach es X.env)).any (·.1) = false := by rfl) :
    PE X (.Call (.Name x p) (e :: es) [] pos) (tCallS sp E t) := by
  constructor
  intro pins s σ H Q I h
  refine wpAny_Call_Name_kw (ld_glob I hg hm ?_ hdb)
  refine PySem.W.callWith_K (h₀ := X.base) I.ok.mod.kin hk (thn (ha.run pos pins s σ H _ I h) ?_) he hpl
  rintro us s1 ⟨vs, H1, J, rv, q⟩
  refine ⟨J.kIn, ?_⟩
  have bound : BindsTo s1 fd ⟨us, []⟩ (ps.zip us) := by
    have b := hb s1 us J.kIn (by rw [List.append_nil, ← rv.length]; exact F.lenG _ _ _ _ q)
    rwa [List.append_nil] at b
  refine wpAny_call (codeAny_mono (F.runG X.A hG X.stack s1 H1 ⟨us, []⟩ us vs Q (E σ) hr J.env0 bound rv q) ?_)
  intro r s' hq
  match r, hq with
  | .error e, hq => exact hx σ pins H1 s1 e s' J hq
  | .ok (.ret u), hq => exact J.after hq
end
/-- the law at its outermost call -/
theorem gd_law {P : Program} {w : World} {K : PySem.W.Frag} {mg mb : Str → Option Value} {k : Nat} {fa a : Addr} {fd : FuncData} {x : Str} {sp : Sp} {s₁ : Shared} {vs : List Value} {ns : List Int}
    (kin : K.In s₁.heap) (hns : s₁.heap.Ns mainGlobals mg) (hb : s₁.heap.Ns builtinsNs mb) (hbb : ∀ x : Str, x ≠ "__name__" → mb x = bootBuiltins x) (hlim : s₁.heap.NoLimit) (hg : s₁.gens = #[])
    (ha : s₁.heap.get? a = some { cls := .type "list", data := .seq vs.toArray }) (hi : IntsAre vs ns) (hl : ns.length ≤ sizeLine) (hr : Room k callerA)
    (F : ∀ base : Heap, K.In base → base.Ns mainGlobals mg → GdOk P w K mg base k fa fd [x] sp) (hbind : ∀ (s : Shared) (u : Value), BindsTo s fd ⟨[u], []⟩ [(x, u)])
    (hsp : ∀ H : Hp, Only H → SqL K H a (ns.map V.int) → sp [.ref a] H (fun v _ => v = .bl true) fun _ _ _ => False)
    (hCX : ∀ H e s', L2.CX P w [] H s₁ (fun _ _ _ => False) e s' → False) :
    codeAny (model P w) callerA (.call (.ref fa) ⟨[.ref a], []⟩) (fun r s' => r = .ok (.ret (.bool true)) ∧ OldK s₁.heap s'.heap ∧ s'.os = s₁.os ∧ AllBare s'.gens) s₁ := by
  have rv := vals_ints hi
  have lenV := hi.length
  -- the abstract heap: the script alone, unless it is one of the module's own
  obtain ⟨H, only, seq, ok, at_a, notK⟩ : ∃ H : Hp, Only H ∧ SqL K H a (ns.map V.int) ∧ HOk P w H s₁.heap ∧ (∀ b, H b ≠ none → b = a) ∧ (H a ≠ none → K.lookup a = none) := by
    cases q : K.lookup a with
    | some o =>
      have e := kin a o q
      rw [ha] at e
      cases e
      exact ⟨fun _ => none, fun _ => .inl rfl, .inr ⟨_, vs.toArray, _, q, rfl, rfl, rfl, by rw [List.size_toArray, lenV]; exact hl, by simpa using rv⟩, (fun b u z => nomatch (show (none : Option HO) = some u from z)), (fun b z => absurd rfl z), fun z => absurd rfl z⟩
    | none =>
      obtain ⟨O, hO⟩ : ∃ O : HO, O = .frz { cls := .type "list", data := .seq vs.toArray } (.lst (ns.map V.int)) := ⟨_, rfl⟩
      have one : ∀ b u, (if b = a then some O else none) = some u → b = a ∧ u = O := fun b u z => by
        by_cases e : b = a
        · rw [if_pos e] at z; cases z; exact ⟨e, rfl⟩
        · rw [if_neg e] at z; cases z
      refine ⟨fun b => if b = a then some O else none, fun b => ?_, .inl (.inr ⟨{ cls := .type "list", data := .seq vs.toArray }, by rw [← hO]; exact if_pos rfl⟩), fun b u z => ?_, fun b z => ?_, fun _ => rfl⟩
      · by_cases e : b = a
        · exact .inr ⟨_, _, by rw [hO]; exact if_pos e⟩
        · exact .inl (if_neg e)
      · obtain ⟨e1, e2⟩ := one b u z
        rw [e2, hO, e1]
        exact ⟨ha, by rw [List.length_map]; exact hl, vs, _, rv, ha⟩
      · cases e : (if b = a then some O else none : Option HO) with
        | none => exact absurd e z
        | some u => exact (one b u e).1
  have list_at : ∀ {b : Addr} {o : Obj}, s₁.heap.get? b = some o → H b ≠ none → o = { cls := .type "list", data := .seq vs.toArray } := fun {b o} e n => by
    rw [at_a b n, ha] at e
    exact (Option.some.inj e).symm
  have ns_hid : ∀ {b : Addr} {m : Str → Option Value}, s₁.heap.Ns b m → (hidT s₁.heap H).Ns b m := by
    rintro b m ⟨o, es, ep, e, d, r⟩
    refine ⟨o, es, ep, hidT_get e ?_, d, r⟩
    cases q : H b with
    | none => rfl
    | some u =>
      have d' := d
      rw [list_at e (by rw [q]; exact Option.some_ne_none _)] at d'
      exact nomatch (show Data.seq vs.toArray _ = Data.dict es ep from d')
  have kin' : K.In (hidT s₁.heap H) := by
    intro b o e
    refine hidT_get (kin b o e) ?_
    cases q : H b with
    | none => rfl
    | some u =>
      have n : H b ≠ none := by rw [q]; exact Option.some_ne_none _
      have := at_a b n
      subst this
      rw [notK n] at e
      cases e
  have modOk : Mod K mg (hidT s₁.heap H) := ⟨kin', ns_hid hns, ⟨mb, ns_hid hb, hbb⟩, hlim.imp fun mc z => ⟨ns_hid z.1, z.2⟩⟩
  have env : Env0 P w K mg (hidT s₁.heap H) callerA [] s₁ H := ⟨rfl, modOk, fun b o e => of_hidT e, Nat.le_of_eq (hidT_size _ _), trivial, (fun b z => nomatch (show b ∈ ([] : List Addr) from z)), ok, .of_eq hg⟩
  refine codeAny_mono ((F _ kin' (ns_hid hns)).runG callerA rfl [] s₁ H ⟨[.ref a], []⟩ [.ref a] [.ref a] _ _ hr env (hbind s₁ (.ref a)) (.cons rfl .nil) (hsp H only seq)) ?_
  intro r s' h
  match r, h with
  | .error e, h => exact (hCX H e s' h).elim
  | .ok (.ret u), h =>
    obtain ⟨v, H', os, bare, un, ok', r', q⟩ := h
    have qv : v = .bl true := q
    subst qv
    obtain rfl : u = Value.bool true := r'
    refine ⟨rfl, OldK.of_keep ?_, os, bare⟩
    intro b o e
    rcases only b with z | ⟨ob, xs, z⟩
    · exact un.keep b o e z (fun m => nomatch (show b ∈ ([] : List Addr) from m)) (by simp)
    · obtain ⟨e1, _⟩ := ok b _ z
      obtain ⟨e2, _⟩ := ok' b _ (un.frzs b ob _ z)
      rw [e] at e1
      cases e1
      exact e2
theorem gd_walk {l : PySem.W.OpenLaw} {n k : Nat} {q : Program} {loose : List Str} {XP : (Str → Option Value) → Heap → Prop} {YP : World → Heap → Prop} {d : DefRec} {K : Params → PySem.W.Frag} {sp : World → Sp} {x : Str}
    (hn : l.most = some n) (hn2 : n ≤ sizeLine) (hdf : d.params.defaults = []) (hr : Room k callerA) (hY : ∀ (w : World) (h : Heap), YP w h → (K w.params).In h)
    (F : ∀ (w : World) (mg : Str → Option Value) (fa : Addr) (h : Heap), (K w.params).In h → h.Ns mainGlobals mg → mg d.name = some (.ref fa) →
      ∃ fd : FuncData, (∀ (s : Shared) (u : Value), BindsTo s fd ⟨[u], []⟩ [(x, u)]) ∧ ∀ base : Heap, (K w.params).In base → base.Ns mainGlobals mg → GdOk l.prog w (K w.params) mg base k fa fd [x] (sp w))
    (hsp : ∀ (w : World) (H : Hp) (a : Addr) (ns : List Int), ns.length ≤ n → Only H → SqL (K w.params) H a (ns.map V.int) → sp w [.ref a] H (fun v _ => v = .bl true) fun _ _ _ => False)
    (hCX : ∀ (w : World) (H : Hp) (s : Shared) (e : Value) (s' : Shared), L2.CX l.prog w [] H s (fun _ _ _ => False) e s' → False) :
    PySem.W.WalkO q loose XP YP l.row.toRowW d [] (fun f vs => PySem.call f vs) :=
  Att.attach_call hn hdf fun w s₀ s₁ mg mb fa o pm cd doc a vs ns G Y ho hd hcd hmg hobj hints hlen hg =>
    let ⟨_, hb, hF⟩ := F w mg fa _ (hY w _ Y) G.T.g hmg
    gd_law (hY w _ Y) G.T.g G.T.b G.T.builtins G.T.nolimit hg hobj hints (Nat.le_trans hlen hn2) hr hF hb (fun H hO hS => hsp w H a ns hlen hO hS) fun H e s' => hCX w H s₁ e s'
end Pl

/-! Pl6 -/
set_option Elab.async false
set_option linter.all false
set_option maxRecDepth 100000
set_option maxHeartbeats 4000000
/-! Defs: what a mirror of a def promises, its body, its calls. -/
namespace Pl
open PySem PySem.Spec PyProof.Rows L2

inductive Arg where
  | dat (d : PyData)
  | lnt (d : PyData)
inductive FO where
  | stuck
  | ret (r : Rv) (muts : List PyData)
  | exc (c : Str) (fs : List (Str × PyData)) (muts : List PyData)
abbrev Fn := List Arg → FO

/-- the arguments: data, or objects that are lent, with their places -/
inductive ArgsR (K : KW) (H Hf : Hp) : Nat → List V → List Arg → List (Nat × Addr) → Prop
  | nil {n : Nat} : ArgsR K H Hf n [] [] []
  | dat {n : Nat} {v : V} {d : PyData} {vs : List V} {as : List Arg} {la : List (Nat × Addr)} : Rep K Hf v d → ArgsR K H Hf (n + 1) vs as la → ArgsR K H Hf n (v :: vs) (.dat d :: as) la
  | lnt {n : Nat} {a : Addr} {o : HO} {d : PyData} {vs : List V} {as : List Arg} {la : List (Nat × Addr)} : H a = some o → Hf a = none → OObj K Hf a o d → ArgsR K H Hf (n + 1) vs as la → ArgsR K H Hf n (.ref a :: vs) (.lnt d :: as) ((n, a) :: la)
def MutsR (K : KW) (H Hf : Hp) : List (Nat × Addr) → List PyData → Prop := Paired fun p d => ∃ o, H p.2 = some o ∧ Hf p.2 = none ∧ OObj K Hf p.2 o d
def RvO (K : KW) (fr : Hp) (la : List (Nat × Addr)) (H Hf : Hp) (v : V) : Rv → Prop
  | .dat d => Rep K Hf v d
  | .new d => ∃ a o, v = .ref a ∧ fr a = none ∧ (∀ p ∈ la, p.2 ≠ a) ∧ Hf a = none ∧ H a = some o ∧ OObj K Hf a o d
  | .slot _ => False
structure Post (fr : Hp) (Hf H' Hf' : Hp) : Prop where
  ff : Same Hf Hf'
  sub : Same Hf' H'
  fr : ∀ (a : Addr) (o : HO), fr a = some o → H' a = some o ∧ Hf' a = none
def PostF (K : KW) (mg : Str → Option Value) (fr : Hp) (la : List (Nat × Addr)) (Hf : Hp) (Q : VK) (E : XK) : FO → Prop
  | .stuck => False
  | .ret r ms => ∀ v H' Hf', Post fr Hf H' Hf' → MutsR K H' Hf' la ms → RvO K fr la H' Hf' v r → Q v H'
  | .exc c fs ms => ∀ cls d H' Hf', Post fr Hf H' Hf' → MutsR K H' Hf' la ms → ExcR K mg Hf' cls d c fs → E cls d H'
def spF (K : KW) (mg : Str → Option Value) (n : Nat) (F : Fn) : Sp := fun vs H Q E => vs.length = n ∧ ∃ args la Hf fr, ArgsR K H Hf 0 vs args la ∧ (la.map (·.2)).Nodup ∧ Same Hf H ∧
  (∀ (a : Addr) (o : HO), fr a = some o → H a = some o ∧ Hf a = none ∧ ∀ p ∈ la, p.2 ≠ a) ∧ PostF K mg fr la Hf Q E (F args)

/-! ### a body -/
def argSV : Arg → Option SV
  | .dat d => some (.dat d)
  | .lnt d => some (.own true d)
def initMS (n : Nat) (args : List Arg) : MS := args.map argSV ++ List.replicate (n - args.length) none
/-- what the lent objects hold in the end -/
def mutsOf (ms : MS) : Nat → List Arg → Option (List PyData)
  | _, [] => some []
  | i, .dat _ :: as => mutsOf ms (i + 1) as
  | i, .lnt _ :: as => match ms[i]? with
    | some (some (.own true d)) => (match mutsOf ms (i + 1) as with
      | some ds => some (d :: ds)
      | none => none)
    | _ => none
def outRv (ms : MS) : Rv → Option Rv
  | .dat d => some (.dat d)
  | .new d => some (.new d)
  | .slot i => match ms[i]? with
    | some (some (.dat d)) => some (.dat d)
    | some (some (.own false d)) => some (.new d)
    | _ => none
def runF (n : Nat) (b : MX) : Fn := fun args => match b (initMS n args) with
  | .nx ms => (match mutsOf ms 0 args with
    | some ds => .ret (.dat .none) ds
    | none => .stuck)
  | .rt r ms => (match mutsOf ms 0 args, outRv ms r with
    | some ds, some r' => .ret r' ds
    | _, _ => .stuck)
  | .exc c fs ms => (match mutsOf ms 0 args with
    | some ds => .exc c fs ds
    | none => .stuck)
  | _ => .stuck

section
variable {K : KW} {H Hf : Hp}
theorem ArgsR.length : ∀ {n : Nat} {vs : List V} {as : List Arg} {la : List (Nat × Addr)}, ArgsR K H Hf n vs as la → vs.length = as.length
  | _, _, _, _, .nil => rfl
  | _, _, _, _, .dat _ r => congrArg (· + 1) (ArgsR.length r)
  | _, _, _, _, .lnt _ _ _ r => congrArg (· + 1) (ArgsR.length r)
theorem ArgsR.ge : ∀ {n : Nat} {vs : List V} {as : List Arg} {la : List (Nat × Addr)}, ArgsR K H Hf n vs as la → ∀ p ∈ la, n ≤ p.1
  | _, _, _, _, .nil, p, hp => by simp at hp
  | _, _, _, _, .dat _ r, p, hp => Nat.le_of_succ_le (ArgsR.ge r p hp)
  | _, _, _, _, .lnt _ _ _ r, p, hp => by
    rcases List.mem_cons.mp hp with rfl | hp
    · exact Nat.le_refl _
    · exact Nat.le_of_succ_le (ArgsR.ge r p hp)
/-- each place is lent once -/
theorem ArgsR.uniq : ∀ {n : Nat} {vs : List V} {as : List Arg} {la : List (Nat × Addr)}, ArgsR K H Hf n vs as la → ∀ (i : Nat) (a b : Addr), (i, a) ∈ la → (i, b) ∈ la → a = b
  | _, _, _, _, .nil, i, a, b, h, _ => by simp at h
  | _, _, _, _, .dat _ r, i, a, b, h, h' => ArgsR.uniq r i a b h h'
  | n, _, _, _, .lnt _ _ _ r, i, a, b, h, h' => by
    rcases List.mem_cons.mp h with e | h
    · rcases List.mem_cons.mp h' with e' | h'
      · cases e; cases e'; rfl
      · cases e; exact absurd (ArgsR.ge r _ h') (Nat.not_succ_le_self _)
    · rcases List.mem_cons.mp h' with e' | h'
      · cases e'; exact absurd (ArgsR.ge r _ h) (Nat.not_succ_le_self _)
      · exact ArgsR.uniq r i a b h h'
theorem ArgsR.dats : ∀ {n : Nat} {vs : List V} {as : List Arg} {la : List (Nat × Addr)}, ArgsR K H Hf n vs as la → ∀ (i : Nat) (d : PyData), as[i]? = some (.dat d) → ∃ v, vs[i]? = some v ∧ Rep K Hf v d
  | _, _, _, _, .nil, i, d, h => by simp at h
  | _, _, _, _, .dat r _, 0, d, h => by simp at h; subst h; exact ⟨_, rfl, r⟩
  | _, _, _, _, .lnt _ _ _ _, 0, d, h => by simp at h
  | _, _, _, _, .dat _ r, i + 1, d, h => by simpa using ArgsR.dats r i d (by simpa using h)
  | _, _, _, _, .lnt _ _ _ r, i + 1, d, h => by simpa using ArgsR.dats r i d (by simpa using h)
theorem ArgsR.muts : ∀ {n : Nat} {vs : List V} {as : List Arg} {la : List (Nat × Addr)}, ArgsR K H Hf n vs as la → ∀ (i : Nat) (d : PyData), as[i]? = some (.lnt d) → ∃ a o, vs[i]? = some (.ref a) ∧ (n + i, a) ∈ la ∧ H a = some o ∧ Hf a = none ∧ OObj K Hf a o d
  | _, _, _, _, .nil, i, d, h => by simp at h
  | _, _, _, _, .dat r _, 0, d, h => by simp at h
  | _, _, _, _, .lnt h1 h2 h3 _, 0, d, h => by simp at h; subst h; exact ⟨_, _, rfl, List.mem_cons_self, h1, h2, h3⟩
  | n, _, _, _, .dat _ r, i + 1, d, h => by
    obtain ⟨a, o, e, m, q⟩ := ArgsR.muts r i d (by simpa using h)
    exact ⟨a, o, by simpa using e, by rw [Nat.add_right_comm] at m; exact m, q⟩
  | n, _, _, _, .lnt _ _ _ r, i + 1, d, h => by
    obtain ⟨a, o, e, m, q⟩ := ArgsR.muts r i d (by simpa using h)
    exact ⟨a, o, by simpa using e, List.mem_cons_of_mem _ (by rw [Nat.add_right_comm] at m; exact m), q⟩
theorem init_arg {n : Nat} {args : List Arg} {i : Nat} {x : SV} (h : (initMS n args)[i]? = some (some x)) : ∃ a, args[i]? = some a ∧ argSV a = some x := by
  unfold initMS at h
  by_cases hi : i < args.length
  · rw [List.getElem?_append_left (by simpa using hi), List.getElem?_map] at h
    cases e : args[i]? with
    | none => rw [e] at h; cases h
    | some a => rw [e] at h; exact ⟨a, rfl, by simpa using h⟩
  · rw [List.getElem?_append_right (by simpa using hi), List.getElem?_replicate] at h
    split at h <;> cases h
theorem start_get {N : List Str} {vs : List V} {i : Nat} {v : V} (h : vs[i]? = some v) : (L2.start N vs)[i]? = some (some v) := by
  unfold L2.start
  rw [List.getElem?_append_left (by have := (List.getElem?_eq_some_iff.mp h).1; simpa using this), List.getElem?_map, h]
  rfl
theorem SR.start {N : List Str} {vs : List V} {args : List Arg} {la : List (Nat × Addr)} {fr : Hp} (r : ArgsR K H Hf 0 vs args la) (nd : (la.map (·.2)).Nodup) (s : Same Hf H)
    (hfr : ∀ (a : Addr) (o : HO), fr a = some o → H a = some o ∧ Hf a = none ∧ ∀ p ∈ la, p.2 ≠ a) : SR K ⟨la, fr⟩ (initMS N.length args) (L2.start N vs) H Hf where
  len := by
    unfold initMS L2.start
    simp only [List.length_append, List.length_map, List.length_replicate, r.length]
  dat := fun i d h => by
    obtain ⟨a, e, e2⟩ := init_arg h
    cases a with
    | dat d' => cases e2; obtain ⟨v, hv, rv⟩ := r.dats i d e; exact ⟨v, start_get hv, rv⟩
    | lnt d' => cases e2
  own := fun i l d h => by
    obtain ⟨a, e, e2⟩ := init_arg h
    cases a with
    | dat d' => cases e2
    | lnt d' =>
      cases e2
      obtain ⟨a, o, hv, m, h1, h2, h3⟩ := r.muts i d e
      refine ⟨a, o, start_get hv, fun _ => by simpa using m, ?_, h2, h1, h3⟩
      show fr a = none
      cases hq : fr a with
      | none => rfl
      | some u => exact absurd rfl ((hfr a u hq).2.2 _ m)
  apart := fun i j a l d l' d' hi hj ei ej => by
    obtain ⟨x, e, e2⟩ := init_arg hi
    obtain ⟨y, f, f2⟩ := init_arg hj
    cases x with
    | dat _ => cases e2
    | lnt d1 =>
      cases y with
      | dat _ => cases f2
      | lnt d2 =>
        obtain ⟨a1, o1, hv1, m1, _⟩ := r.muts i d1 e
        obtain ⟨a2, o2, hv2, m2, _⟩ := r.muts j d2 f
        rw [start_get hv1] at ei; rw [start_get hv2] at ej
        cases ei; cases ej
        have key : ∀ (l : List (Nat × Addr)), (l.map (·.2)).Nodup → ∀ (i j : Nat) (a : Addr), (i, a) ∈ l → (j, a) ∈ l → i = j := by
          intro l
          induction l with
          | nil => intro _ i j a h; simp at h
          | cons p l ih =>
            intro nd i j a h h'
            rw [List.map_cons, List.nodup_cons] at nd
            rcases List.mem_cons.mp h with e | g
            · rcases List.mem_cons.mp h' with e' | g'
              · rw [← e] at e'; cases e'; rfl
              · exact absurd (show a ∈ l.map (·.2) from List.mem_map.mpr ⟨(j, a), g', rfl⟩) (by rw [← e] at nd; exact nd.1)
            · rcases List.mem_cons.mp h' with e' | g'
              · exact absurd (show a ∈ l.map (·.2) from List.mem_map.mpr ⟨(i, a), g, rfl⟩) (by rw [← e'] at nd; exact nd.1)
              · exact ih nd.2 i j a g g'
        simpa using key la nd _ _ _ m1 m2
  sub := s
  fr := fun a o h => let ⟨h1, h2, _⟩ := hfr a o h; ⟨h1, h2⟩
theorem muts_out {N : List Str} {la : List (Nat × Addr)} {fr : Hp} {ms : MS} {σ : L2.St} {H0 Hf0 : Hp} (S : SR K ⟨la, fr⟩ ms σ H Hf) (un : ∀ (i : Nat) (a b : Addr), (i, a) ∈ la → (i, b) ∈ la → a = b) : ∀ {n : Nat} {vs : List V} {as : List Arg} {la' : List (Nat × Addr)} {ds : List PyData}, ArgsR K H0 Hf0 n vs as la' → (∀ p ∈ la', p ∈ la) → mutsOf ms n as = some ds → MutsR K H Hf la' ds
  | _, _, _, _, ds, .nil, _, e => by cases e; exact .nil
  | n, _, _, _, ds, .dat _ r, hs, e => muts_out (N := N) S un r hs e
  | n, _, _, _, ds, .lnt _ _ _ r, hs, e => by
    simp only [mutsOf] at e
    cases hq : ms[n]? with
    | none => rw [hq] at e; cases e
    | some x =>
      rw [hq] at e
      cases x with
      | none => cases e
      | some y =>
        cases y with
        | dat d => cases e
        | own l d =>
          cases l with
          | false => cases e
          | true =>
            simp only at e
            rename_i a o d0 vs as la' h1 h2 h3
            cases hm : mutsOf ms (n + 1) as with
            | none => rw [hm] at e; cases e
            | some ds' =>
              rw [hm] at e
              cases e
              obtain ⟨b, ob, _, m, _, nf, hb, ro⟩ := S.own n true d hq
              have eb : b = a := un n b a (m rfl) (hs _ List.mem_cons_self)
              subst eb
              exact .cons ⟨ob, hb, nf, ro⟩ (muts_out (N := N) S un r (fun p hp => hs p (List.mem_cons_of_mem _ hp)) hm)
theorem rv_out {la : List (Nat × Addr)} {fr : Hp} {ms : MS} {σ : L2.St} {v : V} {r r' : Rv} {as : List Arg} {ds : List PyData} {H0 Hf0 : Hp} {vs : List V} (S : SR K ⟨la, fr⟩ ms σ H Hf) (rv : RvR K ⟨la, fr⟩ ms σ H Hf v r) (e : outRv ms r = some r')
    (un : ∀ (i : Nat) (a b : Addr), (i, a) ∈ la → (i, b) ∈ la → a = b) (hl : ∀ p ∈ la, ∃ d, ms[p.1]? = some (some (.own true d))) : RvO K fr la H Hf v r' := by
  have lent : ∀ p ∈ la, ∃ d, ms[p.1]? = some (some (.own true d)) ∧ σ[p.1]? = some (some (.ref p.2)) := fun p hp => by
    obtain ⟨d, hd⟩ := hl p hp
    obtain ⟨b, ob, e1, m, _⟩ := S.own p.1 true d hd
    have : b = p.2 := un p.1 b p.2 (m rfl) hp
    subst this
    exact ⟨d, hd, e1⟩
  cases r with
  | dat d => cases e; exact rv
  | new d =>
    cases e
    obtain ⟨a, o, rfl, f, n, q, ro, ap⟩ := rv
    refine ⟨a, o, rfl, f, fun p hp z => ?_, n, q, ro⟩
    obtain ⟨d', hd, e1⟩ := lent p hp
    exact ap p.1 true d' hd (z ▸ e1)
  | slot i =>
    have hi : σ[i]? = some (some v) := rv
    simp only [outRv] at e
    cases hq : ms[i]? with
    | none => rw [hq] at e; cases e
    | some x =>
      rw [hq] at e
      cases x with
      | none => cases e
      | some y =>
        cases y with
        | dat d =>
          cases e
          obtain ⟨w, e1, r⟩ := S.dat i d hq
          rw [hi] at e1; cases e1
          exact r
        | own l d =>
          cases l with
          | true => cases e
          | false =>
            cases e
            obtain ⟨a, o, e1, _, f, n, q, ro⟩ := S.own i false d hq
            rw [hi] at e1; cases e1
            refine ⟨a, o, rfl, f, fun p hp z => ?_, n, q, ro⟩
            obtain ⟨d', hd, e1⟩ := lent p hp
            have : p.1 = i := S.apart p.1 i a _ _ _ _ hd hq (z ▸ e1) hi
            rw [this, hq] at hd
            cases hd
/-- every lent place still holds -/
theorem muts_there {ms : MS} {H0 Hf0 : Hp} : ∀ {n : Nat} {vs : List V} {as : List Arg} {la : List (Nat × Addr)} {ds : List PyData}, ArgsR K H0 Hf0 n vs as la → mutsOf ms n as = some ds → ∀ p ∈ la, ∃ d, ms[p.1]? = some (some (.own true d))
  | _, _, _, _, ds, .nil, e, p, hp => by simp at hp
  | n, _, _, _, ds, .dat _ r, e, p, hp => muts_there r e p hp
  | n, _, _, _, ds, .lnt _ _ _ r, e, p, hp => by
    simp only [mutsOf] at e
    cases hq : ms[n]? with
    | none => rw [hq] at e; cases e
    | some x =>
      rw [hq] at e
      cases x with
      | none => cases e
      | some y =>
        cases y with
        | dat d => cases e
        | own l d =>
          cases l with
          | false => cases e
          | true =>
            simp only at e
            rename_i a o d0 vs as la' h1 h2 h3
            cases hm : mutsOf ms (n + 1) as with
            | none => rw [hm] at e; cases e
            | some ds' =>
              rcases List.mem_cons.mp hp with rfl | hp
              · exact ⟨d, hq⟩
              · exact muts_there r hm p hp
end
section
variable {P : Program} {w : World} {K : PySem.W.Frag} {mg : Str → Option Value} {base : Heap}
abbrev wOf (E : XK) : WX := fun cls d _ H => E cls d H
/-- THE RULE for a def -/
theorem fs_ofG {x qual : Str} {st : Stmt} {f : Addr} {fd : FuncData} {N ps : List Str} {k : Nat} {b : MX} (F : FunG K x qual st f fd) (S : FnScope N ps (defScope st))
    (h : ∀ (cdv : Value) (A : Around) (outer : List Env) (s : Shared) (H : Hp) (E : XK), Room k (A.deeper (envOfC qual (defScope st) s.heap.objs.size f cdv)) → (A.deeper (envOfC qual (defScope st) s.heap.objs.size f cdv)).guards = some [] →
      SXs (cxOf (L2.CX P w) P w K mg base N qual (defScope st) f cdv A outer s H E) (wOf E) (defBody st) b) :
    GdOk P w K mg base (k + 1) f fd ps (spF ⟨K, w, P⟩ mg ps.length (runF N.length b)) := by
  refine gd_of F S (fun vs H Q E q => q.1) fun cdv A outer s H vs Q E hr hG q => ⟨_, (h cdv A outer s H E hr hG).ps, ?_⟩
  obtain ⟨hl, args, la, Hf, fr, r, nd, sm, hfr, q⟩ := q
  refine ⟨⟨la, fr⟩, initMS N.length args, Hf, SR.start r nd sm hfr, ?_⟩
  unfold runF at q
  have post : ∀ {ms' : MS} {σ' : L2.St} {H' Hf' : Hp}, Same Hf Hf' → SR ⟨K, w, P⟩ ⟨la, fr⟩ ms' σ' H' Hf' → Post fr Hf H' Hf' := fun s' S' => ⟨s', S'.sub, S'.fr⟩
  cases hb : b (initMS N.length args) with
  | stuck => rw [hb] at q; exact q
  | bk ms => rw [hb] at q; exact q.elim
  | ct ms => rw [hb] at q; exact q.elim
  | nx ms =>
    rw [hb] at q
    simp only at q
    cases hm : mutsOf ms 0 args with
    | none => rw [hm] at q; exact q.elim
    | some ds =>
      rw [hm] at q
      exact fun σ' H' Hf' s' S' => q .non H' Hf' (post s' S') (muts_out (N := N) S' r.uniq r (fun p hp => hp) hm) .non
  | rt rr ms =>
    rw [hb] at q
    simp only at q
    cases hm : mutsOf ms 0 args with
    | none => rw [hm] at q; exact q.elim
    | some ds =>
      rw [hm] at q
      cases ho : outRv ms rr with
      | none => rw [ho] at q; exact q.elim
      | some r' =>
        rw [ho] at q
        exact fun σ' H' Hf' s' S' v rv => q v H' Hf' (post s' S') (muts_out (N := N) S' r.uniq r (fun p hp => hp) hm) (rv_out (as := args) (ds := ds) (H0 := H) (Hf0 := Hf) (vs := vs) S' rv ho r.uniq (muts_there r hm))
  | exc c fs ms =>
    rw [hb] at q
    simp only at q
    cases hm : mutsOf ms 0 args with
    | none => rw [hm] at q; exact q.elim
    | some ds =>
      rw [hm] at q
      exact fun cls d σ' H' Hf' s' S' ex => q cls d H' Hf' (post s' S') (muts_out (N := N) S' r.uniq r (fun p hp => hp) hm) ex
theorem fs_of {x qual : Str} {st : Stmt} {f : Addr} {fd : FuncData} {N ps : List Str} {k : Nat} {b : MX} (F : L2.Fun K x qual st f fd) (S : FnScope N ps (defScope st))
    (h : ∀ (cdv : Value) (A : Around) (outer : List Env) (s : Shared) (H : Hp) (E : XK), Room k (A.deeper (envOfC qual (defScope st) s.heap.objs.size f cdv)) → (A.deeper (envOfC qual (defScope st) s.heap.objs.size f cdv)).guards = some [] →
      SXs (cxOf (L2.CX P w) P w K mg base N qual (defScope st) f cdv A outer s H E) (wOf E) (defBody st) b) :
    GdOk P w K mg base (k + 1) f fd ps (spF ⟨K, w, P⟩ mg ps.length (runF N.length b)) := fs_ofG (FunG.of F) S h
end
end Pl

/-! Pl7 -/
set_option Elab.async false
set_option linter.all false
set_option maxRecDepth 100000
set_option maxHeartbeats 4000000
/-! Calls of defs. -/
namespace Pl
open PySem PySem.Spec PyProof.Rows L2

def toArg (ms : MS) : Rv → Option Arg
  | .dat d => some (.dat d)
  | .new _ => none
  | .slot i => match ms[i]? with
    | some (some (.dat d)) => some (.dat d)
    | some (some (.own _ d)) => some (.lnt d)
    | _ => none
def toArgs (ms : MS) : List Rv → Option (List Arg)
  | [] => some []
  | r :: rs => match toArg ms r, toArgs ms rs with
    | some a, some as => some (a :: as)
    | _, _ => none
/-- the slots that are lent -/
def lentOf (ms : MS) : List Rv → List Nat
  | [] => []
  | .slot i :: rs => (match ms[i]? with
    | some (some (.own _ _)) => i :: lentOf ms rs
    | _ => lentOf ms rs)
  | _ :: rs => lentOf ms rs
def nodupB : List Nat → Bool
  | [] => true
  | i :: is => !is.contains i && nodupB is
/-- what came back goes into the slots -/
def putBack (ms : MS) : List Nat → List PyData → MS
  | i :: is, d :: ds => putBack (match ms[i]? with
    | some (some (.own l _)) => ms.set i (some (.own l d))
    | _ => ms) is ds
  | _, _ => ms
def callOut (F : Fn) (rs : List Rv) (ms : MS) : Out Rv := if nodupB (lentOf ms rs) then (match toArgs ms rs with
  | some args => (match F args with
    | .stuck => .stuck
    | .ret r ds => .ok r (putBack ms (lentOf ms rs) ds)
    | .exc c fs ds => .exc c fs (putBack ms (lentOf ms rs) ds))
  | none => .stuck) else .stuck
def mCall (F : Fn) (fa : MA) : ME := fun ms => (fa ms).bind (callOut F)

/-- the places and addresses of what is lent -/
def laOf (ms : MS) (σ : L2.St) : Nat → List Rv → List (Nat × Addr)
  | _, [] => []
  | n, .slot i :: rs => (match ms[i]? with
    | some (some (.own _ _)) => (match σ[i]? with
      | some (some (.ref a)) => (n, a) :: laOf ms σ (n + 1) rs
      | _ => laOf ms σ (n + 1) rs)
    | _ => laOf ms σ (n + 1) rs)
  | n, _ :: rs => laOf ms σ (n + 1) rs
section
variable {K : KW} {la : Fm} {ms : MS} {σ : L2.St} {H Hf : Hp}
theorem toArg_slot {i : Nat} {a : Arg} (e : toArg ms (.slot i) = some a) : (∃ d, ms[i]? = some (some (.dat d)) ∧ a = .dat d) ∨ ∃ l d, ms[i]? = some (some (.own l d)) ∧ a = .lnt d := by
  simp only [toArg] at e
  cases hq : ms[i]? with
  | none => rw [hq] at e; cases e
  | some x =>
    rw [hq] at e
    cases x with
    | none => cases e
    | some y =>
      cases y with
      | dat d => cases e; exact .inl ⟨d, rfl, rfl⟩
      | own l d => cases e; exact .inr ⟨l, d, rfl, rfl⟩
theorem args_of (S : SR K la ms σ H Hf) : ∀ {n : Nat} {rs : List Rv} {vs : List V} {as : List Arg}, RvRs K σ Hf vs rs → toArgs ms rs = some as → ArgsR K H Hf n vs as (laOf ms σ n rs)
  | n, [], _, as, .nil, e => by cases e; exact .nil
  | n, r :: rs, _, as, .cons h t, e => by
    simp only [toArgs] at e
    cases e1 : toArg ms r with
    | none => rw [e1] at e; cases e
    | some a =>
      cases e2 : toArgs ms rs with
      | none => rw [e1, e2] at e; cases e
      | some as' =>
        rw [e1, e2] at e
        cases e
        have ih := args_of S (n := n + 1) t e2
        cases r with
        | dat d => cases e1; exact .dat h ih
        | new d => cases e1
        | slot i =>
          have hi := h
          rcases toArg_slot e1 with ⟨d, hd, rfl⟩ | ⟨l, d, hd, rfl⟩
          · obtain ⟨v, ev, rv⟩ := S.dat i d hd
            rw [show σ[i]? = some (some _) from hi] at ev; cases ev
            simp only [laOf, hd]
            exact .dat rv ih
          · obtain ⟨a, o, ev, _, _, nf, q, ro⟩ := S.own i l d hd
            rw [show σ[i]? = some (some _) from hi] at ev; cases ev
            simp only [laOf, hd, show σ[i]? = some (some (.ref a)) from hi]
            exact .lnt q nf ro ih
/-- each lent address is a slot's -/
theorem la_mem : ∀ {n : Nat} {rs : List Rv} {p : Nat × Addr}, p ∈ laOf ms σ n rs → ∃ i l d, i ∈ lentOf ms rs ∧ ms[i]? = some (some (.own l d)) ∧ σ[i]? = some (some (.ref p.2))
  | n, [], p, h => by simp [laOf] at h
  | n, r :: rs, p, h => by
    cases r with
    | dat d => obtain ⟨i, l, d', h1, h2⟩ := la_mem (n := n + 1) (rs := rs) (p := p) h; exact ⟨i, l, d', h1, h2⟩
    | new d => obtain ⟨i, l, d', h1, h2⟩ := la_mem (n := n + 1) (rs := rs) (p := p) h; exact ⟨i, l, d', h1, h2⟩
    | slot j =>
      have up : (∃ i l d, i ∈ lentOf ms rs ∧ ms[i]? = some (some (.own l d)) ∧ σ[i]? = some (some (.ref p.2))) → ∃ i l d, i ∈ lentOf ms (.slot j :: rs) ∧ ms[i]? = some (some (.own l d)) ∧ σ[i]? = some (some (.ref p.2)) := fun ⟨i, l, d, h1, h2⟩ => by
        refine ⟨i, l, d, ?_, h2⟩
        simp only [lentOf]
        split
        · exact List.mem_cons_of_mem _ h1
        · exact h1
      simp only [laOf] at h
      split at h
      · rename_i l d hq
        split at h
        · rename_i a ha
          rcases List.mem_cons.mp h with rfl | h
          · refine ⟨j, l, d, ?_, hq, ha⟩
            simp only [lentOf, hq]
            exact List.mem_cons_self
          · exact up (la_mem h)
        · exact up (la_mem h)
      · exact up (la_mem h)
theorem nodupB_cons {i : Nat} {is : List Nat} (h : nodupB (i :: is) = true) : i ∉ is ∧ nodupB is = true := by
  simp only [nodupB, Bool.and_eq_true, Bool.not_eq_true', List.contains_eq_mem, decide_eq_false_iff_not] at h
  exact h
theorem la_nodup (S : SR K la ms σ H Hf) : ∀ {n : Nat} {rs : List Rv}, nodupB (lentOf ms rs) = true → ((laOf ms σ n rs).map (·.2)).Nodup
  | n, [], _ => by simp [laOf]
  | n, r :: rs, h => by
    cases r with
    | dat d => exact la_nodup S (n := n + 1) (rs := rs) h
    | new d => exact la_nodup S (n := n + 1) (rs := rs) h
    | slot j =>
      simp only [laOf]
      simp only [lentOf] at h
      split
      · rename_i l d hq
        rw [hq] at h
        obtain ⟨h1, h2⟩ := nodupB_cons h
        split
        · rename_i a ha
          rw [List.map_cons, List.nodup_cons]
          refine ⟨fun hm => ?_, la_nodup S h2⟩
          obtain ⟨p, hp, e⟩ := List.mem_map.mp hm
          obtain ⟨i, l', d', m, hi, hσ⟩ := la_mem hp
          rw [e] at hσ
          have : j = i := S.apart j i a _ _ _ _ hq hi ha hσ
          exact h1 (this ▸ m)
        · exact la_nodup S h2
      · rename_i hq
        refine la_nodup S ?_
        split at h
        · rename_i l d hq2
          exact absurd hq2 (hq l d)
        · exact h
/-- the frame that a callee is to leave -/
def frOf (H Hf : Hp) (l : List (Nat × Addr)) : Hp := fun b => if (∃ p ∈ l, p.2 = b) then none else if Hf b = none then H b else none
theorem frOf_some {l : List (Nat × Addr)} {b : Addr} {o : HO} (h : frOf H Hf l b = some o) : H b = some o ∧ Hf b = none ∧ ∀ p ∈ l, p.2 ≠ b := by
  unfold frOf at h
  split at h
  · cases h
  · rename_i h1
    split at h
    · rename_i h2
      exact ⟨h, h2, fun p hp e => h1 ⟨p, hp, e⟩⟩
    · cases h
theorem frOf_of {l : List (Nat × Addr)} {b : Addr} {o : HO} (h : H b = some o) (n : Hf b = none) (hl : ∀ p ∈ l, p.2 ≠ b) : frOf H Hf l b = some o := by
  unfold frOf
  rw [if_neg (fun ⟨p, hp, e⟩ => hl p hp e), if_pos n]
  exact h
theorem put_len : ∀ {is : List Nat} {ds : List PyData} {ms : MS}, (putBack ms is ds).length = ms.length
  | [], _, ms => by cases ‹List PyData› <;> rfl
  | i :: is, [], ms => rfl
  | i :: is, d :: ds, ms => by
    simp only [putBack]
    rw [put_len]
    split
    · rw [List.length_set]
    · rfl
/-- a slot that isn't lent stays -/
theorem put_other {j : Nat} : ∀ {is : List Nat} {ds : List PyData} {ms : MS}, j ∉ is → (putBack ms is ds)[j]? = ms[j]?
  | [], ds, ms, _ => by cases ds <;> rfl
  | i :: is, [], ms, _ => rfl
  | i :: is, d :: ds, ms, h => by
    simp only [List.mem_cons, not_or] at h
    simp only [putBack]
    rw [put_other h.2]
    split
    · rw [List.getElem?_set_ne (fun e => h.1 e.symm)]
    · rfl
end
/-- what a lent slot holds behind the call -/
theorem put_lent {K : KW} {la : Fm} {σ : L2.St} {H0 Hf0 H Hf : Hp} {ms0 : MS} (S : SR K la ms0 σ H0 Hf0) : ∀ {n : Nat} {rs : List Rv} {ds : List PyData} {ms : MS}, (∀ i ∈ lentOf ms0 rs, ms[i]? = ms0[i]?) → nodupB (lentOf ms0 rs) = true → MutsR K H Hf (laOf ms0 σ n rs) ds →
    ∀ i ∈ lentOf ms0 rs, ∃ l d d0 a o, (putBack ms (lentOf ms0 rs) ds)[i]? = some (some (.own l d)) ∧ ms0[i]? = some (some (.own l d0)) ∧ σ[i]? = some (some (.ref a)) ∧ H a = some o ∧ Hf a = none ∧ OObj K Hf a o d
  | n, [], ds, ms, _, _, _, i, hi => by simp [lentOf] at hi
  | n, r :: rs, ds, ms, hs, nd, m, i, hi => by
    cases r with
    | dat d => exact put_lent S (n := n + 1) (rs := rs) hs nd m i hi
    | new d => exact put_lent S (n := n + 1) (rs := rs) hs nd m i hi
    | slot j =>
      simp only [lentOf] at hs nd hi ⊢
      simp only [laOf] at m
      cases hq : ms0[j]? with
      | none =>
        simp only [hq] at hs nd hi m ⊢
        exact put_lent S hs nd m i hi
      | some x =>
        cases x with
        | none =>
          simp only [hq] at hs nd hi m ⊢
          exact put_lent S hs nd m i hi
        | some y =>
          cases y with
          | dat d =>
            simp only [hq] at hs nd hi m ⊢
            exact put_lent S hs nd m i hi
          | own l d0 =>
            simp only [hq] at hs nd hi m ⊢
            obtain ⟨a, o, ha, _, _, _, _, _⟩ := S.own j l d0 hq
            simp only [ha] at m
            cases m with
            | @cons p d la' ds' h1 t =>
              obtain ⟨o', q1, q2, q3⟩ := h1
              obtain ⟨nj, nd'⟩ := nodupB_cons nd
              have hj : ms[j]? = some (some (.own l d0)) := (hs j List.mem_cons_self).trans hq
              simp only [putBack, hj]
              rcases List.mem_cons.mp hi with rfl | hi
              · refine ⟨l, d, d0, a, o', ?_, hq, ha, q1, q2, q3⟩
                rw [put_other nj, List.getElem?_set_self (List.getElem?_eq_some_iff.mp hj).1]
              · refine put_lent S (n := n + 1) (fun k hk => ?_) nd' t i hi
                rw [List.getElem?_set_ne (fun e => nj (by rw [e]; exact hk))]
                exact hs k (List.mem_cons_of_mem _ hk)
theorem SR.back {K : KW} {la : Fm} {ms : MS} {σ : L2.St} {H Hf H' Hf' : Hp} {rs : List Rv} {ds : List PyData} (S : SR K la ms σ H Hf) (nd : nodupB (lentOf ms rs) = true)
    (p : Post (frOf H Hf (laOf ms σ 0 rs)) Hf H' Hf') (m : MutsR K H' Hf' (laOf ms σ 0 rs) ds) : SR K la (putBack ms (lentOf ms rs) ds) σ H' Hf' := by
  have key := put_lent S (ms := ms) (fun _ _ => rfl) nd m
  have notL : ∀ {i : Nat} {l : Bool} {d : PyData} {a : Addr}, i ∉ lentOf ms rs → ms[i]? = some (some (.own l d)) → σ[i]? = some (some (.ref a)) → ∀ q ∈ laOf ms σ 0 rs, q.2 ≠ a := fun {i l d a} hi h ha q hq e => by
    obtain ⟨j, l', d', mj, hj, hσ⟩ := la_mem hq
    rw [e] at hσ
    have : i = j := S.apart i j a _ _ _ _ h hj ha hσ
    exact hi (this ▸ mj)
  have ownB : ∀ {i : Nat} {l : Bool} {d : PyData}, (putBack ms (lentOf ms rs) ds)[i]? = some (some (.own l d)) → ∃ d0, ms[i]? = some (some (.own l d0)) := fun {i l d} h => by
    by_cases hi : i ∈ lentOf ms rs
    · obtain ⟨l', d', d0, a, o, e, e0, _⟩ := key i hi
      rw [h] at e; cases e
      exact ⟨d0, e0⟩
    · rw [put_other hi] at h
      exact ⟨d, h⟩
  refine ⟨by rw [put_len]; exact S.len, fun i d h => ?_, fun i l d h => ?_, fun i j a l d l' d' hi hj ei ej => ?_, p.sub, fun a o h => ?_⟩
  · by_cases hi : i ∈ lentOf ms rs
    · obtain ⟨l', d', d0, a, o, e, _⟩ := key i hi
      rw [h] at e; cases e
    · rw [put_other hi] at h
      obtain ⟨v, e, r⟩ := S.dat i d h
      exact ⟨v, e, r.mono p.ff⟩
  · by_cases hi : i ∈ lentOf ms rs
    · obtain ⟨l', d', d0, a, o, e, e0, ha, q1, q2, q3⟩ := key i hi
      rw [h] at e; cases e
      obtain ⟨b, ob, eb, ml, f, _⟩ := S.own i l d0 e0
      rw [ha] at eb; cases eb
      exact ⟨a, o, ha, ml, f, q2, q1, q3⟩
    · rw [put_other hi] at h
      obtain ⟨a, o, e, ml, f, n, q, r⟩ := S.own i l d h
      obtain ⟨q1, q2⟩ := p.fr a o (frOf_of q n (notL hi h e))
      exact ⟨a, o, e, ml, f, q2, q1, r.mono p.ff⟩
  · obtain ⟨d1, h1⟩ := ownB hi
    obtain ⟨d2, h2⟩ := ownB hj
    exact S.apart i j a l d1 l' d2 h1 h2 ei ej
  · obtain ⟨h1, h2⟩ := S.fr a o h
    refine p.fr a o (frOf_of h1 h2 fun q hq e => ?_)
    obtain ⟨j, l', d', mj, hj, hσ⟩ := la_mem hq
    obtain ⟨b, ob, eb, _, f, _⟩ := S.own j l' d' hj
    rw [hσ] at eb; cases eb
    rw [e, h] at f; cases f
theorem RvO.rv {K : KW} {la : Fm} {ms : MS} {σ : L2.St} {H Hf H' Hf' : Hp} {rs : List Rv} {ds : List PyData} {v : V} {r : Rv} (S : SR K la ms σ H Hf) (nd : nodupB (lentOf ms rs) = true)
    (p : Post (frOf H Hf (laOf ms σ 0 rs)) Hf H' Hf') (m : MutsR K H' Hf' (laOf ms σ 0 rs) ds) (ro : RvO K (frOf H Hf (laOf ms σ 0 rs)) (laOf ms σ 0 rs) H' Hf' v r) : RvR K la (putBack ms (lentOf ms rs) ds) σ H' Hf' v r := by
  have key := put_lent S (ms := ms) (fun _ _ => rfl) nd m
  cases r with
  | dat d => exact ro
  | slot i => exact ro.elim
  | new d =>
    obtain ⟨a, o, rfl, f, nl, nf, q, r⟩ := ro
    have na : ∀ {i : Nat} {l : Bool} {d : PyData}, ms[i]? = some (some (.own l d)) → σ[i]? ≠ some (some (.ref a)) := fun {i l d} h e => by
      obtain ⟨b, ob, eb, _, _, n, qb, _⟩ := S.own i l d h
      rw [e] at eb; cases eb
      rw [frOf_of qb n nl] at f; cases f
    refine ⟨a, o, rfl, ?_, nf, q, r, fun i l d' h => ?_⟩
    · cases hq : la.fr a with
      | none => rfl
      | some u =>
        obtain ⟨h1, h2⟩ := S.fr a u hq
        rw [frOf_of h1 h2 nl] at f; cases f
    · by_cases hi : i ∈ lentOf ms rs
      · obtain ⟨l', d'', d0, b, ob, e, e0, _⟩ := key i hi
        exact na e0
      · rw [put_other hi] at h
        exact na h
section
variable {X : Cx} {W : WX} {e : Expr} {es : List Expr} {pos p : Pos}
theorem tE_call {F : Fn} {fa : MA} {n : Nat} {σ : L2.St} {H : Hp} {Q : VK} (hlen : ∀ ms rs ms', fa ms = .ok rs ms' → rs.length = n) (q : tE (kw X) X.mg W (mCall F fa) σ H Q) : tCallS (spF (kw X) X.mg n F) (WE W) (tAx (kw X) X.mg W fa) σ H Q := by
  obtain ⟨la, ms, Hf, S, q⟩ := q
  have q' := After.bind q
  refine ⟨la, ms, Hf, S, ?_⟩
  cases hfa : fa ms with
  | stuck => rw [hfa] at q'; exact q'
  | exc c fs ms1 => rw [hfa] at q'; exact q'
  | ok rs ms1 =>
    rw [hfa] at q'
    intro H1 Hf1 s1 S1 vs rv
    have q1 : After (kw X) X.mg W la σ Hf1 (fun r ms' H' Hf' => ∀ v, RvR (kw X) la ms' σ H' Hf' v r → Q v H') (callOut F rs ms1) := q' H1 Hf1 s1 S1
    unfold callOut at q1
    cases hn : nodupB (lentOf ms1 rs) with
    | false => rw [hn, if_neg Bool.false_ne_true] at q1; exact False.elim q1
    | true =>
      rw [hn, if_pos rfl] at q1
      cases ha : toArgs ms1 rs with
      | none => rw [ha] at q1; exact False.elim q1
      | some args =>
        rw [ha] at q1
        refine ⟨by rw [Paired.length rv]; exact hlen ms rs ms1 hfa, args, laOf ms1 σ 0 rs, Hf1, frOf H1 Hf1 (laOf ms1 σ 0 rs), args_of S1 rv ha, la_nodup S1 hn, S1.sub, fun a o h => frOf_some h, ?_⟩
        simp only at q1
        cases hF : F args with
        | stuck => rw [hF] at q1; exact False.elim q1
        | ret r ds =>
          rw [hF] at q1
          exact fun v H' Hf' p m ro => q1 H' Hf' p.ff (S1.back hn p m) v (RvO.rv S1 hn p m ro)
        | exc c fs ds =>
          rw [hF] at q1
          exact fun cls d H' Hf' p m ex => q1 cls d H' Hf' p.ff (S1.back hn p m) ex
theorem ex_call {x : Str} {k : Nat} {f : Addr} {fd : FuncData} {ps : List Str} {F : Fn} {fa : MA} (G : GdOk X.prog X.w X.K X.mg X.base k f fd ps (spF (kw X) X.mg ps.length F)) (hG : X.A.guards = some []) (hr : Room k X.A) (hg : Gl X x) (hm : X.mg x = some (.ref f)) (hk : PySem.W.keepIn X.K (.ref f) = true)
    (hb : Binds X.K fd ps []) (tk : Takes X W) (ha : AX X W (e :: es) fa) (hlen : ∀ ms rs ms', fa ms = .ok rs ms' → rs.length = ps.length) (hdb : (x == ("__debug__" : Str)) = false := by decide)
    (he : starEach (e :: es) X.env = (false, eval e X.env) :: starEach es X.env := by rfl) (hpl : (backTo pos (starEach es X.env)).any (·.1) = false := by rfl) : EX X W (.Call (.Name x p) (e :: es) [] pos) (mCall F fa) :=
  ⟨PE.imp (gd_call G hG hr hg hm hk hb (fun σ => passAt tk σ) ha.pa hdb he hpl) fun _ _ _ q => tE_call hlen q⟩
end
theorem len_one (f : ME) : ∀ ms rs ms', mOne f ms = .ok rs ms' → rs.length = 1 := fun ms rs ms' h => by
  unfold mOne at h
  cases e : f ms with
  | ok r ms1 => rw [e] at h; cases h; rfl
  | stuck => rw [e] at h; cases h
  | exc c fs ms1 => rw [e] at h; cases h
theorem len_cons {f : ME} {g : MA} {n : Nat} (hg : ∀ ms rs ms', g ms = .ok rs ms' → rs.length = n) : ∀ ms rs ms', mCons f g ms = .ok rs ms' → rs.length = n + 1 := fun ms rs ms' h => by
  unfold mCons at h
  cases e : f ms with
  | ok r ms1 =>
    rw [e] at h
    simp only [Out.bind_ok] at h
    cases e2 : g ms1 with
    | ok rs2 ms2 => rw [e2] at h; cases h; rw [List.length_cons, hg _ _ _ e2]
    | stuck => rw [e2] at h; cases h
    | exc c fs ms2 => rw [e2] at h; cases h
  | stuck => rw [e] at h; cases h
  | exc c fs ms1 => rw [e] at h; cases h
end Pl

/-! Pl8 -/
set_option Elab.async false
set_option linter.all false
set_option maxRecDepth 100000
set_option maxHeartbeats 4000000
/-! Operators on data. -/
namespace Pl
open PySem PySem.Spec PyProof.Rows L2

def dI (i : Int) : Option Rv := some (.dat (.int i))
def dB (b : Bool) : Option Rv := some (.dat (.bool b))
section
variable {X : Cx} {K : KW} {H Hf : Hp} {v : V}
/-- a value that needs no object -/
theorem give {Q : VK} {d : PyData} (s : Same Hf H) (r : Rep K Hf v d) (k : ∀ v H' Hf', Grow H Hf H' Hf' → RvN K H H' Hf' v (.dat d) → Q v H') : Q v H := k v H Hf (Grow.refl s) r
theorem giveTup {Q : VK} {xs : List V} {ds : List PyData} (s : Same Hf H) (r : RepAll K Hf xs ds) (k : ∀ v H' Hf', Grow H Hf H' Hf' → RvN K H H' Hf' v (.dat (.tuple ds)) → Q v H') : ∀ p o, H p = none → TupO o → Q (.ref p) (upd H p (.frz o (.tup xs))) := fun p o hp ho =>
  k _ _ _ (Grow.frozen s hp) (.tup (TupAt.of ho) (r.mono (same_upd (same_none s hp))))
theorem giveNew {Q : VK} {o : HO} {d : PyData} (s : Same Hf H) (r : ∀ a, OObj K Hf a o d) (k : ∀ v H' Hf', Grow H Hf H' Hf' → RvN K H H' Hf' v (.new d) → Q v H') : ∀ p, H p = none → Q (.ref p) (upd H p o) := fun p hp =>
  k _ _ _ (Grow.new s hp) ⟨p, o, rfl, hp, same_none s hp, upd_same, r p⟩
/-- a list at an address of its own, told as data or as one's own -/
theorem Vw.lst2 {ds : List PyData} (s : Same Hf H) (h : Vw K H Hf v (.list ds)) : ∃ a xs, v = .ref a ∧ H a = some (.lst xs) ∧ RepAll K Hf xs ds := h.lst s

theorem HOk.lst_len {P : Program} {w : World} {h : Heap} {a : Addr} {xs : List V} (x : HOk P w H h) (e : H a = some (.lst xs)) : xs.length ≤ SZ := by
  have := x a _ e
  rw [← szLine]
  exact this.1

/-! ### arithmetic -/
def pAdd : PyData → PyData → Option Rv
  | .int i, .int j => dI (i + j)
  | .str x, .str y => if x.length + y.length ≤ SZ then some (.dat (.str (x ++ y))) else none
  | .list xs, .list ys => if xs.length + ys.length ≤ SZ then some (.new (.list (xs ++ ys))) else none
  | .tuple xs, .tuple ys => if xs.length + ys.length ≤ SZ then some (.dat (.tuple (xs ++ ys))) else none
  | _, _ => none
theorem op_pAdd : OpR X (binaryOp .Add) (rD (kw X) pAdd) := by
  intro pins s σ H x y v u Q I rx ry h
  obtain ⟨Hf, d, e, r, sm, vd, ve, hg, k⟩ := h
  cases d with
  | int i =>
    cases e with
    | int j =>
      cases vd.int; cases ve.int
      injection hg with hg; subst hg
      exact op_add pins s σ H _ _ v u Q I rx ry ⟨i, j, rfl, rfl, give sm (.int _) k⟩
    | _ => cases hg
  | str a =>
    cases e with
    | str b =>
      cases vd.str; cases ve.str
      simp only [pAdd] at hg
      split at hg
      · rename_i hl
        injection hg with hg; subst hg
        exact op_add_str pins s σ H _ _ v u Q I rx ry ⟨a, b, rfl, rfl, by rw [szLine]; exact hl, give sm (.str _) k⟩
      · cases hg
    | _ => cases hg
  | list ds =>
    cases e with
    | list es =>
      obtain ⟨a, xs, rfl, ha, ra⟩ := vd.lst sm
      obtain ⟨b, ys, rfl, hb, rb⟩ := ve.lst sm
      simp only [pAdd] at hg
      split at hg
      · rename_i hl
        injection hg with hg; subst hg
        exact op_cat pins s σ H _ _ v u Q I rx ry ⟨a, b, xs, ys, rfl, rfl, ha, hb, by rw [ra.length, rb.length, szLine]; exact hl, giveNew sm (fun _ => .lst (ra.append rb)) k⟩
      · cases hg
    | _ => cases hg
  | tuple ds =>
    cases e with
    | tuple es =>
      obtain ⟨a, xs, rfl, ha, ra⟩ := vd.tup sm
      obtain ⟨b, ys, rfl, hb, rb⟩ := ve.tup sm
      simp only [pAdd] at hg
      split at hg
      · rename_i hl
        injection hg with hg; subst hg
        refine op_catF pins s σ H _ _ v u Q I rx ry ⟨a, b, xs, ys, rfl, rfl, ha.sq, hb.sq, by rw [ra.length, rb.length, szLine]; exact hl, fun hx => ?_, fun hx hy => ?_, fun _ _ => giveTup sm (ra.append rb) k⟩
        · subst hx
          cases ra
          rcases ve with ve | ⟨_, _, _, _, z⟩
          · exact give sm ve k
          · cases z
        · subst hy
          cases rb
          rcases vd with vd | ⟨_, _, _, _, z⟩
          · refine give sm ?_ k
            rw [List.append_nil]; exact vd
          · cases z
      · cases hg
    | _ => cases hg
  | _ => cases hg
def pSub : PyData → PyData → Option Rv
  | .int i, .int j => dI (i - j)
  | _, _ => none
theorem op_pSub : OpR X (binaryOp .Sub) (rD (kw X) pSub) := by
  intro pins s σ H x y v u Q I rx ry h
  obtain ⟨Hf, d, e, r, sm, vd, ve, hg, k⟩ := h
  cases d with
  | int i =>
    cases e with
    | int j =>
      cases vd.int; cases ve.int
      injection hg with hg; subst hg
      exact op_sub pins s σ H _ _ v u Q I rx ry ⟨i, j, rfl, rfl, give sm (.int _) k⟩
    | _ => cases hg
  | _ => cases hg
def B64 : Int := 18446744073709551616
def pMul : PyData → PyData → Option Rv
  | .int i, .int j => if (-B64 < i ∧ i < B64) ∨ (-B64 < j ∧ j < B64) then dI (i * j) else none
  | _, _ => none
theorem op_pMul : OpR X (binaryOp .Mult) (rD (kw X) pMul) := by
  intro pins s σ H x y v u Q I rx ry h
  obtain ⟨Hf, d, e, r, sm, vd, ve, hg, k⟩ := h
  cases d with
  | int i =>
    cases e with
    | int j =>
      cases vd.int; cases ve.int
      simp only [pMul] at hg
      split at hg
      · rename_i hl
        injection hg with hg; subst hg
        exact op_mul pins s σ H _ _ v u Q I rx ry ⟨i, j, rfl, rfl, hl, give sm (.int _) k⟩
      · cases hg
    | _ => cases hg
  | _ => cases hg
/-- // by a positive divisor below 2^30 -/
def pDiv : PyData → PyData → Option Rv
  | .int i, .int j => if 0 < j ∧ j < 1073741824 then dI (i / j) else none
  | _, _ => none
theorem op_pDiv : OpR X (binaryOp .FloorDiv) (rD (kw X) pDiv) := by
  intro pins s σ H x y v u Q I rx ry h
  obtain ⟨Hf, d, e, r, sm, vd, ve, hg, k⟩ := h
  cases d with
  | int i =>
    cases e with
    | int j =>
      cases vd.int; cases ve.int
      simp only [pDiv] at hg
      split at hg
      · rename_i hl
        injection hg with hg; subst hg
        exact op_fdiv pins s σ H _ _ v u Q I rx ry ⟨i, j, rfl, rfl, hl, give sm (.int _) k⟩
      · cases hg
    | _ => cases hg
  | _ => cases hg
def pMod : PyData → PyData → Option Rv
  | .int i, .int j => if 0 < j then dI (i % j) else none
  | _, _ => none
theorem op_pMod : OpR X (binaryOp .Mod) (rD (kw X) pMod) := by
  intro pins s σ H x y v u Q I rx ry h
  obtain ⟨Hf, d, e, r, sm, vd, ve, hg, k⟩ := h
  cases d with
  | int i =>
    cases e with
    | int j =>
      cases vd.int; cases ve.int
      simp only [pMod] at hg
      split at hg
      · rename_i hl
        injection hg with hg; subst hg
        exact op_mod pins s σ H _ _ v u Q I rx ry ⟨i, j, rfl, rfl, hl, give sm (.int _) k⟩
      · cases hg
    | _ => cases hg
  | _ => cases hg
def pPow : PyData → PyData → Option Rv
  | .int i, .int j => if 0 ≤ j ∧ j ≤ 1000000 ∧ i.natAbs < 18446744073709551616 then dI (i ^ j.toNat) else none
  | _, _ => none
theorem op_pPow : OpR X (binaryOp .Pow) (rD (kw X) pPow) := by
  intro pins s σ H x y v u Q I rx ry h
  obtain ⟨Hf, d, e, r, sm, vd, ve, hg, k⟩ := h
  cases d with
  | int i =>
    cases e with
    | int j =>
      cases vd.int; cases ve.int
      simp only [pPow] at hg
      split at hg
      · rename_i hl
        injection hg with hg; subst hg
        exact op_pow pins s σ H _ _ v u Q I rx ry ⟨i, j, rfl, rfl, hl, give sm (.int _) k⟩
      · cases hg
    | _ => cases hg
  | _ => cases hg

/-! ### order of numbers and texts -/
def pLt : PyData → PyData → Option Rv
  | .int i, .int j => dB (decide (i < j))
  | .str i, .str j => dB (decide (i.cps.toList < j.cps.toList))
  | _, _ => none
def pLe : PyData → PyData → Option Rv
  | .int i, .int j => dB (decide (i ≤ j))
  | _, _ => none
def pGt : PyData → PyData → Option Rv
  | .int i, .int j => dB (decide (j < i))
  | _, _ => none
def pGe : PyData → PyData → Option Rv
  | .int i, .int j => dB (decide (j ≤ i))
  | _, _ => none
theorem op_pLt : OpR X (compareOp .Lt) (rD (kw X) pLt) := by
  intro pins s σ H x y v u Q I rx ry h
  obtain ⟨Hf, d, e, r, sm, vd, ve, hg, k⟩ := h
  cases d with
  | int i =>
    cases e with
    | int j =>
      cases vd.int; cases ve.int
      injection hg with hg; subst hg
      exact op_lt pins s σ H _ _ v u Q I rx ry ⟨i, j, rfl, rfl, give sm (.bl _) k⟩
    | _ => cases hg
  | str i =>
    cases e with
    | str j =>
      cases vd.str; cases ve.str
      injection hg with hg; subst hg
      exact op_lt_str pins s σ H _ _ v u Q I rx ry ⟨i, j, rfl, rfl, give sm (.bl _) k⟩
    | _ => cases hg
  | _ => cases hg
theorem op_pLe : OpR X (compareOp .LtE) (rD (kw X) pLe) := by
  intro pins s σ H x y v u Q I rx ry h
  obtain ⟨Hf, d, e, r, sm, vd, ve, hg, k⟩ := h
  cases d with
  | int i =>
    cases e with
    | int j =>
      cases vd.int; cases ve.int
      injection hg with hg; subst hg
      exact op_le pins s σ H _ _ v u Q I rx ry ⟨i, j, rfl, rfl, give sm (.bl _) k⟩
    | _ => cases hg
  | _ => cases hg
theorem op_pGt : OpR X (compareOp .Gt) (rD (kw X) pGt) := by
  intro pins s σ H x y v u Q I rx ry h
  obtain ⟨Hf, d, e, r, sm, vd, ve, hg, k⟩ := h
  cases d with
  | int i =>
    cases e with
    | int j =>
      cases vd.int; cases ve.int
      injection hg with hg; subst hg
      exact op_gt pins s σ H _ _ v u Q I rx ry ⟨i, j, rfl, rfl, give sm (.bl _) k⟩
    | _ => cases hg
  | _ => cases hg
theorem op_pGe : OpR X (compareOp .GtE) (rD (kw X) pGe) := by
  intro pins s σ H x y v u Q I rx ry h
  obtain ⟨Hf, d, e, r, sm, vd, ve, hg, k⟩ := h
  cases d with
  | int i =>
    cases e with
    | int j =>
      cases vd.int; cases ve.int
      injection hg with hg; subst hg
      exact op_ge pins s σ H _ _ v u Q I rx ry ⟨i, j, rfl, rfl, give sm (.bl _) k⟩
    | _ => cases hg
  | _ => cases hg

/-! ### == of data without dicts -/
section
mutual
theorem Rep.dp : ∀ {v : V} {d : PyData}, Rep K H v d → d.plain = true → Dp K.K H v d
  | _, _, .non, _ => .non
  | _, _, .bl b, _ => .bl b
  | _, _, .int i, _ => .int i
  | _, _, .str x, _ => .str x
  | _, _, .lst h r, e => .lst (SqL.of h) (RepAll.dp r (by simpa only [PyData.plain] using e))
  | _, _, .tup h r, e => .tup h.sq (RepAll.dp r (by simpa only [PyData.plain] using e))
  | _, _, .dk h r, e => by simp [PyData.plain] at e
  | _, _, .dn h r, e => by simp [PyData.plain] at e
  | _, _, .ro h r, e => by simp [roD, PyData.plain] at e
  | _, _, .ins _ _ _ _, e => by simp [insD, PyData.plain] at e
theorem RepAll.dp : ∀ {v : List V} {d : List PyData}, RepAll K H v d → PyData.plainAll d = true → DpAll K.K H v d
  | _, _, .nil, _ => .nil
  | _, _, .cons h r, e => by
    simp only [PyData.plainAll, Bool.and_eq_true] at e
    exact .cons (Rep.dp h e.1) (RepAll.dp r e.2)
end
end
theorem Vw.reads {pins : List (Addr × Obj)} {σ : L2.St} {H Hf : Hp} {s : Shared} {v : V} {u : Value} {d : PyData} (I : Inv X pins σ H s) (sm : Same Hf H) (h : Vw (kw X) H Hf v d) (p : d.plain = true) (r : RelV v u) : ∃ as, Reads s.heap u d as :=
  Dp.reads I d v u ((h.rep sm).dp p) r
def dep (d : PyData) : Bool := d.plain && decide (d.depth < 60)
def eqOk (d e : PyData) : Bool := dep d && dep e
def pEq (d e : PyData) : Option Rv := if eqOk d e = true then dB (PyData.eqv d e) else none
def pNe (d e : PyData) : Option Rv := if eqOk d e = true then dB (!PyData.eqv d e) else none
theorem op_pEq (hu : X.A.units + 64 < cLine) : OpR X (compareOp .Eq) (rD (kw X) pEq) := by
  intro pins s σ H x y v u Q I rx ry h
  obtain ⟨Hf, d, e, r, sm, vd, ve, hg, k⟩ := h
  unfold pEq at hg
  split at hg
  · rename_i hk
    simp only [eqOk, dep, Bool.and_eq_true, decide_eq_true_eq] at hk
    injection hg with hg; subst hg
    obtain ⟨as, r1⟩ := vd.reads I sm hk.1.1 rx
    obtain ⟨bs, r2⟩ := ve.reads I sm hk.2.1 ry
    exact SeqAt.eq_plain r1 r2 hk.1.1 hk.2.1 (by omega) ⟨.bl _, H, I, rfl, give sm (.bl _) k⟩
  · cases hg
theorem op_pNe (hu : X.A.units + 64 < cLine) : OpR X (compareOp .NotEq) (rD (kw X) pNe) := by
  intro pins s σ H x y v u Q I rx ry h
  obtain ⟨Hf, d, e, r, sm, vd, ve, hg, k⟩ := h
  unfold pNe at hg
  split at hg
  · rename_i hk
    simp only [eqOk, dep, Bool.and_eq_true, decide_eq_true_eq] at hk
    injection hg with hg; subst hg
    obtain ⟨as, r1⟩ := vd.reads I sm hk.1.1 rx
    obtain ⟨bs, r2⟩ := ve.reads I sm hk.2.1 ry
    exact SeqAt.ne_plain r1 r2 hk.1.1 hk.2.1 (by omega) ⟨.bl _, H, I, rfl, give sm (.bl _) k⟩
  · cases hg
end
end Pl

/-! Pl9 -/
set_option Elab.async false
set_option linter.all false
set_option maxRecDepth 100000
set_option maxHeartbeats 4000000
/-! Dicts as data. -/
namespace Pl
open PySem PySem.Spec PyProof.Rows L2
def kOf : PyData → Option Key
  | .int i => some (.inl i)
  | .str x => some (.inr x)
  | _ => none
def dLook (es : List (PyData × PyData)) (d : PyData) : Option PyData := (es.find? fun p => PyData.eqv p.1 d).map (·.2)
def dPut (es : List (PyData × PyData)) (d x : PyData) : List (PyData × PyData) := if es.any (fun p => PyData.eqv p.1 d) then es.map (fun p => if PyData.eqv p.1 d then (p.1, x) else p) else es ++ [(d, x)]
def kind0 (d : PyData) : Bool := (kOf d).isSome
def kind1 : PyData → Bool
  | .tuple ds => match keyOf (.tuple ds) with
    | some k => decide (k.depth ≤ 8)
    | none => false
  | _ => false
def dOk (es : List (PyData × PyData)) (d : PyData) : Bool := (kind0 d && es.all fun p => kind0 p.1) || (kind1 d && es.all fun p => kind1 p.1)
mutual
theorem eqv_key : ∀ (c d : PyData) (k l : NestedKey), keyOf c = some k → keyOf d = some l → PyData.eqv c d = decide (k = l)
  | .list _, _, _, _, h, _ => by simp [keyOf] at h
  | .dict _, _, _, _, h, _ => by simp [keyOf] at h
  | _, .list _, _, _, _, h => by simp [keyOf] at h
  | _, .dict _, _, _, _, h => by simp [keyOf] at h
  | .none, .none, _, _, h, h' => by simp [keyOf] at h h'; subst h h'; simp [PyData.eqv]
  | .none, .bool _, _, _, h, h' => by simp [keyOf] at h h'; subst h h'; simp [PyData.eqv]
  | .none, .int _, _, _, h, h' => by simp [keyOf] at h h'; subst h h'; simp [PyData.eqv]
  | .none, .str _, _, _, h, h' => by simp [keyOf] at h h'; subst h h'; simp [PyData.eqv]
  | .none, .tuple _, _, _, h, h' => by simp [keyOf] at h h'; obtain ⟨_, _, rfl⟩ := h'; subst h; simp [PyData.eqv]
  | .bool _, .none, _, _, h, h' => by simp [keyOf] at h h'; subst h h'; simp [PyData.eqv]
  | .bool a, .bool b, _, _, h, h' => by simp [keyOf] at h h'; subst h h'; cases a <;> cases b <;> simp [PyData.eqv]
  | .bool a, .int b, _, _, h, h' => by simp [keyOf] at h h'; subst h h'; cases a <;> simp [PyData.eqv] <;> rfl
  | .bool _, .str _, _, _, h, h' => by simp [keyOf] at h h'; subst h h'; simp [PyData.eqv]
  | .bool _, .tuple _, _, _, h, h' => by simp [keyOf] at h h'; obtain ⟨_, _, rfl⟩ := h'; subst h; simp [PyData.eqv]
  | .int _, .none, _, _, h, h' => by simp [keyOf] at h h'; subst h h'; simp [PyData.eqv]
  | .int a, .bool b, _, _, h, h' => by simp [keyOf] at h h'; subst h h'; cases b <;> simp [PyData.eqv] <;> rfl
  | .int a, .int b, _, _, h, h' => by simp [keyOf] at h h'; subst h h'; simp [PyData.eqv]; rfl
  | .int _, .str _, _, _, h, h' => by simp [keyOf] at h h'; subst h h'; simp [PyData.eqv]
  | .int _, .tuple _, _, _, h, h' => by simp [keyOf] at h h'; obtain ⟨_, _, rfl⟩ := h'; subst h; simp [PyData.eqv]
  | .str _, .none, _, _, h, h' => by simp [keyOf] at h h'; subst h h'; simp [PyData.eqv]
  | .str a, .bool b, _, _, h, h' => by simp [keyOf] at h h'; subst h h'; simp [PyData.eqv]
  | .str a, .int b, _, _, h, h' => by simp [keyOf] at h h'; subst h h'; simp [PyData.eqv]
  | .str _, .str _, _, _, h, h' => by simp [keyOf] at h h'; subst h h'; simp [PyData.eqv]; rfl
  | .str _, .tuple _, _, _, h, h' => by simp [keyOf] at h h'; obtain ⟨_, _, rfl⟩ := h'; subst h; simp [PyData.eqv]
  | .tuple _, .none, _, _, h, h' => by simp [keyOf] at h h'; obtain ⟨_, _, rfl⟩ := h; subst h'; simp [PyData.eqv]
  | .tuple _, .bool _, _, _, h, h' => by simp [keyOf] at h h'; obtain ⟨_, _, rfl⟩ := h; subst h'; simp [PyData.eqv]
  | .tuple _, .int _, _, _, h, h' => by simp [keyOf] at h h'; obtain ⟨_, _, rfl⟩ := h; subst h'; simp [PyData.eqv]
  | .tuple _, .str _, _, _, h, h' => by simp [keyOf] at h h'; obtain ⟨_, _, rfl⟩ := h; subst h'; simp [PyData.eqv]
  | .tuple xs, .tuple ys, _, _, h, h' => by
    simp only [keyOf, Option.map_eq_some_iff] at h h'
    obtain ⟨ks, hk, rfl⟩ := h
    obtain ⟨ls, hl, rfl⟩ := h'
    simp only [PyData.eqv, eqv_keys xs ys ks ls hk hl, NestedKey.tup.injEq]
theorem eqv_keys : ∀ (cs ds : List PyData) (ks ls : List NestedKey), keysOf cs = some ks → keysOf ds = some ls → PyData.eqvAll cs ds = decide (ks = ls)
  | [], [], _, _, h, h' => by simp [keysOf] at h h'; subst h h'; simp [PyData.eqvAll]
  | [], d :: ds, _, _, h, h' => by
    simp only [keysOf] at h h'
    cases hd : keyOf d with
    | none => rw [hd] at h'; simp at h'
    | some l =>
      rw [hd] at h'
      simp at h h'
      obtain ⟨_, _, rfl⟩ := h'
      subst h
      simp [PyData.eqvAll]
  | c :: cs, [], _, _, h, h' => by
    simp only [keysOf] at h h'
    cases hd : keyOf c with
    | none => rw [hd] at h; simp at h
    | some l =>
      rw [hd] at h
      simp at h h'
      obtain ⟨_, _, rfl⟩ := h
      subst h'
      simp [PyData.eqvAll]
  | c :: cs, d :: ds, _, _, h, h' => by
    simp only [keysOf] at h h'
    cases hc : keyOf c with
    | none => rw [hc] at h; simp at h
    | some k =>
      cases hd : keyOf d with
      | none => rw [hd] at h'; simp at h'
      | some l =>
        rw [hc] at h
        rw [hd] at h'
        simp only [Option.map_eq_some_iff] at h h'
        obtain ⟨ks, h1, rfl⟩ := h
        obtain ⟨ls, h2, rfl⟩ := h'
        simp only [PyData.eqvAll, eqv_key c d k l hc hd, eqv_keys cs ds ks ls h1 h2, List.cons.injEq]
        by_cases e : k = l <;> by_cases e' : ks = ls <;> simp [e, e']
end
theorem eqv_k0 (k : Key) {d : PyData} {l : Key} (h : kOf d = some l) : PyData.eqv (keyD k) d = decide (k = l) := by
  cases d <;> simp [kOf] at h <;> subst h <;> rcases k with i | x <;> simp [keyD, PyData.eqv] <;> rfl
section
variable {K : KW} {H Hf : Hp}
theorem RepKv.look {d : PyData} {l : Key} (hl : kOf d = some l) : ∀ {kvs : List (Key × V)} {es : List (PyData × PyData)}, RepKv K H kvs es →
    (∃ v x, valV kvs l = some v ∧ dLook es d = some x ∧ Rep K H v x) ∨ (valV kvs l = none ∧ dLook es d = none)
  | _, _, .nil => .inr ⟨rfl, rfl⟩
  | (k, v) :: kvs, _, .cons (d := x) (ds := es) h r => by
    by_cases e : k = l
    · subst e
      exact .inl ⟨v, x, valV_pos rfl, by simp [dLook, List.find?_cons, eqv_k0 k hl], h⟩
    · have h2 : dLook ((keyD k, x) :: es) d = dLook es d := by simp [dLook, List.find?_cons, eqv_k0 k hl, e]
      rw [valV_neg (p := (k, v)) e, h2]
      exact RepKv.look hl r
theorem RepKv.hasIt {d : PyData} {l : Key} (hl : kOf d = some l) : ∀ {kvs : List (Key × V)} {es : List (PyData × PyData)}, RepKv K H kvs es → (kvs.any fun kv => decide (kv.1 = l)) = es.any fun p => PyData.eqv p.1 d
  | _, _, .nil => rfl
  | (k, v) :: kvs, _, .cons (d := x) (ds := es) h r => by
    rw [List.any_cons, List.any_cons, RepKv.hasIt hl r]
    show (decide (k = l) || _) = (PyData.eqv (keyD k) d || _)
    rw [eqv_k0 k hl]
theorem keyD_kOf {d : PyData} {l : Key} (hl : kOf d = some l) : keyD l = d := by
  cases d <;> simp [kOf] at hl <;> subst hl <;> rfl
theorem RepKv.mapped {d y : PyData} {v : V} {l : Key} (hl : kOf d = some l) (hv : Rep K H v y) : ∀ {kvs : List (Key × V)} {es : List (PyData × PyData)}, RepKv K H kvs es →
    RepKv K H (kvs.map fun kv => if kv.1 = l then (kv.1, v) else kv) (es.map fun p => if PyData.eqv p.1 d then (p.1, y) else p)
  | _, _, .nil => .nil
  | (k, w) :: kvs, _, .cons (d := x) (ds := es) h r => by
    rw [List.map_cons, List.map_cons]
    simp only [eqv_k0 k hl]
    by_cases e : k = l
    · simp only [e, if_true, decide_true]
      exact .cons hv (RepKv.mapped hl hv r)
    · simp only [e, if_false, decide_false, Bool.false_eq_true]
      exact .cons h (RepKv.mapped hl hv r)
theorem RepKv.snoc {v : V} {y : PyData} {l : Key} (hv : Rep K H v y) : ∀ {kvs : List (Key × V)} {es : List (PyData × PyData)}, RepKv K H kvs es → RepKv K H (kvs ++ [(l, v)]) (es ++ [(keyD l, y)])
  | _, _, .nil => .cons hv .nil
  | (k, w) :: kvs, _, .cons h r => .cons h (RepKv.snoc hv r)
theorem RepKv.put {d y : PyData} {v : V} {l : Key} (hl : kOf d = some l) (hv : Rep K H v y) {kvs : List (Key × V)} {es : List (PyData × PyData)} (r : RepKv K H kvs es) : RepKv K H (putK kvs l v) (dPut es d y) := by
  unfold putK dPut
  rw [r.hasIt hl]
  split
  · exact r.mapped hl hv
  · have q := r.snoc (l := l) hv
    rw [keyD_kOf hl] at q
    exact q
theorem RepKv.length : ∀ {kvs : List (Key × V)} {es : List (PyData × PyData)}, RepKv K H kvs es → kvs.length = es.length
  | _, _, .nil => rfl
  | _, _, .cons _ r => congrArg (· + 1) (RepKv.length r)
theorem RepNt.length : ∀ {kvs : List (NestedKey × Addr × Value)} {es : List (PyData × PyData)}, RepNt K H kvs es → kvs.length = es.length
  | _, _, .nil => rfl
  | _, _, .cons _ _ _ _ _ r => congrArg (· + 1) (RepNt.length r)
theorem RepKv.no1 {kvs : List (Key × V)} {es : List (PyData × PyData)} (r : RepKv K H kvs es) (h : (es.all fun p => kind1 p.1) = true) : kvs = [] ∧ es = [] := by
  cases r with
  | nil => exact ⟨rfl, rfl⟩
  | @cons k => rcases k with i | x <;> simp [keyD, kind1] at h
theorem RepNt.no0 {kvs : List (NestedKey × Addr × Value)} {es : List (PyData × PyData)} (r : RepNt K H kvs es) (h : (es.all fun p => kind0 p.1) = true) : kvs = [] ∧ es = [] := by
  cases r with
  | nil => exact ⟨rfl, rfl⟩
  | cons q1 q2 => cases q1 <;> simp [kind0, kOf, roD, stD, insD] at h
theorem RepNt.look {d : PyData} {l : NestedKey} (hl : keyOf d = some l) : ∀ {kvs : List (NestedKey × Addr × Value)} {es : List (PyData × PyData)}, RepNt K H kvs es →
    (∃ p v u x, atKey kvs l = some (p, u) ∧ RelV v u ∧ dLook es d = some x ∧ Rep K H v x) ∨ (atKey kvs l = none ∧ dLook es d = none)
  | _, _, .nil => .inr ⟨rfl, rfl⟩
  | (k, p, u) :: kvs, _, .cons (d := x) (ds := es) (c := c) (v := v) h q dp rv g r => by
    by_cases e : k = l
    · exact .inl ⟨p, v, u, x, by simp [atKey, e], rv, by simp [dLook, List.find?_cons, eqv_key c d k l q hl, e], g⟩
    · have h2 : dLook ((c, x) :: es) d = dLook es d := by simp [dLook, List.find?_cons, eqv_key c d k l q hl, e]
      have h3 : atKey ((k, p, u) :: kvs) l = atKey kvs l := by simp [atKey, List.find?_cons, e]
      rw [h2, h3]
      exact RepNt.look hl r
theorem RepNt.mapped {d y : PyData} {v : V} {u : Value} {l : NestedKey} (hl : keyOf d = some l) (rv : RelV v u) (hv : Rep K H v y) : ∀ {kvs : List (NestedKey × Addr × Value)} {es : List (PyData × PyData)}, RepNt K H kvs es →
    RepNt K H (kvs.map (putAt l u)) (es.map fun p => if PyData.eqv p.1 d then (p.1, y) else p)
  | _, _, .nil => .nil
  | (k, p, w) :: kvs, _, .cons (d := x) (ds := es) (c := c) h q dp rw' g r => by
    rw [List.map_cons, List.map_cons]
    simp only [eqv_key c d k l q hl, putAt]
    by_cases e : k = l
    · subst e
      simp only [if_true, decide_true]
      exact .cons h q dp rv hv (RepNt.mapped hl rv hv r)
    · simp only [e, if_false, decide_false, Bool.false_eq_true]
      exact .cons h q dp rw' g (RepNt.mapped hl rv hv r)
theorem RepNt.snoc {c y : PyData} {v : V} {u : Value} {p : Addr} {l : NestedKey} (h : Rep K H (.ref p) c) (hl : keyOf c = some l) (dp : l.depth ≤ 8) (rv : RelV v u) (hv : Rep K H v y) : ∀ {kvs : List (NestedKey × Addr × Value)} {es : List (PyData × PyData)}, RepNt K H kvs es → RepNt K H (kvs ++ [(l, p, u)]) (es ++ [(c, y)])
  | _, _, .nil => .cons h hl dp rv hv .nil
  | _, _, .cons h' q' dp' rv' g' r => .cons h' q' dp' rv' g' (RepNt.snoc h hl dp rv hv r)
theorem RepNt.put {d y : PyData} {v : V} {u : Value} {p : Addr} {l : NestedKey} (h : Rep K H (.ref p) d) (hl : keyOf d = some l) (dp : l.depth ≤ 8) (rv : RelV v u) (hv : Rep K H v y) {kvs : List (NestedKey × Addr × Value)} {es : List (PyData × PyData)} (r : RepNt K H kvs es) :
    RepNt K H (storedH kvs l p u) (dPut es d y) := by
  have he : (atKey kvs l).isSome = es.any fun q => PyData.eqv q.1 d := by
    rcases r.look hl with ⟨p', v', u', x, h1, _, h3, _⟩ | ⟨h1, h3⟩
    · rw [h1]
      simp only [dLook, Option.map_eq_some_iff] at h3
      obtain ⟨z, hz, _⟩ := h3
      exact (List.any_eq_true.mpr ⟨z, List.mem_of_find?_eq_some hz, List.find?_some hz⟩).symm
    · rw [h1]
      simp only [dLook, Option.map_eq_none_iff, List.find?_eq_none] at h3
      exact (List.any_eq_false.mpr h3).symm
  unfold storedH dPut
  rw [he]
  split
  · exact r.mapped hl rv hv
  · exact r.snoc h hl dp rv hv
/-- the dict that is read -/
theorem Vw.dct {v : V} {es : List (PyData × PyData)} (s : Same Hf H) (h : Vw K H Hf v (.dict es)) (n : ∀ l ds, es ≠ [(.list l, .list ds)]) : ∃ a, v = .ref a ∧
    ((∃ kvs, H a = some (.dK kvs) ∧ RepKv K Hf kvs es) ∨ ∃ ep xs, H a = some (DnO K.w a ep xs) ∧ RepNt K Hf xs es) := by
  rcases h with h | ⟨a, o, rfl, e, q⟩
  · generalize hd : PyData.dict es = d at h
    cases h with
    | dk h r => injection hd with hd; subst hd; exact ⟨_, rfl, .inl ⟨_, s _ _ h, r⟩⟩
    | dn h r => injection hd with hd; subst hd; exact ⟨_, rfl, .inr ⟨_, _, s _ _ h, r⟩⟩
    | ro h r => unfold roD at hd; injection hd with hd; exact absurd hd (n _ _)
    | st h r => unfold stD at hd; injection hd with hd; exact absurd hd (n _ _)
    | ins h g c r => unfold insD at hd; injection hd with hd; exact absurd hd (n _ _)
    | _ => cases hd
  · generalize hd : PyData.dict es = d at q
    cases q with
    | lst r => cases hd
    | dk r => injection hd with hd; subst hd; exact ⟨a, rfl, .inl ⟨_, e, r⟩⟩
    | dn r => injection hd with hd; subst hd; exact ⟨a, rfl, .inr ⟨_, _, e, r⟩⟩
    | st r => unfold stD at hd; injection hd with hd; exact absurd hd (n _ _)
    | ins g c r => unfold insD at hd; injection hd with hd; exact absurd hd (n _ _)
theorem kinds_ne {es : List (PyData × PyData)} (h : (es.all fun p => kind0 p.1) = true ∨ (es.all fun p => kind1 p.1) = true) : ∀ l ds, es ≠ [(.list l, .list ds)] := by
  rintro l ds rfl
  rcases h with h | h <;> simp [kind0, kind1, kOf] at h
end
section
variable {X : Cx} {pins : List (Addr × Obj)} {σ : L2.St} {H Hf : Hp} {s : Shared}
mutual
theorem Rep.nk (I : Inv X pins σ H s) : ∀ {v : V} {d : PyData} {u : Value} {k : NestedKey}, Rep (kw X) H v d → keyOf d = some k → RelV v u → NestedIs s.heap k u
  | _, _, _, _, .non, e, r => by cases r; simp [keyOf] at e; subst e; exact .none
  | _, _, _, _, .bl b, e, r => by cases r; simp [keyOf] at e; subst e; exact .bool rfl
  | _, _, _, _, .int i, e, r => by obtain ⟨t, rfl⟩ := r; simp [keyOf] at e; subst e; exact .int _ _
  | _, _, _, _, .str x, e, r => by obtain ⟨t, rfl⟩ := r; simp [keyOf] at e; subst e; exact .text _ _
  | _, _, _, _, .lst h q, e, r => by simp [keyOf] at e
  | _, _, _, _, .dk h q, e, r => by simp [keyOf] at e
  | _, _, _, _, .dn h q, e, r => by simp [keyOf] at e
  | _, _, _, _, .ro h q, e, r => by simp [keyOf, roD] at e
  | _, _, _, _, .ins _ _ _ _, e, r => by simp [keyOf, insD] at e
  | _, _, _, _, .st h q, e, r => by simp [keyOf, stD] at e
  | _, _, _, _, .tup h q, e, r => by
    simp only [keyOf, Option.map_eq_some_iff] at e
    obtain ⟨ks, hk, rfl⟩ := e
    cases r
    obtain ⟨its, rv, ⟨o, ho, hc, n, hd⟩, _⟩ := I.tuple h.sq
    exact .tup ho hc hd (RepAll.nk I q hk rv)
theorem RepAll.nk (I : Inv X pins σ H s) : ∀ {v : List V} {d : List PyData} {u : List Value} {k : List NestedKey}, RepAll (kw X) H v d → keysOf d = some k → Vals v u → NestedAll s.heap k u
  | _, _, _, _, .nil, e, r => by cases r; simp [keysOf] at e; subst e; exact .nil
  | _, _, _, _, .cons (d := d) h q, e, r => by
    cases r with
    | cons r1 r2 =>
      simp only [keysOf] at e
      cases hd : keyOf d with
      | none => rw [hd] at e; simp at e
      | some k =>
        rw [hd] at e
        simp only [Option.map_eq_some_iff] at e
        obtain ⟨ks, hk, rfl⟩ := e
        exact .cons (Rep.nk I h hd r1) (RepAll.nk I q hk r2)
end
theorem RepNt.is (I : Inv X pins σ H s) : ∀ {kvs : List (NestedKey × Addr × Value)} {es : List (PyData × PyData)}, RepNt (kw X) H kvs es → ∀ x ∈ kvs, (nestedKind X.prog X.w).is s.heap x.1 x.2.1
  | _, _, .nil => by intro x hx; cases hx
  | _, _, .cons h q dp _ _ r => by
    intro x hx
    rcases List.mem_cons.mp hx with rfl | hx
    · exact ⟨Rep.nk I h q rfl, dp⟩
    · exact RepNt.is I r x hx
theorem kind1_some {d : PyData} (h : kind1 d = true) : ∃ k, keyOf d = some k ∧ k.depth ≤ 8 ∧ ∃ ds, d = .tuple ds := by
  cases d with
  | tuple ds =>
    simp only [kind1] at h
    split at h
    · rename_i k e
      exact ⟨k, e, of_decide_eq_true h, ds, rfl⟩
    · cases h
  | _ => simp [kind1] at h
/-- what is found for a key -/
def OkV (K : KW) (Hf : Hp) : Option Value → Option PyData → Prop
  | some w, some x => ∃ v, RelV v w ∧ Rep K Hf v x
  | none, none => True
  | _, _ => False
/-- a dict and a key, as the library tells them -/
inductive DG (X : Cx) (Hf : Hp) (s : Shared) (a : Addr) (u : Value) (o : Option PyData) : Prop
  | k {vs : List (Key × Value)} {k : Key} : (mixKind X.prog X.w).is k u = true → s.heap.DictOf (mixKind X.prog X.w) a vs → (a == sysModules) = false → OkV (kw X) Hf (valueAt vs k) o → DG X Hf s a u o
  | n {xs : List (NestedKey × Addr × Value)} {k : NestedKey} {p : Addr} : u = .ref p → (nestedKind X.prog X.w).is s.heap k p → s.heap.DictOfH (nestedKind X.prog X.w) a xs → (a == sysModules) = false → OkV (kw X) Hf ((atKey xs k).map (·.2)) o → DG X Hf s a u o
theorem dn_of (I : Inv X pins σ H s) {a : Addr} {ep : Nat} {xs : List (NestedKey × Addr × Value)} {es : List (PyData × PyData)} (e : H a = some (DnO X.w a ep xs)) (r : RepNt (kw X) H xs es) : xs.length ≤ sizeLine ∧ (a == sysModules) = false ∧ s.heap.DictOfH (nestedKind X.prog X.w) a xs := by
  obtain ⟨⟨z, hd, nd, o, es, h1, h2, h3, h4⟩, _, _⟩ := I.hok a _ e
  exact ⟨z, hd, o, es, ep, h1, h2, h3, h4, RepNt.is I r, nd⟩
/-- an empty dict is of either kind -/
theorem dn_empty {a : Addr} (h : s.heap.DictOf (mixKind X.prog X.w) a []) : s.heap.DictOfH (nestedKind X.prog X.w) a [] := by
  obtain ⟨o, es, ep, h1, h2, h3, _, hp, _⟩ := h
  have : es.toList = [] := by
    generalize es.toList = l at hp
    cases hp
    rfl
  exact ⟨o, es, ep, h1, h2, h3, by rw [this]; rfl, (fun x hx => nomatch hx), List.nodup_nil⟩
theorem dk_empty' {a : Addr} (h : s.heap.DictOfH (nestedKind X.prog X.w) a []) : s.heap.DictOf (mixKind X.prog X.w) a [] := by
  obtain ⟨o, es, ep, h1, h2, h3, h4, _, _⟩ := h
  have : es = #[] := by
    obtain ⟨l⟩ := es
    simp at h4
    subst h4
    rfl
  subst this
  have q := Heap.DictOf.new (knd := mixKind X.prog X.w) s.heap
  obtain ⟨o', es', ep', g1, g2, g3, g4, g5, g6⟩ := q
  rw [Heap.get?_push_size _ rfl] at g1
  cases g1
  injection g3 with g3 _
  subst g3
  exact ⟨o, #[], ep, h1, h2, h3, g4, g5, g6⟩
theorem Vw.dg (I : Inv X pins σ H s) (sm : Same Hf H) {v : V} {es : List (PyData × PyData)} {y : V} {d : PyData} {u : Value} (h : Vw (kw X) H Hf v (.dict es)) (hy : Vw (kw X) H Hf y d) (ry : RelV y u) (ok : dOk es d = true) : ∃ a, v = .ref a ∧ DG X Hf s a u (dLook es d) := by
  simp only [dOk, Bool.or_eq_true, Bool.and_eq_true] at ok
  rcases ok with ⟨k0, ka⟩ | ⟨k1, ka⟩
  · obtain ⟨l, hl⟩ := Option.isSome_iff_exists.mp k0
    have ey : y = kV l := by
      cases d <;> simp [kOf] at hl <;> subst hl
      · exact hy.int
      · exact hy.str
    subst ey
    obtain ⟨a, rfl, ⟨kvs, ha, r⟩ | ⟨ep0, xs, ha, r⟩⟩ := h.dct sm (kinds_ne (.inl ka))
    · obtain ⟨z, hd, vs, rel, dd⟩ := dk_of I.hok ha
      refine ⟨a, rfl, .k (kV_is ry) dd hd ?_⟩
      have q := rel.val l
      rcases r.look hl with ⟨v, x, h1, h2, h3⟩ | ⟨h1, h2⟩
      · rw [h1] at q
        rw [h2]
        obtain ⟨w, hw, rw'⟩ := RelO.some_of q
        rw [hw]
        exact ⟨v, rw', h3⟩
      · rw [h1] at q
        rw [h2]
        cases hv : valueAt vs l with
        | none => trivial
        | some w => rw [hv] at q; exact q.elim
    · obtain ⟨rfl, rfl⟩ := r.no0 ka
      obtain ⟨z, hd, dd⟩ := dn_of I ha (RepNt.nil (H := H))
      exact ⟨a, rfl, .k (kV_is ry) (dk_empty' dd) hd trivial⟩
  · obtain ⟨k, hk, dp, ds, rfl⟩ := kind1_some k1
    have ry0 : Rep (kw X) H y (.tuple ds) := hy.rep sm
    obtain ⟨p, rfl⟩ : ∃ p, y = .ref p := by
      obtain ⟨p, _, e, _⟩ := hy.tup sm
      exact ⟨p, e⟩
    cases ry
    have nk : (nestedKind X.prog X.w).is s.heap k p := ⟨Rep.nk I ry0 hk rfl, dp⟩
    obtain ⟨a, rfl, ⟨kvs, ha, r⟩ | ⟨ep0, xs, ha, r⟩⟩ := h.dct sm (kinds_ne (.inr ka))
    · obtain ⟨rfl, rfl⟩ := r.no1 ka
      obtain ⟨z, hd, vs, rel, dd⟩ := dk_of I.hok ha
      cases rel
      exact ⟨a, rfl, .n rfl nk (dn_empty dd) hd trivial⟩
    · obtain ⟨z, hd, dd⟩ := dn_of I ha (r.mono sm)
      refine ⟨a, rfl, .n rfl nk dd hd ?_⟩
      rcases r.look hk with ⟨p', v, u, x, h1, h2, h3, h4⟩ | ⟨h1, h2⟩
      · rw [h1, h3]
        exact ⟨v, h2, h4⟩
      · rw [h1, h2]
        trivial
end
end Pl

/-! Pl10 -/
set_option Elab.async false
set_option linter.all false
set_option maxRecDepth 100000
set_option maxHeartbeats 4000000
/-! Index, in, slices, len, tuple, list, abs, all, any, is, isinstance. -/
namespace Pl
open PySem PySem.Spec PyProof.Rows L2
section
variable {K : KW} {H : Hp}
theorem RepAll.atI : ∀ {v : List V} {d : List PyData} {i : Int} {y : PyData}, RepAll K H v d → L2.atI d i = some y → ∃ x, L2.atI v i = some x ∧ Rep K H x y := by
  intro v d i y r e
  unfold L2.atI at e ⊢
  rw [r.length]
  cases h : ixN d.length i with
  | none => rw [h] at e; cases e
  | some j =>
    rw [h] at e
    obtain ⟨x, h1, h2⟩ := r.get' (i := j) e
    exact ⟨x, h1, h2⟩
def cutD {α : Type} (xs : List α) (lo hi : Option Int) : List α := (xs.drop (HT.sIx xs.length 0 lo)).take (HT.sIx xs.length xs.length hi - HT.sIx xs.length 0 lo)
theorem RepAll.cut {v : List V} {d : List PyData} {lo hi : Option Int} (r : RepAll K H v d) : RepAll K H (cutV v lo hi) (cutD d lo hi) := by
  unfold cutV cutD
  rw [r.length]
  exact (r.drop _).take _
theorem cutD_whole {α : Type} {xs : List α} {lo hi : Option Int} (h1 : HT.sIx xs.length 0 lo = 0) (h2 : HT.sIx xs.length xs.length hi = xs.length) : cutD xs lo hi = xs := by
  unfold cutD
  rw [h1, h2]
  simp
end
/-! ### d[i] -/
def pIx (d e : PyData) : Option Rv := match d, e with
  | .list ds, .int i => (L2.atI ds i).map .dat
  | .tuple ds, .int i => (L2.atI ds i).map .dat
  | .str z, .int i => if z.length ≤ SZ then (L2.atI z.cps.toList i).map fun c => .dat (.str ⟨#[c]⟩) else none
  | .dict es, k => if dOk es k = true then (dLook es k).map .dat else none
  | _, _ => none
section
variable {X : Cx}
theorem dg_typeIs {pins : List (Addr × Obj)} {σ : L2.St} {H Hf : Hp} {s : Shared} {a : Addr} {u : Value} {o : Option PyData} (g : DG X Hf s a u o) : s.TypeIs (.ref a) "dict" := by
  cases g with
  | k _ d _ _ => exact d.typeIs
  | n _ _ d _ _ => exact d.typeIs
theorem dg_getItem {pins : List (Addr × Obj)} {σ : L2.St} {H Hf : Hp} {s : Shared} {a : Addr} {u : Value} {x : PyData} {A : Around} {E : Value → Shared → Prop} {Q : Value → Shared → Prop} (hu : A.units + 9 < cLine) (I : Inv X pins σ H s) (g : DG X Hf s a u (some x))
    (h : ∀ w' s', Inv X pins σ H s' → ∀ v, RelV v w' → Rep (kw X) Hf v x → Q w' s') : wpAny (model X.prog X.w) A (getItem (.ref a) u) Q E s := by
  cases g with
  | @k vs k hk dd hd ok =>
    cases hv : valueAt vs k with
    | none => rw [hv] at ok; exact ok.elim
    | some w =>
      rw [hv] at ok
      obtain ⟨v, r1, r2⟩ := ok
      exact wpAny_getItem_of hk dd.mapOf hv (h w _ (I.tok _) v r1 r2)
  | @n xs k p hu' hk dd hd ok =>
    subst hu'
    cases hv : atKey xs k with
    | none => rw [hv] at ok; exact ok.elim
    | some q =>
      rw [hv] at ok
      obtain ⟨v, r1, r2⟩ := ok
      exact wpAny_getItem_heap (show A.units + 1 + 8 < cLine by omega) hk dd hv (h q.2 _ (I.tok _) v r1 r2)
theorem ix_pIx (hu : X.A.units + 64 < cLine) : IxR X (rD (kw X) pIx) := by
  intro value slice pins s σ H x y v u Q I rx ry h hs
  obtain ⟨Hf, d, e, r, sm, vd, ve, hg, k⟩ := h
  cases d with
  | list ds =>
    cases e with
    | int i =>
      simp only [pIx, Option.map_eq_some_iff] at hg
      obtain ⟨z, hz, rfl⟩ := hg
      obtain ⟨a, xs, rfl, ha, ra⟩ := vd.lst sm
      cases ve.int
      obtain ⟨w, hw, rw'⟩ := ra.atI hz
      exact ix_list value slice pins s σ H _ _ v u Q I rx ry ⟨a, xs, i, w, rfl, rfl, SqL.of ha, hw, give sm rw' k⟩ hs
    | _ => cases hg
  | tuple ds =>
    cases e with
    | int i =>
      simp only [pIx, Option.map_eq_some_iff] at hg
      obtain ⟨z, hz, rfl⟩ := hg
      obtain ⟨a, xs, rfl, ha, ra⟩ := vd.tup sm
      cases ve.int
      obtain ⟨w, hw, rw'⟩ := ra.atI hz
      exact ix_tup value slice pins s σ H _ _ v u Q I rx ry ⟨a, xs, i, w, rfl, rfl, ha.sq, hw, give sm rw' k⟩ hs
    | _ => cases hg
  | str z =>
    cases e with
    | int i =>
      simp only [pIx] at hg
      split at hg
      · rename_i hz
        simp only [Option.map_eq_some_iff] at hg
        obtain ⟨c, hc, rfl⟩ := hg
        cases vd.str
        cases ve.int
        exact ix_str value slice pins s σ H _ _ v u Q I rx ry ⟨z, i, c, rfl, rfl, by rw [szLine]; exact hz, hc, give sm (.str _) k⟩ hs
      · cases hg
    | _ => cases hg
  | dict es =>
    have hg' : (if dOk es e = true then (dLook es e).map Rv.dat else none) = some r := by
      cases e <;> exact hg
    split at hg'
    · rename_i ok
      simp only [Option.map_eq_some_iff] at hg'
      obtain ⟨z, hz, rfl⟩ := hg'
      obtain ⟨a, rfl, g⟩ := vd.dg I sm ve ry ok
      rw [hz] at g
      cases rx
      exact tail_any (dg_typeIs (pins := pins) (σ := σ) (H := H) g) PySem.F.slot_dict_getitem.lookup (dg_getItem (by omega) I g fun w' s' I' v r1 r2 => ⟨v, H, I', r1, give sm r2 k⟩) hs
    · cases hg'
  | _ => cases e <;> cases hg
/-! ### x in c, x not in c -/
def hasIn (d e : PyData) : Option Bool := match e with
  | .list es => if dep d && dep e then some (es.any fun y => PyData.eqv y d) else none
  | .tuple es => if dep d && dep e then some (es.any fun y => PyData.eqv y d) else none
  | .str z => match d with
    | .str x => match x.cps.toList with
      | [c] => some (decide (c ∈ z.cps.toList))
      | _ => none
    | _ => none
  | .dict es => if dOk es d then some (dLook es d).isSome else none
  | _ => none
def pIn (d e : PyData) : Option Rv := (hasIn d e).map fun b => .dat (.bool b)
def pNotIn (d e : PyData) : Option Rv := (hasIn d e).map fun b => .dat (.bool (!b))
theorem okV_some {Hf : Hp} {o : Option Value} {q : Option PyData} (h : OkV (kw X) Hf o q) : o.isSome = q.isSome := by
  cases o <;> cases q <;> first | rfl | exact h.elim
theorem op_hasIn (hu : X.A.units + 70 < cLine) (neg : Bool) {pins : List (Addr × Obj)} {σ : L2.St} {H Hf : Hp} {s : Shared} {x y : V} {v u : Value} {d e : PyData} {b : Bool} {Q : VK} (I : Inv X pins σ H s) (rx : RelV x v) (ry : RelV y u) (sm : Same Hf H) (vd : Vw (kw X) H Hf x d) (ve : Vw (kw X) H Hf y e) (hg : hasIn d e = some b)
    (k : Q (.bl (if neg then !b else b)) H) : wpAny (model X.prog X.w) X.A (compareOp (if neg then .NotIn else .In) v u) (EP X pins σ Q) X.xe s := by
  have seq : ∀ {es : List PyData} {w : PyData}, (e = .list es ∨ e = .tuple es) → dep d = true → dep e = true → ∃ as bs, Reads s.heap v d as ∧ Reads s.heap u e bs ∧ d.plain = true ∧ PyData.plainAll es = true ∧ X.A.units + 1 + min (PyData.depthAll es) d.depth < cLine := by
    intro es w he h1 h2
    simp only [dep, Bool.and_eq_true, decide_eq_true_eq] at h1 h2
    obtain ⟨as, r1⟩ := vd.reads I sm h1.1 rx
    obtain ⟨bs, r2⟩ := ve.reads I sm h2.1 ry
    refine ⟨as, bs, r1, r2, h1.1, ?_, by omega⟩
    rcases he with rfl | rfl <;> simpa only [PyData.plain] using h2.1
  cases e with
  | list es =>
    simp only [hasIn] at hg
    split at hg
    · rename_i hk
      rw [Bool.and_eq_true] at hk
      injection hg with hg
      obtain ⟨as, bs, r1, r2, p1, p2, hd⟩ := seq (w := .none) (.inl rfl) hk.1 hk.2
      cases neg with
      | true => exact SeqAt.notIn_list_data r2 r1 p2 p1 hd ⟨.bl _, H, I, rfl, by rw [hg]; exact k⟩
      | false => exact SeqAt.in_list_data r2 r1 p2 p1 hd ⟨.bl _, H, I, rfl, by rw [hg]; exact k⟩
    · cases hg
  | tuple es =>
    simp only [hasIn] at hg
    split at hg
    · rename_i hk
      rw [Bool.and_eq_true] at hk
      injection hg with hg
      obtain ⟨as, bs, r1, r2, p1, p2, hd⟩ := seq (w := .none) (.inr rfl) hk.1 hk.2
      cases neg with
      | true => exact SeqAt.notIn_tuple_data r2 r1 p2 p1 hd ⟨.bl _, H, I, rfl, by rw [hg]; exact k⟩
      | false => exact SeqAt.in_tuple_data r2 r1 p2 p1 hd ⟨.bl _, H, I, rfl, by rw [hg]; exact k⟩
    · cases hg
  | dict es =>
    simp only [hasIn] at hg
    split at hg
    · rename_i ok
      injection hg with hg
      obtain ⟨a, rfl, g⟩ := ve.dg I sm vd rx ok
      cases ry
      cases g with
      | k hk dd hd okv =>
        have hb := (okV_some okv).trans hg
        cases neg with
        | true => exact wpAny_notIn_of hk hd dd.mapOf (by rw [hb]; exact ⟨.bl _, H, I.tok _, rfl, k⟩)
        | false => exact wpAny_in_of hk hd dd.mapOf (by rw [hb]; exact ⟨.bl _, H, I.tok _, rfl, k⟩)
      | n hu' hk dd hd okv =>
        subst hu'
        have hb := (okV_some okv).trans hg
        rw [Option.isSome_map] at hb
        cases neg with
        | true => exact wpAny_notIn_heap (show X.A.units + 1 + 8 < cLine by omega) hk hd dd (by rw [hb]; exact ⟨.bl _, H, I.tok _, rfl, k⟩)
        | false => exact wpAny_in_heap (show X.A.units + 1 + 8 < cLine by omega) hk hd dd (by rw [hb]; exact ⟨.bl _, H, I.tok _, rfl, k⟩)
    · cases hg
  | str z =>
    cases d with
    | str w =>
      simp only [hasIn] at hg
      split at hg
      · rename_i c hc
        injection hg with hg
        have hw : w = ⟨#[c]⟩ := by
          obtain ⟨⟨l⟩⟩ := w
          simp at hc
          subst hc
          rfl
        subst hw
        cases vd.str
        cases ve.str
        cases neg with
        | true => exact op_notIn_sign pins s σ H _ _ v u Q I rx ry ⟨c, z, rfl, rfl, by rw [hg]; exact k⟩
        | false => exact op_in_sign pins s σ H _ _ v u Q I rx ry ⟨c, z, rfl, rfl, by rw [hg]; exact k⟩
      · cases hg
    | _ => cases hg
  | _ => cases hg
theorem op_pIn (hu : X.A.units + 70 < cLine) : OpR X (compareOp .In) (rD (kw X) pIn) := by
  intro pins s σ H x y v u Q I rx ry h
  obtain ⟨Hf, d, e, r, sm, vd, ve, hg, k⟩ := h
  simp only [pIn, Option.map_eq_some_iff] at hg
  obtain ⟨b, hb, rfl⟩ := hg
  exact op_hasIn hu false I rx ry sm vd ve hb (give sm (.bl _) k)
theorem op_pNotIn (hu : X.A.units + 70 < cLine) : OpR X (compareOp .NotIn) (rD (kw X) pNotIn) := by
  intro pins s σ H x y v u Q I rx ry h
  obtain ⟨Hf, d, e, r, sm, vd, ve, hg, k⟩ := h
  simp only [pNotIn, Option.map_eq_some_iff] at hg
  obtain ⟨b, hb, rfl⟩ := hg
  exact op_hasIn hu true I rx ry sm vd ve hb (give sm (.bl _) k)
/-! ### is, is not -/
def isNoneD : PyData → Bool
  | .none => true
  | _ => false
def isIt (d e : PyData) : Option Bool := match e with
  | .none => some (isNoneD d)
  | .bool b => match d with
    | .bool a => some (decide (a = b))
    | _ => none
  | _ => none
def pIs (d e : PyData) : Option Rv := (isIt d e).map fun b => .dat (.bool b)
def pIsNot (d e : PyData) : Option Rv := (isIt d e).map fun b => .dat (.bool (!b))
theorem Vw.isNon {K : KW} {H Hf : Hp} {v : V} {d : PyData} (h : Vw K H Hf v d) : decide (v = .non) = isNoneD d := by
  rcases h with h | ⟨a, o, rfl, e, q⟩
  · cases h <;> simp [roD, stD, insD, isNoneD]
  · cases q <;> simp [stD, insD, isNoneD]
theorem op_pIs : OpR X (compareOp .Is) (rD (kw X) pIs) := by
  intro pins s σ H x y v u Q I rx ry h
  obtain ⟨Hf, d, e, r, sm, vd, ve, hg, k⟩ := h
  simp only [pIs, Option.map_eq_some_iff] at hg
  obtain ⟨b, hb, rfl⟩ := hg
  cases e with
  | none =>
    simp only [isIt] at hb
    cases ve.non
    exact op_isN pins s σ H _ _ v u Q I rx ry ⟨rfl, by rw [vd.isNon, Option.some.inj hb]; exact give sm (.bl _) k⟩
  | bool c =>
    cases d with
    | bool a =>
      simp only [isIt] at hb
      cases vd.bl
      cases ve.bl
      exact op_isBl pins s σ H _ _ v u Q I rx ry ⟨a, c, rfl, rfl, by rw [Option.some.inj hb]; exact give sm (.bl _) k⟩
    | _ => cases hb
  | _ => cases hb
theorem op_pIsNot : OpR X (compareOp .IsNot) (rD (kw X) pIsNot) := by
  intro pins s σ H x y v u Q I rx ry h
  obtain ⟨Hf, d, e, r, sm, vd, ve, hg, k⟩ := h
  simp only [pIsNot, Option.map_eq_some_iff] at hg
  obtain ⟨b, hb, rfl⟩ := hg
  cases e with
  | none =>
    simp only [isIt] at hb
    cases ve.non
    exact op_notN pins s σ H _ _ v u Q I rx ry ⟨rfl, by rw [vd.isNon, Option.some.inj hb]; exact give sm (.bl _) k⟩
  | bool c =>
    cases d with
    | bool a =>
      simp only [isIt] at hb
      cases vd.bl
      cases ve.bl
      exact op_notBl pins s σ H _ _ v u Q I rx ry ⟨a, c, rfl, rfl, by rw [Option.some.inj hb]; exact give sm (.bl _) k⟩
    | _ => cases hb
  | _ => cases hb
/-! ### slices -/
def pSl (d : PyData) (lo hi : Option Int) : Option Rv := match d with
  | .list ds => some (.new (.list (cutD ds lo hi)))
  | .tuple ds => some (.dat (.tuple (cutD ds lo hi)))
  | .str z => if z.length ≤ SZ then some (.dat (.str (cutS z lo hi))) else none
  | .dict [(.list [], .list ds)] => some (.new (.list (cutD ds lo hi)))
  | _ => none
def rDSl (K : KW) : V → Option Int → Option Int → Hp → VK → Prop := fun x lo hi H Q => ∃ Hf d r, Same Hf H ∧ Vw K H Hf x d ∧ pSl d lo hi = some r ∧ ∀ v H' Hf', Grow H Hf H' Hf' → RvN K H H' Hf' v r → Q v H'
theorem sl_pSl : SlR X (rDSl (kw X)) := by
  intro pins s σ H x v vl vu lo hi sl Q I rx hs pl pu h
  obtain ⟨Hf, d, r, sm, vd, hg, k⟩ := h
  unfold pSl at hg
  split at hg
  · injection hg with hg; subst hg
    obtain ⟨a, xs, rfl, ha, ra⟩ := vd.lst sm
    exact sl_list pins s σ H _ v vl vu lo hi sl Q I rx hs pl pu ⟨a, xs, rfl, SqL.of ha, giveNew sm (fun _ => .lst ra.cut) k⟩
  · injection hg with hg; subst hg
    obtain ⟨a, xs, rfl, ha, ra⟩ := vd.tup sm
    refine sl_tupF pins s σ H _ v vl vu lo hi sl Q I rx hs pl pu ⟨a, xs, rfl, ha.sq, fun hw => ?_, fun hw => giveTup sm ra.cut k⟩
    rw [ra.length] at hw
    rw [cutD_whole hw.1 hw.2] at k
    rcases vd with vd | ⟨_, _, _, _, q⟩
    · exact give sm vd k
    · cases q
  · split at hg
    · rename_i hz
      injection hg with hg; subst hg
      cases vd.str
      exact sl_str pins s σ H _ v vl vu lo hi sl Q I rx hs pl pu ⟨_, rfl, by rw [szLine]; exact hz, give sm (.str _) k⟩
    · cases hg
  · injection hg with hg; subst hg
    obtain ⟨a, xs, rfl, ha, ra⟩ := Vw.ro sm vd
    exact sl_list pins s σ H _ v vl vu lo hi sl Q I rx hs pl pu ⟨a, xs, rfl, ha, giveNew sm (fun _ => .lst ra.cut) k⟩
  · cases hg
end
/-- a part of a slice -/
abbrev MP := MS → Out (Option Int)
def mNoPart : MP := fun ms => .ok none ms
def mPart (f : ME) : MP := fun ms => (f ms).bind fun r ms1 => match view ms1 r with
  | some (.int i) => .ok (some i) ms1
  | _ => .stuck
def mSl (fe : ME) (fl fh : MP) : ME := fun ms => (fe ms).bind fun r ms1 => (fl ms1).bind fun l ms2 => (fh ms2).bind fun h ms3 => match view ms3 r with
  | some d => match pSl d l h with
    | some r' => .ok r' ms3
    | none => .stuck
  | none => .stuck
def tPx (K : KW) (mg : Str → Option Value) (W : WX) (f : MP) : TO := fun σ H Q => ∃ la ms Hf, SR K la ms σ H Hf ∧ After K mg W la σ Hf (fun o ms' H' Hf' => Q o H') (f ms)
structure PX (X : Cx) (W : WX) (e : Option Expr) (f : MP) : Prop where
  po : PO X e (tPx (kw X) X.mg W f)
theorem PO.imp {X : Cx} {e : Option Expr} {t t' : TO} (h : PO X e t) (i : ∀ σ H Q, t' σ H Q → t σ H Q) : PO X e t' := ⟨fun pins s σ H Q I q => h.run pins s σ H Q I (i σ H Q q)⟩
section
variable {X : Cx} {W : WX} {e : Expr} {lo hi : Option Expr} {pos p2 : Pos}
theorem px_none : PX X W none mNoPart := ⟨PO.imp po_none fun σ H Q q => by
  obtain ⟨la, ms, Hf, S, q⟩ := q
  exact q H Hf (.refl _) S⟩
theorem px_some {f : ME} (h : EX X W e f) : PX X W (some e) (mPart f) := ⟨PO.imp (po_some h.pe) fun σ H Q q => by
  obtain ⟨la, ms, Hf, S, q⟩ := q
  refine ⟨la, ms, Hf, S, (After.bind q).imp fun r ms1 H1 Hf1 s1 S1 q1 v rv => ?_⟩
  split at q1
  · rename_i i hv
    cases (RvR.vw S1 rv hv).int
    exact ⟨i, rfl, q1 H1 Hf1 (.refl _) S1⟩
  · exact q1.elim⟩
theorem ex_sl {fe : ME} {fl fh : MP} (he : EX X W e fe) (hl : PX X W lo fl) (hh : PX X W hi fh) : EX X W (.Subscript e (.Slice lo hi none p2) pos) (mSl fe fl fh) := ⟨PE.imp (pe_slice sl_pSl he.pe hl.po hh.po) fun σ H Q q => by
  obtain ⟨la, ms, Hf, S, q⟩ := q
  refine ⟨la, ms, Hf, S, (After.bind q).imp fun r ms1 H1 Hf1 s1 S1 q1 v rv => ?_⟩
  obtain ⟨Hf1', s1', S1', rv'⟩ := rv_settle S1 rv
  refine ⟨la, ms1, Hf1', S1', (After.bind (q1.hf s1')).imp fun l ms2 H2 Hf2 s2 S2 q2 => ?_⟩
  refine ⟨la, ms2, Hf2, S2, (After.bind q2).imp fun h ms3 H3 Hf3 s3 S3 q3 => ?_⟩
  cases e1 : view ms3 r with
  | none => rw [e1] at q3; exact q3.elim
  | some d =>
    rw [e1] at q3
    cases e3 : pSl d l h with
    | none => simp only [e3] at q3; exact q3.elim
    | some r' =>
      simp only [e3] at q3
      have v1 := RvR.vw S3 (RvS.rv ((rv'.later s2).later s3)) (d := d) (by rw [view_settle]; exact e1)
      exact ⟨Hf3, d, r', S3.sub, v1, e3, fun v' H' Hf' G rn => q3 H' Hf' G.ff (S3.grow G) v' (RvN.rv S3 rn)⟩⟩
end
end Pl

/-! Pc -/
set_option Elab.async false
set_option linter.all false
set_option maxRecDepth 100000
set_option maxHeartbeats 4000000
/-! What walks a dict meets its keys. -/
namespace Pl
open PySem PySem.Spec PyProof.Rows L2
/-- the dict is one (no set, no instance) -/
def keysA (es : List (PyData × PyData)) : Bool := es.all fun e => match e.1 with
  | .list _ => false
  | _ => true
theorem keysA_ne {es : List (PyData × PyData)} (h : keysA es = true) : ∀ l ds, es ≠ [(.list l, .list ds)] := by
  intro l ds e
  subst e
  simp [keysA] at h
theorem RepKv.keysAll {K : KW} {H : Hp} : ∀ {kvs : List (Key × V)} {es : List (PyData × PyData)}, RepKv K H kvs es → RepAll K H (kvs.map fun p => kV p.1) (es.map (·.1))
  | _, _, .nil => .nil
  | _, _, .cons (k := k) _ t => .cons (by cases k <;> constructor) t.keysAll
theorem RepNt.keysAll {K : KW} {H : Hp} : ∀ {xs : List (NestedKey × Addr × Value)} {es : List (PyData × PyData)}, RepNt K H xs es → RepAll K H (xs.map fun x => V.ref x.2.1) (es.map (·.1))
  | _, _, .nil => .nil
  | _, _, .cons r _ _ _ _ t => .cons r t.keysAll
section
variable {X : Cx} {pins : List (Addr × Obj)} {σ : L2.St} {H Hf : Hp} {s : Shared} {A : Around} {E : Value → Shared → Prop}
/-- the source that a dict is -/
theorem vw_src (I : Inv X pins σ H s) (sm : Same Hf H) {x : V} {u : Value} {es : List (PyData × PyData)} (vx : Vw (kw X) H Hf x (.dict es)) (rx : RelV x u) (hk : keysA es = true) :
    ∃ (a : Addr) (n : Nat) (P : Nat → Value → Prop) (OK : Heap → Prop), u = .ref a ∧ PySem.W.KdlSrc X.prog X.w "dict" a a n P OK ∧ OK s.heap ∧ n ≤ sizeLine ∧ ∀ acc : Array Value, ItemsOf P acc n → ∃ xs, Vals xs acc.toList ∧ RepAll (kw X) Hf xs (es.map (·.1)) ∧ acc.toList.length ≤ sizeLine := by
  obtain ⟨a, rfl, ⟨kvs, ha, r⟩ | ⟨ep0, xs, ha, r⟩⟩ := vx.dct sm (keysA_ne hk)
  · cases rx
    obtain ⟨z, lo, vs, rel, dd⟩ := dk_of I.hok ha
    obtain ⟨ep, hat⟩ := dd.dictAt
    have hkeys : vs.map (·.1) = kvs.map (·.1) := rel.keys.symm
    have hl : vs.length = kvs.length := by simpa using congrArg List.length hkeys
    refine ⟨a, _, _, _, rfl, PySem.W.kdl_dict (knd := mixKind X.prog X.w) (kvs := vs) (ep := ep) lo, hat, by rw [hl]; exact z, fun acc hacc => ?_⟩
    have hal : acc.toList.length = vs.length := by rw [Array.length_toList, hacc.1]
    have hS := L2.keys_at hal fun j v e => hacc.2 j v (by rw [← Array.getElem?_toList]; exact e)
    have e1 : (vs.map fun p => kV p.1) = kvs.map fun p => kV p.1 := by
      have := congrArg (List.map kV) hkeys
      rw [List.map_map, List.map_map] at this
      exact this
    rw [e1] at hS
    exact ⟨_, hS, r.keysAll, by rw [hal, hl]; exact z⟩
  · cases rx
    obtain ⟨⟨z, hd, nd, o, es', h1, h2, h3, h4⟩, _, _⟩ := I.hok a _ ha
    have hsz : es'.size = xs.length := by
      have : es'.toList.length = xs.length := by rw [h4, List.length_map]
      simpa using this
    refine ⟨a, _, _, _, rfl, kdl_raw hd h2 h3, h1, by rw [hsz]; exact z, fun acc hacc => ?_⟩
    have ea : acc.toList = xs.map fun x => Value.ref x.2.1 := by
      have hl : acc.toList.length = xs.length := by rw [Array.length_toList, hacc.1]; exact hsz
      apply List.ext_getElem?
      intro j
      rw [List.getElem?_map]
      cases hj : acc.toList[j]? with
      | none =>
        have q1 := List.getElem?_eq_none_iff.mp hj
        rw [List.getElem?_eq_none (by omega)]
        rfl
      | some v =>
        obtain ⟨en, hen, hv⟩ := hacc.2 j v (by rw [← Array.getElem?_toList]; exact hj)
        have qe : es'.toList[j]? = (xs.map fun x => (⟨x.1.hash X.w, .ref x.2.1, x.2.2⟩ : DictEntry))[j]? := by rw [h4]
        rw [Array.getElem?_toList, hen, List.getElem?_map] at qe
        cases hb : xs[j]? with
        | none => rw [hb] at qe; cases qe
        | some b =>
          rw [hb] at qe
          cases qe
          rw [hv]
          rfl
    have rv : ∀ ys : List (NestedKey × Addr × Value), Vals (ys.map fun x => V.ref x.2.1) (ys.map fun x => Value.ref x.2.1) := fun ys => by
      induction ys with
      | nil => exact .nil
      | cons y ys ih => exact .cons rfl ih
    exact ⟨_, by rw [ea]; exact rv xs, r.keysAll, by rw [ea, List.length_map]; exact z⟩
theorem vw_collect (hc : A.handled = X.A.handled) (hcalm : X.calm = true) (I : Inv X pins σ H s) (sm : Same Hf H) {x : V} {u : Value} {es : List (PyData × PyData)} {R : List Value → Shared → Prop} (vx : Vw (kw X) H Hf x (.dict es)) (rx : RelV x u) (hk : keysA es = true)
    (k : ∀ (h' : Heap) (tk : Nat) (its : List Value) (xs : List V), (∀ b o, s.heap.get? b = some o → h'.get? b = some o) → Vals xs its → RepAll (kw X) Hf xs (es.map (·.1)) → its.length ≤ sizeLine → R its { s with heap := h', toks := tk }) :
    wpAny (model X.prog X.w) A (collect u) R E s := by
  obtain ⟨a, n, P, OK, rfl, src, hok, hn, back⟩ := vw_src I sm vx rx hk
  refine PySem.W.kdu_collect src (hc.trans (I.ok.hd hcalm)) hok hn fun h' tk acc hkp hacc => ?_
  obtain ⟨xs, rv, ra, hz⟩ := back acc hacc
  exact k h' tk _ _ hkp rv ra hz
theorem list_dict (hcalm : X.calm = true) (I : Inv X pins σ H s) (sm : Same Hf H) {x : V} {u : Value} {es : List (PyData × PyData)} {Q : VK} (vx : Vw (kw X) H Hf x (.dict es)) (rx : RelV x u) (hk : keysA es = true)
    (k : ∀ v H' Hf', Grow H Hf H' Hf' → RvN (kw X) H H' Hf' v (.new (.list (es.map (·.1)))) → Q v H') :
    wpAny (model X.prog X.w) X.A (call (.type "list") [u]) (EP X pins σ Q) X.xe s := by
  obtain ⟨a, n, P, OK, rfl, src, hok, hn, back⟩ := vw_src I sm vx rx hk
  refine PySem.W.kdl_call src (I.ok.hd hcalm) hok hn fun h' tk acc' c' kp e it => ?_
  obtain ⟨xs, rv, ra, hz⟩ := back acc' it
  refine ⟨.ref s.heap.objs.size, _, I.laid (t' := tk) (o := .lst xs) kp (Nat.le_refl _) ?_, rfl, giveNew sm (fun _ => .lst ra) k _ (I.hok.fresh (Nat.le_refl _))⟩
  exact ⟨by rw [rv.length]; exact hz, acc'.toList, c', rv, by rw [Array.toArray_toList]; exact e⟩
end
end Pl

/-! Pl11 -/
set_option Elab.async false
set_option linter.all false
set_option maxRecDepth 100000
set_option maxHeartbeats 4000000
/-! Built-in functions on data. -/
namespace Pl
open PySem PySem.Spec PyProof.Rows L2
section
variable {X : Cx}
theorem VwAll.one {K : KW} {H Hf : Hp} {xs : List V} {d : PyData} (h : VwAll K H Hf xs [d]) : ∃ x, xs = [x] ∧ Vw K H Hf x d := by
  cases h with
  | cons r t => cases t; exact ⟨_, rfl, r⟩
theorem VwAll.two {K : KW} {H Hf : Hp} {xs : List V} {d e : PyData} (h : VwAll K H Hf xs [d, e]) : ∃ x y, xs = [x, y] ∧ Vw K H Hf x d ∧ Vw K H Hf y e := by
  cases h with
  | cons r t => cases t with
    | cons r2 t => cases t; exact ⟨_, _, rfl, r, r2⟩
theorem VwAll.none {K : KW} {H Hf : Hp} {xs : List V} (h : VwAll K H Hf xs []) : xs = [] := by
  cases h
  rfl
/-! ### len -/
def isRo : List (PyData × PyData) → Bool
  | (.list _, _) :: _ => true
  | _ => false
theorem not_ro {es : List (PyData × PyData)} (h : isRo es = false) : ∀ l ds, es ≠ [(.list l, .list ds)] := by
  rintro l ds rfl
  cases h
def pLen (as : List PyData) : Option Rv := match as with
  | [.str z] => if z.length ≤ SZ then dI z.length else none
  | [.list ds] => dI ds.length
  | [.tuple ds] => dI ds.length
  | [.dict es] => if isRo es then none else dI es.length
  | _ => none
theorem call_pLen : CallR X (.builtin "len") (rDs (kw X) pLen) := by
  intro pins s σ H xs us Q I r h
  obtain ⟨Hf, ds, rr, sm, va, hg, k⟩ := h
  unfold pLen at hg
  split at hg
  · split at hg
    · rename_i hz
      injection hg with hg; subst hg
      obtain ⟨x, rfl, vx⟩ := va.one
      cases vx.str
      exact call_len pins s σ H _ us Q I r ⟨_, _, rfl, ⟨by rw [szLine]; exact hz, rfl⟩, give sm (.int _) k⟩
    · cases hg
  · injection hg with hg; subst hg
    obtain ⟨x, rfl, vx⟩ := va.one
    obtain ⟨a, xs, rfl, ha, ra⟩ := vx.lst sm
    rw [← ra.length] at k
    exact call_len_seq pins s σ H _ us Q I r ⟨a, xs, rfl, .inl (SqL.of ha), give sm (.int _) k⟩
  · injection hg with hg; subst hg
    obtain ⟨x, rfl, vx⟩ := va.one
    obtain ⟨a, xs, rfl, ha, ra⟩ := vx.tup sm
    rw [← ra.length] at k
    exact call_len_seq pins s σ H _ us Q I r ⟨a, xs, rfl, .inr ha.sq, give sm (.int _) k⟩
  · split at hg
    · cases hg
    · rename_i hr
      injection hg with hg; subst hg
      obtain ⟨x, rfl, vx⟩ := va.one
      obtain ⟨a, rfl, ⟨kvs, ha, ra⟩ | ⟨ep0, xs, ha, ra⟩⟩ := vx.dct sm (not_ro (by simpa using hr))
      · obtain ⟨u, rfl, rx⟩ := vals1 r
        cases rx
        rw [← ra.length] at k
        exact d_len I (.inl ha) fun t s' I' => ⟨.int _, H, I', ⟨_, rfl⟩, give sm (.int _) k⟩
      · obtain ⟨u, rfl, rx⟩ := vals1 r
        cases rx
        rw [← ra.length] at k
        obtain ⟨z, hd, dd⟩ := dn_of I ha (ra.mono sm)
        have hz : xs.length ≤ 16777216 := by rw [sizeLine_eq] at z; exact z
        have hw : s.heap.DictKeyed (nestedKind X.prog X.w) a (pairsH xs) := ⟨xs, dd, rfl⟩
        exact PyProof.Rows.call_len_slot (n := (xs.length : Int)) dd.typeIs PySem.F.slot_dict_len (fun Q' hq => len_keyed hd hw (by rw [pairsH_length]; exact hq)) (by omega) (by omega)
          ⟨.int _, H, (I.tok _), ⟨_, rfl⟩, give sm (.int _) k⟩
  · cases hg
/-! ### tuple, list -/
def pTuple (as : List PyData) : Option Rv := match as with
  | [.list ds] => some (.dat (.tuple ds))
  | [.tuple ds] => some (.dat (.tuple ds))
  | _ => none
theorem call_pTuple : CallR X (.type "tuple") (rDs (kw X) pTuple) := by
  intro pins s σ H xs us Q I r h
  obtain ⟨Hf, ds, rr, sm, va, hg, k⟩ := h
  unfold pTuple at hg
  split at hg
  · injection hg with hg; subst hg
    obtain ⟨x, rfl, vx⟩ := va.one
    obtain ⟨a, xs, rfl, ha, ra⟩ := vx.lst sm
    exact call_tupleF pins s σ H _ us Q I r ⟨a, xs, rfl, .inl ⟨SqL.of ha, giveTup sm ra k⟩⟩
  · injection hg with hg; subst hg
    obtain ⟨x, rfl, vx⟩ := va.one
    obtain ⟨a, xs, rfl, ha, ra⟩ := vx.tup sm
    refine call_tupleF pins s σ H _ us Q I r ⟨a, xs, rfl, .inr ⟨ha.sq, ?_⟩⟩
    rcases vx with vx | ⟨_, _, _, _, q⟩
    · exact give sm vx k
    · cases q
  · cases hg
def pList (as : List PyData) : Option Rv := match as with
  | [.list ds] => some (.new (.list ds))
  | [.tuple ds] => some (.new (.list ds))
  | [.dict [(.list [], .list ds)]] => some (.new (.list ds))
  | [.dict es] => if keysA es = true then some (.new (.list (es.map (·.1)))) else none
  | _ => none
theorem call_pList (hcalm : X.calm = true) : CallR X (.type "list") (rDs (kw X) pList) := by
  intro pins s σ H xs us Q I r h
  obtain ⟨Hf, ds, rr, sm, va, hg, k⟩ := h
  unfold pList at hg
  split at hg
  · injection hg with hg; subst hg
    obtain ⟨x, rfl, vx⟩ := va.one
    obtain ⟨a, xs, rfl, ha, ra⟩ := vx.lst sm
    exact call_list_of pins s σ H _ us Q I r ⟨a, xs, rfl, .inl (SqL.of ha), giveNew sm (fun _ => .lst ra) k⟩
  · injection hg with hg; subst hg
    obtain ⟨x, rfl, vx⟩ := va.one
    obtain ⟨a, xs, rfl, ha, ra⟩ := vx.tup sm
    exact call_list_of pins s σ H _ us Q I r ⟨a, xs, rfl, .inr ha.sq, giveNew sm (fun _ => .lst ra) k⟩
  · injection hg with hg; subst hg
    obtain ⟨x, rfl, vx⟩ := va.one
    obtain ⟨a, xs, rfl, ha, ra⟩ := Vw.ro sm vx
    exact call_list_of pins s σ H _ us Q I r ⟨a, xs, rfl, .inl ha, giveNew sm (fun _ => .lst ra) k⟩
  · split at hg
    · rename_i es _ hk
      cases hg
      obtain ⟨x, rfl, vx⟩ := va.one
      obtain ⟨u, rfl, rx⟩ := vals1 r
      exact list_dict hcalm I sm vx rx hk k
    · cases hg
  · cases hg
/-! ### abs, all, any, sum, min, max -/
def pAbs (as : List PyData) : Option Rv := match as with
  | [.int i] => dI (if i < 0 then -i else i)
  | _ => none
theorem call_pAbs : CallR X (.builtin "abs") (rDs (kw X) pAbs) := by
  intro pins s σ H xs us Q I r h
  obtain ⟨Hf, ds, rr, sm, va, hg, k⟩ := h
  unfold pAbs at hg
  split at hg
  · injection hg with hg; subst hg
    obtain ⟨x, rfl, vx⟩ := va.one
    cases vx.int
    exact call_abs pins s σ H _ us Q I r ⟨_, rfl, give sm (.int _) k⟩
  · cases hg
def boolsOf : List PyData → Option (List Bool)
  | [] => some []
  | .bool b :: ds => (boolsOf ds).map (b :: ·)
  | _ => none
def intsOf : List PyData → Option (List Int)
  | [] => some []
  | .int b :: ds => (intsOf ds).map (b :: ·)
  | _ => none
def strsOf : List PyData → Option (List Str)
  | [] => some []
  | .str b :: ds => (strsOf ds).map (b :: ·)
  | _ => none
theorem RepAll.bls {K : KW} {H : Hp} : ∀ {xs : List V} {ds : List PyData} {bs : List Bool}, RepAll K H xs ds → boolsOf ds = some bs → xs = bs.map V.bl
  | _, _, _, .nil, e => by cases e; rfl
  | _, _, _, .cons (d := d) h r, e => by
    cases d with
    | bool b =>
      simp only [boolsOf, Option.map_eq_some_iff] at e
      obtain ⟨bs, e1, rfl⟩ := e
      cases h
      rw [RepAll.bls r e1]
      rfl
    | _ => simp [boolsOf] at e
theorem RepAll.ints {K : KW} {H : Hp} : ∀ {xs : List V} {ds : List PyData} {bs : List Int}, RepAll K H xs ds → intsOf ds = some bs → xs = bs.map V.int
  | _, _, _, .nil, e => by cases e; rfl
  | _, _, _, .cons (d := d) h r, e => by
    cases d with
    | int b =>
      simp only [intsOf, Option.map_eq_some_iff] at e
      obtain ⟨bs, e1, rfl⟩ := e
      cases h
      rw [RepAll.ints r e1]
      rfl
    | _ => simp [intsOf] at e
theorem RepAll.strs {K : KW} {H : Hp} : ∀ {xs : List V} {ds : List PyData} {bs : List Str}, RepAll K H xs ds → strsOf ds = some bs → xs = bs.map V.str
  | _, _, _, .nil, e => by cases e; rfl
  | _, _, _, .cons (d := d) h r, e => by
    cases d with
    | str b =>
      simp only [strsOf, Option.map_eq_some_iff] at e
      obtain ⟨bs, e1, rfl⟩ := e
      cases h
      rw [RepAll.strs r e1]
      rfl
    | _ => simp [strsOf] at e
def pAll (as : List PyData) : Option Rv := match as with
  | [.list ds] => (boolsOf ds).map fun bs => .dat (.bool (bs.all id))
  | _ => none
def pAny (as : List PyData) : Option Rv := match as with
  | [.list ds] => (boolsOf ds).map fun bs => .dat (.bool (bs.any id))
  | _ => none
def pSum (as : List PyData) : Option Rv := match as with
  | [.list ds] => (intsOf ds).map fun bs => .dat (.int bs.sum)
  | _ => none
theorem call_pAll (hc : X.calm = true) : CallR X (.builtin "all") (rDs (kw X) pAll) := by
  intro pins s σ H xs us Q I r h
  obtain ⟨Hf, ds, rr, sm, va, hg, k⟩ := h
  unfold pAll at hg
  split at hg
  · simp only [Option.map_eq_some_iff] at hg
    obtain ⟨bs, hb, rfl⟩ := hg
    obtain ⟨x, rfl, vx⟩ := va.one
    obtain ⟨a, xs, rfl, ha, ra⟩ := vx.lst sm
    exact cr_all hc pins s σ H _ us Q I r ⟨a, bs, rfl, SqL.of (ra.bls hb ▸ ha), give sm (.bl _) k⟩
  · cases hg
theorem call_pAny (hc : X.calm = true) : CallR X (.builtin "any") (rDs (kw X) pAny) := by
  intro pins s σ H xs us Q I r h
  obtain ⟨Hf, ds, rr, sm, va, hg, k⟩ := h
  unfold pAny at hg
  split at hg
  · simp only [Option.map_eq_some_iff] at hg
    obtain ⟨bs, hb, rfl⟩ := hg
    obtain ⟨x, rfl, vx⟩ := va.one
    obtain ⟨a, xs, rfl, ha, ra⟩ := vx.lst sm
    exact cr_any hc pins s σ H _ us Q I r ⟨a, bs, rfl, SqL.of (ra.bls hb ▸ ha), give sm (.bl _) k⟩
  · cases hg
theorem call_pSum (hc : X.calm = true) : CallR X (.builtin "sum") (rDs (kw X) pSum) := by
  intro pins s σ H xs us Q I r h
  obtain ⟨Hf, ds, rr, sm, va, hg, k⟩ := h
  unfold pSum at hg
  split at hg
  · simp only [Option.map_eq_some_iff] at hg
    obtain ⟨bs, hb, rfl⟩ := hg
    obtain ⟨x, rfl, vx⟩ := va.one
    obtain ⟨a, xs, rfl, ha, ra⟩ := vx.lst sm
    exact cr_sum hc pins s σ H _ us Q I r ⟨a, bs, rfl, SqL.of (ra.ints hb ▸ ha), give sm (.int _) k⟩
  · cases hg
/-! ### isinstance -/
def tyN : PyData → Option String
  | .none => some "NoneType"
  | .bool _ => some "bool"
  | .int _ => some "int"
  | .str _ => some "str"
  | .list _ => some "list"
  | .tuple _ => some "tuple"
  | .dict es => if isRo es then none else some "dict"
def isiB (t c : String) : Bool := t == c || (t == "bool" && c == "int")
def okTy (c : String) : Bool := c == "str" || c == "int" || c == "bool" || c == "list" || c == "tuple" || c == "dict"
def pIsi (cs : List String) (d : PyData) : Option Bool := if cs.all okTy then (tyN d).map fun t => cs.any (isiB t) else none
theorem kit_rep {pins : List (Addr × Obj)} {σ : L2.St} {H Hf : Hp} {s : Shared} {v : V} {u : Value} {d : PyData} {t : String} (I : Inv X pins σ H s) (sm : Same Hf H) (h : Vw (kw X) H Hf v d) (r : RelV v u) (e : tyN d = some t) :
    ∃ P : Heap → Prop, PySem.W.KitX X.K u (.type t) P ∧ P s.heap ∧ u ≠ .builtin "__main__.__loader__#opaque" := by
  cases d with
  | none => cases h.non; cases e; cases r; exact ⟨_, PySem.W.kitx_none, True.intro, fun z => nomatch z⟩
  | bool b => cases h.bl; cases e; cases r; exact ⟨_, PySem.W.kitx_bool, True.intro, fun z => nomatch z⟩
  | int i => cases h.int; cases e; obtain ⟨_, rfl⟩ := r; exact ⟨_, PySem.W.kitx_int, True.intro, fun z => nomatch z⟩
  | str x => cases h.str; cases e; obtain ⟨_, rfl⟩ := r; exact ⟨_, PySem.W.kitx_str, True.intro, fun z => nomatch z⟩
  | list ds =>
    cases e
    obtain ⟨a, xs, rfl, ha, _⟩ := h.lst sm
    cases r
    obtain ⟨its, _, pl, _⟩ := I.list (SqL.of ha)
    obtain ⟨o, ho, hc, _⟩ := pl.isList
    exact ⟨_, PySem.W.kitx_list, ⟨o, ho, hc⟩, fun z => nomatch z⟩
  | tuple ds =>
    cases e
    obtain ⟨a, xs, rfl, ha, _⟩ := h.tup sm
    cases r
    obtain ⟨its, _, ⟨o, ho, hc, _⟩, _⟩ := I.tuple ha.sq
    exact ⟨_, PySem.W.kitx_tuple, ⟨o, ho, hc⟩, fun z => nomatch z⟩
  | dict es =>
    simp only [tyN] at e
    split at e
    · cases e
    · rename_i hr
      cases e
      obtain ⟨a, rfl, ⟨kvs, ha, _⟩ | ⟨ep0, xs, ha, ra⟩⟩ := h.dct sm (not_ro (by simpa using hr))
      · cases r
        obtain ⟨_, _, vs, _, dd⟩ := dk_of I.hok ha
        obtain ⟨o, ho, hc⟩ := dd.typeIs
        exact ⟨_, PySem.W.kitx_dict, ⟨o, ho, hc⟩, fun z => nomatch z⟩
      · cases r
        obtain ⟨_, _, dd⟩ := dn_of I ha (ra.mono sm)
        obtain ⟨o, ho, hc⟩ := dd.typeIs
        exact ⟨_, PySem.W.kitx_dict, ⟨o, ho, hc⟩, fun z => nomatch z⟩
theorem okTy_cases {c : String} (h : okTy c = true) : c = "str" ∨ c = "int" ∨ c = "bool" ∨ c = "list" ∨ c = "tuple" ∨ c = "dict" := by
  simp only [okTy, Bool.or_eq_true, beq_iff_eq] at h
  rcases h with ((((h | h) | h) | h) | h) | h <;> simp [h]
theorem tyN_cases {d : PyData} {t : String} (h : tyN d = some t) : t = "NoneType" ∨ t = "str" ∨ t = "int" ∨ t = "bool" ∨ t = "list" ∨ t = "tuple" ∨ t = "dict" := by
  cases d <;> simp [tyN] at h <;> first | (subst h; simp) | (obtain ⟨_, rfl⟩ := h; simp)
theorem kit_isi {K : PySem.W.Frag} {d : PyData} {t c : String} (h : tyN d = some t) (hc : okTy c = true) : PySem.W.kitOne K (.type t) (.type c) = some (isiB t c) := by
  refine kit_ty ?_
  rcases tyN_cases h with rfl | rfl | rfl | rfl | rfl | rfl | rfl <;> rcases okTy_cases hc with rfl | rfl | rfl | rfl | rfl | rfl <;> decide +kernel
theorem kit_isiN {K : PySem.W.Frag} {d : PyData} {t : String} (h : tyN d = some t) : ∀ {cs : List String}, cs.all okTy = true → PySem.W.kitAny K (.type t) (cs.map Value.type) = some (cs.any (isiB t))
  | [], _ => rfl
  | c :: cs, hc => by
    rw [List.all_cons, Bool.and_eq_true] at hc
    rw [List.map_cons, List.any_cons]
    refine kitAny_cons (kit_isi h hc.1) (fun e => ?_) fun e => ?_
    · rw [e, Bool.false_or]
      exact kit_isiN h hc.2
    · rw [e, Bool.true_or]
end
def mIsi (cs : List String) (f : ME) : ME := fun ms => (f ms).bind fun r ms1 => match view ms1 r with
  | some d => match pIsi cs d with
    | some b => .ok (.dat (.bool b)) ms1
    | none => .stuck
  | none => .stuck
/-- the names of classes, from the left -/
def tTys : List String → TA
  | [] => tNil
  | c :: cs => tCons (tC (.ty c)) (tTys cs)
theorem tTys_run : ∀ {cs : List String} {σ : L2.St} {H : Hp} {Q : List V → Hp → Prop}, Q (cs.map V.ty) H → tTys cs σ H Q
  | [], _, _, _, q => q
  | c :: cs, σ, H, Q, q => tTys_run (cs := cs) (σ := σ) (H := H) (Q := fun xs H' => Q (.ty c :: xs) H') q
section
variable {X : Cx} {W : WX} {e : Expr} {p pos tpos : Pos}
/-- isinstance by values: one class or the tuple of classes that was just laid -/
def rIsD (K : KW) (cs : List String) : List V → Hp → VK → Prop := fun xs H Q => ∃ Hf x c d b, xs = [x, c] ∧ Same Hf H ∧ Vw K H Hf x d ∧ pIsi cs d = some b ∧ ((∃ t, cs = [t] ∧ c = .ty t) ∨ ∃ tp, c = .ref tp ∧ H tp = some (.tup (cs.map V.ty))) ∧ Q (.bl b) H
theorem vals_tys : ∀ {cs : List String} {us : List Value}, Vals (cs.map V.ty) us → us = cs.map Value.type
  | [], _, .nil => rfl
  | c :: cs, _, .cons r t => by
    cases r
    rw [vals_tys t]
    rfl
theorem call_isD {cs : List String} : CallR X (.builtin "isinstance") (rIsD (kw X) cs) := by
  intro pins s σ H xs us Q I r h
  obtain ⟨Hf, x, c, d, b, rfl, sm, vd, hb, hc, q⟩ := h
  obtain ⟨u1, u2, rfl, r1, r2⟩ := vals2 r
  unfold pIsi at hb
  split at hb
  · rename_i hok
    simp only [Option.map_eq_some_iff] at hb
    obtain ⟨t, ht, rfl⟩ := hb
    obtain ⟨P, Z, pr, hx⟩ := kit_rep I sm vd r1 ht
    rcases hc with ⟨t', rfl, rfl⟩ | ⟨tp, rfl, hT⟩
    · cases r2
      have e := kit_isi (K := X.K) ht (c := t') (by simpa using hok)
      exact PySem.W.kia_one Z I.kIn pr e hx fun tk => ⟨.bl _, H, I.tok tk, rfl, by simpa using q⟩
    · cases r2
      obtain ⟨_, its, rv, o, h1, h2, n, h3⟩ := (show ObjOk X.prog X.w H s.heap tp (.tup (cs.map V.ty)) from I.hok tp _ hT)
      have e3 := vals_tys rv
      subst e3
      obtain ⟨oc, od, dt, sl⟩ := o
      simp only at h2 h3
      subst h2 h3
      exact PySem.W.kia_tup Z I.kIn pr h1 (kit_isiN ht hok) hx fun tk => ⟨.bl _, H, I.tok tk, rfl, q⟩
  · cases hb
theorem tE_isi {cs : List String} {f : ME} {σ : L2.St} {H : Hp} {Q : VK} (q : tE (kw X) X.mg W (mIsi cs f) σ H Q) : tE (kw X) X.mg W f σ H fun x H1 => ∃ Hf d b, Same Hf H1 ∧ Vw (kw X) H1 Hf x d ∧ pIsi cs d = some b ∧ ∀ H2, Same H1 H2 → Q (.bl b) H2 := by
  obtain ⟨la, ms, Hf, S, q⟩ := q
  refine ⟨la, ms, Hf, S, (After.bind q).imp fun r ms1 H1 Hf1 s1 S1 q1 v rv => ?_⟩
  cases e1 : view ms1 r with
  | none => rw [e1] at q1; exact q1.elim
  | some d =>
    rw [e1] at q1
    cases e2 : pIsi cs d with
    | none => simp only [e2] at q1; exact q1.elim
    | some b =>
      simp only [e2] at q1
      refine ⟨Hf1, d, b, S1.sub, RvR.vw S1 rv e1, e2, fun H2 g => ?_⟩
      have G : Grow H1 Hf1 H2 Hf1 := ⟨g, .refl _, fun a o h => g a o (S1.sub a o h), fun _ _ h => h⟩
      exact q1 H2 Hf1 G.ff (S1.grow G) _ (.bl _)
theorem Vw.later {K : KW} {H H' Hf : Hp} {v : V} {d : PyData} (g : Same H H') (h : Vw K H Hf v d) : Vw K H' Hf v d := by
  rcases h with h | ⟨a, o, rfl, e, q⟩
  · exact .inl h
  · exact .inr ⟨a, o, rfl, g _ _ e, q⟩
theorem ex_isi {f : ME} {x : Str} {t : String} (h : EX X W e f) (hg : Gl X "isinstance") (hm : X.mg "isinstance" = none) (hgt : Gl X x) (hmt : X.mg x = none) (hb : bootBuiltins x = some (.type t)) (hn : x ≠ "__name__" := by decide) (hd : (x == ("__debug__" : Str)) = false := by decide)
    (hs : starEach [e, .Name x tpos] X.env = (false, eval e X.env) :: starEach [.Name x tpos] X.env := by rfl) (hs' : starEach [.Name x tpos] X.env = (false, eval (.Name x tpos) X.env) :: starEach [] X.env := by rfl) (hpl : (backTo pos (starEach [.Name x tpos] X.env)).any (·.1) = false := by rfl) :
    EX X W (.Call (.Name "isinstance" p) [e, .Name x tpos] [] pos) (mIsi [t] f) :=
  ⟨PE.imp (pe_callB (call_isD (cs := [t])) hg hm PyProof.Rows.boot_isinstance (pa_cons h.pe (pa_cons (pe_bltn (v := .ty t) hgt hmt hb rfl hn hd) pa_nil hs') hs) (he := hs) (hpl := hpl)) fun σ H Q q => by
    obtain ⟨la, ms, Hf, S, q⟩ := tE_isi q
    exact ⟨la, ms, Hf, S, q.imp fun r ms1 H1 Hf1 s1 S1 q1 v rv => by
      obtain ⟨Hf2, d, b, sm, vd, hb, k⟩ := q1 v rv
      exact ⟨Hf2, _, _, d, b, rfl, sm, vd, hb, .inl ⟨t, rfl, rfl⟩, k H1 (.refl _)⟩⟩⟩
theorem ex_isiN {f : ME} {cs : List String} {es : List Expr} {k : Nat} (h : EX X W e f) (hg : Gl X "isinstance") (hm : X.mg "isinstance" = none) (hes : PA X es (tTys cs)) 
    (hs : starEach [e, .Tuple es k tpos] X.env = (false, eval e X.env) :: starEach [.Tuple es k tpos] X.env := by rfl) (hs' : starEach [.Tuple es k tpos] X.env = (false, eval (.Tuple es k tpos) X.env) :: starEach [] X.env := by rfl) (hpl : (backTo pos (starEach [.Tuple es k tpos] X.env)).any (·.1) = false := by rfl) (hl : cs.length ≤ SZ := by decide) :
    EX X W (.Call (.Name "isinstance" p) [e, .Tuple es k tpos] [] pos) (mIsi cs f) :=
  ⟨PE.imp (pe_callB (call_isD (cs := cs)) hg hm PyProof.Rows.boot_isinstance (pa_cons h.pe (pa_cons (pe_tup hes) pa_nil hs') hs) (he := hs) (hpl := hpl)) fun σ H Q q => by
    obtain ⟨la, ms, Hf, S, q⟩ := tE_isi q
    refine ⟨la, ms, Hf, S, q.imp fun r ms1 H1 Hf1 s1 S1 q1 v rv => ?_⟩
    obtain ⟨Hf2, d, b, sm, vd, hb, k⟩ := q1 v rv
    refine tTys_run ⟨by rw [List.length_map, szLine]; exact hl, fun p hp => ?_⟩
    have g : Same H1 (upd H1 p (.tup (cs.map V.ty))) := fun a o h => by
      rw [upd_ne (fun z => by rw [z, hp] at h; cases h)]
      exact h
    exact ⟨Hf2, _, _, d, b, rfl, fun a o h => g a o (sm a o h), vd.later g, hb, .inr ⟨p, rfl, upd_same⟩, k _ g⟩⟩
theorem pa_tys_nil : PA X [] (tTys []) := pa_nil
theorem pa_tys {x : Str} {t : String} {cs : List String} {es : List Expr} (hg : Gl X x) (hm : X.mg x = none) (hb : bootBuiltins x = some (.type t)) (h : PA X es (tTys cs)) (hs : starEach (.Name x tpos :: es) X.env = (false, eval (.Name x tpos) X.env) :: starEach es X.env := by rfl) (hn : x ≠ "__name__" := by decide) (hd : (x == ("__debug__" : Str)) = false := by decide) :
    PA X (.Name x tpos :: es) (tTys (t :: cs)) := pa_cons (pe_bltn (v := .ty t) hg hm hb rfl hn hd) h hs
end
end Pl

/-! Pl12 -/
set_option Elab.async false
set_option linter.all false
set_option maxRecDepth 100000
set_option maxHeartbeats 4000000
/-! Methods. -/
namespace Pl
open PySem PySem.Spec PyProof.Rows L2
section
variable {K : KW} {la : Fm} {ms : MS} {σ : L2.St} {H Hf : Hp}
/-- an object of one's own is changed -/
theorem SR.mutate {i : Nat} {l : Bool} {d d' : PyData} {a : Addr} {o' : HO} (S : SR K la ms σ H Hf) (hi : ms[i]? = some (some (.own l d))) (ha : σ[i]? = some (some (.ref a))) (r : OObj K Hf a o' d') :
    SR K la (ms.set i (some (.own l d'))) σ (upd H a o') Hf := by
  obtain ⟨a', o, e1, e2, e3, e4, e5, e6⟩ := S.own i l d hi
  rw [ha] at e1
  injection e1 with e1; injection e1 with e1; injection e1 with e1
  subst e1
  have hl : i < ms.length := (List.getElem?_eq_some_iff.mp hi).1
  have get : ∀ {j : Nat} {x : Option SV}, (ms.set i (some (.own l d')))[j]? = some x → (j = i ∧ x = some (.own l d')) ∨ (j ≠ i ∧ ms[j]? = some x) := fun {j x} h => by
    by_cases hij : i = j
    · subst hij
      rw [List.getElem?_set_self hl] at h
      exact .inl ⟨rfl, (Option.some.inj h).symm⟩
    · rw [List.getElem?_set_ne hij] at h
      exact .inr ⟨fun z => hij z.symm, h⟩
  have fz : ∀ {b : Addr} {u : HO}, Hf b = some u → b ≠ a := fun {b u} h z => by rw [z, e4] at h; cases h
  have here : ∀ {j : Nat} {l1 : Bool} {d1 : PyData}, (ms.set i (some (.own l d')))[j]? = some (some (.own l1 d1)) → ∃ d2, ms[j]? = some (some (.own l1 d2)) := fun {j l1 d1} h => by
    rcases get h with ⟨rfl, e⟩ | ⟨_, e⟩
    · injection e with e; injection e with ea eb
      subst ea
      exact ⟨d, hi⟩
    · exact ⟨d1, e⟩
  refine ⟨by rw [List.length_set]; exact S.len, fun j d1 h => ?_, fun j l1 d1 h => ?_, fun j k b l1 d1 l2 d2 hj hk ej ek => ?_, fun b u h => ?_, fun b u h => ?_⟩
  · rcases get h with ⟨_, e⟩ | ⟨_, e⟩
    · cases e
    · exact S.dat j d1 e
  · rcases get h with ⟨rfl, e⟩ | ⟨hj, e⟩
    · injection e with e; injection e with ea eb
      subst ea; subst eb
      exact ⟨a, o', ha, e2, e3, e4, upd_same, r⟩
    · obtain ⟨b, u, g1, g2, g3, g4, g5, g6⟩ := S.own j l1 d1 e
      have hb : b ≠ a := fun z => hj (S.apart j i b l1 d1 l d e hi g1 (by rw [z]; exact ha))
      exact ⟨b, u, g1, g2, g3, g4, by rw [upd_ne hb]; exact g5, g6⟩
  · obtain ⟨x1, h1⟩ := here hj
    obtain ⟨x2, h2⟩ := here hk
    exact S.apart j k b l1 _ l2 _ h1 h2 ej ek
  · rw [upd_ne (fz h)]
    exact S.sub b u h
  · have hb : b ≠ a := fun z => by rw [z, e3] at h; cases h
    rw [upd_ne hb]
    exact S.fr b u h
end
/-! ### a method of a value, that changes nothing -/
def rDm (K : KW) (T : String) (g : PyData → List PyData → Option Rv) : V → List V → Hp → VK → Prop := fun x xs H Q => ∃ Hf d ds r, Same Hf H ∧ Vw K H Hf x d ∧ tyN d = some T ∧ VwAll K H Hf xs ds ∧ g d ds = some r ∧ ∀ v H' Hf', Grow H Hf H' Hf' → RvN K H H' Hf' v r → Q v H'
structure PMeth (X : Cx) (name : Str) (ts : List String) (g : PyData → List PyData → Option Rv) : Prop where
  run : ∀ T ∈ ts, ∃ id, PlainAttrs T ∧ Slot T name id ∧ typeOf (.builtin id) = pure (.type "method_descriptor") ∧ MtR X id (rDm (kw X) T g)
def tyIn (ts : List String) (d : PyData) : Option String := match tyN d with
  | some t => if t ∈ ts then some t else none
  | none => none
def mMeth (ts : List String) (g : PyData → List PyData → Option Rv) (fo : ME) (fa : MA) : ME := fun ms => (fo ms).bind fun ro ms1 => match view ms1 ro with
  | some d0 => match tyIn ts d0 with
    | some t => (fa ms1).bind fun rs ms2 => match view ms2 ro, views ms2 rs with
      | some d, some ds => if tyN d = some t then (match g d ds with
        | some r => .ok r ms2
        | none => .stuck) else .stuck
      | _, _ => .stuck
    | none => .stuck
  | none => .stuck
def okT (ts : List String) : Bool := ts.all fun t => t == "str" || t == "list" || t == "tuple" || t == "dict"
section
variable {X : Cx} {pins : List (Addr × Obj)} {σ : L2.St} {H Hf : Hp} {s : Shared}
theorem tyN_is {x : V} {u : Value} {d : PyData} {t : String} (I : Inv X pins σ H s) (sm : Same Hf H) (h : Vw (kw X) H Hf x d) (r : RelV x u) (e : tyN d = some t) (hk : (t == "str" || t == "list" || t == "dict") = true ∨ t = "tuple") :
    s.TypeIs u t ∧ ∀ a, u = .ref a → ∃ ob, s.heap.get? a = some ob ∧ ob.dict = none := by
  cases d with
  | none => cases e; simp at hk
  | bool b => cases e; simp at hk
  | int i => cases e; simp at hk
  | str z =>
    cases e
    cases h.str
    obtain ⟨t', rfl⟩ := r
    exact ⟨typeIs_str s z t', fun _ e => nomatch e⟩
  | list ds =>
    cases e
    obtain ⟨a, xs, rfl, ha, _⟩ := h.lst sm
    cases r
    obtain ⟨its, _, pl, _⟩ := I.list (SqL.of ha)
    refine ⟨pl.isList.typeIs, fun b e => ?_⟩
    cases e
    obtain ⟨o, n, e, c, hd, _⟩ := pl
    exact ⟨o, e, hd⟩
  | tuple ds =>
    cases e
    obtain ⟨a, xs, rfl, ⟨o, ⟨hc, hd⟩, ha⟩, _⟩ := h.tup sm
    cases r
    have ho : s.heap.get? a = some o := (show s.heap.get? a = some o ∧ _ from I.hok a _ ha).1
    exact ⟨⟨o, ho, hc⟩, fun b e => by cases e; exact ⟨o, ho, hd⟩⟩
  | dict es =>
    simp only [tyN] at e
    split at e
    · cases e
    · rename_i hr
      cases e
      obtain ⟨a, rfl, ⟨kvs, ha, _⟩ | ⟨ep0, xs, ha, ra⟩⟩ := h.dct sm (not_ro (by simpa using hr))
      · cases r
        obtain ⟨_, _, vs, _, o, _, _, e, ex, _⟩ := dk_of I.hok ha
        exact ⟨⟨o, e, ex.1⟩, fun b e2 => by cases e2; exact ⟨o, e, ex.2.1⟩⟩
      · cases r
        obtain ⟨_, _, o, _, _, e, ex, _⟩ := dn_of I ha (ra.mono sm)
        exact ⟨⟨o, e, ex.1⟩, fun b e2 => by cases e2; exact ⟨o, e, ex.2.1⟩⟩
end
section
variable {X : Cx} {W : WX} {o e : Expr} {es : List Expr} {apos cpos : Pos} {name : Str} {ts : List String} {g : PyData → List PyData → Option Rv} {fo : ME} {fa : MA}
def rMe (X : Cx) (ts : List String) (g : PyData → List PyData → Option Rv) (to : TE) (t : TA) : TE := fun σ H Q => to σ H fun x H1 => ∃ Hf d T, Same Hf H1 ∧ Vw (kw X) H1 Hf x d ∧ tyN d = some T ∧ T ∈ ts ∧ t σ H1 fun xs H2 => rDm (kw X) T g x xs H2 Q
theorem okT_mem {T : String} (h : okT ts = true) (m : T ∈ ts) : (T == "str" || T == "list" || T == "dict") = true ∨ T = "tuple" := by
  have := List.all_eq_true.mp h T m
  simp only [Bool.or_eq_true, beq_iff_eq] at this ⊢
  rcases this with ((h | h) | h) | h <;> simp [h]
theorem tAx_nil {σ : L2.St} {H : Hp} {Q : List V → Hp → Prop} (q : tAx (kw X) X.mg W mNil σ H Q) : tNil σ H Q := by
  obtain ⟨la, ms, Hf, S, q⟩ := q
  exact q H Hf (.refl _) S [] .nil
theorem pe_meth0 {to : TE} (hk : okT ts = true) (M : PMeth X name ts g) (ho : PE X o to) (hbase : attributeBase o name X.env (eval o X.env) = eval o X.env := by rfl) (hline : (apos.endLine == cpos.line) = true := by rfl) :
    PE X (.Call (.Attribute o name apos) [] [] cpos) (rMe X ts g to tNil) := by
  refine ⟨fun pins s σ H Q I h => ?_⟩
  refine wpAny_Call_method0_late hbase hline (thn (ho.run pins s σ H _ I h) fun v s1 ⟨x, H1, I1, r1, Hf, d, T, sm, vd, ty, mem, q1⟩ => ?_)
  obtain ⟨h1, h2⟩ := tyN_is I1 sm vd r1 ty (okT_mem hk mem)
  obtain ⟨id, pa, slot, hty, hm⟩ := M.run T mem
  refine ⟨T, id, pa, slot, hty, h1, h2, ?_⟩
  exact Calls.callWith_builtin rfl (PySem.evalArgs_none (hm pins s1 σ H1 x [] v [] Q I1 r1 .nil q1))
theorem pe_meth {to : TE} {t : TA} (hk : okT ts = true) (M : PMeth X name ts g) (ho : PE X o to) (ha : PA X (e :: es) t)
    (hbase : attributeBase o name X.env (eval o X.env) = eval o X.env := by rfl)
    (hfew : ((backTo cpos (starEach (e :: es) X.env)).all (fun x => !x.1) && (backToKw cpos (keywordEach [] X.env)).all (fun x => x.1.isSome)
      && decide ((e :: es).length + ([] : List Keyword).length + (if ([] : List Keyword).isEmpty then 0 else 1) < 30)) = true := by rfl)
    (hline : (apos.endLine == cpos.line) = true := by rfl) (hs : starEach (e :: es) X.env = (false, eval e X.env) :: starEach es X.env := by rfl) (hplain : (backTo cpos (starEach es X.env)).any (·.1) = false := by rfl) :
    PE X (.Call (.Attribute o name apos) (e :: es) [] cpos) (rMe X ts g to t) := by
  refine ⟨fun pins s σ H Q I h => ?_⟩
  refine wpAny_Call_method_late hbase hfew hline rfl (thn (ho.run pins s σ H _ I h) fun v s1 ⟨x, H1, I1, r1, Hf, d, T, sm, vd, ty, mem, q1⟩ => ?_)
  obtain ⟨h1, h2⟩ := tyN_is I1 sm vd r1 ty (okT_mem hk mem)
  obtain ⟨id, pa, slot, hty, hm⟩ := M.run T mem
  refine ⟨T, id, pa, slot, hty, h1, h2, ?_⟩
  have hA := ha.run cpos pins s1 σ H1 _ I1 q1
  rw [hs] at hA ⊢
  refine Calls.callWith_builtin (by show (false || (backTo cpos (starEach es X.env)).any (·.1)) = false; rw [hplain] <;> rfl) (Calls.evalArgs_plain ?_)
  exact thn hA fun us s2 ⟨vs, H2, I2, r2, q2⟩ => hm pins s2 σ H2 x vs v us Q I2 r1 r2 q2
theorem tE_meth {σ : L2.St} {H : Hp} {Q : VK} (q : tE (kw X) X.mg W (mMeth ts g fo fa) σ H Q) : rMe X ts g (tE (kw X) X.mg W fo) (tAx (kw X) X.mg W fa) σ H Q := by
  obtain ⟨la, ms, Hf, S, q⟩ := q
  refine ⟨la, ms, Hf, S, (After.bind q).imp fun r ms1 H1 Hf1 s1 S1 q1 v rv => ?_⟩
  obtain ⟨Hf1', s1', S1', rv'⟩ := rv_settle S1 rv
  cases e1 : view ms1 r with
  | none => rw [e1] at q1; exact q1.elim
  | some d0 =>
    rw [e1] at q1
    cases e2 : tyIn ts d0 with
    | none => simp only [e2] at q1; exact q1.elim
    | some t =>
      simp only [e2] at q1
      have ht : tyN d0 = some t ∧ t ∈ ts := by
        unfold tyIn at e2
        cases hh : tyN d0 with
        | none => rw [hh] at e2; cases e2
        | some t' =>
          rw [hh] at e2
          simp only at e2
          split at e2
          · injection e2 with e2; subst e2; exact ⟨rfl, by assumption⟩
          · cases e2
      have v1 := RvR.vw S1' (RvS.rv rv') (d := d0) (by rw [view_settle]; exact e1)
      refine ⟨Hf1', d0, t, S1'.sub, v1, ht.1, ht.2, la, ms1, Hf1', S1', (After.bind (q1.hf s1')).imp fun rs ms2 H2 Hf2 s2 S2 q2 vs rvs => ?_⟩
      cases e3 : view ms2 r with
      | none => rw [e3] at q2; exact q2.elim
      | some d =>
        cases e4 : views ms2 rs with
        | none => rw [e3, e4] at q2; exact q2.elim
        | some ds =>
          rw [e3, e4] at q2
          simp only at q2
          split at q2
          · rename_i hty
            cases e5 : g d ds with
            | none => rw [e5] at q2; exact q2.elim
            | some r' =>
              rw [e5] at q2
              have v2 := RvR.vw S2 (RvS.rv (rv'.later s2)) (d := d) (by rw [view_settle]; exact e3)
              exact ⟨Hf2, d, ds, r', S2.sub, v2, hty, views_all S2 rvs e4, e5, fun v' H' Hf' G rn => q2 H' Hf' G.ff (S2.grow G) v' (RvN.rv S2 rn)⟩
          · exact q2.elim
theorem ex_meth (hk : okT ts = true) (M : PMeth X name ts g) (ho : EX X W o fo) (ha : AX X W (e :: es) fa)
    (hbase : attributeBase o name X.env (eval o X.env) = eval o X.env := by rfl)
    (hfew : ((backTo cpos (starEach (e :: es) X.env)).all (fun x => !x.1) && (backToKw cpos (keywordEach [] X.env)).all (fun x => x.1.isSome)
      && decide ((e :: es).length + ([] : List Keyword).length + (if ([] : List Keyword).isEmpty then 0 else 1) < 30)) = true := by rfl)
    (hline : (apos.endLine == cpos.line) = true := by rfl) (hs : starEach (e :: es) X.env = (false, eval e X.env) :: starEach es X.env := by rfl) (hplain : (backTo cpos (starEach es X.env)).any (·.1) = false := by rfl) :
    EX X W (.Call (.Attribute o name apos) (e :: es) [] cpos) (mMeth ts g fo fa) := ⟨PE.imp (pe_meth hk M ho.pe ha.pa hbase hfew hline hs hplain) fun _ _ _ q => tE_meth q⟩
theorem PE_mono0 {σ : L2.St} {H : Hp} {Q : VK} (q : rMe X ts g (tE (kw X) X.mg W fo) (tAx (kw X) X.mg W mNil) σ H Q) : rMe X ts g (tE (kw X) X.mg W fo) tNil σ H Q := by
  obtain ⟨la, ms, Hf, S, q⟩ := q
  exact ⟨la, ms, Hf, S, q.imp fun r ms1 H1 Hf1 s1 S1 q1 v rv => by
    obtain ⟨Hf2, d, T, h1, h2, h3, h4, h5⟩ := q1 v rv
    exact ⟨Hf2, d, T, h1, h2, h3, h4, tAx_nil h5⟩⟩
theorem ex_meth0 (hk : okT ts = true) (M : PMeth X name ts g) (ho : EX X W o fo)
    (hbase : attributeBase o name X.env (eval o X.env) = eval o X.env := by rfl) (hline : (apos.endLine == cpos.line) = true := by rfl) :
    EX X W (.Call (.Attribute o name apos) [] [] cpos) (mMeth ts g fo mNil) := ⟨PE.imp (pe_meth0 hk M ho.pe hbase hline) fun _ _ _ q => PE_mono0 (tE_meth q)⟩
end
/-! ### a method that changes an object of one's own -/
abbrev Mu := PyData → List PyData → Option (PyData × PyData)
def rMu (K : KW) (T : String) (g : Mu) : V → List V → Hp → VK → Prop := fun x xs H Q => ∃ Hf a o d ds r d', x = .ref a ∧ H a = some o ∧ Hf a = none ∧ OObj K Hf a o d ∧ tyN d = some T ∧ Same Hf H ∧ RepAll K Hf xs ds ∧ g d ds = some (r, d') ∧
  ∀ v o', Rep K Hf v r → OObj K Hf a o' d' → Q v (upd H a o')
structure PMut (X : Cx) (name : Str) (T : String) (g : Mu) : Prop where
  at' : PlainAttrs T
  run : ∃ id, Slot T name id ∧ typeOf (.builtin id) = pure (.type "method_descriptor") ∧ MtR X id (rMu (kw X) T g)
def isOwnT (T : String) (ms : MS) (i : Nat) : Bool := match ms[i]? with
  | some (some (.own _ d)) => decide (tyN d = some T)
  | _ => false
def mMut (T : String) (g : Mu) (i : Nat) (fa : MA) : ME := fun ms => if isOwnT T ms i then (fa ms).bind fun rs ms1 => match frzs ms1 rs with
    | some (ds, ms2) => match ms2[i]? with
      | some (some (.own l d)) => if tyN d = some T then (match g d ds with
        | some (r, d') => .ok (.dat r) (ms2.set i (some (.own l d')))
        | none => .stuck) else .stuck
      | _ => .stuck
    | none => .stuck
  else .stuck
section
variable {X : Cx} {W : WX} {e : Expr} {es : List Expr} {apos cpos npos : Pos} {name x : Str} {T : String} {g : Mu} {fa : MA} {i : Nat}
def rMuE (X : Cx) (T : String) (g : Mu) (to : TE) (t : TA) : TE := fun σ H Q => to σ H fun x H1 => ∃ Hf d, Same Hf H1 ∧ Vw (kw X) H1 Hf x d ∧ tyN d = some T ∧ t σ H1 fun xs H2 => rMu (kw X) T g x xs H2 Q
theorem pe_mut0 {o : Expr} {to : TE} (hk : okT [T] = true) (M : PMut X name T g) (ho : PE X o to) (hbase : attributeBase o name X.env (eval o X.env) = eval o X.env := by rfl) (hline : (apos.endLine == cpos.line) = true := by rfl) :
    PE X (.Call (.Attribute o name apos) [] [] cpos) (rMuE X T g to tNil) := by
  refine ⟨fun pins s σ H Q I h => ?_⟩
  refine wpAny_Call_method0_late hbase hline (thn (ho.run pins s σ H _ I h) fun v s1 ⟨x, H1, I1, r1, Hf, d, sm, vd, ty, q1⟩ => ?_)
  obtain ⟨h1, h2⟩ := tyN_is I1 sm vd r1 ty (okT_mem hk (by simp))
  obtain ⟨id, slot, hty, hm⟩ := M.run
  refine ⟨T, id, M.at', slot, hty, h1, h2, ?_⟩
  exact Calls.callWith_builtin rfl (PySem.evalArgs_none (hm pins s1 σ H1 x [] v [] Q I1 r1 .nil q1))
theorem pe_mut {o : Expr} {to : TE} {t : TA} (hk : okT [T] = true) (M : PMut X name T g) (ho : PE X o to) (ha : PA X (e :: es) t)
    (hbase : attributeBase o name X.env (eval o X.env) = eval o X.env := by rfl)
    (hfew : ((backTo cpos (starEach (e :: es) X.env)).all (fun x => !x.1) && (backToKw cpos (keywordEach [] X.env)).all (fun x => x.1.isSome)
      && decide ((e :: es).length + ([] : List Keyword).length + (if ([] : List Keyword).isEmpty then 0 else 1) < 30)) = true := by rfl)
    (hline : (apos.endLine == cpos.line) = true := by rfl) (hs : starEach (e :: es) X.env = (false, eval e X.env) :: starEach es X.env := by rfl) (hplain : (backTo cpos (starEach es X.env)).any (·.1) = false := by rfl) :
    PE X (.Call (.Attribute o name apos) (e :: es) [] cpos) (rMuE X T g to t) := by
  refine ⟨fun pins s σ H Q I h => ?_⟩
  refine wpAny_Call_method_late hbase hfew hline rfl (thn (ho.run pins s σ H _ I h) fun v s1 ⟨x, H1, I1, r1, Hf, d, sm, vd, ty, q1⟩ => ?_)
  obtain ⟨h1, h2⟩ := tyN_is I1 sm vd r1 ty (okT_mem hk (by simp))
  obtain ⟨id, slot, hty, hm⟩ := M.run
  refine ⟨T, id, M.at', slot, hty, h1, h2, ?_⟩
  have hA := ha.run cpos pins s1 σ H1 _ I1 q1
  rw [hs] at hA ⊢
  refine Calls.callWith_builtin (by show (false || (backTo cpos (starEach es X.env)).any (·.1)) = false; rw [hplain] <;> rfl) (Calls.evalArgs_plain ?_)
  exact thn hA fun us s2 ⟨vs, H2, I2, r2, q2⟩ => hm pins s2 σ H2 x vs v us Q I2 r1 r2 q2
theorem tE_mut {σ : L2.St} {H : Hp} {Q : VK} (q : tE (kw X) X.mg W (mMut T g i fa) σ H Q) : rMuE X T g (tVar i) (tAx (kw X) X.mg W fa) σ H Q := by
  obtain ⟨la, ms, Hf, S, q⟩ := q
  unfold mMut at q
  split at q
  · rename_i how
    unfold isOwnT at how
    split at how
    · rename_i l0 d0 hi
      have hty := of_decide_eq_true how
      obtain ⟨a, o, e1, e2, e3, e4, e5, e6⟩ := S.own i _ _ hi
      refine ⟨_, e1, Hf, d0, S.sub, .inr ⟨a, o, rfl, e5, e6⟩, hty, la, ms, Hf, S, (After.bind q).imp fun rs ms1 H1 Hf1 s1 S1 q1 vs rvs => ?_⟩
      cases e7 : frzs ms1 rs with
      | none => rw [e7] at q1; exact q1.elim
      | some p =>
        obtain ⟨ds, ms2⟩ := p
        rw [e7] at q1
        simp only at q1
        obtain ⟨Hf2, s2, S2, ra⟩ := rvs_frz S1 rvs e7
        split at q1
        · rename_i l d hi2
          split at q1
          · rename_i hty2
            cases e8 : g d ds with
            | none => rw [e8] at q1; exact q1.elim
            | some p =>
              obtain ⟨r, d'⟩ := p
              rw [e8] at q1
              obtain ⟨a2, o2, g1, g2, g3, g4, g5, g6⟩ := S2.own i l d hi2
              rw [e1] at g1
              injection g1 with g1; injection g1 with g1; injection g1 with g1
              subst g1
              exact ⟨Hf2, a, o2, d, ds, r, d', rfl, g5, g4, g6, hty2, S2.sub, ra, e8, fun v o' rv ro => q1 _ Hf2 s2 (S2.mutate hi2 e1 ro) v rv⟩
          · exact q1.elim
        · exact q1.elim
    · cases how
  · exact q.elim
theorem ex_mut (hk : okT [T] = true) (M : PMut X name T g) (ho : PE X (.Name x npos) (tVar i)) (ha : AX X W (e :: es) fa)
    (hbase : attributeBase (.Name x npos) name X.env (eval (.Name x npos) X.env) = eval (.Name x npos) X.env := by rfl)
    (hfew : ((backTo cpos (starEach (e :: es) X.env)).all (fun x => !x.1) && (backToKw cpos (keywordEach [] X.env)).all (fun x => x.1.isSome)
      && decide ((e :: es).length + ([] : List Keyword).length + (if ([] : List Keyword).isEmpty then 0 else 1) < 30)) = true := by rfl)
    (hline : (apos.endLine == cpos.line) = true := by rfl) (hs : starEach (e :: es) X.env = (false, eval e X.env) :: starEach es X.env := by rfl) (hplain : (backTo cpos (starEach es X.env)).any (·.1) = false := by rfl) :
    EX X W (.Call (.Attribute (.Name x npos) name apos) (e :: es) [] cpos) (mMut T g i fa) := ⟨PE.imp (pe_mut hk M ho ha.pa hbase hfew hline hs hplain) fun _ _ _ q => tE_mut q⟩
theorem ex_mut0 (hk : okT [T] = true) (M : PMut X name T g) (ho : PE X (.Name x npos) (tVar i))
    (hbase : attributeBase (.Name x npos) name X.env (eval (.Name x npos) X.env) = eval (.Name x npos) X.env := by rfl) (hline : (apos.endLine == cpos.line) = true := by rfl) :
    EX X W (.Call (.Attribute (.Name x npos) name apos) [] [] cpos) (mMut T g i mNil) := ⟨PE.imp (pe_mut0 hk M ho hbase hline) fun _ _ _ q => by
      obtain ⟨x, e1, Hf, d, h1, h2, h3, h4⟩ := tE_mut q
      exact ⟨x, e1, Hf, d, h1, h2, h3, tAx_nil h4⟩⟩
end
end Pl

/-! Pl13 -/
set_option Elab.async false
set_option linter.all false
set_option maxRecDepth 100000
set_option maxHeartbeats 4000000
/-! The methods that the program calls. -/
namespace Pl
open PySem PySem.Spec PyProof.Rows L2
section
variable {X : Cx} {K : KW} {H Hf : Hp}
theorem RepAll.one {xs : List V} {d : PyData} (h : RepAll K H xs [d]) : ∃ x, xs = [x] ∧ Rep K H x d := by
  cases h with
  | cons r t => cases t; exact ⟨_, rfl, r⟩
theorem RepAll.two {xs : List V} {d e : PyData} (h : RepAll K H xs [d, e]) : ∃ x y, xs = [x, y] ∧ Rep K H x d ∧ Rep K H y e := by
  cases h with
  | cons r t => cases t with
    | cons r2 t => cases t; exact ⟨_, _, rfl, r, r2⟩
theorem RepAll.none {xs : List V} (h : RepAll K H xs []) : xs = [] := by cases h; rfl
theorem OObj.lstOf {a : Addr} {o : HO} {ds : List PyData} (h : OObj K Hf a o (.list ds)) : ∃ xs, o = .lst xs ∧ RepAll K Hf xs ds := by
  cases h with
  | lst r => exact ⟨_, rfl, r⟩
def gAppend : Mu := fun d ds => match d, ds with
  | .list xs, [x] => if xs.length < SZ then some (.none, .list (xs ++ [x])) else none
  | _, _ => none
theorem mu_append : PMut X "append" "list" gAppend where
  at' := PySem.F.plainAttrs_list
  run := by
    refine ⟨_, PySem.F.slot_list_append, PySem.F.type_list_append, ?_⟩
    intro pins s σ H x xs v us Q I rx rs h
    obtain ⟨Hf, a, o, d, ds, r, d', rfl, ha, hn, oo, ty, sm, ra, hg, k⟩ := h
    unfold gAppend at hg
    split at hg
    · split at hg
      · rename_i hz
        cases hg
        obtain ⟨ys, rfl, ry⟩ := oo.lstOf
        obtain ⟨x, rfl, rx1⟩ := ra.one
        exact mt_append pins s σ H _ _ v us Q I rx rs ⟨a, ys, x, rfl, rfl, ha, by rw [szLine, ry.length]; exact hz, k _ _ .non (.lst (ry.append (.cons rx1 .nil)))⟩
      · cases hg
    · cases hg
def gExtend : Mu := fun d ds => match d, ds with
  | .list xs, [.list ys] => if xs.length + ys.length ≤ SZ then some (.none, .list (xs ++ ys)) else none
  | _, _ => none
theorem mu_extend : PMut X "extend" "list" gExtend where
  at' := PySem.F.plainAttrs_list
  run := by
    refine ⟨_, PySem.F.slot_list_extend, PySem.F.type_list_extend, ?_⟩
    intro pins s σ H x xs v us Q I rx rs h
    obtain ⟨Hf, a, o, d, ds, r, d', rfl, ha, hn, oo, ty, sm, ra, hg, k⟩ := h
    unfold gExtend at hg
    split at hg
    · split at hg
      · rename_i hz
        cases hg
        obtain ⟨ys, rfl, ry⟩ := oo.lstOf
        obtain ⟨x, rfl, rx1⟩ := ra.one
        cases rx1 with
        | lst hb rb => exact mt_extend pins s σ H _ _ v us Q I rx rs ⟨a, _, ys, _, rfl, rfl, ha, sm _ _ hb, by rw [szLine, ry.length, rb.length]; exact hz, k _ _ .non (.lst (ry.append rb))⟩
      · cases hg
    · cases hg
def gPop : Mu := fun d ds => match d, ds with
  | .list xs, [] => (xs[xs.length - 1]?).map fun y => (y, .list xs.dropLast)
  | .list xs, [.int i] => if -(2 ^ 63) ≤ i ∧ i < 2 ^ 63 then match seqIndex? i xs.length with
    | some k => (xs[k]?).map fun y => (y, .list (xs.eraseIdx k))
    | none => none
    else none
  | _, _ => none
theorem mu_pop : PMut X "pop" "list" gPop where
  at' := PySem.F.plainAttrs_list
  run := by
    refine ⟨_, PySem.F.slot_list_pop, PySem.F.type_list_pop, ?_⟩
    intro pins s σ H x xs v us Q I rx rs h
    obtain ⟨Hf, a, o, d, ds, r, d', rfl, ha, hn, oo, ty, sm, ra, hg, k⟩ := h
    unfold gPop at hg
    split at hg
    · simp only [Option.map_eq_some_iff] at hg
      obtain ⟨y, hy, hg⟩ := hg
      cases hg
      obtain ⟨ys, rfl, ry⟩ := oo.lstOf
      cases ra.none
      obtain ⟨w, hw, rw'⟩ := ry.get' hy
      rw [← ry.length] at hw
      exact mt_pop pins s σ H _ _ v us Q I rx rs ⟨a, ys, w, rfl, rfl, ha, hw, k _ _ rw' (.lst ry.dropLast)⟩
    · split at hg
      · rename_i hb
        split at hg
        · rename_i j hj
          simp only [Option.map_eq_some_iff] at hg
          obtain ⟨y, hy, hg⟩ := hg
          cases hg
          obtain ⟨ys, rfl, ry⟩ := oo.lstOf
          obtain ⟨x, rfl, rx1⟩ := ra.one
          cases rx1
          obtain ⟨w, hw, rw'⟩ := ry.get' hy
          rw [← ry.length] at hj
          exact mt_popAt pins s σ H _ _ v us Q I rx rs ⟨a, ys, _, j, w, rfl, rfl, ha, hb.1, hb.2, hj, hw, k _ _ rw' (.lst (ry.eraseIdx j))⟩
        · cases hg
      · cases hg
    · cases hg
def gReverse : Mu := fun d ds => match d, ds with
  | .list xs, [] => some (.none, .list xs.reverse)
  | _, _ => none
theorem mu_reverse : PMut X "reverse" "list" gReverse where
  at' := PySem.F.plainAttrs_list
  run := by
    refine ⟨_, PySem.F.slot_list_reverse, PySem.F.type_list_reverse, ?_⟩
    intro pins s σ H x xs v us Q I rx rs h
    obtain ⟨Hf, a, o, d, ds, r, d', rfl, ha, hn, oo, ty, sm, ra, hg, k⟩ := h
    unfold gReverse at hg
    split at hg
    · cases hg
      obtain ⟨ys, rfl, ry⟩ := oo.lstOf
      cases ra.none
      exact mt_reverse pins s σ H _ _ v us Q I rx rs ⟨a, ys, rfl, rfl, ha, k _ _ .non (.lst ry.reverse)⟩
    · cases hg
/-! ### texts -/
def gJoin (d : PyData) (ds : List PyData) : Option Rv := match d, ds with
  | .str a, [.list xs] => match strsOf xs with
    | some ys => if (ys.map (·.length)).sum + ys.length * a.length ≤ 16777216 then some (.dat (.str (Txt.join a ys))) else none
    | none => none
  | .str a, [.tuple xs] => match strsOf xs with
    | some ys => if (ys.map (·.length)).sum + ys.length * a.length ≤ 16777216 then some (.dat (.str (Txt.join a ys))) else none
    | none => none
  | _, _ => none
theorem me_join : PMeth X "join" ["str"] gJoin where
  run := by
    intro T hT
    cases List.mem_singleton.mp hT
    refine ⟨_, PySem.F.plainAttrs_str, PySem.F.slot_str_join, PySem.F.type_str_join, ?_⟩
    intro pins s σ H x xs v us Q I rx rs h
    obtain ⟨Hf, d, ds, r, sm, vd, ty, va, hg, k⟩ := h
    unfold gJoin at hg
    split at hg
    · split at hg
      · rename_i hys
        split at hg
        · rename_i hz
          cases hg
          cases vd.str
          obtain ⟨x, rfl, vx⟩ := va.one
          obtain ⟨p, ws, rfl, hp, rp⟩ := vx.lst sm
          exact mt_join pins s σ H _ _ v us Q I rx rs ⟨_, p, _, rfl, rfl, .inl (SqL.of (rp.strs hys ▸ hp)), hz, give sm (.str _) k⟩
        · cases hg
      · cases hg
    · split at hg
      · rename_i hys
        split at hg
        · rename_i hz
          cases hg
          cases vd.str
          obtain ⟨x, rfl, vx⟩ := va.one
          obtain ⟨p, ws, rfl, hp, rp⟩ := vx.tup sm
          exact mt_join pins s σ H _ _ v us Q I rx rs ⟨_, p, _, rfl, rfl, .inr (rp.strs hys ▸ hp.sq), hz, give sm (.str _) k⟩
        · cases hg
      · cases hg
    · cases hg
theorem repAll_strs : ∀ ys : List Str, RepAll K Hf (ys.map V.str) (ys.map PyData.str)
  | [] => .nil
  | y :: ys => .cons (.str y) (repAll_strs ys)
def gSplit (d : PyData) (ds : List PyData) : Option Rv := match d, ds with
  | .str a, [.str b] => if (b.length == 0) = false ∧ a.length + 2 ≤ SZ then some (.new (.list ((Txt.split a b).map .str))) else none
  | _, _ => none
theorem me_split : PMeth X "split" ["str"] gSplit where
  run := by
    intro T hT
    cases List.mem_singleton.mp hT
    refine ⟨_, PySem.F.plainAttrs_str, PySem.F.slot_str_split, PySem.F.type_str_split, ?_⟩
    intro pins s σ H x xs v us Q I rx rs h
    obtain ⟨Hf, d, ds, r, sm, vd, ty, va, hg, k⟩ := h
    unfold gSplit at hg
    split at hg
    · split at hg
      · rename_i hz
        cases hg
        cases vd.str
        obtain ⟨x, rfl, vx⟩ := va.one
        cases vx.str
        exact mt_split pins s σ H _ _ v us Q I rx rs ⟨_, _, rfl, rfl, hz.1, by rw [szLine]; exact hz.2, giveNew sm (fun _ => .lst (repAll_strs _)) k⟩
      · cases hg
    · cases hg
def gUpper (d : PyData) (ds : List PyData) : Option Rv := match d, ds with
  | .str a, [] => if a.length ≤ 5592405 then some (.dat (.str (Txt.upper a))) else none
  | _, _ => none
theorem me_upper : PMeth X "upper" ["str"] gUpper where
  run := by
    intro T hT
    cases List.mem_singleton.mp hT
    refine ⟨_, PySem.F.plainAttrs_str, PySem.F.slot_str_upper, PySem.F.type_str_upper, ?_⟩
    intro pins s σ H x xs v us Q I rx rs h
    obtain ⟨Hf, d, ds, r, sm, vd, ty, va, hg, k⟩ := h
    unfold gUpper at hg
    split at hg
    · split at hg
      · rename_i hz
        cases hg
        cases vd.str
        cases va.none
        exact mt_upper pins s σ H _ _ v us Q I rx rs ⟨_, rfl, rfl, hz, give sm (.str _) k⟩
      · cases hg
    · cases hg
/-! ### index -/
def idxD (ds : List PyData) (d : PyData) : Nat := (ds.map fun z => PyData.eqv z d).idxOf true
def gIndex (d : PyData) (as : List PyData) : Option Rv := match d, as with
  | .list ds, [x] => if dep (.list ds) && dep x && (ds.any fun z => PyData.eqv z x) then dI (idxD ds x) else none
  | .tuple ds, [x] => if dep (.tuple ds) && dep x && (ds.any fun z => PyData.eqv z x) then dI (idxD ds x) else none
  | _, _ => none
theorem items_eq {pins : List (Addr × Obj)} {σ : L2.St} {s : Shared} {vs : List Value} {ds : List PyData} {as bs : List Addr} {x : Value} {d : PyData} {A : Around} (rs : ReadsAll s.heap vs ds as) (rx : Reads s.heap x d bs) (h1 : PyData.plainAll ds = true) (h2 : d.plain = true)
    (hu : A.units + 1 + min (PyData.depthAll ds) d.depth < cLine) : SeqAt.ItemsEq A.in1 s vs (ds.map fun z => PyData.eqv z d) x true := by
  have hm := SeqAt.readsAll_map_plain ds vs as h1 rs
  have hl : vs.length = ds.length := by rw [← hm, List.length_map]
  refine ⟨by rw [List.length_map]; exact hl, fun j k1 k2 => ?_⟩
  have hq := SeqAt.items_plain (vs := vs.toArray) (by simpa using rs) rx h1 h2 hu vs[j] (by simp)
  have e : SeqAt.readOf s.heap vs[j] = ds[j]'(by omega) := by
    have : (vs.map (SeqAt.readOf s.heap))[j]? = ds[j]? := by rw [hm]
    rw [List.getElem?_map, List.getElem?_eq_getElem k1, List.getElem?_eq_getElem (by omega)] at this
    exact Option.some.inj this
  rw [e] at hq
  simpa using hq
theorem me_index (hu : X.A.units + 70 < cLine) : PMeth X "index" ["list", "tuple"] gIndex where
  run := by
    have dp : ∀ {d : PyData}, dep d = true → d.plain = true ∧ d.depth < 60 := fun h => by
      simpa only [dep, Bool.and_eq_true, decide_eq_true_eq] using h
    intro T hT
    have hT' : T = "list" ∨ T = "tuple" := by simpa using hT
    rcases hT' with rfl | rfl
    · refine ⟨_, PySem.F.plainAttrs_list, PySem.F.slot_list_index, PySem.F.type_list_index, ?_⟩
      intro pins s σ H x xs v us Q I rx rs h
      obtain ⟨Hf, d, ds, r, sm, vd, ty, va, hg, k⟩ := h
      cases d with
      | list es =>
        unfold gIndex at hg
        split at hg
        · rename_i es' y e1
          cases e1
          split at hg
          · rename_i hz
            cases hg
            simp only [Bool.and_eq_true] at hz
            obtain ⟨x, rfl, vx⟩ := va.one
            obtain ⟨p, ws, rfl, hp, rp⟩ := vd.lst sm
            obtain ⟨u, rfl, ru⟩ := rs.one
            cases rx
            obtain ⟨its, rv, pl, hz2⟩ := I.list (SqL.of hp)
            have h1 := dp hz.1.1
            have h2 := dp hz.1.2
            obtain ⟨as, q1⟩ := vd.reads I sm h1.1 (u := .ref p) rfl
            obtain ⟨bs, q2⟩ := vx.reads I sm h2.1 ru
            have hpl : PyData.plainAll es = true := by simpa only [PyData.plain] using h1.1
            cases q1 with
            | list g1 g2 g3 g4 =>
              refine SeqAt.call_list_index (l := p) ⟨_, g1, g2, _, by simpa using g3⟩ (items_eq (pins := pins) (σ := σ) (by simpa using g4) q2 hpl h2.1 (by omega)) ?_ ?_ ⟨.int _, H, I.tok _, ⟨_, rfl⟩, give sm (.int _) k⟩
              · rw [List.length_map, ← rp.length]
                exact hz2
              · simpa [List.any_eq_true] using hz.2
          · cases hg
        · rename_i e1; cases e1
        · cases hg
      | _ => simp [tyN] at ty
    · refine ⟨_, PySem.F.plainAttrs_tuple, PySem.F.slot_tuple_index, PySem.F.type_tuple_index, ?_⟩
      intro pins s σ H x xs v us Q I rx rs h
      obtain ⟨Hf, d, ds, r, sm, vd, ty, va, hg, k⟩ := h
      cases d with
      | tuple es =>
        unfold gIndex at hg
        split at hg
        · rename_i e1; cases e1
        · rename_i es' y e1
          cases e1
          split at hg
          · rename_i hz
            cases hg
            simp only [Bool.and_eq_true] at hz
            obtain ⟨x, rfl, vx⟩ := va.one
            obtain ⟨p, ws, rfl, hp, rp⟩ := vd.tup sm
            obtain ⟨u, rfl, ru⟩ := rs.one
            cases rx
            have h1 := dp hz.1.1
            have h2 := dp hz.1.2
            obtain ⟨as, q1⟩ := vd.reads I sm h1.1 (u := .ref p) rfl
            obtain ⟨bs, q2⟩ := vx.reads I sm h2.1 ru
            have hpl : PyData.plainAll es = true := by simpa only [PyData.plain] using h1.1
            cases q1 with
            | tuple g1 g2 g3 g4 =>
              refine SeqAt.call_tuple_index (l := p) ⟨_, g1, g2, _, by simpa using g3⟩ (items_eq (pins := pins) (σ := σ) (by simpa using g4) q2 hpl h2.1 (by omega)) ?_ ⟨.int _, H, I.tok _, ⟨_, rfl⟩, give sm (.int _) k⟩
              simpa [List.any_eq_true] using hz.2
          · cases hg
        · cases hg
      | _ => simp [tyN] at ty
end
end Pl

/-! Pl14 -/
set_option Elab.async false
set_option linter.all false
set_option maxRecDepth 100000
set_option maxHeartbeats 4000000
/-! d[k] = v, x op= e. -/
namespace Pl
open PySem PySem.Spec PyProof.Rows L2
def gPut (d k v : PyData) : Option PyData := match d with
  | .dict es => if dOk es k = true ∧ es.length < SZ then some (.dict (dPut es k v)) else none
  | .list ds => match k with
    | .int j => (ixN ds.length j).map fun n => .list (ds.set n v)
    | _ => none
  | _ => none
def rPutD (K : KW) : V → V → V → Hp → (Hp → Prop) → Prop := fun x y v H Q => ∃ Hf a o d kd dv d', x = .ref a ∧ H a = some o ∧ Hf a = none ∧ OObj K Hf a o d ∧ Same Hf H ∧ Rep K Hf y kd ∧ Rep K Hf v dv ∧ gPut d kd dv = some d' ∧ ∀ o', OObj K Hf a o' d' → Q (upd H a o')
section
variable {X : Cx}
theorem dPut_length (es : List (PyData × PyData)) (k v : PyData) : (dPut es k v).length ≤ es.length + 1 := by
  unfold dPut
  split
  · rw [List.length_map]; omega
  · rw [List.length_append]; simp
theorem OObj.dctOf {K : KW} {Hf : Hp} {a : Addr} {o : HO} {es : List (PyData × PyData)} (h : OObj K Hf a o (.dict es)) (n : ∀ l ds, es ≠ [(.list l, .list ds)]) : (∃ kvs, o = .dK kvs ∧ RepKv K Hf kvs es) ∨ ∃ ep xs, o = DnO K.w a ep xs ∧ RepNt K Hf xs es := by
  generalize hd : PyData.dict es = d at h
  cases h with
  | lst r => cases hd
  | dk r => injection hd with hd; subst hd; exact .inl ⟨_, rfl, r⟩
  | dn r => injection hd with hd; subst hd; exact .inr ⟨_, _, rfl, r⟩
  | st r => unfold stD at hd; injection hd with hd; exact absurd hd (n _ _)
  | ins g c r => unfold insD at hd; injection hd with hd; exact absurd hd (n _ _)
theorem set_rPutD (hu : X.A.units + 64 < cLine) : PSet X (rPutD (kw X)) := by
  intro pins s σ H x y v ov iv u Q I ro ri rv h
  obtain ⟨Hf, a, o, d, kd, dv, d', rfl, ha, hn, oo, sm, ry, rdv, hg, k⟩ := h
  unfold gPut at hg
  split at hg
  · rename_i es
    split at hg
    · rename_i hz
      cases hg
      cases ro
      have hl := dPut_length es kd dv
      have ne : ∀ l ds, es ≠ [(.list l, .list ds)] := by
        have := hz.1
        simp only [dOk, Bool.or_eq_true, Bool.and_eq_true] at this
        rcases this with h | h
        · exact kinds_ne (.inl h.2)
        · exact kinds_ne (.inr h.2)
      have hd : (a == sysModules) = false ∧ ((kind0 kd = true ∧ (es.all fun p => kind0 p.1) = true) ∨ (kind1 kd = true ∧ (es.all fun p => kind1 p.1) = true)) := by
        refine ⟨?_, by simpa only [dOk, Bool.or_eq_true, Bool.and_eq_true] using hz.1⟩
        rcases oo.dctOf ne with ⟨kvs, rfl, r⟩ | ⟨_, xs, rfl, r⟩
        · exact (dk_of I.hok ha).2.1
        · exact (dn_of I ha (r.mono sm)).2.1
      have mu : Mut (H a) := by
        rcases oo.dctOf ne with ⟨kvs, rfl, r⟩ | ⟨_, xs, rfl, r⟩
        · rw [ha]; exact True.intro
        · rw [ha]; exact True.intro
      obtain ⟨hsm, ⟨k0, ka⟩ | ⟨k1, ka⟩⟩ := hd
      · obtain ⟨l, hkl⟩ := Option.isSome_iff_exists.mp k0
        have ey : y = kV l := by
          cases kd <;> simp [kOf] at hkl <;> subst hkl
          · cases ry; rfl
          · cases ry; rfl
        subst ey
        have this : ∃ kvs vs, RepKv (kw X) Hf kvs es ∧ KV kvs vs ∧ s.heap.DictOf (mixKind X.prog X.w) a vs := by
          rcases oo.dctOf ne with ⟨kvs, rfl, r⟩ | ⟨_, xs, rfl, r⟩
          · obtain ⟨z, _, vs, rel, dd⟩ := dk_of I.hok ha
            exact ⟨kvs, vs, r, rel, dd⟩
          · obtain ⟨rfl, rfl⟩ := r.no0 ka
            obtain ⟨_, _, dd⟩ := dn_of I ha (RepNt.nil (H := H))
            exact ⟨[], [], .nil, .nil, dk_empty' dd⟩
        obtain ⟨kvs, vs, r, rel, dd⟩ := this
        have e1 := r.length
        have e2 := rel.length
        have r' := r.put hkl rdv
        refine wpAny_setItem_pairs (hsz := by rw [szLine, ← e2, e1]; omega) (kV_is ri) dd fun h' dd' hs => ?_
        have he : ∃ q, h'.get? a = some q := let ⟨q, _, _, hq, _⟩ := dd'; ⟨q, hq⟩
        exact ⟨_, d_write I mu hs he (dk_new (by rw [szLine, r'.length]; omega) hsm (rel.put l rv) dd'), k _ (.dk r')⟩
      · obtain ⟨l, hkl, dp, ds, rfl⟩ := kind1_some k1
        obtain ⟨p, rfl⟩ : ∃ p, y = .ref p := by
          cases ry with
          | tup _ _ => exact ⟨_, rfl⟩
        cases ri
        have nk : (nestedKind X.prog X.w).is s.heap l p := ⟨Rep.nk I (ry.mono sm) hkl rfl, dp⟩
        have this : ∃ xs, RepNt (kw X) Hf xs es ∧ s.heap.DictOfH (nestedKind X.prog X.w) a xs := by
          rcases oo.dctOf ne with ⟨kvs, rfl, r⟩ | ⟨_, xs, rfl, r⟩
          · obtain ⟨rfl, rfl⟩ := r.no1 ka
            obtain ⟨z, _, vs, rel, dd⟩ := dk_of I.hok ha
            cases rel
            exact ⟨[], .nil, dn_empty dd⟩
          · exact ⟨xs, r, (dn_of I ha (r.mono sm)).2.2⟩
        obtain ⟨xs, r, dd⟩ := this
        have e1 := r.length
        have r' := r.put ry hkl dp rv rdv
        refine wpAny_setItem_heap (show X.A.units + 1 + 8 < cLine by omega) nk dd (fun h' dd' hs => ?_) (by rw [szLine, e1]; omega)
        obtain ⟨q, es', ep, hq, g2, g3, g4, g5, g6⟩ := dd'
        have ok : DnP X.w a ep (storedH xs l p u) h' := ⟨by rw [szLine, r'.length]; omega, hsm, g6, q, es', hq, g2, g3, g4⟩
        refine ⟨_, d_write I mu hs ⟨q, hq⟩ (ob := DnO X.w a ep (storedH xs l p u)) ⟨ok, ⟨q, hq⟩, fun h1 h2 p1 p2 => ?_⟩, k _ (.dn r')⟩
        obtain ⟨z1, z2, z3, o1, es1, z4, z5⟩ := p1
        exact ⟨z1, z2, z3, o1, es1, p2 _ z4, z5⟩
    · cases hg
  · split at hg
    · rename_i ds j
      simp only [Option.map_eq_some_iff] at hg
      obtain ⟨n, hn', rfl⟩ := hg
      obtain ⟨xs, rfl, rx⟩ := oo.lstOf
      cases ry
      exact set_list pins s σ H _ _ v ov iv u Q I ro ri rv ⟨a, xs, j, n, rfl, rfl, ha, by rw [rx.length]; exact hn', k _ (.lst (rx.set rdv n))⟩
    · cases hg
  · cases hg
end
def mPut (i : Nat) (fk fv : ME) : MX := fun ms => SO.of (fv ms) fun rv ms1 => match frz ms1 rv with
  | some (dv, ms2) => match ms2[i]? with
    | some (some (.own _ _)) => SO.of (fk ms2) fun rk ms3 => match frz ms3 rk with
      | some (dk, ms4) => match ms4[i]? with
        | some (some (.own l d)) => match gPut d dk dv with
          | some d' => .nx (ms4.set i (some (.own l d')))
          | none => .stuck
        | _ => .stuck
      | none => .stuck
    | _ => .stuck
  | none => .stuck
section
variable {X : Cx} {W : WX} {ix e : Expr} {pos pos' npos : Pos} {x : Str} {i : Nat} {fk fv : ME}
def sPut (X : Cx) (tv to tk : TE) : TS := fun D σ H => tv σ H fun v H1 => to σ H1 fun x H2 => tk σ H2 fun y H3 => rPutD (kw X) x y v H3 fun H4 => D.nx σ H4
theorem ps_put {o : Expr} {tv to tk : TE} (hu : X.A.units + 64 < cLine) (hv : PE X e tv) (ho : PE X o to) (hk : PE X ix tk) (hs : swapsWith e (some (.Subscript o ix pos')) pos.line X.env = pure false) : PS X (.Assign [.Subscript o ix pos'] e pos) (sPut X tv to tk) := by
  refine ⟨fun pins s σ H D I h => ?_⟩
  refine wpAny_Assign_Subscript (thn (hv.run pins s σ H _ I h) fun r s1 ⟨v, H1, I1, rv, q1⟩ => thn (ho.run pins s1 σ H1 _ I1 q1) fun u s2 ⟨x, H2, I2, rx, q2⟩ => thn (hk.run pins s2 σ H2 _ I2 q2) fun iv s3 ⟨y, H3, I3, ry, q3⟩ => ?_) hs
  exact thn (set_rPutD hu pins s3 σ H3 x y v u iv r _ I3 rx ry rv q3) fun _ s4 ⟨H4, I4, q4⟩ => ⟨σ, H4, I4, q4⟩
theorem sx_put (hu : X.A.units + 64 < cLine) (hv : EX X W e fv) (ho : PE X (.Name x npos) (tVar i)) (hk : EX X W ix fk) (hs : swapsWith e (some (.Subscript (.Name x npos) ix pos')) pos.line X.env = pure false := by rfl) :
    SX X W (.Assign [.Subscript (.Name x npos) ix pos'] e pos) (mPut i fk fv) := ⟨PS.imp (ps_put hu hv.pe ho hk.pe hs) fun D σ H q => by
  obtain ⟨la, ms, Hf, S, q⟩ := q
  refine ⟨la, ms, Hf, S, (AfterS.of q).imp fun rv ms1 H1 Hf1 s1 S1 q1 v rvv => ?_⟩
  cases e1 : frz ms1 rv with
  | none => rw [e1] at q1; exact q1.elim
  | some p =>
    obtain ⟨dv, ms2⟩ := p
    rw [e1] at q1
    simp only at q1
    obtain ⟨Hf2, s2, S2, rdv⟩ := rv_frz S1 rvv e1
    split at q1
    · rename_i l0 d0 hi
      obtain ⟨a, o, g1, g2, g3, g4, g5, g6⟩ := S2.own i _ _ hi
      refine ⟨_, g1, la, ms2, Hf2, S2, (AfterS.of (q1.hf s2)).imp fun rk ms3 H3 Hf3 s3 S3 q3 y ry => ?_⟩
      cases e3 : frz ms3 rk with
      | none => rw [e3] at q3; exact q3.elim
      | some p =>
        obtain ⟨dk, ms4⟩ := p
        rw [e3] at q3
        simp only at q3
        obtain ⟨Hf4, s4, S4, rdk⟩ := rv_frz S3 ry e3
        split at q3
        · rename_i l d hi2
          cases e5 : gPut d dk dv with
          | none => rw [e5] at q3; exact q3.elim
          | some d' =>
            rw [e5] at q3
            obtain ⟨a2, o2, k1, k2, k3, k4, k5, k6⟩ := S4.own i l d hi2
            rw [g1] at k1
            injection k1 with k1; injection k1 with k1; injection k1 with k1
            subst k1
            exact ⟨Hf4, a, o2, d, dk, dv, d', rfl, k5, k4, k6, S4.sub, rdk, (rdv.mono s3).mono s4, e5, fun o' ro => q3 σ _ Hf4 s4 (S4.mutate hi2 g1 ro)⟩
        · exact q3.elim
    · exact q1.elim⟩
end
/-! ### x op= e -/
def mAug (i : Nat) (g : PyData → PyData → Option Rv) (fa : ME) : MX := fun ms => match ms[i]? with
  | some (some _) => SO.of (fa ms) fun r ms1 => match view ms1 r with
    | some e => match ms1[i]? with
      | some (some (.own l (.list ds))) => match e with
        | .list es => if ds.length + es.length ≤ SZ then .nx (ms1.set i (some (.own l (.list (ds ++ es))))) else .stuck
        | _ => .stuck
      | some (some (.dat d)) => match d with
        | .list _ => .stuck
        | _ => match g d e with
          | some (.dat z) => .nx (ms1.set i (some (.dat z)))
          | _ => .stuck
      | _ => .stuck
    | none => .stuck
  | _ => .stuck
def rAug (X : Cx) (g : PyData → PyData → Option Rv) : V → V → Hp → VK → Prop := fun x y H Q => rD (kw X) g x y H Q ∨ rExt2 x y H Q
section
variable {X : Cx} {W : WX} {e : Expr} {pos pos' : Pos} {x : Str} {i : Nat} {fa : ME} {g : PyData → PyData → Option Rv}
theorem sx_aug (i : Nat) (hN : X.N.Nodup) (hi : X.N[i]? = some x) (hx : Loc X.env.scope x) (ho : OpR X (inplaceOp .Add) (rD (kw X) g)) (he : EX X W e fa) (hf : X.fn x = true ∨ X.env.scope.names.lookup x = some .local := by first | exact .inl rfl | exact .inr rfl | assumption) :
    SX X W (.AugAssign (.Name x pos') .Add e pos) (mAug i g fa) := ⟨PS.imp (ps_aug (ti := rAug X g) hN hi hx he.pe (fun pins s σ H x y v u Q I rx ry q => by
      rcases q with q | q
      · exact ho pins s σ H x y v u Q I rx ry q
      · exact iop_ext pins s σ H x y v u Q I rx ry q) hf) fun D σ H q => by
  obtain ⟨la, ms, Hf, S, q⟩ := q
  unfold mAug at q
  split at q
  · rename_i sv hsv
    have hb : ∃ v0, σ[i]? = some (some v0) := by
      cases sv with
      | dat d => obtain ⟨v, h1, _⟩ := S.dat i d hsv; exact ⟨v, h1⟩
      | own l d => obtain ⟨a, o, h1, _⟩ := S.own i l d hsv; exact ⟨_, h1⟩
    obtain ⟨v0, hv0⟩ := hb
    refine ⟨v0, hv0, la, ms, Hf, S, (AfterS.of q).imp fun r ms1 H1 Hf1 s1 S1 q1 y ry => ?_⟩
    obtain ⟨Hf1', s1', S1', ry'⟩ := rv_settle S1 ry
    cases e1 : view ms1 r with
    | none => rw [e1] at q1; exact q1.elim
    | some ed =>
      rw [e1] at q1
      simp only at q1
      have ve := RvR.vw S1' (RvS.rv ry') (d := ed) (by rw [view_settle]; exact e1)
      split at q1
      · rename_i l ds hi1
        split at q1
        · rename_i es
          split at q1
          · rename_i hz
            obtain ⟨a, o, k1, k2, k3, k4, k5, k6⟩ := S1'.own i l _ hi1
            rw [hv0] at k1
            injection k1 with k1; injection k1 with k1
            subst k1
            obtain ⟨xs, rfl, rx⟩ := k6.lstOf
            obtain ⟨b, ys, rfl, hb, rb⟩ := ve.lst S1'.sub
            refine .inr ⟨a, b, xs, ys, rfl, rfl, k5, hb, by rw [szLine, rx.length, rb.length]; exact hz, ?_⟩
            have e2 : σ.set i (some (V.ref a)) = σ := by
              refine List.ext_getElem? fun j => ?_
              by_cases hij : i = j
              · subst hij
                rw [hv0, List.getElem?_set_self (List.getElem?_eq_some_iff.mp hv0).1]
              · rw [List.getElem?_set_ne hij]
            show D.nx (σ.set i (some (V.ref a))) _
            rw [e2]
            exact q1 σ _ Hf1' s1' (S1'.mutate hi1 hv0 (.lst (rx.append rb)))
          · exact q1.elim
        · exact q1.elim
      · rename_i d hi1
        obtain ⟨v1, k1, k2⟩ := S1'.dat i d hi1
        rw [hv0] at k1
        injection k1 with k1; injection k1 with k1
        subst k1
        have q2 : AfterS (kw X) X.mg W la Hf1 D (match g d ed with
          | some (.dat z) => .nx (ms1.set i (some (.dat z)))
          | _ => .stuck) := by
          cases d with
          | list _ => exact q1.elim
          | _ => exact q1
        split at q2
        · rename_i z hgz
          exact .inl ⟨Hf1', d, ed, .dat z, S1'.sub, .inl k2, ve, hgz, fun v' H' Hf' G rn => q2 _ _ Hf' (s1'.trans G.ff) ((S1'.grow G).setDat rn)⟩
        · exact q2.elim
      · exact q1.elim
  · exact q.elim⟩
end
section
variable {X : Cx}
def pIAdd (d e : PyData) : Option Rv := match d, e with
  | .int i, .int j => dI (i + j)
  | .str x, .str y => if x.length + y.length ≤ SZ then some (.dat (.str (x ++ y))) else none
  | _, _ => none
theorem iop_pIAdd : OpR X (inplaceOp .Add) (rD (kw X) pIAdd) := by
  intro pins s σ H x y v u Q I rx ry h
  obtain ⟨Hf, d, e, r, sm, vd, ve, hg, k⟩ := h
  unfold pIAdd at hg
  split at hg
  · cases hg
    cases vd.int
    cases ve.int
    exact iop_add pins s σ H _ _ v u Q I rx ry ⟨_, _, rfl, rfl, give sm (.int _) k⟩
  · split at hg
    · rename_i hz
      cases hg
      cases vd.str
      cases ve.str
      exact iop_add_str pins s σ H _ _ v u Q I rx ry ⟨_, _, rfl, rfl, by rw [szLine]; exact hz, give sm (.str _) k⟩
    · cases hg
  · cases hg
end
end Pl

/-! Pl15 -/
set_option Elab.async false
set_option linter.all false
set_option maxRecDepth 100000
set_option maxHeartbeats 4000000
/-! sorted. -/
namespace PySem.W
open PySem PySem.Calls PyProof.Rows PySem.SeqAt
section
variable {prog : Program} {w : World} {A : Around} {E : Value → Shared → Prop} {s : Shared}
theorem collect_tup {l : Addr} {vs : List Value} {Q : List Value → Shared → Prop} (hl : IsTup s.heap l vs.toArray)
    (h : Q vs { s with heap := (s.heap.push (seqObj "list" #[] 0)).update s.heap.objs.size (Obj.mapSeq (· ++ vs.toArray)) }) (hsz : vs.length ≤ sizeLine) :
    wpAny (model prog w) A (collect (.ref l)) Q E s := by
  obtain ⟨o, ho, hc, n, hd⟩ := id hl
  unfold collect
  refine wpAny_bind (wpAny_runValue (codeAny_builtin entry_proto_collect' ?_))
  show wpAny _ _ (do again (.builtin "list.__iadd__" ⟨[← newList [], .ref l], []⟩)) _ _ s
  refine wpAny_bind (wpAny_newList (wpAny_pure ⟨Code.quiet_builtin _ (by decide +kernel), codeAny_builtin entry_list_iadd' ?_⟩))
  show wpAny _ _ (Builtin.List.listExtendWith (.ref s.heap.objs.size) (.ref l) (.ref s.heap.objs.size)) _ _ { s with heap := s.heap.push (seqObj "list" #[] 0) }
  unfold Builtin.List.listExtendWith
  have ho' : (s.heap.push (seqObj "list" #[] 0)).get? l = some o := Heap.get?_push_of_some _ ho
  refine wpAny_bind (wpAny_typeOf (T := "tuple") ⟨o, ho', hc⟩ ?_)
  have ht : (Value.type "tuple" == Value.type "tuple") = true := by rfl
  rw [if_pos (by rw [ht]; simp)]
  refine wpAny_bind (listItems_at ho' hd ?_)
  refine wpAny_bind (listItems_at (xs := #[]) (n := 0) (Heap.get?_push_size _ rfl) rfl ?_)
  rw [if_neg (by simp)]
  refine wpAny_bind (listUpdate_at (xs := #[]) (n := 0) (Heap.get?_push_size _ rfl) rfl ?_ (Nat.zero_le _) (by show (#[] ++ vs.toArray).size ≤ sizeLine + 1; simp only [Array.size_append, List.size_toArray, List.length_nil]; omega))
  refine wpAny_pure ?_
  show wpAny (model prog w) A (do
      let o ← load s.heap.objs.size
      match o.data with
      | .seq xs _ => pure xs.toList
      | _ => unsupported "internal:collect") Q E { s with heap := (s.heap.push (seqObj "list" #[] 0)).update s.heap.objs.size (Obj.mapSeq (· ++ vs.toArray)) }
  refine wpAny_bind (wpAny_load (get?_update_seq (Heap.get?_push_size _ rfl) _) ?_)
  show wpAny _ _ (pure ((#[] : Array Value) ++ vs.toArray).toList) Q E _
  rw [show ((#[] : Array Value) ++ vs.toArray).toList = vs by simp]
  exact wpAny_pure h
/-- sorted(v): what is collected, sorted -/
theorem sorted_any {v : Value} {Q : Value → Shared → Prop}
    (hcol : wpAny (model prog w) A.in1 (collect v) (fun vs s1 => vs.length ≤ sizeLine ∧ ∃ κ, SortsAt prog w A.in1.in1 { s1 with heap := sortingHeap (s1.heap.push (seqObj "list" vs.toArray 0)) s1.heap.objs.size vs } κ vs ∧
      Q (.ref s1.heap.objs.size) { s1 with heap := sortedHeap (s1.heap.push (seqObj "list" vs.toArray 0)) s1.heap.objs.size vs (sortVals κ false vs vs).toArray }) E s) :
    wpAny (model prog w) A (call (.builtin "sorted") [v]) Q E s := by
  refine call_function_entry_kw kind_sorted plain_sorted entry_sorted (args_sorted1 _) ?_
  unfold Builtin.«sorted»
  refine wpAny_bind (m := checkCount "sorted" 1 1 _) (wpAny_pure ?_)
  refine wpAny_bind (wpAny_mono hcol (fun vs s1 hq => ?_) fun _ _ e => e)
  obtain ⟨hL, κ, S, h⟩ := hq
  refine wpAny_bind (wpAny_newList ?_ hL)
  have ho : (s1.heap.push (seqObj "list" vs.toArray 0)).get? s1.heap.objs.size = some (seqObj "list" vs.toArray 0) := Heap.get?_push_size _ rfl
  refine wpAny_bind (wpAny_holding (wpAny_call_entry_kw slot_list_sort ⟨_, ho, rfl⟩ entry_list_sort ?body (args_list_sort _)))
  case body =>
    show wpAny (model prog w) A.in1.in1 (Builtin.«list.sort» ⟨[.ref s1.heap.objs.size], []⟩) _ _ { s1 with heap := s1.heap.push (seqObj "list" vs.toArray 0) }
    refine list_sort_vals (s := { s1 with heap := s1.heap.push (seqObj "list" vs.toArray 0) }) ho S hL ?_
    exact ⟨_, rfl, wpAny_pure ⟨_, rfl, h⟩⟩
/-! tuples, some of them empty -/
theorem firsts_any {M : Model} {h : Heap} : ∀ {vs : List Value} {ds : List PyData}, EachIs (fun v d => ∃ as, Reads h v d as) vs ds → (∀ d ∈ ds, ∃ xs, d = .tuple xs) → ∃ fs : List (Option Value), fs.length = vs.length ∧
      (∀ (i : Nat) (d : PyData), ds[i]? = some d → ∃ o, fs[i]? = some o ∧ (o.isSome = true ↔ d ≠ .tuple [])) ∧ ∀ {A : Around} {E : Value → Shared → Prop} {s : Shared} {Q : List (Option Value) → Shared → Prop}, s.heap = h → Q fs s → wpAny M A (vs.mapM firstOfTuple') Q E s
  | _, _, .nil, _ => ⟨[], rfl, fun i d e => by simp at e, fun _ hq => by rw [List.mapM_nil]; exact wpAny_pure hq⟩
  | v :: vs, d :: ds, .cons ⟨as, r⟩ t, ht => by
    obtain ⟨fs, h1, h2, h3⟩ := firsts_any (M := M) t fun d hd => ht d (List.mem_cons_of_mem _ hd)
    obtain ⟨xs, rfl⟩ := ht d (List.mem_cons_self ..)
    cases r with
    | @tuple a o its n _ _ ho hc hd hr =>
      refine ⟨its[0]? :: fs, by rw [List.length_cons, List.length_cons, h1], fun i d e => ?_, fun {A E s Q} es hq => ?_⟩
      · cases i with
        | zero =>
          simp only [List.getElem?_cons_zero, Option.some.injEq] at e
          subst e
          refine ⟨_, rfl, ?_⟩
          have hl := SeqAt.ReadsAll.length _ _ _ hr
          cases xs with
          | nil =>
            have : its = #[] := by
              obtain ⟨l⟩ := its
              simp at hl
              subst hl
              rfl
            subst this
            simp
          | cons x xs =>
            have : 0 < its.size := by
              have : its.toList.length = its.size := by simp
              rw [List.length_cons] at hl
              omega
            simp [Array.getElem?_eq_getElem this]
        | succ i =>
          simp only [List.getElem?_cons_succ] at e
          exact h2 i d e
      · subst es
        rw [List.mapM_cons]
        refine wpAny_bind ?_
        rw [kas_first_eq]
        refine wpAny_bind (Looks.here (show Looks M s.heap (typeOf (.ref a)) o.cls from (Looks.ld ho).andThen .now) ?_)
        rw [hc, if_neg (by first | decide | simp)]
        refine wpAny_bind (listItems_at ho hd (wpAny_pure ?_))
        exact wpAny_bind (h3 rfl (wpAny_pure hq))
theorem call_tuple_lt {Q : Value → Shared → Prop} {l b : Addr} {items items2 : Array Value} {e r : Nat → Bool} (hl : s.heap.IsTuple l items) (hb : s.heap.IsTuple b items2)
    (he : ∀ j (h1 : j < items.size) (h2 : j < items2.size), EqAt A.in1 s items[j] items2[j] (e j)) (hr : ∀ j (h1 : j < items.size) (h2 : j < items2.size), e j = false → RcLt A.in1 s items[j] items2[j] (r j))
    (h : Q (.bool (firstLt e r (decide (items.size < items2.size)) (List.range (min items.size items2.size)))) s) : wpAny (model prog w) A (call (.builtin "tuple.__lt__") [.ref l, .ref b]) Q E s := by
  obtain ⟨⟨cls, dd, data, sl⟩, ho, hc, n, hd⟩ := id hl
  obtain ⟨⟨cls2, dd2, data2, sl2⟩, ho2, hc2, n2, hd2⟩ := id hb
  simp only at hc hd hc2 hd2
  subst hc hd hc2 hd2
  exact call_meets F.slot_tuple_lt ⟨_, ho, rfl⟩ F.entry_tuple_lt (F.args_tuple_lt_2 _ _) (tuple_ltAt l b items items2 n n2 dd dd2 sl sl2 e r) ⟨ho, ho2, he, hr, h⟩
theorem oneLt_tuples {xs ys : List PyData} {a b : Value} {as bs : List Addr} {f : Bool} {Q : Bool → Shared → Prop} (ra : Reads s.heap a (.tuple xs) as) (rb : Reads s.heap b (.tuple ys) bs) (h : alike (.tuple xs) (.tuple ys) = true)
    (hu : A.units + min (PyData.tuple xs).depth (PyData.tuple ys).depth < cLine) (hq : Q (dataLt (.tuple xs) (.tuple ys)) s) : wpAny (model prog w) A (oneLt' f a b) Q E s := by
  cases f with
  | false =>
    rw [oneLt'_eq]
    simp only [Bool.false_eq_true, if_false]
    exact wpAny_bind (rcLt_alike _ _ A s a b as bs ra rb h (by simp) hu prog w E _ (wpAny_truthy_bool hq))
  | true =>
    have hal : alikeAll xs ys = true := by simpa [alike] using h
    cases ra with
    | @tuple l o vs n _ as₁ h1 h2 h3 h4 =>
      cases rb with
      | @tuple l' o' vs' n' _ bs₁ k1 k2 k3 k4 =>
        have n1 : vs.size = xs.length := by simpa using ReadsAll.length _ _ _ h4
        have n2 : vs'.size = ys.length := by simpa using ReadsAll.length _ _ _ k4
        rw [dataLt_tuple, ← firstLt_toks xs ys hal, ← n1, ← n2] at hq
        rw [oneLt'_eq]
        simp only [if_true]
        refine wpAny_bind (wpAny_cRoomFor (room_here hu) ?_)
        refine wpAny_bind (wpAny_callSpecialIfBound?_slot (T := "tuple") ⟨_, h1, h2⟩ F.slot_tuple_lt (call_tuple_lt (e := pairEq xs ys) (r := fun j => dataLt (xs.getD j .none) (ys.getD j .none)) ⟨_, h1, h2, _, h3⟩ ⟨_, k1, k2, _, k3⟩ (fun j j1 j2 => ?_) (fun j j1 j2 hj => ?_) ?_))
        · have := eqAt_alikeAll xs ys A.in1 s vs.toList vs'.toList _ _ h4 k4 hal (room_in hu) j (by simpa using j1) (by simpa using j2)
          simpa using this
        · have := rcLt_alikeAll xs ys A.in1 s vs.toList vs'.toList _ _ h4 k4 hal (room_in hu) j (by simpa using j1) (by simpa using j2) hj
          simpa using this
        · exact wpAny_truthy_bool hq
theorem SortsAt.emptyTuples {vs : List Value} {ds : List PyData} (e : EachIs (fun v d => ∃ as, Reads s.heap v d as) vs ds) (hal : AllAlike ds) (ht : ∀ d ∈ ds, ∃ xs, d = .tuple xs) (he : .tuple [] ∈ ds) (hu : ∀ d, d ∈ ds → A.units + d.depth < cLine) : SortsAt prog w A s (dataKind s.heap ds) vs := by
  have room : ∀ {d d' : PyData}, d ∈ ds → A.units + min d.depth d'.depth < cLine := fun {d d'} hd => Nat.lt_of_le_of_lt (Nat.add_le_add_left (Nat.min_le_left _ _) _) (hu d hd)
  have hlen := e.length
  refine ⟨fun v hv => ?_, ?_⟩
  · obtain ⟨d, hd, as, r⟩ := e.left v hv
    exact ⟨_, dataKind_some hal hd r⟩
  · obtain ⟨fs, f1, f2, f3⟩ := firsts_any (M := model prog w) e ht
    have lt : ∀ f : Bool, ∀ (E : Value → Shared → Prop) (x y : Value) (a b : List (Int ⊕ List Nat)) {Q : Bool → Shared → Prop}, (dataKind s.heap ds).keyOf x = some a → (dataKind s.heap ds).keyOf y = some b → Q ((dataKind s.heap ds).blt a b) s → wpAny (model prog w) A (oneLt' f x y) Q E s := by
      intro f E x y a b Q ha hb hq
      obtain ⟨d, as, hd, ra, rfl⟩ := dataKind_inv ha
      obtain ⟨d', as', hd', rb, rfl⟩ := dataKind_inv hb
      obtain ⟨x1, rfl⟩ := ht d hd
      obtain ⟨x2, rfl⟩ := ht d' hd'
      exact oneLt_tuples ra rb (hal _ hd _ hd') (room hd) hq
    obtain ⟨i, hi⟩ := List.mem_iff_getElem?.mp he
    obtain ⟨oi, g1, g2⟩ := f2 i _ hi
    have hnone : oi = none := by
      cases oi with
      | none => rfl
      | some _ => exact absurd rfl (g2.mp rfl)
    subst hnone
    have hall : (fs.toArray.all fun x => x.isSome) = false := by
      rw [Bool.eq_false_iff]
      intro h
      have := Array.all_eq_true_iff_forall_mem.mp h none (by simpa using List.mem_of_getElem? g1)
      cases this
    by_cases hf : (fs.toArray[0]?.bind id).isSome = true
    · refine ⟨general', fun E x y a b Q ha hb hq => lt false E x y a b ha hb hq, fun h2 E Q hq => ?_⟩
      rw [kat_kind_eq, List.mapM_toArray, map_eq_pure_bind]
      refine wpAny_bind (wpAny_bind (f3 rfl (wpAny_pure ?_)))
      rw [if_neg (by rw [hall]; decide), if_pos hf]
      exact wpAny_pure hq
    · refine ⟨oneType', fun E x y a b Q ha hb hq => lt true E x y a b ha hb hq, fun h2 E Q hq => ?_⟩
      obtain ⟨v₁, v₂, rest, rfl⟩ : ∃ v₁ v₂ rest, vs = v₁ :: v₂ :: rest := by
        match vs, h2 with
        | [], h2 => simp at h2
        | [_], h2 => simp at h2
        | v₁ :: v₂ :: rest, _ => exact ⟨v₁, v₂, rest, rfl⟩
      rw [kat_kind_eq, List.mapM_toArray, map_eq_pure_bind]
      refine wpAny_bind (wpAny_bind (f3 rfl (wpAny_pure ?_)))
      rw [if_neg (by rw [hall]; decide), if_neg hf]
      rw [oneTypeOnly'_eq, List.mapM_toArray, map_eq_pure_bind]
      refine wpAny_bind (wpAny_bind (wpAny_bind (kas_mapM (r := Value.type "tuple") _ (fun v hv Q' hq => ?_) (wpAny_pure ?_))))
      · obtain ⟨d, hd, as, r⟩ := e.left v hv
        obtain ⟨xs, rfl⟩ := ht d hd
        exact (looks_reads r).here hq
      · have hall2 : ((List.map (fun _ => Value.type "tuple") (v₁ :: v₂ :: rest)).toArray.all fun x => x == Value.type "tuple") = true := by
          simp only [List.all_toArray, List.all_map, List.all_eq_true]
          intro _ _
          rfl
        have h0 : (List.map (fun _ => Value.type "tuple") (v₁ :: v₂ :: rest)).toArray[0]? = some (Value.type "tuple") := by simp
        rw [h0]
        simp only [hall2, if_true]
        exact wpAny_pure (wpAny_pure hq)
end
end PySem.W
namespace Pl
open PySem PySem.Spec PyProof.Rows L2
def sortOk (ds : List PyData) : Bool := (ds.all fun d => ds.all fun d' => PySem.W.alike d d') && (ds.all fun d => decide (d.depth < 60)) && ds.all fun d => !isNoneD d
def sortD (ds : List PyData) : List PyData := ds.mergeSort (PySem.W.dataLe false fun d => d)
theorem sortOk_alike {ds : List PyData} (h : sortOk ds = true) : PySem.W.AllAlike ds := by
  simp only [sortOk, Bool.and_eq_true] at h
  intro d hd d' hd'
  exact List.all_eq_true.mp (List.all_eq_true.mp h.1.1 d hd) d' hd'
theorem alike_plain : (∀ d e : PyData, PySem.W.alike d e = true → True) := fun _ _ _ => trivial
mutual
theorem alike_plain1 : ∀ d : PyData, PySem.W.alike d d = true → d.plain = true
  | .none, _ => rfl
  | .bool _, _ => rfl
  | .int _, _ => rfl
  | .str _, _ => rfl
  | .list xs, h => by
    simp only [PyData.plain]
    exact alike_plainAll xs (by simpa [PySem.W.alike] using h)
  | .tuple xs, h => by
    simp only [PyData.plain]
    exact alike_plainAll xs (by simpa [PySem.W.alike] using h)
  | .dict _, h => by simp [PySem.W.alike] at h
theorem alike_plainAll : ∀ ds : List PyData, PySem.W.alikeAll ds ds = true → PyData.plainAll ds = true
  | [], _ => rfl
  | d :: ds, h => by
    obtain ⟨h1, h2⟩ := PySem.W.alike_all_cons h
    simp only [PyData.plainAll, alike_plain1 d h1, alike_plainAll ds h2, Bool.and_self]
end
theorem sorts_at {prog : Program} {w : World} {A : Around} {s : Shared} {vs : List Value} {ds : List PyData} (e : PySem.W.EachIs (fun v d => ∃ as, Reads s.heap v d as) vs ds) (ok : sortOk ds = true) (hu : A.units + 60 < cLine) : PySem.W.SortsAt prog w A s (PySem.W.dataKind s.heap ds) vs := by
  have hal := sortOk_alike ok
  simp only [sortOk, Bool.and_eq_true] at ok
  have hd : ∀ d, d ∈ ds → A.units + d.depth < cLine := fun d hd => by
    have := of_decide_eq_true (List.all_eq_true.mp ok.1.2 d hd)
    omega
  by_cases ht : ∀ d ∈ ds, ∃ xs, d = .tuple xs
  · by_cases he : .tuple [] ∈ ds
    · exact PySem.W.SortsAt.emptyTuples e hal ht he hd
    · refine PySem.W.SortsAt.data e hal (.inl fun d hd' => ?_) hd
      obtain ⟨xs, rfl⟩ := ht d hd'
      cases xs with
      | nil => exact absurd hd' he
      | cons x r => exact ⟨x, r, rfl⟩
  · refine PySem.W.SortsAt.data e hal (.inr fun d hd' => ⟨?_, fun xs ex => ht fun d1 hd1 => ?_⟩) hd
    · rintro rfl
      have := List.all_eq_true.mp ok.2 _ hd'
      simp [isNoneD] at this
    · subst ex
      have := hal _ hd' _ hd1
      cases d1 with
      | tuple ys => exact ⟨ys, rfl⟩
      | _ => simp [PySem.W.alike] at this
section
variable {X : Cx} {pins : List (Addr × Obj)} {σ : L2.St} {H Hf : Hp} {s : Shared}
theorem each_pairs {K : KW} (R : V → Value → Prop) : ∀ {xs : List V} {vs : List Value} {ds : List PyData}, Paired R xs vs → RepAll K Hf xs ds → PySem.W.EachIs (fun v (b : V × PyData) => R b.1 v ∧ Rep K Hf b.1 b.2) vs (xs.zip ds)
  | _, _, _, .nil, .nil => .nil
  | _, _, _, .cons r t, .cons h u => .cons ⟨r, h⟩ (each_pairs R t u)
theorem zip_snd {K : KW} : ∀ {xs : List V} {ds : List PyData}, RepAll K Hf xs ds → (xs.zip ds).map Prod.snd = ds
  | _, _, .nil => rfl
  | _, _, .cons _ t => congrArg (_ :: ·) (zip_snd t)
theorem each_back {K : KW} : ∀ {vs : List Value} {bs : List (V × PyData)}, PySem.W.EachIs (fun v (b : V × PyData) => RelV b.1 v ∧ Rep K Hf b.1 b.2) vs bs → Vals (bs.map Prod.fst) vs ∧ RepAll K Hf (bs.map Prod.fst) (bs.map Prod.snd)
  | _, _, .nil => ⟨.nil, .nil⟩
  | _, _, .cons h t => ⟨.cons h.1 (each_back t).1, .cons h.2 (each_back t).2⟩
/-- what stands behind sorted's collecting -/
theorem sorted_end {xs : List V} {vs : List Value} {ds : List PyData} {Q : VK} (hu : X.A.units + 64 < cLine) (I : Inv X pins σ H s) (sm : Same Hf H) (rv : Vals xs vs) (ra : RepAll (kw X) Hf xs ds) (ok : sortOk ds = true) (hz : xs.length ≤ sizeLine)
    (k : ∀ v H' Hf', Grow H Hf H' Hf' → RvN (kw X) H H' Hf' v (.new (.list (sortD ds))) → Q v H') :
    vs.length ≤ sizeLine ∧ ∃ κ, PySem.W.SortsAt X.prog X.w X.A.in1.in1 { s with heap := PySem.W.sortingHeap (s.heap.push (seqObj "list" vs.toArray 0)) s.heap.objs.size vs } κ vs ∧
      EP X pins σ Q (.ref s.heap.objs.size) { s with heap := sortedHeap (s.heap.push (seqObj "list" vs.toArray 0)) s.heap.objs.size vs (PySem.W.sortVals κ false vs vs).toArray } := by
  have hl := rv.length
  have hal := sortOk_alike ok
  have old1 : ∀ {b : Addr} {o : Obj}, s.heap.get? b = some o → (PySem.W.sortingHeap (s.heap.push (seqObj "list" vs.toArray 0)) s.heap.objs.size vs).get? b = some o := fun {b o} e =>
    PySem.W.sortingHeap_old (Nat.ne_of_lt (Heap.lt_size e)) (Heap.get?_push_of_some _ e)
  have I1 : Inv X pins σ H { s with heap := PySem.W.sortingHeap (s.heap.push (seqObj "list" vs.toArray 0)) s.heap.objs.size vs } := I.kept (t' := s.toks) fun b o e => old1 e
  have ep := each_pairs (K := kw X) (Hf := Hf) RelV rv ra
  have er : PySem.W.EachIs (fun v (b : V × PyData) => ∃ as, Reads (PySem.W.sortingHeap (s.heap.push (seqObj "list" vs.toArray 0)) s.heap.objs.size vs) v b.2 as) vs (xs.zip ds) := by
    refine (PySem.W.each_mem ep).mono fun v b hb => ?_
    have hm : b.2 ∈ ds := by
      rw [← zip_snd ra]
      exact List.mem_map_of_mem hb.2
    exact Dp.reads I1 b.2 b.1 v ((hb.1.2.mono sm).dp (alike_plain1 _ (hal _ hm _ hm))) hb.1.1
  have hmap : (xs.zip ds).map (fun b : V × PyData => b.2) = ds := zip_snd ra
  have er2 := PySem.W.each_map (R := fun v d => ∃ as, Reads (PySem.W.sortingHeap (s.heap.push (seqObj "list" vs.toArray 0)) s.heap.objs.size vs) v d as) (fun b : V × PyData => b.2) er
  rw [hmap] at er2
  have S := sorts_at (prog := X.prog) (w := X.w) (A := X.A.in1.in1) (s := { s with heap := PySem.W.sortingHeap (s.heap.push (seqObj "list" vs.toArray 0)) s.heap.objs.size vs }) er2 ok (by show X.A.units + 1 + 1 + 60 < cLine; omega)
  have hout := PySem.W.sortVals_data false ep er (by rw [hmap]; exact hal)
  rw [hmap] at hout
  obtain ⟨b1, b2⟩ := each_back hout
  have hso : ((xs.zip ds).mergeSort (PySem.W.dataLe false fun b : V × PyData => b.2)).map Prod.snd = sortD ds := by
    have hz2 := zip_snd ra
    generalize xs.zip ds = zs at hz2 ⊢
    subst hz2
    unfold sortD
    rw [List.map_mergeSort (r := PySem.W.dataLe false fun b : V × PyData => b.2) (s := PySem.W.dataLe false fun d => d)]
    intro a _ b _
    rfl
  rw [hso] at b2
  refine ⟨by rw [← hl]; exact hz, _, S, ?_⟩
  have ho : (s.heap.push (seqObj "list" vs.toArray 0)).get? s.heap.objs.size = some (seqObj "list" vs.toArray 0) := Heap.get?_push_size _ rfl
  obtain ⟨ep', he'⟩ := sortedHeap_at (vs := vs) (out := (PySem.W.sortVals (PySem.W.dataKind (PySem.W.sortingHeap (s.heap.push (seqObj "list" vs.toArray 0)) s.heap.objs.size vs) ds) false vs vs).toArray) ho
  have hlen : ((xs.zip ds).mergeSort (PySem.W.dataLe false fun b : V × PyData => b.2)).length = xs.length := by
    rw [List.length_mergeSort, List.length_zip, ra.length, Nat.min_self]
  refine ⟨.ref s.heap.objs.size, _, I.laid (t' := s.toks) (o := .lst (((xs.zip ds).mergeSort (PySem.W.dataLe false fun b : V × PyData => b.2)).map Prod.fst)) (fun b u e => ?_) (Nat.le_refl _) ⟨by rw [List.length_map, hlen]; exact hz, _, ep', b1, he'⟩, rfl, giveNew sm (fun _ => .lst b2) k _ (I.hok.fresh (Nat.le_refl _))⟩
  have hlt := Heap.lt_size e
  rw [sortedHeap_old (Nat.ne_of_lt hlt) (by rw [size_push']; exact Nat.lt_succ_of_lt hlt)]
  exact Heap.get?_push_of_some _ e
def pSorted (as : List PyData) : Option Rv := match as with
  | [.list ds] => if sortOk ds then some (.new (.list (sortD ds))) else none
  | [.tuple ds] => if sortOk ds then some (.new (.list (sortD ds))) else none
  | [.dict es] => if keysA es = true ∧ sortOk (es.map (·.1)) = true then some (.new (.list (sortD (es.map (·.1))))) else none
  | _ => none
theorem call_pSorted (hcalm : X.calm = true) (hu : X.A.units + 64 < cLine) : CallR X (.builtin "sorted") (rDs (kw X) pSorted) := by
  intro pins s σ H xs us Q I r h
  obtain ⟨Hf, ds, rr, sm, va, hg, k⟩ := h
  have grow : ∀ {vs : List Value} {b : Addr} {o : Obj}, s.heap.get? b = some o → ((s.heap.push (seqObj "list" #[] 0)).update s.heap.objs.size (Obj.mapSeq (· ++ vs.toArray))).get? b = some o := fun {vs b o} e => by
    rw [Heap.get?_update_ne _ _ _ _ (Nat.ne_of_lt (Heap.lt_size e))]
    exact Heap.get?_push_of_some _ e
  unfold pSorted at hg
  split at hg
  · split at hg
    · rename_i ok
      cases hg
      obtain ⟨x, rfl, vx⟩ := va.one
      obtain ⟨a, xs, rfl, ha, ra⟩ := vx.lst sm
      obtain ⟨u, rfl, rx⟩ := vals1 r
      cases rx
      obtain ⟨its, rv, pl, hz⟩ := I.list (SqL.of ha)
      refine PySem.W.sorted_any (collect_list pl.isList ?_ (by rw [← rv.length]; exact hz))
      exact sorted_end hu (I.kept (t' := s.toks) fun b o e => grow e) sm rv ra ok hz k
    · cases hg
  · split at hg
    · rename_i ok
      cases hg
      obtain ⟨x, rfl, vx⟩ := va.one
      obtain ⟨a, xs, rfl, ha, ra⟩ := vx.tup sm
      obtain ⟨u, rfl, rx⟩ := vals1 r
      cases rx
      obtain ⟨its, rv, pl, hz⟩ := I.tuple ha.sq
      refine PySem.W.sorted_any (PySem.W.collect_tup pl ?_ (by rw [← rv.length]; exact hz))
      exact sorted_end hu (I.kept (t' := s.toks) fun b o e => grow e) sm rv ra ok hz k
    · cases hg
  · split at hg
    · rename_i es hk
      cases hg
      obtain ⟨x, rfl, vx⟩ := va.one
      obtain ⟨u, rfl, rx⟩ := vals1 r
      refine PySem.W.sorted_any (vw_collect (A := X.A.in1) rfl hcalm I sm vx rx hk.1 fun h' tk its xs kp rv ra hz => sorted_end (s := { s with heap := h', toks := tk }) hu (I.kept (t' := tk) kp) sm rv ra hk.2 (by rw [rv.length]; exact hz) k)
    · cases hg
  · cases hg
end
end Pl

/-! Pl16 -/
set_option Elab.async false
set_option linter.all false
set_option maxRecDepth 100000
set_option maxHeartbeats 4000000
/-! a, b = x, y; name = [..] on one line. -/
namespace Pl
open PySem PySem.Spec PyProof.Rows L2
/-- things that are kept: data, or new objects that stand apart -/
inductive RvKs (K : KW) (ms : MS) (σ : L2.St) (H Hf : Hp) : Fm → List V → List Rv → Prop
  | nil {la : Fm} : RvKs K ms σ H Hf la [] []
  | dat {la : Fm} {v : V} {d : PyData} {vs : List V} {rs : List Rv} : Rep K Hf v d → RvKs K ms σ H Hf la vs rs → RvKs K ms σ H Hf la (v :: vs) (.dat d :: rs)
  | new {la : Fm} {a : Addr} {o : HO} {d : PyData} {vs : List V} {rs : List Rv} : la.fr a = none → Hf a = none → H a = some o → OObj K Hf a o d → (∀ (i : Nat) (l : Bool) (d' : PyData), ms[i]? = some (some (.own l d')) → σ[i]? ≠ some (some (.ref a))) →
      RvKs K ms σ H Hf (la.with a o) vs rs → RvKs K ms σ H Hf la (.ref a :: vs) (.new d :: rs)
def kpt (ms : MS) (r : Rv) : Option (Rv × MS) := match r with
  | .new d => some (.new d, ms)
  | r => match frz ms r with
    | some (d, ms') => some (.dat d, ms')
    | none => none
def mKNil : MA := fun ms => .ok [] ms
def mKeep (f : ME) (g : MA) : MA := fun ms => (f ms).bind fun r ms1 => match kpt ms1 r with
  | some (r', ms2) => (g ms2).bind fun rs ms3 => .ok (r' :: rs) ms3
  | none => .stuck
def tKx (K : KW) (mg : Str → Option Value) (W : WX) (f : MA) : TA := fun σ H Q => ∃ la ms Hf, SR K la ms σ H Hf ∧ After K mg W la σ Hf (fun rs ms' H' Hf' => ∀ vs, RvKs K ms' σ H' Hf' la vs rs → Q vs H') (f ms)
structure KX (X : Cx) (W : WX) (es : List Expr) (f : MA) : Prop where
  pa : PA X es (tKx (kw X) X.mg W f)
section
variable {K : KW} {mg : Str → Option Value} {W : WX} {la : Fm} {ms : MS} {σ : L2.St} {H Hf : Hp}
theorem fr_with {a b : Addr} {o : HO} : (la.with a o).fr b = none ↔ b ≠ a ∧ la.fr b = none := by
  show upd la.fr a o b = none ↔ _
  constructor
  · intro h
    have hd : b ≠ a := fun z => by subst z; rw [upd_same] at h; cases h
    rw [upd_ne hd] at h
    exact ⟨hd, h⟩
  · rintro ⟨h1, h2⟩
    rw [upd_ne h1]
    exact h2
theorem SR.enframe {a : Addr} {o : HO} (S : SR K la ms σ H Hf) (ha : H a = some o) (hf : Hf a = none) (ap : ∀ (i : Nat) (l : Bool) (d' : PyData), ms[i]? = some (some (.own l d')) → σ[i]? ≠ some (some (.ref a))) : SR K (la.with a o) ms σ H Hf where
  len := S.len
  dat := S.dat
  own := fun i l d hi => by
    obtain ⟨b, ob, e, m, f, n, q, r⟩ := S.own i l d hi
    exact ⟨b, ob, e, m, fr_with.mpr ⟨fun z => ap i l d hi (z ▸ e), f⟩, n, q, r⟩
  apart := S.apart
  sub := S.sub
  fr := fun b ob e => by
    have e : upd la.fr a o b = some ob := e
    by_cases hb : b = a
    · subst hb
      rw [upd_same] at e
      cases e
      exact ⟨ha, hf⟩
    · rw [upd_ne hb] at e
      exact S.fr b ob e
theorem After.enframe {a : Addr} {o : HO} {α : Type} {G G' : α → MS → Hp → Hp → Prop} {x : Out α} (hD : la.fr a = none) (q : After K mg W la σ Hf G x) (k : ∀ z ms' H' Hf', Same Hf Hf' → SR K (la.with a o) ms' σ H' Hf' → G z ms' H' Hf' → G' z ms' H' Hf') : After K mg W (la.with a o) σ Hf G' x := by
  cases x with
  | stuck => exact q
  | ok z ms' => exact fun H' Hf' s' S' => k z ms' H' Hf' s' S' (q H' Hf' s' (S'.unframed hD))
  | exc c fs ms' => exact fun cls d H' Hf' s' S' => q cls d H' Hf' s' (S'.unframed hD)
end
section
variable {X : Cx} {W : WX} {e : Expr} {es : List Expr}
theorem kx_nil : KX X W [] mKNil := ⟨PA.imp pa_nil fun σ H Q q => by
  obtain ⟨la, ms, Hf, S, q⟩ := q
  exact q H Hf (.refl _) S [] .nil⟩
theorem kx_cons {f : ME} {g : MA} (h : EX X W e f) (hr : KX X W es g) (hs : starEach (e :: es) X.env = (false, eval e X.env) :: starEach es X.env := by rfl) : KX X W (e :: es) (mKeep f g) := ⟨PA.imp (pa_cons h.pe hr.pa hs) fun σ H Q q => by
  obtain ⟨la, ms, Hf, S, q⟩ := q
  refine ⟨la, ms, Hf, S, (After.bind q).imp fun r ms1 H1 Hf1 s1 S1 q1 v rv => ?_⟩
  have data : ∀ {d : PyData} {ms2 : MS} {Hf2 : Hp}, Same Hf1 Hf2 → SR (kw X) la ms2 σ H1 Hf2 → Rep (kw X) Hf2 v d → After (kw X) X.mg W la σ Hf1 (fun rs ms' H' Hf' => ∀ vs, RvKs (kw X) ms' σ H' Hf' la vs rs → Q vs H') ((g ms2).bind fun rs ms3 => .ok (.dat d :: rs) ms3) →
      tKx (kw X) X.mg W g σ H1 fun xs H2 => Q (v :: xs) H2 := fun {d ms2 Hf2} s2 S2 rd q2 =>
    ⟨la, ms2, Hf2, S2, (After.bind (q2.hf s2)).imp fun rs ms3 H3 Hf3 s3 S3 q3 vs rvs => q3 H3 Hf3 (.refl _) S3 (v :: vs) (.dat (rd.mono s3) rvs)⟩
  cases r with
  | dat d => exact data (.refl _) S1 rv q1
  | slot i =>
    cases e1 : frz ms1 (.slot i) with
    | none => simp only [kpt, e1] at q1; exact q1.elim
    | some p =>
      obtain ⟨d, ms2⟩ := p
      simp only [kpt, e1] at q1
      obtain ⟨Hf2, s2, S2, rd⟩ := rv_frz S1 rv e1
      exact data s2 S2 rd q1
  | new d =>
    obtain ⟨a, o, rfl, f1, f2, f3, f4, f5⟩ := rv
    have q2 : After (kw X) X.mg W la σ Hf1 (fun rs ms' H' Hf' => ∀ vs, RvKs (kw X) ms' σ H' Hf' la vs rs → Q vs H') ((g ms1).bind fun rs ms3 => .ok (.new d :: rs) ms3) := q1
    refine ⟨la.with a o, ms1, Hf1, S1.enframe f3 f2 f5, (After.bind q2).enframe f1 fun rs ms3 H3 Hf3 s3 S3 q3 vs rvs => ?_⟩
    have inf := S3.inFrame
    refine q3 H3 Hf3 (.refl _) (S3.unframed f1) (.ref a :: vs) (.new f1 inf.2 inf.1 (f4.mono s3) (fun i l d' hi e => ?_) rvs)
    obtain ⟨b, ob, e1, _, e3, _⟩ := S3.own i l d' hi
    rw [e] at e1
    injection e1 with e1; injection e1 with e1; injection e1 with e1
    exact (fr_with.mp e3).1 e1.symm⟩
end
/-! ### the stores -/
def asgs : List Nat → List Rv → MX
  | [], [], ms => .nx ms
  | i :: is, r :: rs, ms => match r with
    | .slot _ => .stuck
    | _ => (asg i r ms).then (asgs is rs)
  | _, _, _ => .stuck
def setAll (σ : L2.St) : List Nat → List V → L2.St
  | i :: is, v :: vs => setAll (σ.set i (some v)) is vs
  | _, _ => σ
def mPar (is : List Nat) (fa : MA) : MX := fun ms => SO.of (fa ms) (asgs is)
section
variable {K : KW} {mg : Str → Option Value} {W : WX} {D : Ends}
theorem RvKs.shift {ms ms' : MS} {σ σ' : L2.St} {H Hf : Hp} : ∀ {la la' : Fm} {vs : List V} {rs : List Rv}, RvKs K ms σ H Hf la vs rs → (∀ b, la.fr b = none → la'.fr b = none) →
    (∀ b, la.fr b = none → (∀ (i : Nat) (l : Bool) (d' : PyData), ms[i]? = some (some (.own l d')) → σ[i]? ≠ some (some (.ref b))) → ∀ (i : Nat) (l : Bool) (d' : PyData), ms'[i]? = some (some (.own l d')) → σ'[i]? ≠ some (some (.ref b))) → RvKs K ms' σ' H Hf la' vs rs
  | _, _, _, _, .nil, _, _ => .nil
  | _, _, _, _, .dat r t, h1, h2 => .dat r (RvKs.shift t h1 h2)
  | la, la', _, _, .new (a := a) (o := o) f1 f2 f3 f4 f5 t, h1, h2 => .new (h1 _ f1) f2 f3 f4 (h2 _ f1 f5) (RvKs.shift t (fun b hb => by
      obtain ⟨x, y⟩ := fr_with.mp hb
      exact fr_with.mpr ⟨x, h1 b y⟩) fun b hb => h2 b (fr_with.mp hb).2)
theorem asgs_ok : ∀ {is : List Nat} {rs : List Rv} {vs : List V} {la : Fm} {ms : MS} {σ : L2.St} {H Hf : Hp}, SR K la ms σ H Hf → RvKs K ms σ H Hf la vs rs → AfterS K mg W la Hf D (asgs is rs ms) → D.nx (setAll σ is vs) H
  | [], [], _, la, ms, σ, H, Hf, S, .nil, q => q σ H Hf (.refl _) S
  | [], _ :: _, _, _, _, _, _, _, _, _, q => q.elim
  | _ :: _, [], _, _, _, _, _, _, _, _, q => q.elim
  | i :: is, .dat d :: rs, _, la, ms, σ, H, Hf, S, .dat (v := v) rd t, q => by
    have q' : AfterS K mg W la Hf D ((asg i (.dat d) ms).then (asgs is rs)) := q
    unfold asg at q'
    split at q'
    · exact q'.elim
    · rename_i hl
      have hl : isLent ms i = false := by simpa using hl
      have q'' : AfterS K mg W la Hf D (asgs is rs (ms.set i (some (.dat d)))) := q'
      refine asgs_ok (is := is) (rs := rs) (S.setDat rd) (t.shift (fun _ h => h) fun b hb ap j l d' hj => ?_) q''
      by_cases hij : i = j
      · subst hij
        have hlt : i < ms.length := by
          have := (List.getElem?_eq_some_iff.mp hj).1
          rw [List.length_set] at this
          exact this
        rw [List.getElem?_set_self hlt] at hj
        cases hj
      · rw [List.getElem?_set_ne hij] at hj ⊢
        exact ap j l d' hj
  | i :: is, .new d :: rs, _, la, ms, σ, H, Hf, S, .new (a := a) (o := o) f1 f2 f3 f4 f5 t, q => by
    have q' : AfterS K mg W la Hf D ((asg i (.new d) ms).then (asgs is rs)) := q
    unfold asg at q'
    split at q'
    · exact q'.elim
    · have q'' : AfterS K mg W la Hf D (asgs is rs (ms.set i (some (.own false d)))) := q'
      refine asgs_ok (is := is) (rs := rs) (S.setOwn (v := .ref a) ⟨a, o, rfl, f1, f2, f3, f4, f5⟩) (t.shift (fun b h => (fr_with.mp h).2) fun b hb ap j l d' hj => ?_) q''
      by_cases hij : i = j
      · subst hij
        have hlt : i < ms.length := by
          have := (List.getElem?_eq_some_iff.mp hj).1
          rw [List.length_set] at this
          exact this
        rw [List.getElem?_set_self (by rw [← S.len]; exact hlt)]
        intro e
        injection e with e; injection e with e; injection e with e
        exact (fr_with.mp hb).1 e.symm
      · rw [List.getElem?_set_ne hij] at hj ⊢
        exact ap j l d' hj
theorem RvKs.lenEq {ms : MS} {σ : L2.St} {H Hf : Hp} : ∀ {la : Fm} {vs : List V} {rs : List Rv}, RvKs K ms σ H Hf la vs rs → vs.length = rs.length
  | _, _, _, .nil => rfl
  | _, _, _, .dat _ t => congrArg (· + 1) (RvKs.lenEq t)
  | _, _, _, .new _ _ _ _ _ t => congrArg (· + 1) (RvKs.lenEq t)
theorem asgs_len {la : Fm} {Hf : Hp} : ∀ {is : List Nat} {rs : List Rv} {ms : MS}, AfterS K mg W la Hf D (asgs is rs ms) → is.length = rs.length
  | [], [], _, _ => rfl
  | [], _ :: _, _, q => q.elim
  | _ :: _, [], _, q => q.elim
  | i :: is, r :: rs, ms, q => by
    have : ∃ ms', AfterS K mg W la Hf D (asgs is rs ms') := by
      cases r with
      | slot _ => exact q.elim
      | dat d =>
        have q' : AfterS K mg W la Hf D ((asg i (.dat d) ms).then (asgs is rs)) := q
        unfold asg at q'
        split at q'
        · exact q'.elim
        · exact ⟨_, q'⟩
      | new d =>
        have q' : AfterS K mg W la Hf D ((asg i (.new d) ms).then (asgs is rs)) := q
        unfold asg at q'
        split at q'
        · exact q'.elim
        · exact ⟨_, q'⟩
    obtain ⟨ms', q'⟩ := this
    exact congrArg (· + 1) (asgs_len q')
end
section
variable {X : Cx} {W : WX} {px py pz pt pos : Pos} {kt k2 : Nat} {pt2 : Pos} {x y z : Str} {a b c : Expr} {i j l : Nat} {fa : MA}
theorem sx_par2 (hc : X.calm = true) (hN : X.N.Nodup) (hi : X.N[i]? = some x) (hj : X.N[j]? = some y) (hij : i ≠ j) (hx : X.env.scope.names.lookup x = some .local) (hy : X.env.scope.names.lookup y = some .local) (ha : KX X W [a, b] fa)
    (hw : swappedStores [.Tuple [.Name x px, .Name y py] kt pt] (.Tuple [a, b] k2 pt2) X.env = pure (some [x, y]) := by rfl)
    (hs : swapsWithSole [.Tuple [.Name x px, .Name y py] kt pt] (.Tuple [a, b] k2 pt2) pos.line X.env = pure false := by rfl) : SX X W (.Assign [.Tuple [.Name x px, .Name y py] kt pt] (.Tuple [a, b] k2 pt2) pos) (mPar [i, j] fa) :=
  ⟨PS.imp (ps_par hc hN hi hj hij hx hy ha.pa hw hs) fun D σ H q => by
    obtain ⟨la, ms, Hf, S, q⟩ := q
    refine ⟨la, ms, Hf, S, (AfterS.of q).imp fun rs ms1 H1 Hf1 s1 S1 q1 vs rvs => ?_⟩
    have hl := asgs_len q1
    have hl2 := rvs.lenEq
    match vs, hl2, rvs with
    | [v, w], _, rvs => exact ⟨v, w, rfl, asgs_ok S1 rvs q1⟩
    | [], hl2, _ => rw [← hl2] at hl; cases hl
    | [_], hl2, _ => rw [← hl2] at hl; cases hl
    | _ :: _ :: _ :: _, hl2, _ => rw [← hl2] at hl; simp at hl⟩
theorem sx_par3 (hc : X.calm = true) (hN : X.N.Nodup) (hi : X.N[i]? = some x) (hj : X.N[j]? = some y) (hl : X.N[l]? = some z) (hij : i ≠ j) (hil : i ≠ l) (hjl : j ≠ l) (hx : X.env.scope.names.lookup x = some .local) (hy : X.env.scope.names.lookup y = some .local) (hz : X.env.scope.names.lookup z = some .local) (ha : KX X W [a, b, c] fa)
    (hw : swappedStores [.Tuple [.Name x px, .Name y py, .Name z pz] kt pt] (.Tuple [a, b, c] k2 pt2) X.env = pure (some [x, y, z]) := by rfl)
    (hs : swapsWithSole [.Tuple [.Name x px, .Name y py, .Name z pz] kt pt] (.Tuple [a, b, c] k2 pt2) pos.line X.env = pure false := by rfl) : SX X W (.Assign [.Tuple [.Name x px, .Name y py, .Name z pz] kt pt] (.Tuple [a, b, c] k2 pt2) pos) (mPar [i, j, l] fa) :=
  ⟨PS.imp (ps_par3 hc hN hi hj hl hij hil hjl hx hy hz ha.pa hw hs) fun D σ H q => by
    obtain ⟨la, ms, Hf, S, q⟩ := q
    refine ⟨la, ms, Hf, S, (AfterS.of q).imp fun rs ms1 H1 Hf1 s1 S1 q1 vs rvs => ?_⟩
    have hl := asgs_len q1
    have hl2 := rvs.lenEq
    match vs, hl2, rvs with
    | [u, v, w], _, rvs => exact ⟨u, v, w, rfl, asgs_ok S1 rvs q1⟩
    | [], hl2, _ => rw [← hl2] at hl; cases hl
    | [_], hl2, _ => rw [← hl2] at hl; cases hl
    | [_, _], hl2, _ => rw [← hl2] at hl; cases hl
    | _ :: _ :: _ :: _ :: _, hl2, _ => rw [← hl2] at hl; simp at hl⟩
/-- names that are stored from the left -/
structure NmX (X : Cx) (es : List Expr) (is : List Nat) : Prop where
  pg : PGs X es fun vs σ H Q => vs.length = is.length ∧ Q (setAll σ is vs) H
theorem PGs.imp' {X : Cx} {es : List Expr} {t t' : TGs} (h : PGs X es t) (k : ∀ vs σ H Q, t' vs σ H Q → t vs σ H Q) : PGs X es t' := PGs.imp h k
theorem nm_nil : NmX X [] [] := ⟨PGs.imp pgs_nil fun vs σ H Q q => by
  obtain ⟨h, q⟩ := q
  have : vs = [] := List.length_eq_zero_iff.mp h
  subst this
  exact ⟨rfl, q⟩⟩
theorem nm_cons (i : Nat) {es : List Expr} {is : List Nat} (hN : X.N.Nodup) (hi : X.N[i]? = some x) (hx : Loc X.env.scope x) (h : NmX X es is) (hf : X.fn x = true ∨ X.env.scope.names.lookup x = some .local := by first | exact .inl rfl | exact .inr rfl | assumption)
    (hs : (assignEach (.Name x px :: es) X.env).map (·.2) = assign (.Name x px) X.env :: (assignEach es X.env).map (·.2) := by rfl) : NmX X (.Name x px :: es) (i :: is) := ⟨PGs.imp (pgs_cons (pg_name hN hi hx hf) h.pg hs) fun vs σ H Q q => by
  obtain ⟨hl, q⟩ := q
  match vs, hl with
  | v :: vs, hl =>
    exact ⟨v, vs, rfl, by simpa using hl, q⟩⟩
/-- the tuple stands, and is taken apart -/
theorem sx_unp {ts es : List Expr} {is : List Nat} {n : Nat} (hc : X.calm = true) (ha : KX X W es fa) (hg : NmX X ts is) (hn : (assignEach ts X.env).length = n := by rfl) (hst : (assignEach ts X.env).findIdx? (·.1) = none := by rfl) (hn2 : is.length = n := by rfl) (hsz : n ≤ SZ := by decide)
    (hs : swapsWithSole [.Tuple ts kt pt] (.Tuple es k2 pt2) pos.line X.env = pure false := by rfl) (hw : swappedStores [.Tuple ts kt pt] (.Tuple es k2 pt2) X.env = pure none := by rfl)
    (h1 : (assignEach [.Tuple ts kt pt] X.env).map (·.2) = [assign (.Tuple ts kt pt) X.env] := by rfl) : SX X W (.Assign [.Tuple ts kt pt] (.Tuple es k2 pt2) pos) (mPar is fa) :=
  ⟨PS.imp (ps_asg (pe_tup ha.pa) (pg_tup hc hg.pg hn hst) hs hw h1) fun D σ H q => by
    obtain ⟨la, ms, Hf, S, q⟩ := q
    refine ⟨la, ms, Hf, S, (AfterS.of q).imp fun rs ms1 H1 Hf1 s1 S1 q1 vs rvs => ?_⟩
    have hl := asgs_len q1
    have hl2 := rvs.lenEq
    refine ⟨by rw [hl2, ← hl, hn2, szLine]; exact hsz, fun p hp => ⟨p, vs, rfl, .inl (.inl upd_same), by rw [hl2, ← hl]; exact hn2, hl2.trans hl.symm, ?_⟩⟩
    have S2 := S1.laid hp (o := .tup vs)
    have rvs2 : RvKs (kw X) ms1 σ (upd H1 p (.tup vs)) Hf1 la vs rs := by
      have : ∀ {la : Fm} {ws : List V} {rs : List Rv}, RvKs (kw X) ms1 σ H1 Hf1 la ws rs → RvKs (kw X) ms1 σ (upd H1 p (.tup vs)) Hf1 la ws rs := by
        intro la ws rs h
        induction h with
        | nil => exact .nil
        | dat r _ ih => exact .dat r ih
        | new f1 f2 f3 f4 f5 _ ih => exact .new f1 f2 (by rw [upd_ne (fun z => by rw [z, hp] at f3; cases f3)]; exact f3) f4 f5 ih
      exact this rvs
    exact asgs_ok S2 rvs2 q1⟩
end
end Pl

/-! Pl17 -/
set_option Elab.async false
set_option linter.all false
set_option maxRecDepth 100000
set_option maxHeartbeats 4000000
/-! Calls of the program's own defs, constants, what is never reached. -/
namespace Pl
open PySem PySem.Spec PyProof.Rows L2
/-- a def of the module, and what it keeps -/
def Cal (P : Program) (w : World) (K : PySem.W.Frag) (mg : Str → Option Value) (base : Heap) (k : Nat) (x : Str) (n : Nat) (F : Fn) : Prop :=
  ∃ (f : Addr) (fd : FuncData) (ps : List Str), ps.length = n ∧ GdOk P w K mg base k f fd ps (spF ⟨K, w, P⟩ mg ps.length F) ∧ mg x = some (.ref f) ∧ PySem.W.keepIn K (.ref f) = true ∧ Binds K fd ps []
def mBadE : ME := fun _ => .stuck
def mBadX : MX := fun _ => .stuck
section
variable {X : Cx} {W : WX} {e : Expr} {es : List Expr} {s : Stmt} {pos p : Pos} {x : Str}
theorem ex_bad : EX X W e mBadE := ⟨⟨fun pins s σ H Q I h => by
  obtain ⟨la, ms, Hf, S, q⟩ := h
  exact q.elim⟩⟩
theorem sx_bad : SX X W s mBadX := ⟨⟨fun pins s σ H D I h => by
  obtain ⟨la, ms, Hf, S, q⟩ := h
  exact q.elim⟩⟩
theorem ex_callC {k j n : Nat} {F : Fn} {fa : MA} (G : Cal X.prog X.w X.K X.mg X.base k x n F) (hG : X.A.guards = some []) (hr : Room j X.A) (hk : k ≤ j) (hg : Gl X x) (tk : Takes X W) (ha : AX X W (e :: es) fa) (hlen : ∀ ms rs ms', fa ms = .ok rs ms' → rs.length = n) (hdb : (x == ("__debug__" : Str)) = false := by decide)
    (he : starEach (e :: es) X.env = (false, eval e X.env) :: starEach es X.env := by rfl) (hpl : (backTo pos (starEach es X.env)).any (·.1) = false := by rfl) : EX X W (.Call (.Name x p) (e :: es) [] pos) (mCall F fa) := by
  obtain ⟨f, fd, ps, hn, g, hm, hkeep, hb⟩ := G
  subst hn
  exact ex_call g hG (hr.mono hk) hg hm hkeep hb tk ha hlen hdb he hpl
theorem ex_gintE {i : Int} (hg : Gl X x) (hm : ∃ t, X.mg x = some (.int i t)) (hd : (x == ("__debug__" : Str)) = false := by decide) : EX X W (.Name x pos) (mC (.int i)) := by
  obtain ⟨t, h⟩ := hm
  exact ex_gint hg h hd
theorem ex_gstrE {y : Str} (hg : Gl X x) (hm : ∃ t, X.mg x = some (.str y t)) (hd : (x == ("__debug__" : Str)) = false := by decide) : EX X W (.Name x pos) (mC (.str y)) := by
  obtain ⟨t, h⟩ := hm
  exact ex_gstr hg h hd
theorem takes_w0 {X : Cx} : Takes X W0 := fun u s' ⟨a, B, sI, pins, σ, H, cls, d, e, I, nb, up, sky, na, os, ag, w⟩ => w.elim
theorem Room.u {k : Nat} {A : Around} (r : Room k A) : A.units + 70 < cLine := by have := r.un; omega
theorem Room.u4 {k : Nat} {A : Around} (r : Room k A) : A.units + 64 < cLine := by have := r.un; omega
/-- -i -/
def pNeg (d : PyData) : Option Rv := match d with
  | .int i => some (.dat (.int (-i)))
  | _ => none
def mUn (g : PyData → Option Rv) (f : ME) : ME := fun ms => (f ms).bind fun r ms1 => match view ms1 r with
  | some d => match g d with
    | some r' => .ok r' ms1
    | none => .stuck
  | none => .stuck
theorem ex_neg {f : ME} (h : EX X W e f) : EX X W (.UnaryOp .USub e pos) (mUn pNeg f) := ⟨PE.imp (pe_un un_neg h.pe) fun σ H Q q => by
  obtain ⟨la, ms, Hf, S, q⟩ := q
  refine ⟨la, ms, Hf, S, (After.bind q).imp fun r ms1 H1 Hf1 s1 S1 q1 v rv => ?_⟩
  cases e1 : view ms1 r with
  | none => rw [e1] at q1; exact q1.elim
  | some d =>
    rw [e1] at q1
    cases d with
    | int i =>
      cases (RvR.vw S1 rv e1).int
      exact ⟨i, rfl, q1 H1 Hf1 (.refl _) S1 _ (.int _)⟩
    | _ => exact False.elim q1⟩
end
end Pl

/-! Pl18 -/
set_option Elab.async false
set_option linter.all false
set_option maxRecDepth 100000
set_option maxHeartbeats 4000000
/-! Dict displays, the bound of while. -/
namespace Pl
open PySem PySem.Spec PyProof.Rows L2
/-- the most turns of a while -/
def wN : Nat := 16777300
def mDict0 : ME := fun ms => .ok (.new (.dict [])) ms
abbrev MPs := MS → Out (List (PyData × PyData))
def mPNil : MPs := fun ms => .ok [] ms
def mPCons (fk fv : ME) (g : MPs) : MPs := fun ms => (fk ms).bind fun rk ms1 => match frz ms1 rk with
  | some (dk, ms2) => (fv ms2).bind fun rv ms3 => match frz ms3 rv with
    | some (dv, ms4) => (g ms4).bind fun es ms5 => .ok ((dk, dv) :: es) ms5
    | none => .stuck
  | none => .stuck
def dMerge (es : List (PyData × PyData)) : List (PyData × PyData) := es.foldl (fun acc p => dPut acc p.1 p.2) []
def mkDict (es : List (PyData × PyData)) (ms : MS) : Out Rv := if (es.all fun p => kind0 p.1) = true then .ok (.new (.dict (dMerge es))) ms else .stuck
def mDict (f : MPs) : ME := fun ms => (f ms).bind mkDict
inductive RepPs (K : KW) (H : Hp) : List (V × V) → List (PyData × PyData) → Prop
  | nil : RepPs K H [] []
  | cons {k v : V} {dk dv : PyData} {ps : List (V × V)} {es : List (PyData × PyData)} : Rep K H k dk → Rep K H v dv → RepPs K H ps es → RepPs K H ((k, v) :: ps) ((dk, dv) :: es)
theorem RepPs.keys {K : KW} {H : Hp} : ∀ {ps : List (V × V)} {es : List (PyData × PyData)}, RepPs K H ps es → (es.all fun p => kind0 p.1) = true → ∃ kvs : List (Key × V), ps = kvs.map (fun kv => (kV kv.1, kv.2)) ∧ kvs.length = es.length ∧
    ∀ (acc : List (Key × V)) (ea : List (PyData × PyData)), RepKv K H acc ea → RepKv K H (mergeK acc kvs) (es.foldl (fun acc p => dPut acc p.1 p.2) ea)
  | _, _, .nil, _ => ⟨[], rfl, rfl, fun _ _ r => r⟩
  | _, _, .cons (dk := dk) hk hv t, h => by
    rw [List.all_cons, Bool.and_eq_true] at h
    obtain ⟨kvs, e1, e2, e3⟩ := RepPs.keys t h.2
    obtain ⟨l, hl⟩ := Option.isSome_iff_exists.mp h.1
    have ek : ∀ {k : V}, Rep K H k dk → k = kV l := fun {k} r => by
      cases dk <;> simp [kOf] at hl <;> subst hl <;> cases r <;> rfl
    refine ⟨(l, _) :: kvs, by rw [List.map_cons, ← e1, ek hk], by rw [List.length_cons, List.length_cons, e2], fun acc ea r => ?_⟩
    exact e3 _ _ (r.put hl hv)
section
variable {X : Cx} {W : WX} {pos : Pos}
theorem ex_dict0 : EX X W (.Dict [] [] pos) mDict0 := ⟨PE.imp pe_dnewK fun σ H Q q => by
  obtain ⟨la, ms, Hf, S, q⟩ := q
  intro p hp
  exact q _ Hf (.refl _) (S.laid hp) _ (new_rv S hp (.dk .nil))⟩
structure PPX (X : Cx) (W : WX) (pos : Pos) (ks : List (Option Expr)) (vs : List Expr) (f : MPs) : Prop where
  run : ∃ trs, PPs X pos ks vs trs ∧ ∀ σ H Q, (∃ la ms Hf, SR (kw X) la ms σ H Hf ∧ After (kw X) X.mg W la σ Hf (fun es ms' H' Hf' => ∀ ps, RepPs (kw X) Hf' ps es → Q ps H') (f ms)) → tPairs trs σ H Q
theorem ppx_nil : PPX X W pos [] [] mPNil := ⟨[], pps_nil, fun σ H Q q => by
  obtain ⟨la, ms, Hf, S, q⟩ := q
  exact q H Hf (.refl _) S [] .nil⟩
theorem ppx_cons {k v : Expr} {ks : List (Option Expr)} {vs : List Expr} {fk fv : ME} {g : MPs} (hk : EX X W k fk) (hv : EX X W v fv) (hr : PPX X W pos ks vs g) : PPX X W pos (some k :: ks) (v :: vs) (mPCons fk fv g) := by
  obtain ⟨trs, h1, h2⟩ := hr.run
  refine ⟨_, pps_cons hk.pe hv.pe h1, fun σ H Q q => ?_⟩
  obtain ⟨la, ms, Hf, S, q⟩ := q
  refine ⟨la, ms, Hf, S, (After.bind q).imp fun rk ms1 H1 Hf1 s1 S1 q1 x rx => ?_⟩
  cases e1 : frz ms1 rk with
  | none => rw [e1] at q1; exact q1.elim
  | some p =>
    obtain ⟨dk, ms2⟩ := p
    rw [e1] at q1
    simp only at q1
    obtain ⟨Hf2, s2, S2, rdk⟩ := rv_frz S1 rx e1
    refine ⟨la, ms2, Hf2, S2, (After.bind (q1.hf s2)).imp fun rv ms3 H3 Hf3 s3 S3 q3 y ry => ?_⟩
    cases e3 : frz ms3 rv with
    | none => rw [e3] at q3; exact q3.elim
    | some p =>
      obtain ⟨dv, ms4⟩ := p
      rw [e3] at q3
      simp only at q3
      obtain ⟨Hf4, s4, S4, rdv⟩ := rv_frz S3 ry e3
      refine h2 σ H3 _ ⟨la, ms4, Hf4, S4, (After.bind (q3.hf s4)).imp fun es ms5 H5 Hf5 s5 S5 q5 ps rps => ?_⟩
      exact q5 H5 Hf5 (.refl _) S5 ((x, y) :: ps) (.cons (((rdk.mono s3).mono s4).mono s5) (rdv.mono s5) rps)
theorem mP_len {fk fv : ME} {g : MPs} {n : Nat} (hg : ∀ ms es ms', g ms = .ok es ms' → es.length = n) : ∀ ms es ms', mPCons fk fv g ms = .ok es ms' → es.length = n + 1 := fun ms es ms' h => by
  unfold mPCons at h
  cases e : fk ms with
  | ok r ms1 =>
    rw [e] at h
    simp only [Out.bind_ok] at h
    split at h
    · rename_i dk ms2 e2
      cases e3 : fv ms2 with
      | ok r2 ms3 =>
        rw [e3] at h
        simp only [Out.bind_ok] at h
        split at h
        · rename_i dv ms4 e4
          cases e5 : g ms4 with
          | ok es2 ms5 => rw [e5] at h; cases h; rw [List.length_cons, hg _ _ _ e5]
          | stuck => rw [e5] at h; cases h
          | exc c fs ms5 => rw [e5] at h; cases h
        · cases h
      | stuck => rw [e3] at h; cases h
      | exc c fs ms3 => rw [e3] at h; cases h
    · cases h
  | stuck => rw [e] at h; cases h
  | exc c fs ms1 => rw [e] at h; cases h
theorem mP_len0 : ∀ ms es ms', mPNil ms = .ok es ms' → es.length = 0 := fun ms es ms' h => by cases h; rfl
theorem ex_dict {ks : List (Option Expr)} {vs : List Expr} {f : MPs} {n : Nat} (h : PPX X W pos ks vs f) (hn : ∀ ms es ms', f ms = .ok es ms' → es.length = n) (h15 : n ≤ 15) (hall : ks.all (·.isSome) = true) (hl : ks.length = vs.length) (h0 : ks ≠ []) (hk15 : ks.length ≤ 15) : EX X W (.Dict ks vs pos) (mDict f) := by
  obtain ⟨trs, h1, h2⟩ := h.run
  refine ⟨PE.imp (pe_disp h1 hall hl h0 hk15) fun σ H Q q => ?_⟩
  obtain ⟨la, ms, Hf, S, q⟩ := q
  intro p hp
  have hla : la.fr p = none := by
    cases hq : la.fr p with
    | none => rfl
    | some o => rw [(S.fr p o hq).1] at hp; cases hp
  have S0 := S.framed (o := .dK []) hp
  refine h2 _ _ _ ⟨la.with p (.dK []), ms, Hf, S0, ?_⟩
  have q0 : After (kw X) X.mg W la σ Hf (fun r ms' H' Hf' => ∀ v, RvR (kw X) la ms' σ H' Hf' v r → Q v H') ((f ms).bind mkDict) := q
  cases hf : f ms with
  | stuck => rw [hf] at q0; exact q0.elim
  | exc c fs ms' => rw [hf] at q0; exact fun cls d H' Hf' s' S' => q0 cls d H' Hf' s' (S'.unframed hla)
  | ok es ms' =>
    rw [hf] at q0
    intro H' Hf' s' S' ps rps
    have q1 : After (kw X) X.mg W la σ Hf (fun r ms' H' Hf' => ∀ v, RvR (kw X) la ms' σ H' Hf' v r → Q v H') (mkDict es ms') := q0
    unfold mkDict at q1
    split at q1
    · rename_i ka
      obtain ⟨kvs, e1, e2, e3⟩ := rps.keys ka
      have inf := S'.inFrame
      refine ⟨inf.1, kvs, e1, by rw [e2, hn _ _ _ hf]; exact h15, ?_⟩
      have r := e3 [] [] .nil
      have S2 := (S'.reframed (o' := .dK (mergeK [] kvs))).unframed hla
      refine q1 _ Hf' s' S2 _ ⟨p, _, rfl, hla, inf.2, upd_same, .dk r, fun i l d' hi z => ?_⟩
      obtain ⟨a, ob, e, m, fr, n, qq, rr⟩ := S'.own i l d' hi
      rw [z] at e
      injection e with e; injection e with e; injection e with e
      subst e
      exact (fr_with.mp fr).1 rfl
    · exact q1.elim
end
end Pl

/-! Pl19 -/
set_option Elab.async false
set_option linter.all false
set_option maxRecDepth 100000
set_option maxHeartbeats 4000000
/-! xs[::-1]. -/
namespace HT
open PySem PySem.Calls PyProof.Rows
section
variable {prog : Program} {w : World} {A : Around} {E : Value → Shared → Prop} {s : Shared}
theorem adjust_rev (n : Nat) : Builtin.Slice.sliceAdjust none none (-1) (n : Int) = ((n : Int) - 1, -1) := by
  unfold Builtin.Slice.sliceAdjust
  simp
theorem places_rev (n : Nat) : Builtin.Slice.slicePlaces ((n : Int) - 1) (-1) (-1) = n := by
  unfold Builtin.Slice.slicePlaces
  simp
  try omega
theorem sliceApplied_rev {sl : Addr} {vl vu vs : Value} {n : Nat} {Q : Int × Int × Nat → Shared → Prop} (hs : s.heap.IsSliceOf sl vl vu vs) (pl : IsPart vl none) (pu : IsPart vu none) (ps : IsPart vs (some (-1)))
    (h : Q ((n : Int) - 1, -1, n) s) : wpAny (model prog w) A (Builtin.Slice.sliceApplied (.ref sl) (pure (n : Int))) Q E s := by
  obtain ⟨os, hos, hcs, hds⟩ := id hs
  unfold Builtin.Slice.sliceApplied Builtin.Slice.sliceFields
  refine wpAny_bind (wpAny_bind (wpAny_field hos hds (x := vl) rfl (wpAny_bind (wpAny_field hos hds (x := vu) rfl (wpAny_bind (wpAny_field hos hds (x := vs) rfl (wpAny_pure ?_)))))))
  refine wpAny_bind (slicePart_ ps ?_)
  show wpAny _ _ (if ((-1 : Int) == 0) = true then _ else _) _ _ s
  rw [if_neg (by decide)]
  refine wpAny_bind (slicePart_ pl (wpAny_bind (slicePart_ pu (wpAny_bind (wpAny_pure ?_)))))
  show wpAny _ _ (match Builtin.Slice.sliceAdjust none none (-1) (n : Int) with | (lo, hi) => pure (lo, (-1 : Int), Builtin.Slice.slicePlaces lo hi (-1))) _ _ s
  rw [adjust_rev n]
  show wpAny _ _ (pure ((n : Int) - 1, (-1 : Int), Builtin.Slice.slicePlaces ((n : Int) - 1) (-1) (-1))) _ _ s
  rw [places_rev]
  exact wpAny_pure h
theorem filterMap_some {α : Type} {f : Nat → Option α} {g : Nat → α} : ∀ {l : List Nat}, (∀ m ∈ l, f m = some (g m)) → l.filterMap f = l.map g
  | [], _ => rfl
  | m :: l, h => by
    rw [List.filterMap_cons, h m (List.mem_cons_self ..), List.map_cons, filterMap_some fun n hn => h n (List.mem_cons_of_mem _ hn)]
theorem pick_rev (xs : Array Value) : ((List.range xs.size).filterMap fun (m : Nat) => xs[(((xs.size : Int) - 1) + (m : Int) * (-1)).toNat]?).toArray = xs.toList.reverse.toArray := by
  congr 1
  have e : ∀ m ∈ List.range xs.size, (fun (m : Nat) => xs[(((xs.size : Int) - 1) + (m : Int) * (-1)).toNat]?) m = (fun m => some (xs.toList.reverse[m]?.getD .none)) m := by
    intro m hm
    rw [List.mem_range] at hm
    have h1 : (((xs.size : Int) - 1) + (m : Int) * (-1)).toNat = xs.size - 1 - m := by omega
    simp only [h1]
    have h2 : m < xs.toList.length := by simpa using hm
    rw [List.getElem?_reverse h2]
    have h3 : xs.toList.length - 1 - m < xs.toList.length := by omega
    rw [List.getElem?_eq_getElem h3]
    simp only [Array.length_toList] at h3 ⊢
    rw [Array.getElem?_eq_getElem (by omega)]
    simp
  rw [filterMap_some e]
  refine List.ext_getElem? fun m => ?_
  rw [List.getElem?_map]
  by_cases hm : m < xs.size
  · rw [List.getElem?_range hm]
    have h2 : m < xs.toList.reverse.length := by simpa using hm
    rw [List.getElem?_eq_getElem h2]
    simp only [Option.map_some, List.getElem?_eq_getElem h2, Option.getD_some]
  · rw [List.getElem?_eq_none (by simpa using hm), List.getElem?_eq_none (by simpa using hm)]
    rfl
theorem getItem_tuple_rev {t sl : Addr} {items : Array Value} {vl vu vs : Value} {Q : Value → Shared → Prop} (ht : IsTup s.heap t items) (hs : s.heap.IsSliceOf sl vl vu vs) (pl : IsPart vl none) (pu : IsPart vu none) (ps : IsPart vs (some (-1)))
    (h : Q (.ref s.heap.objs.size) { s with heap := s.heap.push { cls := .type "tuple", data := .seq items.toList.reverse.toArray } })
    (hsz : items.size ≤ sizeLine) : wpAny (model prog w) A (getItem (.ref t) (.ref sl)) Q E s := by
  have htake : sizeOk (.seq items.toList.reverse.toArray) := by
    show items.toList.reverse.toArray.size ≤ sizeLine
    simpa using hsz
  obtain ⟨os, hos, hcs, hds⟩ := id hs
  have hTs : s.TypeIs (.ref sl) "slice" := ⟨os, hos, hcs⟩
  unfold getItem
  try with_reducible refine wpAny_holding ?_
  first | refine wpAny_bind (wpAny_pure ?_) | skip
  refine wpAny_bind (wpAny_sequenceKey ht.typeIs (by decide) ?_)
  refine wpAny_bind (wpAny_callSpecial?_slot (name := Str.ofString "__getitem__") ht.typeIs PyProof.Rows.slot_tuple_getitem
    (wpAny_call_entry PyProof.Rows.slot_tuple_getitem ht.typeIs entry_tuple_getitem ?_ (args_tuple_getitem _ _)))
  show wpAny _ _ (Builtin.Tuple.tupleItemsOf (.ref t) >>= _) _ _ s
  refine wpAny_bind (tupleItemsOf_ ht ?_)
  refine wpAny_bind (wpAny_typeOf hTs ?_)
  rw [if_pos (by decide)]
  refine wpAny_bind (sliceApplied_rev hs pl pu ps ?_)
  have hno : ¬ ((((items.size : Int) - 1) == 0 && (-1 : Int) == 1 && items.size == items.size) = true) := by simp
  show wpAny _ _ (if (((items.size : Int) - 1) == 0 && (-1 : Int) == 1 && items.size == items.size) = true then _ else _) _ _ s
  rw [if_neg hno, pick_rev]
  first
    | exact wpAny_bind (m := Builtin.Tuple.tupleExact _) (wpAny_newObj_type (wpAny_pure ⟨_, rfl, wpAny_pure h⟩) htake)
    | exact wpAny_bind (m := Builtin.Tuple.tupleExact _) (wpAny_newObj_type (wpAny_bind (wpAny_pure (wpAny_pure ⟨_, rfl, wpAny_pure h⟩))) htake)
    | exact wpAny_bind (wpAny_bind (m := Builtin.Tuple.tupleExact _) (wpAny_newObj_type (wpAny_pure (wpAny_pure ⟨_, rfl, wpAny_pure h⟩)) htake))
    | exact wpAny_bind (wpAny_bind (m := Builtin.Tuple.tupleExact _) (wpAny_newObj_type (wpAny_pure ⟨_, rfl, wpAny_pure h⟩) htake))
end
end HT
namespace Pl
open PySem PySem.Spec PyProof.Rows L2
def pRev (d : PyData) : Option Rv := match d with
  | .list ds => some (.new (.list ds.reverse))
  | .tuple ds => some (.dat (.tuple ds.reverse))
  | _ => none
def tRevD (X : Cx) (te : TE) : TE := fun σ H Q => te σ H fun x H1 => ∃ Hf d r, Same Hf H1 ∧ Vw (kw X) H1 Hf x d ∧ pRev d = some r ∧ ∀ v H' Hf', Grow H1 Hf H' Hf' → RvN (kw X) H1 H' Hf' v r → Q v H'
section
variable {X : Cx} {W : WX}
theorem pe_revD {e : Expr} {te : TE} {k : Nat} {p1 p2 p3 pos : Pos} (he : PE X e te) : PE X (.Subscript e (.Slice none none (some (.UnaryOp .USub (.Constant (.int 1) k p1) p2)) p3) pos) (tRevD X te) := by
  refine ⟨fun pins s σ H Q I h => ?_⟩
  refine Subscript_ (thn (he.run pins s σ H _ I h) fun v s1 ⟨x, H1, I1, r1, q1⟩ => ?_)
  obtain ⟨Hf, d, r, sm, vd, hg, kk⟩ := q1
  have hst : PO X (some (.UnaryOp .USub (.Constant (.int 1) k p1) p2)) (tPart (tUn (rU fun i => .int (-i)) (tC (.int 1)))) := po_some (pe_un un_neg pe_int)
  refine wpAny_Slice (thn (po_none.run pins s1 σ H1 (fun o H2 => o = none ∧ H2 = H1) I1 ⟨rfl, rfl⟩) fun vl s2 ⟨l, H2, I2, pl, el, e2⟩ => ?_)
  subst el e2
  refine thn (po_none.run pins s2 σ H2 (fun o H3 => o = none ∧ H3 = H2) I2 ⟨rfl, rfl⟩) fun vu s3 ⟨u, H3, I3, pu, eu, e3⟩ => ?_
  subst eu e3
  refine thn (hst.run pins s3 σ H3 (fun o H4 => o = some (-1) ∧ H4 = H3) I3 ⟨1, rfl, -1, rfl, rfl, rfl⟩) fun vs s4 ⟨o, H4, I4, ps, eo, e4⟩ => ?_
  subst eo e4
  have I5 : Inv X pins σ H4 { s4 with heap := s4.heap.push { cls := .type "slice", data := .fields #[vl, vu, vs] } } := I4.kept (t' := s4.toks) fun b ob q => Heap.get?_push_of_some _ q
  show wpAny (model X.prog X.w) X.A (subscriptTail e (.Slice none none (some (.UnaryOp .USub (.Constant (.int 1) k p1) p2)) p3) v (.ref s4.heap.objs.size)) (EP X pins σ Q) X.xe { s4 with heap := s4.heap.push { cls := .type "slice", data := .fields #[vl, vu, vs] } }
  unfold pRev at hg
  split at hg
  · cases hg
    obtain ⟨a, xs, rfl, ha, ra⟩ := vd.lst sm
    cases r1
    obtain ⟨its, r, ht, hz⟩ := I5.list (SqL.of ha)
    have hlen := r.length
    refine tail_any (ops := [.ref a, .ref s4.heap.objs.size]) ht.isList.typeIs (PySem.slot_list_getitem.lookup) ?_ (by with_unfolding_all rfl)
    refine wpAny_getItem_list_slice ht.isList (Heap.IsSliceOf.new _ vl vu vs) pl pu ps (by decide) ?_ (by rw [List.size_toArray]; omega)
    rw [PySem.W.krv_pick]
    refine ⟨.ref _, _, I5.laid (t' := s4.toks) (o := .lst xs.reverse) (fun b ob q => Heap.get?_push_of_some _ q) (Nat.le_refl _) ?_, rfl, giveNew sm (fun _ => .lst ra.reverse) kk _ (I5.hok.fresh (Nat.le_refl _))⟩
    exact ⟨by rw [List.length_reverse]; exact hz, _, 0, r.reverse, Heap.get?_push_size _ rfl⟩
  · cases hg
    obtain ⟨a, xs, rfl, ha, ra⟩ := vd.tup sm
    cases r1
    obtain ⟨its, r, ht, hz⟩ := I5.tuple ha.sq
    have hlen := r.length
    refine tail_any (ops := [.ref a, .ref s4.heap.objs.size]) ht.typeIs (PyProof.Rows.slot_tuple_getitem.lookup) ?_ (by with_unfolding_all rfl)
    refine HT.getItem_tuple_rev ht (Heap.IsSliceOf.new _ vl vu vs) pl pu ps ?_ (by rw [List.size_toArray]; omega)
    exact laidT I5 r.reverse (by rw [List.length_reverse]; exact hz) (giveTup sm ra.reverse kk)
  · cases hg
theorem ex_rev {e : Expr} {f : ME} {k : Nat} {p1 p2 p3 pos : Pos} (h : EX X W e f) : EX X W (.Subscript e (.Slice none none (some (.UnaryOp .USub (.Constant (.int 1) k p1) p2)) p3) pos) (mUn pRev f) := ⟨PE.imp (pe_revD h.pe) fun σ H Q q => by
  obtain ⟨la, ms, Hf, S, q⟩ := q
  refine ⟨la, ms, Hf, S, (After.bind q).imp fun r ms1 H1 Hf1 s1 S1 q1 v rv => ?_⟩
  cases e1 : view ms1 r with
  | none => rw [e1] at q1; exact q1.elim
  | some d =>
    rw [e1] at q1
    cases e2 : pRev d with
    | none => simp only [e2] at q1; exact q1.elim
    | some r' =>
      simp only [e2] at q1
      exact ⟨Hf1, d, r', S1.sub, RvR.vw S1 rv e1, e2, fun v' H' Hf' G rn => q1 H' Hf' G.ff (S1.grow G) v' (RvN.rv S1 rn)⟩⟩
end
end Pl

/-! Pl20 -/
set_option Elab.async false
set_option linter.all false
set_option maxRecDepth 100000
set_option maxHeartbeats 4000000
/-! Comprehensions of dicts and sets: one walk for both. -/
namespace Pl
open PySem PySem.Spec PyProof.Rows L2
/-- what is done with the new object at the end of a turn -/
abbrev ActT := Program → World → Around → Env → Addr → (Shared → Prop) → (Value → Shared → Prop) → Shared → Prop
/-- a comprehension's turn, its last step told by act -/
def TurnT (act : ActT) (P : Program) (w : World) (A : Around) (tg : Expr) (ifs : List Expr) (it : Value) (D : Addr) (env : Env) (R : Result → Shared → Prop) (I : Nat → Shared → Prop) (n : Nat) (s : Shared) : Prop :=
  wpAny (model P w) A (pyNext it) (fun r s₁ => match r with
      | none => R (.ok .next) s₁
      | some v => wpAny (model P w) A (letOwnedTupleGo tg it v) (fun _ s₁' => wpAny (model P w) A (assign tg env v) (fun _ s₂ =>
          wpAny (model P w) A (forIn ifs true fun c r => if r = true then do let ok ← isTrue c env (eval c env); pure (ForInStep.yield ok) else pure (ForInStep.yield r)) (fun ok s₃ =>
            if ok = true then act P w A env D (fun s₄ => ∃ m, m < n ∧ I m s₄) (notedBy (model P w) A env fun e s' => R (.error e) s') s₃
            else ∃ m, m < n ∧ I m s₃) (notedBy (model P w) A env fun e s' => R (.error e) s') s₂) (notedBy (model P w) A env fun e s' => R (.error e) s') s₁') (notedBy (model P w) A env fun e s' => R (.error e) s') s₁) (notedBy (model P w) A env fun e s' => R (.error e) s') s
structure CmK (P : Program) (w : World) (c tg iter : Expr) (ifs : List Expr) (newAcc : Sem Value) (o0 : Obj) (act : ActT) : Prop where
  cl : clausesOf c = [⟨tg, iter, ifs, 0⟩]
  new : ∀ {A : Around} {E : Value → Shared → Prop} {s : Shared} {Q : Value → Shared → Prop}, Q (.ref s.heap.objs.size) { s with heap := s.heap.push o0 } → wpAny (model P w) A newAcc Q E s
  loop : ∀ {A : Around} {R : Result → Shared → Prop} {s : Shared} {it : Value} {D : Addr} {env : Env} (I : Nat → Shared → Prop), (∀ n s, I n s → TurnT act P w A tg ifs it D env R I n s) → ∀ n, I n s → codeAny (model P w) A (.compLoop c 0 it (.ref D) env) R s
  start : ∀ {A : Around} {R : Result → Shared → Prop} {s : Shared} {it acc : Value} {env : Env}, codeAny (model P w) A (.compLoop c 0 it acc env) R s →
    wpAny (model P w) A (pyIter it) (fun it' s' => codeAny (model P w) A (.compLoop c 0 it' acc env) R s') (notedBy (model P w) A env fun x s' => R (.error x) s') s → codeAny (model P w) A (.compStart c 0 it acc env) R s
/-- the last step's reading -/
abbrev TL := L2.St → Hp → Addr → (Hp → Prop) → Prop
def tCm (o : Addr → HO) (wi : TI) (g : TG) (tt : TT) (tl : TL) (vs : List Nat) : TE := fun σ H Q => wi σ H fun J H1 => ∀ D, H1 D = none → ∃ W : Nat → Nat → Hp → Prop, (∃ m, W 0 m (upd H1 D (o D))) ∧ ∀ i m H, W i m H →
  (J.stop i H ∧ Q (.ref D) H) ∨ (J.go i H ∧ ∃ Nx : Hp → Prop, (∀ H', Nx H' → ∃ m', m' < m ∧ W (i + 1) m' H') ∧ ∀ x H', J.yld i H x H' → g x (L2.wipe σ vs) H' fun σ2 H2 => L2.wipe σ2 vs = L2.wipe σ vs ∧ tt σ2 H2 fun b H3 =>
    if b = true then tl σ2 H3 D Nx else Nx H3)
section
variable {X : Cx}
theorem cm_core {c tg iter : Expr} {ifs : List Expr} {newAcc : Sem Value} {o0 : Obj} {act : ActT} {o : Addr → HO} (C : CmK X.prog X.w c tg iter ifs newAcc o0 act) {pins : List (Addr × Obj)} {s : Shared} {σ : L2.St} {H : Hp} {Q : VK} {scope : Scope} {own : List (PySem.Str × Nat)} {pos' : Pos} {wi : TI} {g : TG} {tt : TT} {tl : TL} {Qf : Value → Shared → Prop}
    (hc : X.calm = true) (hN : X.N.Nodup) (I : Inv X pins σ H s) (hi : PI X tg iter wi) (ok : BlkOk X.N X.env.scope scope own)
    (hg : ∀ (s : Shared) (H : Hp) (C : Addr) (cl : List (PySem.Str × Addr)) (fp : List Addr), PG (X.blk s H scope (compEnvC scope cl C X.env) fp) tg g) (ht : ∀ (s : Shared) (H : Hp) (C : Addr) (cl : List (PySem.Str × Addr)) (fp : List Addr), PTs (X.blk s H scope (compEnvC scope cl C X.env) fp) ifs tt)
    (hnew : ∀ {H : Hp} {s : Shared}, sysModules < s.heap.objs.size → ObjOk X.prog X.w (upd H s.heap.objs.size (o s.heap.objs.size)) (s.heap.push o0) s.heap.objs.size (o s.heap.objs.size))
    (hl : ∀ (s : Shared) (H : Hp) (C : Addr) (cl : List (PySem.Str × Addr)) (fp : List Addr), ∀ {pins : List (Addr × Obj)} {s1 : Shared} {σ1 : L2.St} {H1 : Hp} {D : Addr} {Nx : Hp → Prop} {Post : Shared → Prop} {E : Value → Shared → Prop}, Inv (X.blk s H scope (compEnvC scope cl C X.env) fp) pins σ1 H1 s1 → tl σ1 H1 D Nx →
      (∀ e s', False → E e s') → (∀ s' H', Inv (X.blk s H scope (compEnvC scope cl C X.env) fp) pins σ1 H' s' → Nx H' → Post s') → act X.prog X.w X.A (compEnvC scope cl C X.env) D Post E s1)
    (hs : ∀ x, foldedSetIterable iter X.env x = pure x)
    (h : tCm o wi g tt tl (own.map (·.2)) σ H Q)
    (hRR : ∀ D C s' m H', Inv X pins σ H' s' → Q (.ref D) H' → s'.heap.Ns C m → FpOk X pins H' C → compPost (model X.prog X.w) X.A X.xe none Qf (.ref D) C (.ok .next) s') :
    wpAny (model X.prog X.w) X.A (comprehension c scope X.env pos' newAcc false (eval iter X.env) none) Qf X.xe s := by
  have hfree : ∀ y ∈ scope.names, y.2 = .free → ∃ c, X.env.cells.lookup y.1 = some c := fun y hy e => by
    rcases ok.free y hy e with k | k
    · exact I.ok.has _ (.inl k)
    · exact I.ok.has _ (.inr k)
  refine wpAny_comprehension_free (use := none) C.cl hs (closure_ok hfree) ok.kind (fun y hy e => by rw [ok.uniq y hy, e])
    (thn (hi.run pins s σ H _ I h) fun xv s1 hx => thn hx fun itv s2 h2 => ?_)
  obtain ⟨it, fp, tn, J, H2, e, I2, T, st2, f2, q⟩ := h2
  subst e
  refine C.new (newEnv_comp ?_)
  generalize hD : s2.heap.objs.size = D
  have hDn : H2 D = none := I2.hok.fresh (Nat.le_of_eq hD)
  obtain ⟨W, ⟨m0, w0⟩, turn⟩ := q D hDn
  generalize hs3 : ({ s2 with heap := s2.heap.push o0 } : Shared) = s3
  have I3 : Inv X pins σ (upd H2 D (o D)) s3 := by
    rw [← hs3]
    refine I2.laid (t' := s2.toks) (fun b o e => Heap.get?_push_of_some _ e) (Nat.le_of_eq hD) ?_
    rw [← hD]
    exact hnew I2.big
  have h3 : s3.heap = s2.heap.push o0 := by rw [← hs3]
  have sz : ∀ b ∈ fp, b < s2.heap.objs.size := fun b hb => by
    obtain ⟨ob, e, _⟩ := T.obj _ _ st2 b hb
    exact Heap.lt_size e
  have f3 : ∀ b ∈ fp, FpOk X pins (upd H2 D (o D)) b ∧ b < s3.heap.objs.size := fun b hb => by
    have hlt := sz b hb
    refine ⟨⟨?_, (f2 b hb).2⟩, by rw [h3, Heap.size_push]; exact Nat.lt_succ_of_lt hlt⟩
    rw [upd_ne (by rw [← hD]; exact Nat.ne_of_lt hlt)]
    exact (f2 b hb).1
  have st3 : tn 0 s3.heap := T.keep _ _ _ st2 fun b _ ob e => by rw [h3]; exact Heap.get?_push_of_some _ e
  have I4 := block_start I3 ok hN f3
  have pg := hg s3 (upd H2 D (o D)) s3.heap.objs.size (cellsFrom (s3.heap.objs.size + 1) scope.names (cloFrom X.env.cells scope.names [])) fp
  have pt := ht s3 (upd H2 D (o D)) s3.heap.objs.size (cellsFrom (s3.heap.objs.size + 1) scope.names (cloFrom X.env.cells scope.names [])) fp
  have pl := @hl s3 (upd H2 D (o D)) s3.heap.objs.size (cellsFrom (s3.heap.objs.size + 1) scope.names (cloFrom X.env.cells scope.names [])) fp
  show codeAny _ _ (.compStart c 0 (.ref it) (.ref D) (compEnvC scope (cellsFrom (s3.heap.objs.size + 1) scope.names (cloFrom X.env.cells scope.names [])) s3.heap.objs.size X.env)) (compPost (model X.prog X.w) X.A X.xe none Qf (.ref D) s3.heap.objs.size) { s3 with heap := pushCells (s3.heap.push { cls := .type "dict", data := .dict #[] }) scope.names }
  have nfp : ∀ b ∈ fp, (upd H2 D (o D)) b = none := fun b hb => (f3 b hb).1.1
  generalize hce : compEnvC scope (cellsFrom (s3.heap.objs.size + 1) scope.names (cloFrom X.env.cells scope.names [])) s3.heap.objs.size X.env = ce at I4 pg pt pl ⊢
  have cL : ce.locals = s3.heap.objs.size := by subst hce; rfl
  generalize hH3 : upd H2 D (o D) = H3 at I3 I4 pg pt pl w0 nfp f3
  generalize hs4 : ({ s3 with heap := pushCells (s3.heap.push { cls := .type "dict", data := .dict #[] }) scope.names } : Shared) = s4 at I4 ⊢
  have st4 : tn 0 s4.heap := T.keep _ _ _ st3 fun b _ ob e => by rw [← hs4]; exact pushCells_keeps _ _ _ _ (Heap.get?_push_of_some _ e)
  have stat : ∀ {σ' : L2.St} {H' : Hp} {s' : Shared}, Inv (X.blk s3 H3 scope ce fp) [] σ' H' s' → (∀ b ∈ fp, H' b = none) → ∀ b ∈ fp, FpOk (X.blk s3 H3 scope ce fp) [] H' b := fun {σ' H' s'} I' hn b hb =>
    ⟨hn b hb, (I'.ok.exf b hb).1, I'.ok.exfs b hb, .inl hb, fun x c e => (I'.ok.exf b hb).2 x c e, fun p hp => absurd (show p ∈ ([] : List (Addr × Obj)) ++ [] from hp) (by simp)⟩
  have loop : codeAny (model X.prog X.w) X.A (.compLoop c 0 (.ref it) (.ref D) ce) (compPost (model X.prog X.w) X.A X.xe none Qf (.ref D) s3.heap.objs.size) s4 := by
    refine C.loop (fun n s' => ∃ i H', Inv (X.blk s3 H3 scope ce fp) [] (L2.wipe σ (own.map (·.2))) H' s' ∧ tn i s'.heap ∧ (∀ b ∈ fp, H' b = none) ∧ W i n H') ?_ m0 ⟨0, H3, I4, st4, nfp, w0⟩
    rintro n s5 ⟨i, H5, I5, st5, n5, w5⟩
    unfold TurnT
    rcases turn i n H5 w5 with ⟨stop, qq⟩ | ⟨go, Nx, hNx, step⟩
    · have td := T.done (X.blk s3 H3 scope ce fp) rfl rfl rfl hc i [] s5 _ H5 (fun _ _ => False) I5 (stat I5 n5) st5 stop
      refine thnF td fun r s6 ⟨hr, I6⟩ => ?_
      subst hr
      have I7 : Inv X pins σ H5 s6 := I3.call' (ch := fp) I6.os I6.base I6.hok I6.bare fun b hb => ⟨(f3 b hb).1.2.2.2.1, (f3 b hb).1.2.1, (f3 b hb).1.2.2.2.2.1, (f3 b hb).1.2.2.2.2.2⟩
      have nC : H5 s3.heap.objs.size = none := by
        have z : H5 ce.locals = none := I6.free
        rw [cL] at z
        exact z
      obtain ⟨m, hn, _⟩ := I6.loc
      have hn : s6.heap.Ns ce.locals m := hn
      rw [cL] at hn
      exact hRR D s3.heap.objs.size s6 m H5 I7 qq hn (I3.fpOk (Nat.le_refl _) nC)
    · have ti := T.item (X.blk s3 H3 scope ce fp) rfl rfl rfl hc i [] s5 _ H5 (fun _ _ => False) I5 (stat I5 n5) st5 go
      refine thnF ti fun r s6 ⟨u, hr, h6⟩ => ?_
      subst hr
      refine thnF h6 fun _ s7 ⟨x, H7, I7, r7, y7, st7, n7⟩ => ?_
      have I7' := I7.pinned (stat I7 n7) (T.obj _ _ st7)
      refine thnF (pg.run _ s7 _ H7 x u _ I7' r7 (step x H7 y7)) fun _ s8 ⟨σ8, H8, I8, hw8, q8⟩ => ?_
      refine thnF (pt.run _ s8 σ8 H8 _ I8 q8) fun b s9 ⟨H9, I9, q9⟩ => ?_
      have fin : ∀ {s' : Shared} {H' : Hp}, Inv (X.blk s3 H3 scope ce fp) ([] ++ pinsAt fp s7.heap) σ8 H' s' → Nx H' → ∃ m, m < n ∧ ∃ i H', Inv (X.blk s3 H3 scope ce fp) [] (L2.wipe σ (own.map (·.2))) H' s' ∧ tn i s'.heap ∧ (∀ b ∈ fp, H' b = none) ∧ W i m H' := fun {s' H'} I' nx => by
        obtain ⟨m', hm, w'⟩ := hNx H' nx
        have pin' : ∀ b ∈ fp, ∀ ob, s7.heap.get? b = some ob → s'.heap.get? b = some ob ∧ H' b = none := fun b hb ob e =>
          let z := I'.pin (b, ob) (List.mem_append_right _ (List.mem_append_right _ (mem_pinsAt hb e)))
          ⟨z.1, z.2.1⟩
        have hll : (L2.wipe σ (own.map (·.2))).length = σ8.length := by rw [← hw8, L2.wipe_length]
        refine ⟨m', hm, i + 1, H', (I'.unpinned (pins := [])).weak hll (fun j v e => ?_), T.keep _ _ _ st7 fun b hb ob e => (pin' b hb ob e).1, fun b hb => ?_, w'⟩
        · rw [← hw8] at e
          exact (L2.wipe_some e).1
        · obtain ⟨ob, e, _⟩ := T.obj _ _ st7 b hb
          exact (pin' b hb ob e).2
      cases b with
      | false =>
        simp only [Bool.false_eq_true, if_false] at q9 ⊢
        exact fin I9 q9
      | true =>
        simp only [if_true] at q9 ⊢
        exact pl I9 q9 (fun _ _ z => z.elim) fun s' H' I' nx => fin I' nx
  exact C.start loop (T.self X.A 0 _ _ _ st4 loop)
end
/-! ### mirrors -/
def cmTurn (vs : List Nat) (g : PyData → MS → SO) (t : MT) (step : PyData → MS → Out PyData) (d acc : PyData) (ms : MS) : Out PyData := ofSO (g d ms) fun ms1 => (noExc (t ms1)).bind fun b ms2 =>
  (if b = true then noExc (step acc ms2) else .ok acc ms2).bind fun acc' ms3 => .ok acc' (wipeM ms3 vs)
def cmF (vs : List Nat) (g : PyData → MS → SO) (t : MT) (step : PyData → MS → Out PyData) : List PyData → PyData → MS → Out PyData
  | [], acc, ms => .ok acc ms
  | d :: ds, acc, ms => (cmTurn vs g t step d acc ms).bind (cmF vs g t step ds)
def cmS (vs : List Nat) (g : PyData → MS → SO) (t : MT) (step : PyData → MS → Out PyData) (acc0 : PyData) (src : Src) (ms : MS) : Out PyData := match src with
  | .fix ds => cmF vs g t step ds acc0 (wipeM ms vs)
  | .live _ => .stuck
def newD (acc : PyData) (ms : MS) : Out Rv := .ok (.new acc) ms
def mCm (vs : List Nat) (fi : MS → Out Src) (g : PyData → MS → SO) (t : MT) (step : PyData → MS → Out PyData) (acc0 : PyData) : ME := fun ms => ((fi ms).bind (cmS vs g t step acc0)).bind newD
def HStep (X : Cx) (tl : TL) (step : PyData → MS → Out PyData) : Prop := ∀ {W : WX} {la : Fm} {σ σ2 : L2.St} {ms : MS} {H Hf : Hp} {D : Addr} {ob : HO} {acc : PyData} {β : Type} {G : β → MS → Hp → Hp → Prop} {k : PyData → MS → Out β} {Nx : Hp → Prop}, SR (kw X) (la.with D ob) ms σ2 H Hf → OObj (kw X) Hf D ob acc →
  After (kw X) X.mg W la σ Hf G ((noExc (step acc ms)).bind k) → (∀ acc' ob' ms' H' Hf', Same Hf Hf' → SR (kw X) (la.with D ob') ms' σ2 H' Hf' → OObj (kw X) Hf' D ob' acc' → After (kw X) X.mg W la σ Hf' G (k acc' ms') → Nx H') → tl σ2 H D Nx
theorem wipe_twice (σ : L2.St) (vs : List Nat) : L2.wipe (L2.wipe σ vs) vs = L2.wipe σ vs := by
  have : ∀ (T : List Nat) (τ : L2.St), (∀ i ∈ T, ∀ x, τ[i]? ≠ some (some x)) → L2.wipe τ T = τ := by
    intro T
    induction T with
    | nil => intro τ _; rfl
    | cons j T ih =>
      intro τ hτ
      unfold L2.wipe
      rw [ih τ fun i hi => hτ i (List.mem_cons_of_mem _ hi)]
      apply List.ext_getElem?
      intro n
      by_cases hn : j = n
      · subst hn
        by_cases hl : j < τ.length
        · rw [List.getElem?_set_self hl]
          have := hτ j List.mem_cons_self
          cases hq : τ[j]? with
          | none => rw [List.getElem?_eq_none_iff] at hq; omega
          | some o => cases o with
            | none => rfl
            | some x => exact absurd hq (this x)
        · rw [List.getElem?_eq_none (by rw [List.length_set]; omega), List.getElem?_eq_none (by omega)]
      · rw [List.getElem?_set_ne hn]
  exact this vs _ fun i hi x hx => absurd hi (L2.wipe_some hx).2
section
variable {X : Cx} {W : WX}
theorem cm_turn {tl : TL} {step : PyData → MS → Out PyData} (hstep : HStep X tl step) {la : Fm} {σ : L2.St} {vs : List Nat} {g : PyData → MS → SO} {t : MT} {d acc : PyData} {ob : HO} {ms : MS} {H Hf : Hp} {D : Addr} {x : V} {β : Type} {G : β → MS → Hp → Hp → Prop} {k : PyData → MS → Out β} {Nx : Hp → Prop}
    (hgn : ∀ d ms, g d ms = .stuck ∨ ∃ ms', g d ms = .nx ms')
    (S : SR (kw X) (la.with D ob) ms (L2.wipe σ vs) H Hf) (ra : OObj (kw X) Hf D ob acc) (rx : Rep (kw X) Hf x d)
    (q : After (kw X) X.mg W la σ Hf G ((cmTurn vs g t step d acc ms).bind k))
    (hN : ∀ acc' ob' ms' H' Hf', Same Hf Hf' → SR (kw X) (la.with D ob') ms' (L2.wipe σ vs) H' Hf' → OObj (kw X) Hf' D ob' acc' → After (kw X) X.mg W la σ Hf' G (k acc' ms') → Nx H') :
    tGx (kw X) vs g x (L2.wipe σ vs) H fun σ2 H2 => L2.wipe σ2 vs = L2.wipe σ vs ∧ tTx (kw X) X.mg W0 t σ2 H2 fun b H3 => if b = true then tl σ2 H3 D Nx else Nx H3 := by
  unfold cmTurn at q
  rcases hgn d ms with e | ⟨ms1, e⟩
  · rw [e] at q; exact False.elim q
  · rw [e] at q
    have q : After (kw X) X.mg W la σ Hf G (((noExc (t ms1)).bind fun b ms2 => (if b = true then noExc (step acc ms2) else .ok acc ms2).bind fun acc' ms3 => .ok acc' (wipeM ms3 vs)).bind k) := q
    refine ⟨la.with D ob, ms, Hf, d, ms1, S, rx, e, fun σ2 H2 Hf2 s2 S2 w2 => ?_⟩
    have w2' : L2.wipe σ2 vs = L2.wipe σ vs := w2.trans (wipe_twice σ vs)
    have qb : ∀ (x : Out Bool) (F : Bool → MS → Out PyData), ((noExc x).bind F).bind k = (noExc x).bind fun b m => (F b m).bind k := fun x F => by cases x <;> rfl
    rw [qb] at q
    refine ⟨w2', la.with D ob, ms1, Hf2, S2, noExc_after (q.hf s2) fun b ms2 H3 Hf3 s3 S3 q3 => ?_⟩
    cases b with
    | false =>
      rw [if_neg Bool.false_ne_true] at q3 ⊢
      have S3' := S3.wipe vs
      rw [w2'] at S3'
      exact hN acc ob (wipeM ms2 vs) H3 Hf3 (s2.trans s3) S3' (ra.mono (s2.trans s3)) q3
    | true =>
      rw [if_pos rfl] at q3 ⊢
      have qe : ∀ (x : Out PyData), ((noExc x).bind fun acc' ms3 => (.ok acc' (wipeM ms3 vs) : Out PyData)).bind k = (noExc x).bind fun r m => k r (wipeM m vs) := fun x => by cases x <;> rfl
      rw [qe] at q3
      refine hstep S3 (ra.mono (s2.trans s3)) q3 fun acc' ob' ms' H' Hf' s' S' r' q' => ?_
      have S7 := S'.wipe vs
      rw [w2'] at S7
      exact hN acc' ob' (wipeM ms' vs) H' Hf' ((s2.trans s3).trans s') S7 r' q'
theorem tE_cm {tl : TL} {step : PyData → MS → Out PyData} {acc0 : PyData} {o : Addr → HO} (hstep : HStep X tl step) (h0 : ∀ Hf D, OObj (kw X) Hf D (o D) acc0) {vs : List Nat} {fi : MS → Out Src} {g : PyData → MS → SO} {t : MT} {σ : L2.St} {H : Hp} {Q : VK} (hgn : ∀ d ms, g d ms = .stuck ∨ ∃ ms', g d ms = .nx ms')
    (q : tE (kw X) X.mg W (mCm vs fi g t step acc0) σ H Q) : tCm o (tIx (kw X) X.mg W fi) (tGx (kw X) vs g) (tTx (kw X) X.mg W0 t) tl vs σ H Q := by
  obtain ⟨la, ms, Hf, S, q⟩ := q
  unfold mCm at q
  rw [bind_bind] at q
  refine ⟨la, ms, Hf, S, (After.bind q).imp fun src ms1 H1 Hf1 s1 S1 q1 J H2 Hf2 G2 hJ D hD => ?_⟩
  have S2 := S1.grow G2
  have q2 := After.hf G2.ff q1
  have hla : la.fr D = none := by
    cases hq : la.fr D with
    | none => rfl
    | some o => rw [(S2.fr D o hq).1] at hD; cases hD
  have S3 := (S2.wipe vs).framed (o := o D) hD
  have fin : ∀ {acc : PyData} {ob : HO} {ms' : MS} {H' Hf' : Hp}, SR (kw X) (la.with D ob) ms' (L2.wipe σ vs) H' Hf' → OObj (kw X) Hf' D ob acc →
      After (kw X) X.mg W la σ Hf' (fun r ms' H' Hf' => ∀ v, RvR (kw X) la ms' σ H' Hf' v r → Q v H') (newD acc ms') → Q (.ref D) H' := fun {acc ob ms' H' Hf'} S' ra q' => by
    refine q' H' Hf' (.refl _) (S'.unframed hla).unwipe _ ⟨D, ob, rfl, hla, S'.inFrame.2, S'.inFrame.1, ra, fun i l d' hi z => ?_⟩
    obtain ⟨a, ob', e, m, fr, n, qq, r⟩ := S'.own i l d' hi
    have e2 := (L2.wipe_some e).1
    rw [z] at e2
    cases e2
    exact (fr_with.mp fr).1 rfl
  cases src with
  | live j => exact False.elim q2
  | fix ds =>
    have hJ : ItFix (kw X) Hf2 J ds := hJ
    refine ⟨fun i m H' => m = ds.length - i ∧ i ≤ ds.length ∧ ∃ acc ob ms' Hf', Same Hf2 Hf' ∧ SR (kw X) (la.with D ob) ms' (L2.wipe σ vs) H' Hf' ∧ OObj (kw X) Hf' D ob acc ∧
      After (kw X) X.mg W la σ Hf' (fun r ms' H' Hf' => ∀ v, RvR (kw X) la ms' σ H' Hf' v r → Q v H') ((cmF vs g t step (ds.drop i) acc ms').bind newD), ⟨_, rfl, Nat.zero_le _, acc0, _, _, Hf2, .refl _, S3, h0 _ _, q2⟩, ?_⟩
    rintro i m H' ⟨rfl, hi, acc, ob, ms', Hf', s', S', ra, q'⟩
    obtain ⟨j1, j2⟩ := hJ i H' Hf' s' S'.sub
    by_cases hl : i < ds.length
    · obtain ⟨hgo, hy⟩ := j2 ds[i] (List.getElem?_eq_getElem hl)
      have ed : ds.drop i = ds[i] :: ds.drop (i + 1) := List.drop_eq_getElem_cons hl
      rw [ed] at q'
      refine .inr ⟨hgo, fun H'' => ∃ acc ob ms' Hf', Same Hf2 Hf' ∧ SR (kw X) (la.with D ob) ms' (L2.wipe σ vs) H'' Hf' ∧ OObj (kw X) Hf' D ob acc ∧
        After (kw X) X.mg W la σ Hf' (fun r ms' H' Hf' => ∀ v, RvR (kw X) la ms' σ H' Hf' v r → Q v H') ((cmF vs g t step (ds.drop (i + 1)) acc ms').bind newD), fun H'' h => ⟨_, by omega, rfl, hl, h⟩, fun x H4 hx => ?_⟩
      obtain ⟨Hf4, G4, r4⟩ := hy x H4 hx
      have S4 := S'.grow G4
      unfold cmF at q'
      rw [bind_bind] at q'
      exact cm_turn hstep hgn S4 (ra.mono G4.ff) r4 (After.hf G4.ff q') fun acc' ob' ms5 H5 Hf5 s5 S5 ra5 q5 => ⟨acc', ob', ms5, Hf5, (s'.trans G4.ff).trans s5, S5, ra5, q5⟩
    · have ei : i = ds.length := by omega
      rw [List.drop_of_length_le (by omega)] at q'
      exact .inl ⟨j1 ei, fin S' ra q'⟩
end
end Pl

/-! Pl21 -/
set_option Elab.async false
set_option linter.all false
set_option maxRecDepth 100000
set_option maxHeartbeats 4000000
/-! {k: v for ..}, {x for ..}, set(..), sorted(set), sorted(dict), x in set. -/
namespace Pl
open PySem PySem.Spec PyProof.Rows L2
/-! ### dicts -/
def actD (kx vx : Expr) : ActT := fun P w A env D Post E s => wpAny (model P w) A (eval kx env) (fun kv s₄ => wpAny (model P w) A (eval vx env) (fun vv s₅ => wpAny (model P w) A (dictSet D kv vv) (fun _ s₆ => Post s₆) E s₅) E s₄) E s
theorem cmk_dict {P : Program} {w : World} {kx vx tg iter : Expr} {ifs : List Expr} {scope : Scope} {pos : Pos} : CmK P w (.DictComp kx vx [⟨tg, iter, ifs, 0⟩] scope pos) tg iter ifs newDict { cls := .type "dict", data := .dict #[] } (actD kx vx) where
  cl := rfl
  new := fun h => wpAny_newObj_type h
  loop := fun I turn n h => compLoop_anyD I (fun n s hI => turn n s hI) n h
  start := fun h0 h => codeAny_compStart_dict h0 h
def rDset (K : KW) (D : Addr) (y z : V) (H : Hp) (Nx : Hp → Prop) : Prop := ∃ Hf o es kd dv, H D = some o ∧ OObj K Hf D o (.dict es) ∧ Same Hf H ∧ Rep K Hf y kd ∧ Rep K Hf z dv ∧ dOk es kd = true ∧ es.length < SZ ∧ ∀ o', OObj K Hf D o' (.dict (dPut es kd dv)) → Nx (upd H D o')
section
variable {X : Cx}
theorem ne_ok {es : List (PyData × PyData)} {k : PyData} (h : dOk es k = true) : ∀ l ds, es ≠ [(.list l, .list ds)] := by
  simp only [dOk, Bool.or_eq_true, Bool.and_eq_true] at h
  rcases h with h | h
  · exact kinds_ne (.inl h.2)
  · exact kinds_ne (.inr h.2)
theorem dset_D (hu : X.A.units + 64 < cLine) {pins : List (Addr × Obj)} {s : Shared} {σ : L2.St} {H : Hp} {D : Addr} {y z : V} {iv u : Value} {Nx : Hp → Prop} {E : Value → Shared → Prop} {Q : Unit → Shared → Prop} (I : Inv X pins σ H s) (ri : RelV y iv) (rv : RelV z u) (h : rDset (kw X) D y z H Nx)
    (k : ∀ s' H', Inv X pins σ H' s' → Nx H' → Q () s') : wpAny (model X.prog X.w) X.A (dictSet D iv u) Q E s := by
  obtain ⟨Hf, o, es, kd, dv, ha, oo, sm, ry, rdv, hok, hlt, kk⟩ := h
  have ne := ne_ok hok
  have hl := dPut_length es kd dv
  have hsm : (D == sysModules) = false := by
    rcases oo.dctOf ne with ⟨kvs, rfl, r⟩ | ⟨_, xs, rfl, r⟩
    · exact (dk_of I.hok ha).2.1
    · exact (dn_of I ha (r.mono sm)).2.1
  have mu : Mut (H D) := by
    rcases oo.dctOf ne with ⟨kvs, rfl, r⟩ | ⟨_, xs, rfl, r⟩
    · rw [ha]; exact True.intro
    · rw [ha]; exact True.intro
  simp only [dOk, Bool.or_eq_true, Bool.and_eq_true] at hok
  rcases hok with ⟨k0, ka⟩ | ⟨k1, ka⟩
  · obtain ⟨l, hkl⟩ := Option.isSome_iff_exists.mp k0
    have ey : y = kV l := by
      cases kd <;> simp [kOf] at hkl <;> subst hkl
      · cases ry; rfl
      · cases ry; rfl
    subst ey
    have this : ∃ kvs vs, RepKv (kw X) Hf kvs es ∧ KV kvs vs ∧ s.heap.DictOf (mixKind X.prog X.w) D vs := by
      rcases oo.dctOf ne with ⟨kvs, rfl, r⟩ | ⟨_, xs, rfl, r⟩
      · obtain ⟨z, _, vs, rel, dd⟩ := dk_of I.hok ha
        exact ⟨kvs, vs, r, rel, dd⟩
      · obtain ⟨rfl, rfl⟩ := r.no0 ka
        obtain ⟨_, _, dd⟩ := dn_of I ha (RepNt.nil (H := H))
        exact ⟨[], [], .nil, .nil, dk_empty' dd⟩
    obtain ⟨kvs, vs, r, rel, dd⟩ := this
    have e1 := r.length
    have e2 := rel.length
    have r' := r.put hkl rdv
    refine wpAny_dictSet_pairs (hsz := by rw [szLine, ← e2, e1]; omega) (kV_is ri) dd fun h' dd' hs => ?_
    have he : ∃ q, h'.get? D = some q := let ⟨q, _, _, hq, _⟩ := dd'; ⟨q, hq⟩
    exact k _ _ (d_write I mu hs he (dk_new (by rw [szLine, r'.length]; omega) hsm (rel.put l rv) dd')) (kk _ (.dk r'))
  · obtain ⟨l, hkl, dp, ds, rfl⟩ := kind1_some k1
    obtain ⟨p, rfl⟩ : ∃ p, y = .ref p := by
      cases ry with
      | tup _ _ => exact ⟨_, rfl⟩
    cases ri
    have nk : (nestedKind X.prog X.w).is s.heap l p := ⟨Rep.nk I (ry.mono sm) hkl rfl, dp⟩
    have this : ∃ xs, RepNt (kw X) Hf xs es ∧ s.heap.DictOfH (nestedKind X.prog X.w) D xs := by
      rcases oo.dctOf ne with ⟨kvs, rfl, r⟩ | ⟨_, xs, rfl, r⟩
      · obtain ⟨rfl, rfl⟩ := r.no1 ka
        obtain ⟨z, _, vs, rel, dd⟩ := dk_of I.hok ha
        cases rel
        exact ⟨[], .nil, dn_empty dd⟩
      · exact ⟨xs, r, (dn_of I ha (r.mono sm)).2.2⟩
    obtain ⟨xs, r, dd⟩ := this
    have e1 := r.length
    have r' := r.put ry hkl dp rv rdv
    refine wpAny_dictSet_heap (show X.A.units + 8 < cLine by omega) nk dd (fun h' dd' hs => ?_) (by rw [szLine, e1]; omega)
    obtain ⟨q, es', ep, hq, g2, g3, g4, g5, g6⟩ := dd'
    have ok : DnP X.w D ep (storedH xs l p u) h' := ⟨by rw [szLine, r'.length]; omega, hsm, g6, q, es', hq, g2, g3, g4⟩
    refine k _ _ (d_write I mu hs ⟨q, hq⟩ (ob := DnO X.w D ep (storedH xs l p u)) ⟨ok, ⟨q, hq⟩, fun h1 h2 p1 p2 => ?_⟩) (kk _ (.dn r'))
    obtain ⟨z1, z2, z3, o1, es1, z4, z5⟩ := p1
    exact ⟨z1, z2, z3, o1, es1, p2 _ z4, z5⟩
end
def putIn (acc dk dv : PyData) (ms : MS) : Out PyData := match acc with
  | .dict es => if dOk es dk = true ∧ es.length < SZ then .ok (.dict (dPut es dk dv)) ms else .stuck
  | _ => .stuck
def stepD (fk fv : ME) (acc : PyData) (ms : MS) : Out PyData := (fk ms).bind fun rk ms1 => match frz ms1 rk with
  | some (dk, ms2) => (fv ms2).bind fun rv ms3 => match frz ms3 rv with
    | some (dv, ms4) => putIn acc dk dv ms4
    | none => .stuck
  | none => .stuck
def tlD (K : KW) (tk tv : TE) : TL := fun σ H D Nx => tk σ H fun y H1 => tv σ H1 fun z H2 => rDset K D y z H2 Nx
theorem noExc_bind {α β : Type} (x : Out α) (f : α → MS → Out β) : noExc (x.bind f) = (noExc x).bind fun a m => noExc (f a m) := by cases x <;> rfl
section
variable {X : Cx} {W : WX}
theorem hstep_D {fk fv : ME} : HStep X (tlD (kw X) (tE (kw X) X.mg W0 fk) (tE (kw X) X.mg W0 fv)) (stepD fk fv) := by
  intro W la σ σ2 ms H Hf D ob acc β G k Nx S ra q hN
  unfold stepD at q
  rw [noExc_bind, bind_bind] at q
  refine ⟨la.with D ob, ms, Hf, S, noExc_after q fun rk ms1 H1 Hf1 s1 S1 q1 y ry => ?_⟩
  cases e1 : frz ms1 rk with
  | none => rw [e1] at q1; exact q1.elim
  | some p =>
    obtain ⟨dk, ms2⟩ := p
    rw [e1] at q1
    simp only at q1
    obtain ⟨Hf2, s2, S2, rdk⟩ := rv_frz S1 ry e1
    rw [noExc_bind, bind_bind] at q1
    refine ⟨la.with D ob, ms2, Hf2, S2, noExc_after (q1.hf s2) fun rv ms3 H3 Hf3 s3 S3 q3 z rz => ?_⟩
    cases e3 : frz ms3 rv with
    | none => rw [e3] at q3; exact q3.elim
    | some p =>
      obtain ⟨dv, ms4⟩ := p
      rw [e3] at q3
      simp only at q3
      obtain ⟨Hf4, s4, S4, rdv⟩ := rv_frz S3 rz e3
      unfold putIn at q3
      cases acc with
      | dict es =>
        simp only at q3
        split at q3
        · rename_i hz
          have q4 : After (kw X) X.mg W la σ Hf3 G (k (.dict (dPut es dk dv)) ms4) := q3
          have sm := ((s1.trans s2).trans s3).trans s4
          exact ⟨Hf4, ob, es, dk, dv, S4.inFrame.1, ra.mono sm, S4.sub, (rdk.mono s3).mono s4, rdv, hz.1, hz.2, fun o' ro => hN _ _ ms4 _ Hf4 sm (S4.reframed) ro (q4.hf s4)⟩
        · exact q3.elim
      | _ => exact False.elim q3
theorem ex_dc {kx vx tg iter : Expr} {ifs : List Expr} {scope : Scope} {own : List (Str × Nat)} {pos : Pos} {vs : List Nat} {fi : MS → Out Src} {g : PyData → MS → SO} {t : MT} {fk fv : ME} (hu : X.A.units + 64 < cLine) (hc : X.calm = true) (hN : X.N.Nodup) (hi : IX X W tg iter fi) (ok : BlkOk X.N X.env.scope scope own)
    (hg : ∀ (s : Shared) (H : Hp) (C : Addr) (cl : List (Str × Addr)) (fp : List Addr), GX (X.blk s H scope (compEnvC scope cl C X.env) fp) tg vs g) (hgn : ∀ d ms, g d ms = .stuck ∨ ∃ ms', g d ms = .nx ms')
    (ht : ∀ (s : Shared) (H : Hp) (C : Addr) (cl : List (Str × Addr)) (fp : List Addr), TXs (X.blk s H scope (compEnvC scope cl C X.env) fp) W0 ifs t)
    (hk : ∀ (s : Shared) (H : Hp) (C : Addr) (cl : List (Str × Addr)) (fp : List Addr), EX (X.blk s H scope (compEnvC scope cl C X.env) fp) W0 kx fk)
    (he : ∀ (s : Shared) (H : Hp) (C : Addr) (cl : List (Str × Addr)) (fp : List Addr), EX (X.blk s H scope (compEnvC scope cl C X.env) fp) W0 vx fv)
    (hvs : own.map (·.2) = vs := by rfl) (hs : ∀ x, foldedSetIterable iter X.env x = pure x := by intro _; rfl) :
    EX X W (.DictComp kx vx [⟨tg, iter, ifs, 0⟩] scope pos) (mCm vs fi g t (stepD fk fv) (.dict [])) := by
  refine ⟨⟨fun pins s σ H Q I q => ?_⟩⟩
  have h := tE_cm (o := fun _ => .dK []) (hstep_D (fk := fk) (fv := fv)) (fun Hf D => .dk .nil) hgn q
  rw [← hvs] at h
  rw [arm_eval_DictComp]
  refine cm_core (cmk_dict (tg := tg) (iter := iter) (ifs := ifs)) hc hN I hi.pi ok (fun s H C cl fp => hvs ▸ (hg s H C cl fp).pg) (fun s H C cl fp => (ht s H C cl fp).pts) (fun hb => dk_empty _ hb)
    (fun s H C cl fp {pins s1 σ1 H1 D Nx Post E} I1 q1 _ hP => ?_) hs h fun D C s' m H' I' q' hn f => ⟨m, hn, fun h'' sb => ?_⟩
  · unfold actD
    refine thnF ((hk s H C cl fp).pe.run _ s1 σ1 H1 _ I1 q1) fun kv s4 ⟨y, H4, I4, r4, q4⟩ => ?_
    refine thnF ((he s H C cl fp).pe.run _ s4 σ1 H4 _ I4 q4) fun vv s5 ⟨z, H5, I5, r5, q5⟩ => ?_
    exact dset_D (X := X.blk s H scope (compEnvC scope cl C X.env) fp) hu I5 r4 r5 q5 hP
  · obtain ⟨f0, f1, f2, f3, f4, f5⟩ := f
    exact ⟨.ref D, H', I'.turned (t' := s'.toks) (fun b o hb e => (sb.2 b hb).trans e) f0 f1 f3 f4 f5, rfl, q'⟩
end
end Pl

/-! Pl22 -/
set_option Elab.async false
set_option linter.all false
set_option maxRecDepth 100000
set_option maxHeartbeats 4000000
/-! {x for ..}: sets of ints and texts. -/
namespace Pl
open PySem PySem.Spec PyProof.Rows L2
def actS (elt : Expr) : ActT := fun P w A env D Post E s => wpAny (model P w) A (eval elt env) (fun x s₄ => wpAny (model P w) A (call (.builtin "set.add") [.ref D, x]) (fun _ s₅ => Post s₅) E s₄) E s
theorem cmk_set {P : Program} {w : World} {elt tg iter : Expr} {ifs : List Expr} {scope : Scope} {pos : Pos} : CmK P w (.SetComp elt [⟨tg, iter, ifs, 0⟩] scope pos) tg iter ifs (newSet (.type "set")) { cls := .type "set", dict := none, data := .set #[] 0 (.fresh 0 0 (!w.params.followText "set-order")) } (actS elt) where
  cl := rfl
  new := fun h => PpSet.newSet_ok h
  loop := fun I turn n h => PpSet.compLoopS_any I (fun n s hI => turn n s hI) n h
  start := fun h0 h => PpSet.codeAny_compStart_set h0 h
theorem setK_fresh {P : Program} {w : World} {H : Hp} {h : Heap} : ObjOk P w H (h.push { cls := .type "set", dict := none, data := .set #[] 0 (.fresh 0 0 (!w.params.followText "set-order")) }) h.objs.size (SetK P w h.objs.size (fun _ => false) 0) :=
  setK_new ⟨_, #[], 0, _, Heap.get?_push_size _ rfl, ⟨rfl, rfl, rfl⟩, rfl, (fun e he => by simp at he), (fun k => by simp), (by decide), (by rfl), rfl⟩
theorem SetIs.empty : SetIs (fun _ => false) 0 [] := ⟨fun k => by simp, fun d h => by simp at h, List.nodup_nil, rfl⟩
def addS (ds : List PyData) (d : PyData) : List PyData := if ds.any (fun e => PyData.eqv e d) = true then ds else ds ++ [d]
theorem kOf_keyD (k : Key) : kOf (keyD k) = some k := by rcases k with i | x <;> rfl
theorem keyD_inj {a b : Key} (h : keyD a = keyD b) : a = b := by
  rcases a with i | x <;> rcases b with j | y
  · exact congrArg Sum.inl (PyData.int.inj h)
  · exact PyData.noConfusion h
  · exact PyData.noConfusion h
  · exact congrArg Sum.inr (PyData.str.inj h)
theorem SetIs.add {S : Key → Bool} {n : Nat} {ds : List PyData} (h : SetIs S n ds) (k : Key) : SetIs (fun j => S j || decide (j = k)) (if S k = true then n else n + 1) (addS ds (keyD k)) := by
  have hany : ds.any (fun e => PyData.eqv e (keyD k)) = true ↔ keyD k ∈ ds := by
    rw [List.any_eq_true]
    constructor
    · rintro ⟨d, hd, e⟩
      obtain ⟨j, rfl⟩ := h.keys d hd
      rw [eqv_k0 j (kOf_keyD k), decide_eq_true_eq] at e
      exact e ▸ hd
    · exact fun hd => ⟨_, hd, by rw [eqv_k0 k (kOf_keyD k)]; simp⟩
  unfold addS
  by_cases hk : keyD k ∈ ds
  · rw [if_pos (hany.mpr hk), if_pos ((h.mem k).mpr hk)]
    refine ⟨fun j => ?_, h.keys, h.nd, h.len⟩
    simp only [Bool.or_eq_true, decide_eq_true_eq]
    constructor
    · rintro (e | rfl)
      · exact (h.mem j).mp e
      · exact hk
    · exact fun e => .inl ((h.mem j).mpr e)
  · rw [if_neg (fun e => hk (hany.mp e)), if_neg (fun e => hk ((h.mem k).mp e))]
    refine ⟨fun j => ?_, fun d hd => ?_, ?_, by rw [List.length_append, List.length_singleton, h.len]⟩
    · simp only [Bool.or_eq_true, decide_eq_true_eq, List.mem_append, List.mem_singleton]
      constructor
      · rintro (e | rfl)
        · exact .inl ((h.mem j).mp e)
        · exact .inr rfl
      · rintro (e | e)
        · exact .inl ((h.mem j).mpr e)
        · exact .inr (keyD_inj e)
    · rcases List.mem_append.mp hd with hd | hd
      · exact h.keys d hd
      · rw [List.mem_singleton] at hd
        exact ⟨k, hd⟩
    · rw [List.nodup_append]
      refine ⟨h.nd, by simp, fun a ha b hb => ?_⟩
      rw [List.mem_singleton] at hb
      subst hb
      exact fun e => hk (e ▸ ha)
def addIn (acc d : PyData) (ms : MS) : Out PyData := match acc with
  | .dict [(.list [.none], .list ds)] => if kind0 d = true ∧ ds.length < 4000 then .ok (stD (addS ds d)) ms else .stuck
  | _ => .stuck
def stepS (f : ME) (acc : PyData) (ms : MS) : Out PyData := (f ms).bind fun r ms1 => match frz ms1 r with
  | some (d, ms2) => addIn acc d ms2
  | none => .stuck
def rSadd (K : KW) (D : Addr) (y : V) (H : Hp) (Nx : Hp → Prop) : Prop := ∃ (l : Key) (S : Key → Bool) (n : Nat), y = kV l ∧ H D = some (SetK K.P K.w D S n) ∧ n + 1 < scanBound ∧ Nx (upd H D (SetK K.P K.w D (fun j => S j || decide (j = l)) (if S l = true then n else n + 1)))
def tlS (K : KW) (te : TE) : TL := fun σ H D Nx => te σ H fun y H1 => rSadd K D y H1 Nx
theorem OObj.stOf {K : KW} {Hf : Hp} {a : Addr} {o : HO} {ds : List PyData} (h : OObj K Hf a o (stD ds)) : ∃ S n, o = SetK K.P K.w a S n ∧ SetIs S n ds := by
  generalize hd : stD ds = d at h
  cases h with
  | lst r => cases hd
  | st r => simp only [stD, PyData.dict.injEq, List.cons.injEq, Prod.mk.injEq, PyData.list.injEq, and_true, true_and] at hd; subst hd; exact ⟨_, _, rfl, r⟩
  | ins g c r => simp [insD, stD] at hd
  | dk r => unfold stD at hd; injection hd with hd; subst hd; exact (repKv_keyL r).elim
  | dn r => unfold stD at hd; injection hd with hd; subst hd; exact (repNt_key r).elim
section
variable {X : Cx} {W : WX}
theorem hstep_S {f : ME} : HStep X (tlS (kw X) (tE (kw X) X.mg W0 f)) (stepS f) := by
  intro W la σ σ2 ms H Hf D ob acc β G k Nx S ra q hN
  unfold stepS at q
  rw [noExc_bind, bind_bind] at q
  refine ⟨la.with D ob, ms, Hf, S, noExc_after q fun rk ms1 H1 Hf1 s1 S1 q1 y ry => ?_⟩
  cases e1 : frz ms1 rk with
  | none => rw [e1] at q1; exact q1.elim
  | some p =>
    obtain ⟨d, ms2⟩ := p
    rw [e1] at q1
    simp only at q1
    obtain ⟨Hf2, s2, S2, rd⟩ := rv_frz S1 ry e1
    unfold addIn at q1
    split at q1
    · rename_i ds
      split at q1
      · rename_i hz
        have q4 : After (kw X) X.mg W la σ Hf1 G (k (stD (addS ds d)) ms2) := q1
        have sm := s1.trans s2
        obtain ⟨S0, n, e, hs⟩ := (ra.mono sm).stOf
        obtain ⟨l, hl⟩ := Option.isSome_iff_exists.mp hz.1
        have ed := keyD_kOf hl
        have ey : y = kV l := by
          cases d <;> simp [kOf] at hl <;> subst hl <;> cases rd <;> rfl
        subst e
        have hn : n < 4000 := by rw [hs.len]; exact hz.2
        refine ⟨l, S0, n, ey, S2.inFrame.1, by unfold scanBound; omega, hN _ _ ms2 _ Hf2 sm (S2.reframed) (.st ?_) (q4.hf s2)⟩
        rw [← ed]
        exact hs.add l
      · exact q1.elim
    · exact q1.elim
theorem ex_sc {elt tg iter : Expr} {ifs : List Expr} {scope : Scope} {own : List (Str × Nat)} {pos : Pos} {vs : List Nat} {fi : MS → Out Src} {g : PyData → MS → SO} {t : MT} {f : ME} (hc : X.calm = true) (hN : X.N.Nodup) (hi : IX X W tg iter fi) (ok : BlkOk X.N X.env.scope scope own)
    (hg : ∀ (s : Shared) (H : Hp) (C : Addr) (cl : List (Str × Addr)) (fp : List Addr), GX (X.blk s H scope (compEnvC scope cl C X.env) fp) tg vs g) (hgn : ∀ d ms, g d ms = .stuck ∨ ∃ ms', g d ms = .nx ms')
    (ht : ∀ (s : Shared) (H : Hp) (C : Addr) (cl : List (Str × Addr)) (fp : List Addr), TXs (X.blk s H scope (compEnvC scope cl C X.env) fp) W0 ifs t)
    (he : ∀ (s : Shared) (H : Hp) (C : Addr) (cl : List (Str × Addr)) (fp : List Addr), EX (X.blk s H scope (compEnvC scope cl C X.env) fp) W0 elt f)
    (hvs : own.map (·.2) = vs := by rfl) (hs : ∀ x, foldedSetIterable iter X.env x = pure x := by intro _; rfl) :
    EX X W (.SetComp elt [⟨tg, iter, ifs, 0⟩] scope pos) (mCm vs fi g t (stepS f) (stD [])) := by
  refine ⟨⟨fun pins s σ H Q I q => ?_⟩⟩
  have h := tE_cm (o := fun D => SetK X.prog X.w D (fun _ => false) 0) (hstep_S (f := f)) (fun Hf D => .st .empty) hgn q
  rw [← hvs] at h
  rw [PpSet.eval_SetComp]
  refine cm_core (cmk_set (tg := tg) (iter := iter) (ifs := ifs)) hc hN I hi.pi ok (fun s H C cl fp => hvs ▸ (hg s H C cl fp).pg) (fun s H C cl fp => (ht s H C cl fp).pts) (fun hb => setK_fresh)
    (fun s H C cl fp {pins s1 σ1 H1 D Nx Post E} I1 q1 _ hP => ?_) hs h fun D C s' m H' I' q' hn f => ⟨m, hn, fun h'' sb => ?_⟩
  · unfold actS
    refine thnF ((he s H C cl fp).pe.run _ s1 σ1 H1 _ I1 q1) fun kv s4 ⟨y, H4, I4, r4, l, S0, n, ey, hD, hz, nx⟩ => ?_
    subst ey
    refine thnF (mt_saddK (X := X.blk s H scope (compEnvC scope cl C X.env) fp) _ s4 σ1 H4 (.ref D) [kV l] (.ref D) [kv] (fun v H' => Nx H') I4 rfl (.cons r4 .nil) ⟨D, l, S0, n, rfl, rfl, hD, hz, nx⟩) fun _ s5 ⟨_, H5, I5, _, q5⟩ => hP s5 H5 I5 q5
  · obtain ⟨f0, f1, f2, f3, f4, f5⟩ := f
    exact ⟨.ref D, H', I'.turned (t' := s'.toks) (fun b o hb e => (sb.2 b hb).trans e) f0 f1 f3 f4 f5, rfl, q'⟩
/-- len of a set -/
def pLenS (as : List PyData) : Option Rv := match as with
  | [.dict [(.list [.none], .list ds)]] => dI ds.length
  | as => pLen as
theorem call_pLenS : CallR X (.builtin "len") (rDs (kw X) pLenS) := by
  intro pins s σ H xs us Q I r h
  obtain ⟨Hf, ds, rr, sm, va, hg, k⟩ := h
  unfold pLenS at hg
  split at hg
  · rename_i es
    cases hg
    obtain ⟨x, rfl, vx⟩ := va.one
    obtain ⟨a, S, n, rfl, ha, hs⟩ := Vw.st sm vx
    obtain ⟨u, rfl, rx⟩ := vals1 r
    cases rx
    obtain ⟨o, es', ep, t, ho, hex, hd, hmem, hS, hsz, hf, hn⟩ := setK_get I ha
    have hsz' : es'.size < 4096 := hsz
    rw [← hs.len, ← hn] at k
    exact call_len_set ho hex hd hf (by omega) ⟨.int _, H, I.tok _, ⟨_, rfl⟩, give sm (.int _) k⟩
  · exact call_pLen pins s σ H xs us Q I r ⟨Hf, ds, rr, sm, va, hg, k⟩
end
end Pl

/-! Pl23 -/
set_option Elab.async false
set_option linter.all false
set_option maxRecDepth 100000
set_option maxHeartbeats 4000000
/-! for i, x in enumerate(xs). -/
namespace Pl
open PySem PySem.Spec PyProof.Rows L2
set_option maxHeartbeats 8000000 in
theorem meets_enum1 {v : Value} {o : Obj} {H : Heap → Prop} (B : Begins v o H) :
    Meets (Builtin.«enumerate.__new__» ⟨[.type "enumerate", v], []⟩) (fun _ R s => H s.heap ∧
      R (.ok (.ret (.ref (s.heap.push o).objs.size))) { s with heap := (s.heap.push o).push { cls := .type "enumerate", data := .fields #[.none, .bool false, .ref s.heap.objs.size, rawInt 0, .none, .none] } }) :=
  .of_wp fun prog w A R s h => by
    obtain ⟨hp, g, d, tk, os⟩ := s; obtain ⟨h1, h⟩ := h
    have hsub := sub_enumerate
    have q1 : ∀ {A' : Around} {E : Value → Shared → Prop} {Q : Value → Shared → Prop}, Q (.ref hp.objs.size) ⟨hp.push o, g, d, tk, os⟩ → wpAny (model prog w) A' (pyIter v) Q E ⟨hp, g, d, tk, os⟩ :=
      fun q => B.iter prog w _ _ ⟨hp, g, d, tk, os⟩ _ h1 q
    wp_walk using q1
    refine wpAny_stack_any fun st => wpAny_pure ?_
    split
    · rename_i c _ _ _ _ _
      cases (c == Value.type "enumerate")
      · wp_walk using q1
        exact ⟨_, rfl, h⟩
      · wp_walk using q1
        exact ⟨_, rfl, h⟩
    · wp_walk using q1
      exact ⟨_, rfl, h⟩
theorem enum1_begins {prog : Program} {w : World} {A : Around} {E : Value → Shared → Prop} {s : Shared} {v : Value} {o : Obj} {H : Heap → Prop} {Q : Value → Shared → Prop} (B : Begins v o H) (h1 : H s.heap)
    (h : ∀ h', IsEnum h' (s.heap.objs.size + 1) s.heap.objs.size 0 .none → h'.get? s.heap.objs.size = some o → h'.objs.size = s.heap.objs.size + 2 →
      (∀ b o, s.heap.get? b = some o → h'.get? b = some o) → Q (.ref (s.heap.objs.size + 1)) { s with heap := h' }) :
    wpAny (model prog w) A (call (.type "enumerate") [v]) Q E s := by
  refine callType_new F.called_enumerate (by decide) (F.typeCall_enumerate_1 _) (F.newCall_enumerate_1 _) (fun obj => F.args_object_init_2 obj _) F.entry_enumerate_new
    (meets_enum1 B) ⟨h1, ?_⟩
  have hz : (s.heap.push o).objs.size = s.heap.objs.size + 1 := Heap.size_push ..
  show _ ∧ _
  rw [hz]
  have he : IsEnum ((s.heap.push o).push { cls := .type "enumerate", data := .fields #[.none, .bool false, .ref s.heap.objs.size, rawInt 0, .none, .none] }) (s.heap.objs.size + 1) s.heap.objs.size 0 .none := by
    have := Heap.get?_push_size (s.heap.push o) (o := { cls := .type "enumerate", data := .fields #[.none, .bool false, .ref s.heap.objs.size, rawInt 0, .none, .none] }) rfl
    rw [hz] at this; exact this
  refine ⟨⟨_, he, rfl⟩, h _ he (Heap.get?_push_of_some _ (Heap.get?_push_size _ B.free)) (by rw [Heap.size_push, hz]) fun b o x => Heap.get?_push_of_some _ (Heap.get?_push_of_some _ x)⟩
/-- a sequence that is gone through by count: b: a list -/
def SqB (b : Bool) (K : PySem.W.Frag) (H : Hp) (a : Addr) (xs : List V) : Prop := if b = true then SqL K H a xs else SqT K H a xs
def ItEn (b : Bool) (K : PySem.W.Frag) (a : Addr) : It :=
  ⟨fun i H => ∃ (xs : List V) (x : V), SqB b K H a xs ∧ xs[i]? = some x, fun i H v H' => ∃ T o x, v = .ref T ∧ H T = none ∧ TupO o ∧ H' = upd H T (.frz o (.tup [.int (i : Nat), x])) ∧ ∀ xs, SqB b K H a xs → xs[i]? = some x, fun i H => ∃ xs : List V, SqB b K H a xs ∧ xs.length = i⟩
/-- the source's own iterator -/
def SrcIt (b : Bool) (h : Heap) (it a : Addr) (i : Nat) : Prop := if b = true then h.IsListIter it a i else h.IsTupleIter it a i
def SrcAt (b : Bool) (h : Heap) (a : Addr) (items : Array Value) : Prop := if b = true then h.IsList a items else h.IsTuple a items
theorem draws_src {prog : Program} {w : World} {A : Around} (hh : A.handled = none) (b : Bool) (it a : Addr) (hne : a ≠ it) (items : Array Value) : Draws prog w A it [it, a] items.size (fun i v => items[i]? = some v) (fun i h => SrcIt b h it a i ∧ SrcAt b h a items) := by
  cases b with
  | true => exact Draws.list hh it a hne items
  | false => exact Draws.tuple hh it a hne items
theorem sq_src {X : Cx} {pins : List (Addr × Obj)} {σ : L2.St} {H : Hp} {s : Shared} {b : Bool} {a : Addr} {xs : List V} (I : Inv X pins σ H s) (h : SqB b X.K H a xs) : ∃ its : List Value, Vals xs its ∧ SrcAt b s.heap a its.toArray := by
  cases b with
  | true =>
    obtain ⟨its, r, p, _⟩ := I.list h
    exact ⟨its, r, p.isList⟩
  | false =>
    obtain ⟨its, r, ⟨o, ho, hc, n, hd⟩, _⟩ := I.tuple h
    exact ⟨its, r, ⟨o, ho, hc, n, hd⟩⟩
theorem sq_inj {X : Cx} {pins : List (Addr × Obj)} {σ : L2.St} {H : Hp} {s : Shared} {b : Bool} {a : Addr} {xs ys : List V} (I : Inv X pins σ H s) (h : SqB b X.K H a xs) (h' : SqB b X.K H a ys) : xs = ys := by
  cases b with
  | true => exact I.list_inj h h'
  | false => exact I.tuple_inj h h'
theorem srcIt_at {b : Bool} {h h' : Heap} {it a : Addr} {i : Nat} (x : SrcIt b h it a i) (e : ∀ o, h.get? it = some o → h'.get? it = some o) : SrcIt b h' it a i := by
  cases b with
  | true => exact Heap.IsListIter.at x e
  | false => exact Heap.IsTupleIter.at x e
theorem srcIt_obj {b : Bool} {h : Heap} {it a : Addr} {i : Nat} (x : SrcIt b h it a i) : ∃ o, h.get? it = some o ∧ ∀ v, o.data ≠ .cell v := by
  cases b with
  | true => obtain ⟨o, ho, hc, hd⟩ := (show h.IsListIter it a i from x); exact ⟨o, ho, fun v q => by rw [hd] at q; cases q⟩
  | false => obtain ⟨o, ho, hc, hd⟩ := (show h.IsTupleIter it a i from x); exact ⟨o, ho, fun v q => by rw [hd] at q; cases q⟩
theorem turn_en {P : Program} {w : World} {K : PySem.W.Frag} {elts : List Expr} {kk : Nat} {tpos : Pos} (b : Bool) (a e it : Addr) (hia : a ≠ it) (hea : e ≠ a) :
    Turn P w K (.Tuple elts kk tpos) (ItEn b K a) [e, it] e (fun i h => (∃ old, IsEnum h e it ((i : Nat) : Int) old) ∧ SrcIt b h it a i ∧ e ≠ it) where
  mem := by simp
  obj := fun i h st c hc => by
    obtain ⟨⟨old, he⟩, hi, _⟩ := st
    have e' : c = e ∨ c = it := by simpa using hc
    rcases e' with z | z
    · rw [z]; exact ⟨_, he, fun v q => nomatch q⟩
    · rw [z]; exact srcIt_obj hi
  keep := fun i h h' st k => let ⟨⟨old, he⟩, hi, hne⟩ := st; ⟨⟨old, k e (by simp) _ he⟩, srcIt_at hi fun o q => k it (by simp) o q, hne⟩
  item := by
    intro X hP hw hK hc i pins s σ H E I hf st hg
    subst hP hw hK
    obtain ⟨⟨old, he⟩, hit, hne⟩ := st
    obtain ⟨xs, x, hq, hx⟩ := hg
    obtain ⟨its, rv, p⟩ := sq_src I hq
    obtain ⟨u, hu, ru⟩ := rv.get hx
    have hel : e < s.heap.objs.size := Heap.lt_size he
    have hil : it < s.heap.objs.size := by obtain ⟨_, q, _⟩ := srcIt_obj hit; exact Heap.lt_size q
    have hlt : i < its.toArray.size := by
      have := (List.getElem?_eq_some_iff.mp hu).1
      simpa using this
    refine wpAny_pyNext_enum_itemD (n := its.toArray.size) (draws_src (show X.A.in1.handled = none from I.ok.hd hc) b it a hia its.toArray) he ⟨hit, p⟩ hlt hne (by simp [hne, hea]) fun x' h' tk hx' ho hit' hT hsz hk => ?_
    have eu : x' = u := by
      have h1 : its.toArray[i]? = some x' := hx'
      rw [← Array.getElem?_toList] at h1
      exact Option.some.inj (h1.symm.trans hu)
    subst eu
    refine ⟨_, rfl, wpAny_letOwnedTupleGo_enum (s := { s with heap := h', toks := tk + 1 }) ho fun h'' he' sb => ?_⟩
    have hT2 : h''.get? s.heap.objs.size = some { cls := .type "tuple", data := .seq #[.int i tk, x'] } := (sb.2 _ (Nat.ne_of_gt hel)).trans hT
    have new : ObjOk X.prog X.w (upd H s.heap.objs.size (.frz { cls := .type "tuple", data := .seq #[.int i tk, x'] } (.tup [.int (i : Nat), x]))) h'' s.heap.objs.size (.frz { cls := .type "tuple", data := .seq #[.int i tk, x'] } (.tup [.int (i : Nat), x])) :=
      ⟨hT2, by show 2 ≤ sizeLine; decide, [.int i tk, x'], .cons ⟨_, rfl⟩ (.cons ru .nil), ⟨_, hT2, rfl, _, rfl⟩⟩
    have I1 : Inv X pins σ (upd H s.heap.objs.size (.frz { cls := .type "tuple", data := .seq #[.int i tk, x'] } (.tup [.int (i : Nat), x]))) { s with heap := h'', toks := tk + 1 } :=
      I.turnedNew (ch := [e, it]) (fun c ob hb q => (sb.2 c (fun z => hb (by simp [z]))).trans (hk c ob (fun z => hb (by simp [z])) (fun z => hb (by simp [z])) q)) hf (Nat.le_refl _) new
    refine ⟨.ref s.heap.objs.size, _, I1, rfl, ⟨_, _, x, rfl, I.hok.fresh (Nat.le_refl _), ⟨rfl, rfl⟩, rfl, fun ys hy => by rw [sq_inj I hy hq]; exact hx⟩, ⟨⟨x', ?_⟩, srcIt_at hit'.1 fun o q => (sb.2 it (Ne.symm hne)).trans q, hne⟩, fun c hb => ?_⟩
    · have e1 : ((i + 1 : Nat) : Int) = (i : Int) + 1 := by omega
      rw [e1]; exact he'
    · have hb' : c < s.heap.objs.size := by
        have e' : c = e ∨ c = it := by simpa using hb
        rcases e' with z | z
        · rw [z]; exact hel
        · rw [z]; exact hil
      rw [upd_ne (Nat.ne_of_lt hb')]
      exact (hf c hb).1
  done := by
    intro X hP hw hK hc i pins s σ H E I hf st hg
    subst hP hw hK
    obtain ⟨⟨old, he⟩, hit, hne⟩ := st
    obtain ⟨xs, hq, hx⟩ := hg
    obtain ⟨its, rv, p⟩ := sq_src I hq
    obtain ⟨f0, f1, f2, f3, f4, f5⟩ := hf it (by simp)
    have hn : i = its.toArray.size := by rw [List.size_toArray, ← rv.length, hx]
    refine wpAny_pyNext_enum_endD (n := its.toArray.size) (draws_src (show X.A.in1.handled = none from I.ok.hd hc) b it a hia its.toArray) he ⟨hn ▸ hit, p⟩ fun h' eb => ⟨rfl, I.turned (t' := s.toks) (fun c o hb q => eb c o hb q) f0 f1 f3 f4 f5⟩
  self := fun A i s Q E st h => let ⟨⟨_, he⟩, _⟩ := st; wpAny_pyIter_enum he h
/-- enumerate's source: data of the frozen part -/
def enS (src : Rv) (ms : MS) : Out Src := match frz ms src with
  | some (.list ds, ms') => .ok (.fix (ds.zipIdx.map fun p => .tuple [.int p.2, p.1])) ms'
  | some (.tuple ds, ms') => .ok (.fix (ds.zipIdx.map fun p => .tuple [.int p.2, p.1])) ms'
  | _ => .stuck
def mEn (f : ME) : MS → Out Src := fun ms => (f ms).bind enS
theorem itFix_en {b : Bool} {K : KW} {Hf0 : Hp} {a : Addr} {xs : List V} {ds : List PyData} (h : ∀ H, Same Hf0 H → SqB b K.K H a xs) (r : RepAll K Hf0 xs ds) : ItFix K Hf0 (ItEn b K.K a) (ds.zipIdx.map fun p => .tuple [.int p.2, p.1]) := fun i H Hf s1 s2 => by
  have hq := h H (s1.trans s2)
  refine ⟨fun e => ⟨xs, hq, by rw [e, List.length_map, List.length_zipIdx, r.length]⟩, fun d hd => ?_⟩
  rw [List.getElem?_map, List.getElem?_zipIdx] at hd
  cases hi : ds[i]? with
  | none => rw [hi] at hd; simp at hd
  | some y =>
    rw [hi] at hd
    simp only [Option.map_some, Option.some.injEq] at hd
    subst hd
    obtain ⟨x, hx, rx⟩ := r.get' hi
    refine ⟨⟨xs, x, hq, hx⟩, fun v H' hy => ?_⟩
    obtain ⟨T, o, x', rfl, hT, ho, rfl, hys⟩ := hy
    have : x' = x := Option.some.inj ((hys xs hq).symm.trans hx)
    subst this
    refine ⟨upd Hf T (.frz o (.tup [.int (i : Nat), x'])), Grow.frozen s2 hT, .tup (TupAt.of ho) ?_⟩
    have sm : Same Hf0 (upd Hf T (.frz o (.tup [.int (i : Nat), x']))) := s1.trans (same_upd (same_none s2 hT))
    have e0 : ((0 : Nat) + i) = i := Nat.zero_add i
    exact .cons (by rw [e0]; exact .int _) (.cons (rx.mono sm) .nil)
def iEn (K : PySem.W.Frag) (te : TE) : TI := fun σ H R => te σ H fun x H1 => ∃ (b : Bool) (a : Addr) (xs : List V), x = .ref a ∧ SqB b K H1 a xs ∧ R (ItEn b K a) H1
section
variable {X : Cx} {W : WX}
theorem pi_en {e : Expr} {te : TE} {p pos tpos : Pos} {elts : List Expr} {kk : Nat} (hg : Gl X "enumerate") (hm : X.mg "enumerate" = none) (he : PE X e te) (hs : starEach [e] X.env = [(false, eval e X.env)] := by rfl) :
    PI X (.Tuple elts kk tpos) (.Call (.Name "enumerate" p) [e] [] pos) (iEn X.K te) := by
  refine ⟨fun pins s σ H R I h => ?_⟩
  refine Call_ (ld_blt I hg hm boot_enumerate (PyProof.Rows.callWith_type1 (thn ((pa_cons he pa_nil hs).run pos pins s σ H (fun vs H1 => ∃ (b : Bool) (a : Addr) (xs : List V), vs = [.ref a] ∧ SqB b X.K H1 a xs ∧ R (ItEn b X.K a) H1) I ?_) fun us s1 ⟨vs, H1, I1, r1, q1⟩ => ?_) hs rfl))
  · refine cast ?_ h
    show (te σ H fun x H1 => ∃ (b : Bool) (a : Addr) (xs : List V), x = .ref a ∧ SqB b X.K H1 a xs ∧ R (ItEn b X.K a) H1) = (te σ H fun x H1 => ∃ (b : Bool) (a : Addr) (xs : List V), [x] = [.ref a] ∧ SqB b X.K H1 a xs ∧ R (ItEn b X.K a) H1)
    congr 1
    funext x H1
    simp only [List.cons.injEq, and_true]
  · obtain ⟨b, a, xs, rfl, hq, q⟩ := q1
    cases r1 with
    | cons r rr =>
      cases rr
      cases r
      obtain ⟨its, rv, p'⟩ := sq_src I1 hq
      have ha : a < s1.heap.objs.size := by
        cases b with
        | true => obtain ⟨o, ho, _⟩ := p'; exact Heap.lt_size ho
        | false => obtain ⟨o, ho, _⟩ := p'; exact Heap.lt_size ho
      have go : ∀ h', IsEnum h' (s1.heap.objs.size + 1) s1.heap.objs.size 0 .none → SrcIt b h' s1.heap.objs.size a 0 → (∀ c o, s1.heap.get? c = some o → h'.get? c = some o) →
          wpAny (model X.prog X.w) X.A (pyIter (.ref (s1.heap.objs.size + 1))) (PIE X pins σ (.Tuple elts kk tpos) R) X.xe { s1 with heap := h' } := fun h' he' hit hk => by
        refine wpAny_pyIter_enum he' ?_
        have I2 : Inv X pins σ H1 { s1 with heap := h' } := I1.kept (t' := s1.toks) hk
        refine ⟨s1.heap.objs.size + 1, [s1.heap.objs.size + 1, s1.heap.objs.size], _, _, H1, rfl, I2, turn_en b a (s1.heap.objs.size + 1) s1.heap.objs.size (Nat.ne_of_lt ha) (Nat.ne_of_gt (Nat.lt_succ_of_lt ha)), ⟨⟨.none, he'⟩, hit, Nat.succ_ne_self _⟩, fun c hb => ?_, q⟩
        have e' : c = s1.heap.objs.size + 1 ∨ c = s1.heap.objs.size := by simpa using hb
        have hle : s1.heap.objs.size ≤ c := by
          rcases e' with z | z
          · rw [z]; exact Nat.le_add_right _ _
          · rw [z]; exact Nat.le_refl _
        exact I1.fpOk hle (I1.hok.fresh hle)
      cases b with
      | true => exact enum1_begins (begins_list a its.toArray) p' fun h' he' hit hsz hk => go h' he' ⟨_, hit, rfl, rfl⟩ hk
      | false => exact enum1_begins (begins_tuple a its.toArray) p' fun h' he' hit hsz hk => go h' he' ⟨_, hit, rfl, rfl⟩ hk
theorem ix_en {e : Expr} {f : ME} {p pos tpos : Pos} {elts : List Expr} {kk : Nat} (hg : Gl X "enumerate") (hm : X.mg "enumerate" = none) (h : EX X W e f) (hs : starEach [e] X.env = [(false, eval e X.env)] := by rfl) :
    IX X W (.Tuple elts kk tpos) (.Call (.Name "enumerate" p) [e] [] pos) (mEn f) := ⟨PI.imp (pi_en hg hm h.pe hs) fun σ H R q => by
  obtain ⟨la, ms, Hf, S, q⟩ := q
  refine ⟨la, ms, Hf, S, (After.bind q).imp fun r ms1 H1 Hf1 s1 S1 q1 v rv => ?_⟩
  unfold enS at q1
  cases e1 : frz ms1 r with
  | none => rw [e1] at q1; exact q1.elim
  | some p =>
    obtain ⟨d, ms2⟩ := p
    rw [e1] at q1
    obtain ⟨Hf2, s2, S2, rd⟩ := rv_frz S1 rv e1
    cases d with
    | list ds =>
      cases rd with
      | lst h1 r1 => exact ⟨true, _, _, rfl, SqL.of (S2.sub _ _ h1), q1 H1 Hf2 s2 S2 _ _ _ (Grow.refl S2.sub) (itFix_en (b := true) (fun H s => SqL.of (s _ _ h1)) r1)⟩
    | tuple ds =>
      cases rd with
      | tup h1 r1 => exact ⟨false, _, _, rfl, (h1.mono S2.sub).sq, q1 H1 Hf2 s2 S2 _ _ _ (Grow.refl S2.sub) (itFix_en (b := false) (fun H s => (h1.mono s).sq) r1)⟩
    | _ => exact False.elim q1⟩
end
end Pl

/-! Pl24 -/
set_option Elab.async false
set_option linter.all false
set_option maxRecDepth 100000
set_option maxHeartbeats 4000000
/-! xs.clear() -/
namespace Pl
open PySem PySem.Spec PyProof.Rows L2
section
variable {X : Cx}
def gClear : Mu := fun d ds => match d, ds with
  | .list _, [] => some (.none, .list [])
  | _, _ => none
theorem mu_clear : PMut X "clear" "list" gClear where
  at' := PySem.F.plainAttrs_list
  run := by
    refine ⟨_, PySem.F.slot_list_clear, PySem.F.type_list_clear, ?_⟩
    intro pins s σ H x xs v us Q I rx rs h
    obtain ⟨Hf, a, o, d, ds, r, d', rfl, ha, hn, oo, ty, sm, ra, hg, k⟩ := h
    unfold gClear at hg
    split at hg
    · cases hg
      obtain ⟨ys, rfl, ry⟩ := oo.lstOf
      cases ra
      exact mt_clear pins s σ H _ _ v us Q I rx rs ⟨a, ys, rfl, rfl, ha, k _ _ .non (.lst .nil)⟩
    · cases hg
end
end Pl

/-! Pl25 -/
set_option Elab.async false
set_option linter.all false
set_option maxRecDepth 100000
set_option maxHeartbeats 4000000
/-! Order of any data that can be compared. -/
namespace Pl
open PySem PySem.Spec PyProof.Rows L2
section
variable {X : Cx}
def cmpOk (d e : PyData) : Bool := eqOk d e && PySem.W.alike d e && (match d with | .none => false | _ => true)
theorem cmpOk_ne {d e : PyData} (h : cmpOk d e = true) : d ≠ .none := by
  intro z; subst z; simp [cmpOk] at h
def cLt (d e : PyData) : Option Rv := if cmpOk d e = true then dB (PySem.W.dataLt d e) else none
theorem op_cLt (hu : X.A.units + 64 < cLine) : OpR X (compareOp .Lt) (rD (kw X) cLt) := by
  intro pins s σ H x y v u Q I rx ry h
  obtain ⟨Hf, d, e, r, sm, vd, ve, hg, k⟩ := h
  unfold cLt at hg
  split at hg
  · rename_i hk0
    have hne := cmpOk_ne hk0
    have hk := hk0
    simp only [cmpOk, eqOk, dep, Bool.and_eq_true, decide_eq_true_eq] at hk
    injection hg with hg; subst hg
    obtain ⟨as, r1⟩ := vd.reads I sm hk.1.1.1.1 rx
    obtain ⟨bs, r2⟩ := ve.reads I sm hk.1.1.2.1 ry
    exact PySem.W.lt_data r1 r2 hk.1.2 hne (by omega) ⟨.bl _, H, I, rfl, give sm (.bl _) k⟩
  · cases hg
def cLe (d e : PyData) : Option Rv := if cmpOk d e = true then dB (!PySem.W.dataLt e d) else none
theorem op_cLe (hu : X.A.units + 64 < cLine) : OpR X (compareOp .LtE) (rD (kw X) cLe) := by
  intro pins s σ H x y v u Q I rx ry h
  obtain ⟨Hf, d, e, r, sm, vd, ve, hg, k⟩ := h
  unfold cLe at hg
  split at hg
  · rename_i hk0
    have hne := cmpOk_ne hk0
    have hk := hk0
    simp only [cmpOk, eqOk, dep, Bool.and_eq_true, decide_eq_true_eq] at hk
    injection hg with hg; subst hg
    obtain ⟨as, r1⟩ := vd.reads I sm hk.1.1.1.1 rx
    obtain ⟨bs, r2⟩ := ve.reads I sm hk.1.1.2.1 ry
    exact PySem.W.le_data r1 r2 hk.1.2 hne (by omega) ⟨.bl _, H, I, rfl, give sm (.bl _) k⟩
  · cases hg
def cGt (d e : PyData) : Option Rv := if cmpOk d e = true then dB (PySem.W.dataLt e d) else none
theorem op_cGt (hu : X.A.units + 64 < cLine) : OpR X (compareOp .Gt) (rD (kw X) cGt) := by
  intro pins s σ H x y v u Q I rx ry h
  obtain ⟨Hf, d, e, r, sm, vd, ve, hg, k⟩ := h
  unfold cGt at hg
  split at hg
  · rename_i hk0
    have hne := cmpOk_ne hk0
    have hk := hk0
    simp only [cmpOk, eqOk, dep, Bool.and_eq_true, decide_eq_true_eq] at hk
    injection hg with hg; subst hg
    obtain ⟨as, r1⟩ := vd.reads I sm hk.1.1.1.1 rx
    obtain ⟨bs, r2⟩ := ve.reads I sm hk.1.1.2.1 ry
    exact PySem.W.gt_data r1 r2 hk.1.2 hne (by omega) ⟨.bl _, H, I, rfl, give sm (.bl _) k⟩
  · cases hg
def cGe (d e : PyData) : Option Rv := if cmpOk d e = true then dB (!PySem.W.dataLt d e) else none
theorem op_cGe (hu : X.A.units + 64 < cLine) : OpR X (compareOp .GtE) (rD (kw X) cGe) := by
  intro pins s σ H x y v u Q I rx ry h
  obtain ⟨Hf, d, e, r, sm, vd, ve, hg, k⟩ := h
  unfold cGe at hg
  split at hg
  · rename_i hk0
    have hne := cmpOk_ne hk0
    have hk := hk0
    simp only [cmpOk, eqOk, dep, Bool.and_eq_true, decide_eq_true_eq] at hk
    injection hg with hg; subst hg
    obtain ⟨as, r1⟩ := vd.reads I sm hk.1.1.1.1 rx
    obtain ⟨bs, r2⟩ := ve.reads I sm hk.1.1.2.1 ry
    exact PySem.W.ge_data r1 r2 hk.1.2 hne (by omega) ⟨.bl _, H, I, rfl, give sm (.bl _) k⟩
  · cases hg
/-- the same, first by the simple rule -/
def qLt (d e : PyData) : Option Rv := match pLt d e with
  | some r => some r
  | none => cLt d e
theorem op_qLt (hu : X.A.units + 64 < cLine) : OpR X (compareOp .Lt) (rD (kw X) qLt) := by
  intro pins s σ H x y v u Q I rx ry h
  obtain ⟨Hf, d, e, r, sm, vd, ve, hg, k⟩ := h
  unfold qLt at hg
  split at hg
  · rename_i r' e1
    cases hg
    exact op_pLt pins s σ H x y v u Q I rx ry ⟨Hf, d, e, _, sm, vd, ve, e1, k⟩
  · exact op_cLt hu pins s σ H x y v u Q I rx ry ⟨Hf, d, e, _, sm, vd, ve, hg, k⟩
/-- the same, first by the simple rule -/
def qLe (d e : PyData) : Option Rv := match pLe d e with
  | some r => some r
  | none => cLe d e
theorem op_qLe (hu : X.A.units + 64 < cLine) : OpR X (compareOp .LtE) (rD (kw X) qLe) := by
  intro pins s σ H x y v u Q I rx ry h
  obtain ⟨Hf, d, e, r, sm, vd, ve, hg, k⟩ := h
  unfold qLe at hg
  split at hg
  · rename_i r' e1
    cases hg
    exact op_pLe pins s σ H x y v u Q I rx ry ⟨Hf, d, e, _, sm, vd, ve, e1, k⟩
  · exact op_cLe hu pins s σ H x y v u Q I rx ry ⟨Hf, d, e, _, sm, vd, ve, hg, k⟩
/-- the same, first by the simple rule -/
def qGt (d e : PyData) : Option Rv := match pGt d e with
  | some r => some r
  | none => cGt d e
theorem op_qGt (hu : X.A.units + 64 < cLine) : OpR X (compareOp .Gt) (rD (kw X) qGt) := by
  intro pins s σ H x y v u Q I rx ry h
  obtain ⟨Hf, d, e, r, sm, vd, ve, hg, k⟩ := h
  unfold qGt at hg
  split at hg
  · rename_i r' e1
    cases hg
    exact op_pGt pins s σ H x y v u Q I rx ry ⟨Hf, d, e, _, sm, vd, ve, e1, k⟩
  · exact op_cGt hu pins s σ H x y v u Q I rx ry ⟨Hf, d, e, _, sm, vd, ve, hg, k⟩
/-- the same, first by the simple rule -/
def qGe (d e : PyData) : Option Rv := match pGe d e with
  | some r => some r
  | none => cGe d e
theorem op_qGe (hu : X.A.units + 64 < cLine) : OpR X (compareOp .GtE) (rD (kw X) qGe) := by
  intro pins s σ H x y v u Q I rx ry h
  obtain ⟨Hf, d, e, r, sm, vd, ve, hg, k⟩ := h
  unfold qGe at hg
  split at hg
  · rename_i r' e1
    cases hg
    exact op_pGe pins s σ H x y v u Q I rx ry ⟨Hf, d, e, _, sm, vd, ve, e1, k⟩
  · exact op_cGe hu pins s σ H x y v u Q I rx ry ⟨Hf, d, e, _, sm, vd, ve, hg, k⟩
end
end Pl

/-! Pl26 -/
set_option Elab.async false
set_option linter.all false
set_option maxRecDepth 100000
set_option maxHeartbeats 4000000
/-! dict(xs), xs a list of pairs whose keys are tuples -/
namespace Pl
open PySem PySem.Spec PyProof.Rows L2
def pairsD : List PyData → List (PyData × PyData) → Option (List (PyData × PyData))
  | [], es => some es
  | .tuple [k, v] :: ds, es => if kind1 k = true then pairsD ds (dPut es k v) else none
  | _ :: _, _ => none
def pDict (as : List PyData) : Option Rv := match as with
  | [.list ds] => (pairsD ds []).map fun es => .new (.dict es)
  | _ => none
section
variable {X : Cx} {pins : List (Addr × Obj)} {σ : L2.St} {H Hf : Hp} {s : Shared}
theorem pairs_dn (I : Inv X pins σ H s) (sm : Same Hf H) : ∀ {xs : List V} {ds : List PyData} {es0 es : List (PyData × PyData)} {ns0 : List (NestedKey × Addr × Value)}, RepAll (kw X) Hf xs ds → pairsD ds es0 = some es → RepNt (kw X) Hf ns0 es0 →
    ∃ (Ts : List Addr) (ph : List (NestedKey × Addr × Value)), xs = Ts.map V.ref ∧ Ts.length = ph.length ∧ (∀ (j : Nat) (T : Addr) (x : NestedKey × Addr × Value), Ts[j]? = some T → ph[j]? = some x → s.heap.IsTuple T #[.ref x.2.1, x.2.2]) ∧
      (∀ x ∈ ph, (nestedKind X.prog X.w).is s.heap x.1 x.2.1) ∧ RepNt (kw X) Hf (storedAllH ns0 ph) es
  | _, [], es0, es, ns0, .nil, e, r => by
    cases e
    exact ⟨[], [], rfl, rfl, fun j T x h => by simp at h, fun x h => by simp at h, r⟩
  | _, d :: ds, es0, es, ns0, .cons (v := y) rd t, e, r => by
    unfold pairsD at e
    split at e
    · exact (List.cons_ne_nil _ _ ‹d :: ds = []›).elim
    · rename_i k v ds' heq
      cases heq
      split at e
      · rename_i k1
        cases rd with
        | @tup T ys _ tt ra =>
          obtain ⟨a, b, rfl, rk, rv⟩ := ra.two
          obtain ⟨l, hkl, dp, ds2, rfl⟩ := kind1_some k1
          obtain ⟨p, rfl⟩ : ∃ p, a = .ref p := by
            cases rk with
            | tup _ _ => exact ⟨_, rfl⟩
          obtain ⟨its, rvs, ht, _⟩ := I.tuple (tt.mono sm).sq
          obtain ⟨u, z, ei, ru, rz⟩ := vals2 rvs
          subst ei
          cases ru
          have nk : (nestedKind X.prog X.w).is s.heap l p := ⟨Rep.nk I (rk.mono sm) hkl rfl, dp⟩
          obtain ⟨Ts, ph, e1, e2, e3, e4, e5⟩ := pairs_dn I sm t e (r.put rk hkl dp rz rv)
          refine ⟨T :: Ts, (l, p, z) :: ph, by rw [e1]; rfl, by rw [List.length_cons, List.length_cons, e2], fun j T' x h h' => ?_, fun x h => ?_, e5⟩
          · cases j with
            | zero =>
              cases h; cases h'
              exact ht
            | succ j => exact e3 j T' x (by simpa using h) (by simpa using h')
          · rcases List.mem_cons.mp h with rfl | h
            · exact nk
            · exact e4 x h
      · cases e
    · cases e
end
section
variable {X : Cx}
theorem giveNewAt {K : KW} {H Hf : Hp} {Q : VK} {o : HO} {d : PyData} {p : Addr} (s : Same Hf H) (hp : H p = none) (r : OObj K Hf p o d) (k : ∀ v H' Hf', Grow H Hf H' Hf' → RvN K H H' Hf' v (.new d) → Q v H') : Q (.ref p) (upd H p o) :=
  k _ _ _ (Grow.new s hp) ⟨p, o, rfl, hp, same_none s hp, upd_same, r⟩
theorem call_pDict (hcalm : X.calm = true) (hu : X.A.units + 64 < cLine) : CallR X (.type "dict") (rDs (kw X) pDict) := by
  intro pins s σ H xs us Q I r h
  obtain ⟨Hf, ds, rr, sm, va, hg, k⟩ := h
  unfold pDict at hg
  split at hg
  · rename_i ds'
    simp only [Option.map_eq_some_iff] at hg
    obtain ⟨es, he, rfl⟩ := hg
    obtain ⟨x, rfl, vx⟩ := va.one
    obtain ⟨a, ys, rfl, ha, ra⟩ := vx.lst sm
    obtain ⟨Ts, ph, e1, e2, e3, e4, e5⟩ := pairs_dn I sm ra he (.nil (H := Hf))
    subst e1
    obtain ⟨u, eu, rx⟩ := vals1 r
    subst eu
    cases rx
    obtain ⟨its, rv, pl, hz⟩ := I.list (SqL.of ha)
    have ei := refs_at rv
    subst ei
    rw [List.length_map] at hz
    obtain ⟨o, n, ho, hc, hd, hdat⟩ := pl
    have P := PySem.PairArg.list (prog := X.prog) (w := X.w) a (Ts.map Value.ref).toArray (fun j => Ts.getD j 0) (ph.map fun x => (Value.ref x.2.1, x.2.2))
    have hl : (ph.map fun x => (Value.ref x.2.1, x.2.2)).length = ph.length := List.length_map _
    have ok : PlainSeq "list" s.heap a (Ts.map Value.ref).toArray ∧ PairItems s.heap (Ts.map Value.ref).toArray (fun j => Ts.getD j 0) (ph.map fun x => (Value.ref x.2.1, x.2.2)) := by
      refine ⟨⟨o, n, ho, hc, hd, hdat⟩, by simp [e2], fun j kk vv hj => ?_⟩
      rw [List.getElem?_map, Option.map_eq_some_iff] at hj
      obtain ⟨x, hx, ex⟩ := hj
      cases ex
      have hj' : j < Ts.length := by rw [e2]; exact (List.getElem?_eq_some_iff.mp hx).1
      refine ⟨by simp [hj'], .inl ?_⟩
      have := e3 j Ts[j] x (List.getElem?_eq_getElem hj') hx
      simpa [List.getD, hj'] using this
    have hrel : PairsHaveH (nestedKind X.prog X.w) (ph.map fun x => (Value.ref x.2.1, x.2.2)).length (PairRel (ph.map fun x => (Value.ref x.2.1, x.2.2))) ph := by
      refine ⟨hl.symm, fun i key v hr => ?_⟩
      have hr' : (ph.map fun x => (Value.ref x.2.1, x.2.2))[i]? = some (key, v) := hr
      rw [List.getElem?_map, Option.map_eq_some_iff] at hr'
      obtain ⟨x, hx, ex⟩ := hr'
      cases ex
      exact ⟨x.1, x.2.1, hx, rfl⟩
    have hst : KeysStay (nestedKind X.prog X.w) s.heap s.heap.objs.size [] ph := fun h' hk x hx => ⟨NestedIs.at (fun b o _ _ e _ => hk b o (Nat.ne_of_lt (Heap.lt_size e)) (by simp) e) _ _ (e4 x hx).1, (e4 x hx).2⟩
    refine call_dict_pairsH P (I.ok.hd hcalm) (show X.A.units + 1 + 1 + 8 < cLine by omega) ok hrel hst (by rw [hl, ← e2]; exact hz) fun h' tk hd' hk => ?_
    obtain ⟨q, es', ep, hq, g2, g3, g4, g5, g6⟩ := hd'
    have hm : (s.heap.objs.size == sysModules) = false := beq_eq_false_iff_ne.mpr (Nat.ne_of_gt I.big)
    have hlen : (storedAllH [] ph).length ≤ sizeLine := by
      have := storedAllH_length ph []
      rw [List.length_nil, Nat.zero_add, ← e2] at this
      exact Nat.le_trans this hz
    have okD : DnP X.w s.heap.objs.size ep (storedAllH [] ph) h' := ⟨hlen, hm, g6, q, es', hq, g2, g3, g4⟩
    refine ⟨.ref s.heap.objs.size, upd H s.heap.objs.size (DnO X.w s.heap.objs.size ep (storedAllH [] ph)), I.laid (t' := tk) (fun b o e => hk b o (by simp) e) (Nat.le_refl _) (show ObjOk X.prog X.w _ _ _ (DnO X.w s.heap.objs.size ep (storedAllH [] ph)) from ⟨okD, ⟨q, hq⟩, fun h1 h2 p1 p2 => ?_⟩), rfl, giveNewAt sm (I.hok.fresh (Nat.le_refl _)) (.dn e5) k⟩
    obtain ⟨z1, z2, z3, o1, es1, z4, z5⟩ := p1
    exact ⟨z1, z2, z3, o1, es1, p2 _ z4, z5⟩
  · cases hg
end
end Pl

/-! Pl27 -/
set_option Elab.async false
set_option linter.all false
set_option maxRecDepth 100000
set_option maxHeartbeats 4000000
/-! for x in xs: over a list of one's own that stays one's own (it may grow behind) -/
namespace Pl
open PySem PySem.Spec PyProof.Rows L2
def flagM (ms : MS) (j : Nat) (l : Bool) : MS := match ms[j]? with
  | some (some (.own true d)) => ms.set j (some (.own l d))
  | _ => ms
def back (j : Nat) (l : Bool) : SO → SO
  | .stuck => .stuck
  | .nx ms => .nx (flagM ms j l)
  | .bk ms => .bk (flagM ms j l)
  | .ct ms => .ct (flagM ms j l)
  | .rt r ms => .rt r (flagM ms j l)
  | .exc c fs ms => .exc c fs (flagM ms j l)
def loopL (g : PyData → MS → SO) (b : MX) (j : Nat) : Nat → Nat → MX
  | 0, _, _ => .stuck
  | n + 1, i, ms => match ms[j]? with
    | some (some (.own true (.list ds))) => (match ds[i]? with
      | some d => (g d ms).then fun ms1 => again (b ms1) (loopL g b j n (i + 1))
      | none => .nx ms)
    | _ => .stuck
def mForV (j : Nat) (g : PyData → MS → SO) (b : MX) : MX := fun ms => match ms[j]? with
  | some (some (.own l (.list ds))) => back j l (loopL g b j lcN 0 (ms.set j (some (.own true (.list ds)))))
  | some (some (.dat _)) => mFor (fun ms => (mVar j ms).bind srcOf) g b ms
  | _ => .stuck
def laJ (la : Fm) (j : Nat) (a : Addr) : Fm := ⟨(j, a) :: la.la.filter (fun p => p.1 != j), la.fr⟩
section
variable {K : KW} {la : Fm} {ms : MS} {σ : L2.St} {H Hf : Hp} {j : Nat} {a : Addr} {l : Bool} {d : PyData}
theorem laJ_j {a' : Addr} (h : (j, a') ∈ (laJ la j a).la) : a' = a := by
  rcases List.mem_cons.mp h with e | e
  · cases e; rfl
  · simp at e
theorem laJ_ne {i : Nat} {a' : Addr} (hi : i ≠ j) : (i, a') ∈ (laJ la j a).la ↔ (i, a') ∈ la.la := by
  simp [laJ, hi]
theorem SR.lend (S : SR K la ms σ H Hf) (h : ms[j]? = some (some (.own l d))) (ha : σ[j]? = some (some (.ref a))) : SR K (laJ la j a) (ms.set j (some (.own true d))) σ H Hf := by
  have hj : j < ms.length := (List.getElem?_eq_some_iff.mp h).1
  have conv : ∀ (i : Nat) (l' : Bool) (d' : PyData), (ms.set j (some (.own true d)))[i]? = some (some (.own l' d')) → (i = j ∧ l' = true ∧ d' = d) ∨ (i ≠ j ∧ ms[i]? = some (some (.own l' d'))) := by
    intro i l' d' e
    by_cases hij : i = j
    · subst hij
      rw [List.getElem?_set_self hj] at e
      cases e
      exact .inl ⟨rfl, rfl, rfl⟩
    · rw [List.getElem?_set_ne (Ne.symm hij)] at e
      exact .inr ⟨hij, e⟩
  have conv2 : ∀ (i : Nat) (l' : Bool) (d' : PyData), (ms.set j (some (.own true d)))[i]? = some (some (.own l' d')) → ∃ l2, ms[i]? = some (some (.own l2 d')) := by
    intro i l' d' e
    rcases conv i l' d' e with ⟨rfl, rfl, rfl⟩ | ⟨_, e⟩
    · exact ⟨_, h⟩
    · exact ⟨_, e⟩
  refine ⟨by rw [List.length_set]; exact S.len, fun i d' e => ?_, fun i l' d' e => ?_, fun i j' a' l1 d1 l2 d2 e1 e2 => ?_, S.sub, S.fr⟩
  · by_cases hij : i = j
    · subst hij
      rw [List.getElem?_set_self hj] at e
      cases e
    · rw [List.getElem?_set_ne (Ne.symm hij)] at e
      exact S.dat i d' e
  · rcases conv i l' d' e with ⟨rfl, rfl, rfl⟩ | ⟨hij, e⟩
    · obtain ⟨a', o, e1, _, e2, e3, e4, e5⟩ := S.own _ _ _ h
      rw [ha] at e1; cases e1
      exact ⟨a, o, ha, fun _ => List.mem_cons_self .., e2, e3, e4, e5⟩
    · obtain ⟨a', o, e1, m, e2, e3, e4, e5⟩ := S.own _ _ _ e
      exact ⟨a', o, e1, fun hl => (laJ_ne hij).mpr (m hl), e2, e3, e4, e5⟩
  · obtain ⟨l3, q1⟩ := conv2 _ _ _ e1
    obtain ⟨l4, q2⟩ := conv2 _ _ _ e2
    exact S.apart i j' a' l3 d1 l4 d2 q1 q2
theorem flag_own {i : Nat} {l' : Bool} {d' : PyData} (e : (flagM ms j l)[i]? = some (some (.own l' d'))) : (i = j ∧ l' = l ∧ ms[i]? = some (some (.own true d'))) ∨ (ms[i]? = some (some (.own l' d')) ∧ (i = j → l' = false)) := by
  unfold flagM at e
  split at e
  · rename_i d0 h0
    have hj : j < ms.length := (List.getElem?_eq_some_iff.mp h0).1
    by_cases hij : i = j
    · subst hij
      rw [List.getElem?_set_self hj] at e
      cases e
      exact .inl ⟨rfl, rfl, h0⟩
    · rw [List.getElem?_set_ne (Ne.symm hij)] at e
      exact .inr ⟨e, fun z => absurd z hij⟩
  · rename_i h0
    refine .inr ⟨e, fun z => ?_⟩
    subst z
    cases l' with
    | false => rfl
    | true => exact absurd e (h0 d')
theorem flag_own' {i : Nat} {l' : Bool} {d' : PyData} (e : (flagM ms j l)[i]? = some (some (.own l' d'))) : ∃ l2, ms[i]? = some (some (.own l2 d')) := by
  rcases flag_own e with ⟨_, _, e⟩ | ⟨e, _⟩ <;> exact ⟨_, e⟩
theorem flag_dat {i : Nat} {d' : PyData} (e : (flagM ms j l)[i]? = some (some (.dat d'))) : ms[i]? = some (some (.dat d')) := by
  unfold flagM at e
  split at e
  · rename_i d0 h0
    have hj : j < ms.length := (List.getElem?_eq_some_iff.mp h0).1
    by_cases hij : i = j
    · subst hij
      rw [List.getElem?_set_self hj] at e
      cases e
    · rw [List.getElem?_set_ne (Ne.symm hij)] at e
      exact e
  · exact e
theorem flag_len : (flagM ms j l).length = ms.length := by
  unfold flagM
  split
  · rw [List.length_set]
  · rfl
theorem SR.unlend (S : SR K (laJ la j a) ms σ H Hf) (hl : l = true → (j, a) ∈ la.la) : SR K la (flagM ms j l) σ H Hf := by
  refine ⟨by rw [flag_len]; exact S.len, fun i d' e => S.dat i d' (flag_dat e), fun i l' d' e => ?_, fun i j' a' l1 d1 l2 d2 e1 e2 => ?_, S.sub, S.fr⟩
  · rcases flag_own e with ⟨rfl, rfl, e0⟩ | ⟨e0, hz⟩
    · obtain ⟨a', o, e1, m, e2, e3, e4, e5⟩ := S.own _ _ _ e0
      have := laJ_j (m rfl)
      subst this
      exact ⟨a', o, e1, hl, e2, e3, e4, e5⟩
    · obtain ⟨a', o, e1, m, e2, e3, e4, e5⟩ := S.own _ _ _ e0
      refine ⟨a', o, e1, fun hl' => ?_, e2, e3, e4, e5⟩
      have hij : i ≠ j := fun z => by rw [hz z] at hl'; cases hl'
      exact (laJ_ne hij).mp (m hl')
  · obtain ⟨l3, q1⟩ := flag_own' e1
    obtain ⟨l4, q2⟩ := flag_own' e2
    exact S.apart i j' a' l3 d1 l4 d2 q1 q2
theorem RvR.unlend {v : V} {r : Rv} (h : RvR K (laJ la j a) ms σ H Hf v r) : RvR K la (flagM ms j l) σ H Hf v r := by
  cases r with
  | dat d => exact h
  | new d =>
    obtain ⟨b, o, e, n, nf, q, r, z⟩ := h
    refine ⟨b, o, e, n, nf, q, r, fun i l' d' hi => ?_⟩
    obtain ⟨l2, hi'⟩ := flag_own' hi
    exact z i l2 d' hi'
  | slot i => exact h
theorem AfterS.back {mg : Str → Option Value} {W : WX} {D : Ends} {x : SO} (hl : l = true → (j, a) ∈ la.la) (q : AfterS K mg W la Hf D (Pl.back j l x)) : AfterS K mg W (laJ la j a) Hf D x := by
  cases x with
  | stuck => exact q
  | nx ms => exact fun σ' H' Hf' s' S => q σ' H' Hf' s' (S.unlend hl)
  | bk ms => exact fun σ' H' Hf' s' S => q σ' H' Hf' s' (S.unlend hl)
  | ct ms => exact fun σ' H' Hf' s' S => q σ' H' Hf' s' (S.unlend hl)
  | rt r ms => exact fun σ' H' Hf' s' S v rv => q σ' H' Hf' s' (S.unlend hl) v rv.unlend
  | exc c fs ms => exact fun cls d σ' H' Hf' s' S => q cls d σ' H' Hf' s' (S.unlend hl)
end
section
variable {X : Cx} {W : WX} {tg e : Expr} {sts : List Stmt} {pos : Pos}
theorem sx_forV {T : List Nat} {j : Nat} {g : PyData → MS → SO} {b : MX} (hp : PassesOwn (model X.prog X.w) X.A X.env X.xe) (hc : X.calm = true) (hi : EX X W e (mVar j)) (hg : GX X tg T g) (hgn : ∀ d ms, g d ms = .stuck ∨ ∃ ms', g d ms = .nx ms') (hb : SXs X W sts b)
    (hs : ∀ x, foldedSetIterable e X.env x = pure x := by intro _; rfl) : SX X W (.For tg e sts [] pos) (mForV j g b) := ⟨⟨fun pins s σ H D I q => by
  obtain ⟨la, ms, Hf, S, q⟩ := q
  have hix := ix_seq (tg := tg) hi
  unfold mForV at q
  split at q
  · rename_i l ds hm
    obtain ⟨a, o, ha, hla, hfr, hfa, hH, hO⟩ := S.own _ _ _ hm
    refine (ps_for (iter := e) (body := sts) (pos := pos) hp hc hix.pi hg.pg hb.ps hs).run pins s σ H D I ?_
    refine ⟨la, ms, Hf, S, ?_⟩
    have e1 : (mVar j ms).bind srcOf = .ok (.live j) ms := by simp [mVar, hm, srcOf, view]
    show After _ _ _ _ _ _ _ ((mVar j ms).bind srcOf)
    rw [e1]
    intro H1 Hf1 s1 S1 J H2 Hf2 G2 hJ
    obtain ⟨a', ha', hL⟩ := hJ
    rw [ha] at ha'; cases ha'
    have S2 := S1.grow G2
    have q2 := AfterS.back hla (AfterS.hf (s1.trans G2.ff) q)
    refine ⟨fun i m σ' H' => ∃ ms' Hf', Same Hf2 Hf' ∧ SR (kw X) (laJ la j a) ms' σ' H' Hf' ∧ AfterS (kw X) X.mg W (laJ la j a) Hf' D (loopL g b j m i ms'), ⟨lcN, _, Hf2, .refl _, S2.lend hm ha, q2⟩, ?_⟩
    rintro i m σ' H' ⟨ms', Hf', s', S', q'⟩
    cases m with
    | zero => exact q'.elim
    | succ m =>
      unfold loopL at q'
      split at q'
      · rename_i ds' hm'
        obtain ⟨a2, o2, ha2, hla2, _, _, hH2, hO2⟩ := S'.own _ _ _ hm'
        have := laJ_j (hla2 rfl)
        subst this
        cases hO2 with
        | @lst xs _ ra =>
          obtain ⟨j1, j2⟩ := hL i H' xs hH2
          split at q'
          · rename_i d hd
            obtain ⟨x, hx, rx⟩ := ra.get' hd
            obtain ⟨hgo, hy⟩ := j2 x hx
            refine .inr ⟨hgo, fun σ'' H'' => ∃ ms' Hf', Same Hf2 Hf' ∧ SR (kw X) (laJ la j a2) ms' σ'' H'' Hf' ∧ AfterS (kw X) X.mg W (laJ la j a2) Hf' D (loopL g b j m (i + 1) ms'), fun σ'' H'' h => ⟨m, Nat.lt_succ_self _, h⟩, fun x' H3 hx' => ?_⟩
            obtain ⟨rfl, rfl⟩ := hy x' H3 hx'
            rcases hgn d ms' with e | ⟨ms4, e⟩
            · rw [e] at q'; exact q'.elim
            · rw [e] at q'
              refine ⟨laJ la j a2, ms', Hf', d, ms4, S', rx, e, fun σ4 H4 Hf4 s4 S4 _ => ?_⟩
              refine ⟨laJ la j a2, ms4, Hf4, S4, again_ends (AfterS.hf s4 q') fun ms5 σ5 H5 Hf5 s5 S5 q5 => ⟨ms5, Hf5, (s'.trans s4).trans s5, S5, q5⟩⟩
          · rename_i hd
            have hle : xs.length ≤ i := by
              rw [ra.length]
              exact List.getElem?_eq_none_iff.mp hd
            exact .inl ⟨j1 hle, q' σ' H' Hf' (.refl _) S'⟩
      · exact q'.elim
  · exact (sx_for (tg := tg) (pos := pos) hp hc hix hg hgn hb hs).ps.run pins s σ H D I ⟨la, ms, Hf, S, q⟩
  · exact q.elim⟩⟩
end
end Pl

/-! Pl28 -/
set_option Elab.async false
set_option linter.all false
set_option maxRecDepth 100000
set_option maxHeartbeats 4000000
/-! for k in d: the keys of a dict whose keys are tuples; the dict is frozen -/
namespace Pl
open PySem PySem.Spec PyProof.Rows L2
def Itn (w : World) (d : Addr) (ep : Nat) (xs : List (NestedKey × Addr × Value)) : It :=
  ⟨fun i H => H d = some (DnO w d ep xs) ∧ i < xs.length, fun i H x H' => H' = H ∧ ∃ e, xs[i]? = some e ∧ x = .ref e.2.1, fun i H => H d = some (DnO w d ep xs) ∧ xs.length ≤ i⟩
theorem dn_at {X : Cx} {pins : List (Addr × Obj)} {σ : L2.St} {H : Hp} {s : Shared} (I : Inv X pins σ H s) {d : Addr} {ep : Nat} {xs : List (NestedKey × Addr × Value)} (h : H d = some (DnO X.w d ep xs)) :
    (d == sysModules) = false ∧ ∃ (o : Obj) (es : Array DictEntry), s.heap.get? d = some o ∧ o.ExactDict ∧ o.data = .dict es ep ∧ es.size = xs.length ∧ ∀ (i : Nat) (e : NestedKey × Addr × Value), xs[i]? = some e → ∃ en : DictEntry, es[i]? = some en ∧ en.key = .ref e.2.1 := by
  obtain ⟨⟨z, hd, nd, o, es, h1, h2, h3, h4⟩, _, _⟩ := I.hok d _ h
  refine ⟨hd, o, es, h1, h2, h3, ?_, fun i e he => ?_⟩
  · have : es.toList.length = xs.length := by rw [h4, List.length_map]
    simpa using this
  · have q : es.toList[i]? = some (⟨e.1.hash X.w, .ref e.2.1, e.2.2⟩ : DictEntry) := by rw [h4, List.getElem?_map, he]; rfl
    rw [Array.getElem?_toList] at q
    exact ⟨_, q, rfl⟩
theorem turn_nt {P : Program} {w : World} {K : PySem.W.Frag} {tg : Expr} {d : Addr} {ep : Nat} {xs : List (NestedKey × Addr × Value)} (it : Addr) : Turn P w K tg (Itn w d ep xs) [it] it (fun i h => h.IsKeyIter it d i xs.length ep) where
  mem := by simp
  obj := fun i h st b hb => by
    have e : b = it := by simpa using hb
    subst e
    obtain ⟨oi, e, c, dd⟩ := st
    exact ⟨oi, e, fun v z => by rw [dd] at z; cases z⟩
  keep := fun i h h' st k => st.at fun oi e => k it (by simp) oi e
  item := by
    intro X hP hw hK hc i pins s σ H E I hf st hg
    subst hP hw hK
    obtain ⟨hd, hi⟩ := hg
    obtain ⟨f0, f1, f2, f3, f4, f5⟩ := hf it (by simp)
    obtain ⟨hs, o, es, hgd, hx, hdt, hsz, ent⟩ := dn_at I hd
    obtain ⟨en, hen, hkey⟩ := ent i _ (List.getElem?_eq_getElem hi)
    refine next_key_item st hgd hdt hsz hen fun h' st' sb => ?_
    have I1 : Inv X pins σ H { s with heap := h' } := I.turned (t' := s.toks) (fun b ob hb e => (sb.2 b hb).trans e) f0 f1 f3 f4 f5
    obtain ⟨oi, e, c, dd⟩ := id st'
    exact ⟨en.key, rfl, go_of (s := { s with heap := h' }) e c dd (by decide) ⟨.ref xs[i].2.1, H, I1, hkey, ⟨rfl, xs[i], List.getElem?_eq_getElem hi, rfl⟩, st', fun b hb => (hf b hb).1⟩⟩
  done := by
    intro X hP hw hK hc i pins s σ H E I hf st hg
    subst hP hw hK
    obtain ⟨hd, hi⟩ := hg
    obtain ⟨f0, f1, f2, f3, f4, f5⟩ := hf it (by simp)
    obtain ⟨hs, o, es, hgd, hx, hdt, hsz, ent⟩ := dn_at I hd
    exact next_key_end (I.ok.hd hc) st hgd hdt hsz hi fun h' eb => ⟨rfl, I.turned (t' := s.toks) (fun b ob hb e => eb b ob hb e) f0 f1 f3 f4 f5⟩
  self := fun A i s Q E st h => by
    refine wpAny_pyIter_slot st.typeIs F.slot_dict_keyiterator_iter (wpAny_call_entry F.slot_dict_keyiterator_iter st.typeIs F.entry_dict_keyiterator_iter ?_ (F.args_dict_keyiterator_iter_1 _))
    show wpAny _ _ (ret (.ref it)) _ _ s
    exact wpAny_pure ⟨_, rfl, "dict_keyiterator", _, st.typeIs, F.slot_dict_keyiterator_next.lookup, h⟩
section
variable {X : Cx} {W : WX} {tg e : Expr}
def iNt (X : Cx) (te : TE) : TI := fun σ H R => te σ H fun x H1 => ∃ d, x = .ref d ∧ ((∃ ep xs, H1 d = some (DnO X.w d ep xs) ∧ R (Itn X.w d ep xs) H1) ∨ (H1 d = some (.dK []) ∧ ∀ ep, R (Itn X.w d ep []) (upd H1 d (DnO X.w d ep []))))
theorem pi_nt {te : TE} (he : PE X e te) : PI X tg e (iNt X te) := by
  refine ⟨fun pins s σ H R I h => ?_⟩
  refine thn (he.run pins s σ H _ I h) fun u s1 ⟨x, H1, I1, rx, d, ex, q⟩ => ?_
  subst ex
  obtain rfl : u = Value.ref d := rx
  rcases q with ⟨ep, xs, hd, q⟩ | ⟨hd, q⟩
  · obtain ⟨hs, o, es, hgd, hx, hdt, hsz, ent⟩ := dn_at I1 hd
    refine iter_keys hs hgd hx hdt (pi_one (tk := s1.toks) I1 _ (turn_nt _) ⟨_, Heap.get?_push_size _ rfl, rfl, ?_⟩ q)
    rw [hsz] <;> rfl
  · obtain ⟨z, hsm, vs, rel, dd⟩ := dk_of I1.hok hd
    cases rel
    obtain ⟨o, es, ep, h1, h2, h3, h4, _, _⟩ := dn_empty dd
    have okD : DnP X.w d ep [] s1.heap := ⟨Nat.zero_le _, hsm, List.nodup_nil, o, es, h1, h2, h3, h4⟩
    have I2 : Inv X pins σ (upd H1 d (DnO X.w d ep [])) s1 := d_write (t' := s1.toks) (h' := s1.heap) I1 (by rw [hd]; trivial) ⟨rfl, fun _ _ => rfl⟩ ⟨o, h1⟩ (ob := DnO X.w d ep []) ⟨okD, ⟨o, h1⟩, fun g1 g2 p1 p2 => by
      obtain ⟨z1, z2, z3, o1, es1, z4, z5⟩ := p1
      exact ⟨z1, z2, z3, o1, es1, p2 _ z4, z5⟩⟩
    obtain ⟨hs, o, es, hgd, hx, hdt, hsz, ent⟩ := dn_at (xs := []) I2 upd_same
    refine iter_keys hs hgd hx hdt (pi_one (tk := s1.toks) I2 _ (turn_nt _) ⟨_, Heap.get?_push_size _ rfl, rfl, ?_⟩ (q ep))
    rw [hsz] <;> rfl
theorem itFix_nt {K : KW} {Hf0 : Hp} {d : Addr} {ep : Nat} {xs : List (NestedKey × Addr × Value)} {es : List (PyData × PyData)} (h : Hf0 d = some (DnO K.w d ep xs)) (r : RepNt K Hf0 xs es) : ItFix K Hf0 (Itn K.w d ep xs) (es.map (·.1)) := by
  have hl : xs.length = es.length := r.length
  have key : ∀ (i : Nat) (c : PyData), (es.map (·.1))[i]? = some c → ∃ e, xs[i]? = some e ∧ Rep K Hf0 (.ref e.2.1) c := by
    clear h hl
    induction xs generalizing es with
    | nil => cases r; intro i c hc; simp at hc
    | cons x xs ih =>
      cases r with
      | cons rk ek dp rv gv t =>
        intro i c hc
        cases i with
        | zero => simp at hc; subst hc; exact ⟨_, rfl, rk⟩
        | succ i => simpa using ih t i c (by simpa using hc)
  intro i H Hf s1 s2
  have hq := s2 _ _ (s1 _ _ h)
  refine ⟨fun e => ⟨hq, by rw [e, List.length_map, hl]; exact Nat.le_refl _⟩, fun c hc => ?_⟩
  obtain ⟨e, he, rc⟩ := key i c hc
  refine ⟨⟨hq, (List.getElem?_eq_some_iff.mp he).1⟩, fun x' H' y => ?_⟩
  obtain ⟨e1, e', he', ex⟩ := y
  subst e1
  rw [he] at he'; cases he'
  subst ex
  exact ⟨Hf, Grow.refl s2, rc.mono s1⟩
def keysK (es : List (PyData × PyData)) : Bool := es.all fun e => kind1 e.1
def srcKz (r : Rv) (ms : MS) : Out Src := match r with
  | .slot i => match ms[i]? with
    | some (some (.own false (.dict es))) => if keysK es = true then .ok (.fix (es.map (·.1))) (ms.set i (some (.dat (.dict es)))) else .stuck
    | some (some (.dat (.dict es))) => if keysK es = true ∧ es ≠ [] then .ok (.fix (es.map (·.1))) ms else .stuck
    | _ => .stuck
  | _ => .stuck
theorem keysK_ne {es : List (PyData × PyData)} (h : keysK es = true) : ∀ l ds, es ≠ [(.list l, .list ds)] := by
  intro l ds e
  subst e
  simp [keysK, kind1, keyOf] at h
theorem dk_keysK {K : KW} {Hf : Hp} {kvs : List (Key × V)} {es : List (PyData × PyData)} (r : RepKv K Hf kvs es) (h : keysK es = true) : es = [] ∧ kvs = [] := by
  cases r with
  | nil => exact ⟨rfl, rfl⟩
  | @cons k v vs d ds _ _ =>
    exfalso
    simp only [keysK, List.all_cons, Bool.and_eq_true] at h
    cases k <;> simp [keyD, kind1] at h
theorem ix_key {f : ME} (h : EX X W e f) : IX X W tg e (fun ms => (f ms).bind srcKz) := ⟨PI.imp (pi_nt h.pe) fun σ H R q => by
  obtain ⟨la, ms, Hf, S, q⟩ := q
  refine ⟨la, ms, Hf, S, (After.bind q).imp fun r ms1 H1 Hf1 s1 S1 q1 v rv => ?_⟩
  unfold srcKz at q1
  split at q1
  · rename_i i
    have hi : σ[i]? = some (some v) := rv
    split at q1
    · rename_i es hm
      split at q1
      · rename_i hk
        obtain ⟨a, o, ha, _, hfr, hfa, hH, hO⟩ := S1.own _ _ _ hm
        rw [hi] at ha; cases ha
        refine ⟨a, rfl, ?_⟩
        rcases hO.dctOf (keysK_ne hk) with ⟨kvs, rfl, r⟩ | ⟨ep, xs, rfl, r⟩
        · obtain ⟨rfl, rfl⟩ := dk_keysK r hk
          refine .inr ⟨hH, fun ep => ?_⟩
          have S2 := S1.mutate hm hi (o' := DnO X.w a ep []) (d' := .dict []) (.dn .nil)
          have ef : frz (ms1.set i (some (.own false (.dict [])))) (.slot i) = some (.dict [], ms1.set i (some (.dat (.dict [])))) := by
            simp [frz, List.getElem?_set_self (List.getElem?_eq_some_iff.mp hm).1]
          obtain ⟨Hf3, s3, S3, r3⟩ := rv_frz (r := .slot i) (v := .ref a) S2 hi ef
          have h3 : Hf3 a = some (DnO X.w a ep []) := by
            generalize hd : PyData.dict [] = dd at r3
            cases r3 with
            | dk hq rq =>
              have := S3.sub _ _ hq
              rw [upd_same] at this
              cases this
            | dn hq rq =>
              have := S3.sub _ _ hq
              rw [upd_same] at this
              rw [hq, this]
            | ro h r => unfold roD at hd; injection hd with hd; cases hd
            | st h r => unfold stD at hd; injection hd with hd; cases hd
            | ins h g c r => unfold insD at hd; injection hd with hd; cases hd
            | _ => cases hd
          exact (After.hf s3 q1) _ Hf3 (.refl _) S3 _ _ _ (Grow.refl S3.sub) (itFix_nt (K := kw X) (es := []) h3 .nil)
        · have ef : frz ms1 (.slot i) = some (.dict es, ms1.set i (some (.dat (.dict es)))) := by simp [frz, hm]
          obtain ⟨Hf3, s3, S3, r3⟩ := rv_frz (r := .slot i) (v := .ref a) S1 hi ef
          generalize hd : PyData.dict es = dd at r3
          cases r3 with
          | dk hq rq =>
            injection hd with hd; subst hd
            have := S3.sub _ _ hq
            rw [hH] at this
            cases this
          | dn hq rq =>
            injection hd with hd; subst hd
            exact .inl ⟨_, _, S3.sub _ _ hq, (After.hf s3 q1) _ Hf3 (.refl _) S3 _ _ _ (Grow.refl S3.sub) (itFix_nt hq rq)⟩
          | ro h r => unfold roD at hd; injection hd with hd; exact absurd hd (keysK_ne hk _ _)
          | st h r => unfold stD at hd; injection hd with hd; exact absurd hd (keysK_ne hk _ _)
          | ins h g c r => unfold insD at hd; injection hd with hd; exact absurd hd (keysK_ne hk _ _)
          | _ => cases hd
      · exact q1.elim
    · rename_i es hm
      split at q1
      · rename_i hk
        obtain ⟨v', hv', r3⟩ := S1.dat _ _ hm
        rw [hi] at hv'; cases hv'
        generalize hd : PyData.dict es = dd at r3
        cases r3 with
        | dk hq rq =>
          injection hd with hd; subst hd
          exact absurd (dk_keysK rq hk.1).1 hk.2
        | dn hq rq =>
          injection hd with hd; subst hd
          exact ⟨_, rfl, .inl ⟨_, _, S1.sub _ _ hq, q1 H1 Hf1 (.refl _) S1 _ _ _ (Grow.refl S1.sub) (itFix_nt hq rq)⟩⟩
        | ro h r => unfold roD at hd; injection hd with hd; exact absurd hd (keysK_ne hk.1 _ _)
        | st h r => unfold stD at hd; injection hd with hd; exact absurd hd (keysK_ne hk.1 _ _)
        | ins h g c r => unfold insD at hd; injection hd with hd; exact absurd hd (keysK_ne hk.1 _ _)
        | _ => cases hd
      · exact q1.elim
    · exact q1.elim
  · exact q1.elim⟩
end
end Pl

/-! Pl29 -/
set_option Elab.async false
set_option linter.all false
set_option maxRecDepth 100000
set_option maxHeartbeats 4000000
/-! {k: v, ..} whose keys are tuples; repr of lists and tuples -/
namespace Pl
open PySem PySem.Spec PyProof.Rows L2
def mkDictN (es : List (PyData × PyData)) (ms : MS) : Out Rv := if (es.all fun p => kind1 p.1) = true then .ok (.new (.dict (dMerge es))) ms else .stuck
def mDictN (f : MPs) : ME := fun ms => (f ms).bind mkDictN
section
variable {X : Cx} {pins : List (Addr × Obj)} {σ : L2.St} {H Hf : Hp} {s : Shared}
/-- the pairs evaluated, as the library carries them -/
theorem carries_nt (I : Inv X pins σ H s) (sm : Same Hf H) : ∀ {ps : List (V × V)} {es : List (PyData × PyData)} {ws : List (Value × Value)}, RepPs (kw X) Hf ps es → VV ps ws → (es.all fun p => kind1 p.1) = true →
    ∃ ph : List (NestedKey × Addr × Value), CarriesH (nestedKind X.prog X.w) s.heap ws ph ∧ ph.length = es.length ∧ ∀ (ns0 : List (NestedKey × Addr × Value)) (e0 : List (PyData × PyData)), RepNt (kw X) Hf ns0 e0 → RepNt (kw X) Hf (storedAllH ns0 ph) (es.foldl (fun acc p => dPut acc p.1 p.2) e0)
  | _, _, ws, .nil, r, _ => by
    cases r
    exact ⟨[], trivial, rfl, fun ns0 e0 r => r⟩
  | _, _, ws, .cons (k := kx) (v := vx) (dk := dk) hk hv t, r, h => by
    rw [List.all_cons, Bool.and_eq_true] at h
    obtain ⟨l, hkl, dp, ds, rfl⟩ := kind1_some h.1
    cases r with
    | @cons a b as bs hab tl =>
      obtain ⟨b1, b2⟩ := b
      obtain ⟨r1, r2⟩ := hab
      obtain ⟨ph, c1, c2, c3⟩ := carries_nt I sm t tl h.2
      have hp : ∃ p, b1 = Value.ref p ∧ Rep (kw X) Hf (.ref p) (.tuple ds) := by
        have r1 : RelV kx b1 := r1
        cases hk with
        | tup tt ra =>
          cases r1
          exact ⟨_, rfl, .tup tt ra⟩
      obtain ⟨p, rfl, rp⟩ := hp
      have nk : (nestedKind X.prog X.w).is s.heap l p := ⟨Rep.nk I (rp.mono sm) hkl rfl, dp⟩
      exact ⟨(l, p, b2) :: ph, ⟨rfl, rfl, nk, c1⟩, by rw [List.length_cons, List.length_cons, c2], fun ns0 e0 r0 => c3 _ _ (r0.put rp hkl dp r2 hv)⟩
end
section
variable {X : Cx} {W : WX} {pos : Pos}
theorem ex_dictN {ks : List (Option Expr)} {vs : List Expr} {f : MPs} {n : Nat} (hu : X.A.units + 64 < cLine) (h : PPX X W pos ks vs f) (hn : ∀ ms es ms', f ms = .ok es ms' → es.length = n) (h15 : n ≤ 15) (hall : ks.all (·.isSome) = true) (hl : ks.length = vs.length) (h0 : ks ≠ []) (hk15 : ks.length ≤ 15) : EX X W (.Dict ks vs pos) (mDictN f) := by
  obtain ⟨trs, h1, h2⟩ := h.run
  constructor
  constructor
  intro pins s σ H Q I q
  obtain ⟨la, ms, Hf, S, q⟩ := q
  have hp : H s.heap.objs.size = none := I.hok.fresh (Nat.le_refl _)
  have hla : la.fr s.heap.objs.size = none := by
    cases hq : la.fr s.heap.objs.size with
    | none => rfl
    | some o => rw [(S.fr _ o hq).1] at hp; cases hp
  have S0 := S.framed (o := .dK []) hp
  have I1 := I.laid (a := s.heap.objs.size) (o := .dK []) (h' := s.heap.push { cls := .type "dict", data := .dict #[] }) (t' := s.toks) (fun _ _ q => Heap.get?_push_of_some _ q) (Nat.le_refl _) (dk_empty s.heap I.big)
  have hpl := pairTrees_length ks vs X.env pos hall hl
  have hne : pairTrees ks vs X.env pos ≠ [] := fun e => by rw [e] at hpl; exact h0 (List.length_eq_zero_iff.mp hpl.symm)
  rw [arm_eval_Dict, zip_pairTrees ks vs X.env pos hall hl, dictDisplay_pairs _ hne (by omega)]
  refine wpAny_bind (wpAny_standAt (wpAny_bind (wpAny_subDictH (knd := nestedKind X.prog X.w) (Q := fun d s' => wpAny (model X.prog X.w) X.A (pure (Value.ref d)) (EP X pins σ Q) X.xe s') (show X.A.units + 8 < cLine by omega) (by omega) ?_)))
  refine thn (h1.run pins _ σ _ (fun ps H2 => H2 s.heap.objs.size = some (.dK []) ∧ ∃ ms' Hf' es, Same Hf Hf' ∧ SR (kw X) (la.with s.heap.objs.size (.dK [])) ms' σ H2 Hf' ∧ RepPs (kw X) Hf' ps es ∧ es.length = n ∧ After (kw X) X.mg W la σ Hf (fun r ms' H' Hf' => ∀ v, RvR (kw X) la ms' σ H' Hf' v r → Q v H') (mkDictN es ms')) I1 (h2 _ _ _ ⟨la.with s.heap.objs.size (.dK []), ms, Hf, S0, ?_⟩)) ?_
  · have q0 : After (kw X) X.mg W la σ Hf (fun r ms' H' Hf' => ∀ v, RvR (kw X) la ms' σ H' Hf' v r → Q v H') ((f ms).bind mkDictN) := q
    cases hf : f ms with
    | stuck => rw [hf] at q0; exact q0.elim
    | exc c fs ms' => rw [hf] at q0; exact fun cls d H' Hf' s' S' => q0 cls d H' Hf' s' (S'.unframed hla)
    | ok es ms' =>
      rw [hf] at q0
      intro H' Hf' s' S' ps rps
      exact ⟨S'.inFrame.1, ms', Hf', es, s', S', rps, hn _ _ _ hf, q0⟩
  · intro ws s2 ⟨ps, H2, I2, rel, hD, ms', Hf', es, s', S', rps, hlen, q1⟩
    unfold mkDictN at q1
    split at q1
    · rename_i ka
      obtain ⟨ph, c1, c2, c3⟩ := carries_nt I2 S'.sub rps rel ka
      obtain ⟨z, hd, vs0, r0, dd⟩ := dk_of I2.hok hD
      cases r0
      refine ⟨ph, c1, dn_empty dd, fun h' tk hd' hs => wpAny_pure ?_⟩
      obtain ⟨qo, es', ep, hq, g2, g3, g4, g5, g6⟩ := hd'
      have rn := c3 [] [] .nil
      have hsz : (storedAllH [] ph).length ≤ sizeLine := by
        have := storedAllH_length ph []
        rw [List.length_nil, Nat.zero_add, c2, hlen] at this
        rw [sizeLine_eq]; omega
      have okD : DnP X.w s.heap.objs.size ep (storedAllH [] ph) h' := ⟨hsz, hd, g6, qo, es', hq, g2, g3, g4⟩
      have I3 : Inv X pins σ (upd H2 s.heap.objs.size (DnO X.w s.heap.objs.size ep (storedAllH [] ph))) { s2 with heap := h', toks := tk } :=
        d_write I2 (by rw [hD]; trivial) hs ⟨qo, hq⟩ (ob := DnO X.w s.heap.objs.size ep (storedAllH [] ph)) ⟨okD, ⟨qo, hq⟩, fun j1 j2 p1 p2 => by
          obtain ⟨z1, z2, z3, o1, es1, z4, z5⟩ := p1
          exact ⟨z1, z2, z3, o1, es1, p2 _ z4, z5⟩⟩
      have inf := S'.inFrame
      have S2 := (S'.reframed (o' := DnO X.w s.heap.objs.size ep (storedAllH [] ph))).unframed hla
      refine ⟨.ref s.heap.objs.size, _, I3, rfl, q1 _ Hf' s' S2 _ ⟨s.heap.objs.size, _, rfl, hla, inf.2, upd_same, .dn rn, fun i l d' hi zz => ?_⟩⟩
      obtain ⟨a, ob, e, m, fr, nn, qq, rr⟩ := S'.own i l d' hi
      rw [zz] at e
      injection e with e; injection e with e; injection e with e
      subst e
      exact (fr_with.mp fr).1 rfl
    · exact q1.elim
/-- repr of a list or a tuple -/
def seqD : PyData → Bool
  | .list _ => true
  | .tuple _ => true
  | _ => false
def pRepr (as : List PyData) : Option Rv := match as with
  | [d] => if (seqD d && dep d && PyData.showable d && !PyData.hasDict d && decide ((PyData.shown d).length ≤ SZ)) = true then some (.dat (.str (PyData.shown d))) else none
  | _ => none
theorem call_pRepr (hG : X.A.guards = some []) (hu : X.A.units + 70 < cLine) : CallR X (.builtin "repr") (rDs (kw X) pRepr) := by
  intro pins s σ H xs us Q I r h
  obtain ⟨Hf, ds, rr, sm, va, hg, k⟩ := h
  unfold pRepr at hg
  split at hg
  · rename_i d
    split at hg
    · rename_i hc
      simp only [Bool.and_eq_true, Bool.not_eq_true', decide_eq_true_eq] at hc
      obtain ⟨⟨⟨⟨h1, h2⟩, h3⟩, h4⟩, h5⟩ := hc
      injection hg with hg; subst hg
      obtain ⟨x, rfl, vx⟩ := va.one
      obtain ⟨u, eu, rx⟩ := vals1 r
      subst eu
      simp only [dep, Bool.and_eq_true, decide_eq_true_eq] at h2
      obtain ⟨as, rd⟩ := vx.reads I sm h2.1 rx
      have hr : ∃ a, u = .ref a := by
        cases d <;> simp [seqD] at h1
        · obtain ⟨a, _, e, _⟩ := vx.lst sm; subst e; exact ⟨a, rx⟩
        · obtain ⟨a, _, e, _⟩ := vx.tup sm; subst e; exact ⟨a, rx⟩
      obtain ⟨a, rfl⟩ := hr
      refine repr_of_reads' rd h3 (fun z => by rw [h4] at z; cases z) hG (by omega) (fun b o e => e) (fun h' t tk hk => ?_) (show (PyData.shown d).length ≤ sizeLine from by rw [sizeLine_eq]; exact h5)
      exact ⟨.str _, H, I.kept (t' := tk) hk, ⟨t, rfl⟩, give sm (.str _) k⟩
    · cases hg
  · cases hg
end
end Pl

/-! Pl30 -/
set_option Elab.async false
set_option linter.all false
set_option maxRecDepth 100000
set_option maxHeartbeats 4000000
/-! Instances of the module's classes: made, asked for a field, given one, asked a method. -/
namespace Pl
open PySem PySem.Spec PyProof.Rows L2
/-! the data -/
def decF : List PyData → Option (List (Str × PyData))
  | [] => some []
  | .tuple [.str f, d] :: r => (decF r).map ((f, d) :: ·)
  | _ => none
theorem decF_fld : ∀ es : List (Str × PyData), decF (fldD es) = some es
  | [] => rfl
  | (f, d) :: es => by
    have e : fldD ((f, d) :: es) = .tuple [.str f, d] :: fldD es := rfl
    rw [e, decF, decF_fld es]
    rfl
/-- an instance's class and fields -/
def unIns : PyData → Option (Str × List (Str × PyData))
  | .dict [(.list [.str c], .list fl)] => (decF fl).map (c, ·)
  | _ => none
theorem unIns_ins (c : Str) (es : List (Str × PyData)) : unIns (insD c es) = some (c, es) := by
  show (decF (fldD es)).map (c, ·) = _
  rw [decF_fld]
  rfl
theorem decF_inv : ∀ {fl : List PyData} {es : List (Str × PyData)}, decF fl = some es → fl = fldD es
  | [], _, h => by cases h; rfl
  | d :: r, es, h => by
    unfold decF at h
    split at h
    · rename_i heq; cases heq
    · rename_i f d' r' heq
      cases heq
      cases e : decF r with
      | none => rw [e] at h; cases h
      | some es' =>
        rw [e] at h
        cases h
        have := decF_inv e
        subst this
        rfl
    · cases h
theorem unIns_inv {d : PyData} {c : Str} {es : List (Str × PyData)} (h : unIns d = some (c, es)) : d = insD c es := by
  unfold unIns at h
  split at h
  · rename_i c' fl
    cases e : decF fl with
    | none => rw [e] at h; cases h
    | some es' =>
      rw [e] at h
      cases h
      rw [decF_inv e]
      rfl
  · cases h
def putE (f : Str) (d : PyData) : List (Str × PyData) → List (Str × PyData)
  | [] => [(f, d)]
  | (g, x) :: r => if g = f then (g, d) :: r else (g, x) :: putE f d r
section
variable {K : KW} {H Hf : Hp} {v : V}
theorem Vw.insOf (s : Same Hf H) {c : Str} {es : List (Str × PyData)} (h : Vw K H Hf v (insD c es)) : ∃ a dx C fs, v = .ref a ∧ H a = some (.ins C dx fs) ∧ ClsAt K c C ∧ RepFl K Hf fs es := by
  rcases h with h | ⟨a, o, rfl, e, q⟩
  · generalize hd : insD c es = d at h
    cases h with
    | @ins a dx C c' fs es' h g cl r =>
      have := unIns_ins c es
      rw [hd, unIns_ins] at this
      cases this
      exact ⟨_, _, _, _, rfl, s _ _ h, cl, r⟩
    | dk h r => unfold insD at hd; injection hd with hd; subst hd; exact (repKv_keyL r).elim
    | dn h r => unfold insD at hd; injection hd with hd; subst hd; exact (repNt_key r).elim
    | ro h r => simp [insD, roD] at hd
    | st h r => simp [insD, stD] at hd
    | _ => cases hd
  · generalize hd : insD c es = d at q
    cases q with
    | lst r => cases hd
    | dk r => unfold insD at hd; injection hd with hd; subst hd; exact (repKv_keyL r).elim
    | dn r => unfold insD at hd; injection hd with hd; subst hd; exact (repNt_key r).elim
    | st r => simp [insD, stD] at hd
    | @ins dx C c' fs es' g cl r =>
      have := unIns_ins c es
      rw [hd, unIns_ins] at this
      cases this
      exact ⟨_, _, _, _, rfl, e, cl, r⟩
theorem RepFl.look {f : Str} {d : PyData} : ∀ {fs : List (Str × V)} {es : List (Str × PyData)}, RepFl K H fs es → es.lookup f = some d → ∃ w, fs.lookup f = some w ∧ Rep K H w d
  | _, _, .nil, h => by cases h
  | _, _, .cons (f := g) r t, h => by
    rw [List.lookup_cons] at h ⊢
    cases e : f == g with
    | true => rw [e] at h; cases h; exact ⟨_, rfl, r⟩
    | false => rw [e] at h; exact t.look h
theorem RepFl.lookN {f : Str} : ∀ {fs : List (Str × V)} {es : List (Str × PyData)}, RepFl K H fs es → es.lookup f = none → fs.lookup f = none
  | _, _, .nil, h => rfl
  | _, _, .cons (f := g) r t, h => by
    rw [List.lookup_cons] at h ⊢
    cases e : f == g with
    | true => rw [e] at h; cases h
    | false => rw [e] at h; exact t.lookN h
theorem RepFl.put {f : Str} {y : V} {d : PyData} (ry : Rep K H y d) : ∀ {fs : List (Str × V)} {es : List (Str × PyData)}, RepFl K H fs es → RepFl K H (putF f y fs) (putE f d es)
  | _, _, .nil => .cons ry .nil
  | _, _, .cons (f := g) r t => by
    unfold putF putE
    by_cases h : g = f
    · rw [if_pos h, if_pos h]; exact .cons ry t
    · rw [if_neg h, if_neg h]; exact .cons r (t.put ry)
theorem RepFl.length : ∀ {fs : List (Str × V)} {es : List (Str × PyData)}, RepFl K H fs es → fs.length = es.length
  | _, _, .nil => rfl
  | _, _, .cons _ t => congrArg (· + 1) t.length
end
/-! a field is read -/
def pAttr (cs : List Str) (f : Str) (d : PyData) : Option Rv := match unIns d with
  | some (c, es) => if c ∈ cs then (es.lookup f).map .dat else none
  | none => none
section
variable {X : Cx} {W : WX} {e o value : Expr} {f : Str} {pos pos' : Pos}
theorem ex_attr {cs : List Str} {fe : ME} (HC : ∀ c ∈ cs, ∀ C, ClsAt (kw X) c C → Cls X.K C ∧ NoAttr X.K C f) (h : EX X W e fe) (hb : attributeBase e f X.env (eval e X.env) = eval e X.env := by rfl) : EX X W (.Attribute e f pos) (mUn (pAttr cs f) fe) := ⟨PE.imp (pe_fld h.pe hb) fun σ H Q q => by
  obtain ⟨la, ms, Hf, S, q⟩ := q
  refine ⟨la, ms, Hf, S, (After.bind q).imp fun r ms1 H1 Hf1 s1 S1 q1 v rv => ?_⟩
  cases e1 : view ms1 r with
  | none => rw [e1] at q1; exact q1.elim
  | some d =>
    rw [e1] at q1
    simp only at q1
    cases e2 : pAttr cs f d with
    | none => rw [e2] at q1; exact q1.elim
    | some r' =>
      rw [e2] at q1
      unfold pAttr at e2
      split at e2
      · rename_i c es hu
        split at e2
        · rename_i hc
          cases e3 : es.lookup f with
          | none => rw [e3] at e2; cases e2
          | some d' =>
            rw [e3] at e2
            cases e2
            have := unIns_inv hu
            subst this
            obtain ⟨a, dx, C, fs, rfl, ha, cl, rf⟩ := (RvR.vw S1 rv e1).insOf S1.sub
            obtain ⟨w, hw, rw'⟩ := rf.look e3
            obtain ⟨h1, h2⟩ := HC c hc C cl
            exact ⟨a, C, dx, fs, w, rfl, ha, h1, h2, hw, q1 H1 Hf1 (.refl _) S1 _ rw'⟩
        · cases e2
      · cases e2⟩
/-! a field is given -/
def mFld (cs : List Str) (i : Nat) (f : Str) (fv : ME) : MX := fun ms => SO.of (fv ms) fun rv ms1 => match frz ms1 rv with
  | some (dv, ms2) => match ms2[i]? with
    | some (some (.own l d)) => match unIns d with
      | some (c, es) => if c ∈ cs ∧ es.length < 1000 then .nx (ms2.set i (some (.own l (insD c (putE f dv es))))) else .stuck
      | none => .stuck
    | _ => .stuck
  | none => .stuck
theorem sx_fld {cs : List Str} {i : Nat} {fv : ME} (HC : ∀ c ∈ cs, ∀ C, ClsAt (kw X) c C → Cls X.K C ∧ NoAttr X.K C f) (hv : EX X W value fv) (ho : EX X W o (mVar i)) (hs : swapsWith value (some (.Attribute o f pos')) pos.line X.env = pure false := by rfl) : SX X W (.Assign [.Attribute o f pos'] value pos) (mFld cs i f fv) := ⟨PS.imp (ps_fld ho.pe hv.pe hs) fun D σ H q => by
  obtain ⟨la, ms, Hf, S, q⟩ := q
  refine ⟨la, ms, Hf, S, (AfterS.of q).imp fun r ms1 H1 Hf1 s1 S1 q1 y ry => ?_⟩
  cases e1 : frz ms1 r with
  | none => rw [e1] at q1; exact q1.elim
  | some p =>
    obtain ⟨dv, ms2⟩ := p
    rw [e1] at q1
    simp only at q1
    obtain ⟨Hf2, s2, S2, ry2⟩ := rv_frz S1 ry e1
    have q2 := AfterS.hf s2 q1
    cases e2 : ms2[i]? with
    | none => rw [e2] at q2; exact q2.elim
    | some z =>
      rw [e2] at q2
      cases z with
      | none => exact q2.elim
      | some z =>
        cases z with
        | dat d => exact q2.elim
        | own l d =>
          simp only at q2
          cases e3 : unIns d with
          | none => rw [e3] at q2; exact q2.elim
          | some ce =>
            obtain ⟨c, es⟩ := ce
            rw [e3] at q2
            simp only at q2
            split at q2
            · rename_i hc
              have hvar : mVar i ms2 = .ok (.slot i) ms2 := by simp [mVar, e2]
              refine ⟨la, ms2, Hf2, S2, ?_⟩
              rw [hvar]
              intro H3 Hf3 s3 S3 x rx
              have rx : σ[i]? = some (some x) := rx
              have := unIns_inv e3
              subst this
              obtain ⟨a, o', ea, hla, hfr, hfa, hH, hO⟩ := S3.own _ _ _ e2
              rw [rx] at ea; cases ea
              have hins : ∃ dx C fs, o' = .ins C dx fs ∧ Hf3 dx = some (.own a) ∧ ClsAt (kw X) c C ∧ RepFl (kw X) Hf3 fs es := by
                generalize hd : insD c es = dd at hO
                cases hO with
                | lst r => cases hd
                | dk r => unfold insD at hd; injection hd with hd; subst hd; exact (repKv_keyL r).elim
                | dn r => unfold insD at hd; injection hd with hd; subst hd; exact (repNt_key r).elim
                | st r => simp [insD, stD] at hd
                | ins g cl r =>
                  have := unIns_ins c es
                  rw [hd, unIns_ins] at this
                  cases this
                  exact ⟨_, _, _, rfl, g, cl, r⟩
              obtain ⟨dx, C, fs, rfl, hdx, cl, rf⟩ := hins
              obtain ⟨h1, h2⟩ := HC c hc.1 C cl
              refine ⟨a, C, dx, fs, rfl, hH, h1, h2, by rw [rf.length]; exact hc.2, ?_⟩
              have S4 := S3.mutate e2 rx (o' := .ins C dx (putF f y fs)) (d' := insD c (putE f dv es)) (.ins hdx cl (rf.put (ry2.mono s3)))
              exact (AfterS.hf s3 q2) σ _ Hf3 (.refl _) S4
            · exact q2.elim⟩
end
end Pl

/-! Pl31 -/
set_option Elab.async false
set_option linter.all false
set_option maxRecDepth 100000
set_option maxHeartbeats 4000000
/-! An instance is made; a method is asked. -/
namespace Pl
open PySem PySem.Spec PyProof.Rows L2
section
variable {K : KW} {la : Fm} {ms : MS} {σ : L2.St} {H Hf : Hp}
theorem get_left {α : Type} {l r : List α} {i : Nat} {x : α} (h : l[i]? = some x) : (l ++ r)[i]? = some x := by
  rw [List.getElem?_append_left (List.getElem?_eq_some_iff.mp h).1]; exact h
/-- one more slot, with an object of one's own -/
theorem SR.push {x : Addr} {o : HO} {d : PyData} (S : SR K la ms σ H Hf) (hx : ∀ (i : Nat) (l : Bool) (d' : PyData), ms[i]? = some (some (.own l d')) → σ[i]? ≠ some (some (.ref x))) (hf : la.fr x = none) (hn : Hf x = none) (ho : H x = some o) (r : OObj K Hf x o d) :
    SR K la (ms ++ [some (.own false d)]) (σ ++ [some (.ref x)]) H Hf := by
  have hl := S.len
  have conv : ∀ {i : Nat} {y : SV}, (ms ++ [some (.own false d)])[i]? = some (some y) → (ms[i]? = some (some y) ∧ i < ms.length) ∨ (i = ms.length ∧ y = .own false d) := by
    intro i y e
    by_cases h : i < ms.length
    · rw [List.getElem?_append_left h] at e; exact .inl ⟨e, h⟩
    · rw [List.getElem?_append_right (by omega)] at e
      by_cases h2 : i = ms.length
      · subst h2
        simp at e
        exact .inr ⟨rfl, e.symm⟩
      · rw [List.getElem?_eq_none (by simp; omega)] at e
        cases e
  have sl : ∀ {i : Nat}, i < ms.length → (σ ++ [some (V.ref x)])[i]? = σ[i]? := fun h => List.getElem?_append_left (by omega)
  have sr : (σ ++ [some (V.ref x)])[ms.length]? = some (some (.ref x)) := by rw [hl]; simp
  refine ⟨by simp [hl], fun i d' e => ?_, fun i l d' e => ?_, fun i j a l d1 l' d2 e1 e2 f1 f2 => ?_, S.sub, S.fr⟩
  · rcases conv e with ⟨e0, hi⟩ | ⟨_, e0⟩
    · rw [sl hi]; exact S.dat i d' e0
    · cases e0
  · rcases conv e with ⟨e0, hi⟩ | ⟨hi, e0⟩
    · rw [sl hi]; exact S.own i l d' e0
    · cases e0
      subst hi
      exact ⟨x, o, sr, (fun h => Bool.noConfusion h), hf, hn, ho, r⟩
  · rcases conv e1 with ⟨a1, hi⟩ | ⟨hi, a1⟩ <;> rcases conv e2 with ⟨a2, hj⟩ | ⟨hj, a2⟩
    · rw [sl hi] at f1; rw [sl hj] at f2; exact S.apart i j a l d1 l' d2 a1 a2 f1 f2
    · subst hj; rw [sl hi] at f1; rw [sr] at f2; cases f2; exact absurd f1 (hx i l d1 a1)
    · subst hi; rw [sr] at f1; cases f1; rw [sl hj] at f2; exact absurd f2 (hx j l' d2 a2)
    · rw [hi, hj]
/-- and taken away again -/
theorem SR.pop {y : Option V} {n : Nat} {ms2 : MS} (hn : σ.length = n) (S : SR K la ms2 (σ ++ [y]) H Hf) : SR K la (ms2.take n) σ H Hf := by
  have hl : ms2.length = n + 1 := by rw [S.len]; simp [hn]
  have conv : ∀ {i : Nat} {z : Option SV}, (ms2.take n)[i]? = some z → ms2[i]? = some z ∧ i < n := by
    intro i z e
    have hi := (List.getElem?_eq_some_iff.mp e).1
    rw [List.length_take] at hi
    rw [List.getElem?_take_of_lt (by omega)] at e
    exact ⟨e, by omega⟩
  have sl : ∀ {i : Nat}, i < n → (σ ++ [y])[i]? = σ[i]? := fun h => List.getElem?_append_left (by omega)
  refine ⟨by rw [List.length_take, hl]; omega, fun i d' e => ?_, fun i l d' e => ?_, fun i j a l d1 l' d2 e1 e2 f1 f2 => ?_, S.sub, S.fr⟩
  · obtain ⟨e, hi⟩ := conv e
    have := S.dat i d' e
    rwa [sl hi] at this
  · obtain ⟨e, hi⟩ := conv e
    have := S.own i l d' e
    rwa [sl hi] at this
  · obtain ⟨e1, hi⟩ := conv e1
    obtain ⟨e2, hj⟩ := conv e2
    exact S.apart i j a l d1 l' d2 e1 e2 (by rw [sl hi]; exact f1) (by rw [sl hj]; exact f2)
theorem rvs_left {Hf2 : Hp} {r : List (Option V)} (s : Same Hf Hf2) : ∀ {vs : List V} {rs : List Rv}, RvRs K σ Hf vs rs → RvRs K (σ ++ r) Hf2 vs rs
  | _, _, .nil => .nil
  | _, _, .cons (a := v) (b := q) h t => .cons (by
      cases q with
      | dat d => exact Rep.mono s h
      | new d => exact h
      | slot i => exact get_left h) (rvs_left s t)
end
/-! making -/
def tMakeS (C : Addr) (sp : Sp) (E : St → XK) (t : TA) : TE := fun σ H Q => t σ H fun vs H1 => ∀ x dx, H1 x = none → H1 dx = none → dx ≠ x → sp (.ref x :: vs) (upd (upd H1 dx (.own x)) x (.ins C dx [])) (fun v H2 => v = .non ∧ Q (.ref x) H2) (E σ)
section
variable {X : Cx} {W : WX} {k : Nat} {f C : Addr} {fd : FuncData} {ps : List Str} {sp : Sp} {E : St → XK} {x m : Str} {p pos apos : Pos} {e o : Expr} {es : List Expr} {t : TA} {ta : TE}
theorem gd_make (M : Mk X.K C f) (F : GdOk X.prog X.w X.K X.mg X.base k f fd ps sp) (hG : X.A.guards = some []) (hr : Room (k + 1) X.A) (hg : Gl X x) (hm : X.mg x = some (.ref C)) (hb : Binds X.K fd ps []) (hx : ∀ σ, PassesAt (L2.CX X.prog X.w) X σ (E σ))
    (ha : PA X (e :: es) t) (hdb : (x == ("__debug__" : Str)) = false := by decide) (he : starEach (e :: es) X.env = (false, eval e X.env) :: starEach es X.env := by rfl) (hpl : (backTo pos (starEach es X.env)).any (·.1) = false := by rfl) :
    PE X (.Call (.Name x p) (e :: es) [] pos) (tMakeS C sp E t) := by
  constructor
  intro pins s σ H Q I h
  refine wpAny_Call_Name_kw (ld_glob I hg hm ?_ hdb)
  refine PySem.W.callWith_K (h₀ := X.base) I.ok.mod.kin M.kp (thn (ha.run pos pins s σ H _ I h) ?_) he hpl
  rintro us s1 ⟨vs, H1, J, rv, q⟩
  refine ⟨J.kIn, ?_⟩
  have hq := q (s1.heap.objs.size + 1) s1.heap.objs.size (J.hok.fresh (Nat.le_succ _)) (J.hok.fresh (Nat.le_refl _)) (Nat.ne_of_lt (Nat.lt_succ_self _))
  have J2 := Inv.made (C := C) J
  have rv2 : Vals (V.ref (s1.heap.objs.size + 1) :: vs) (Value.ref (s1.heap.objs.size + 1) :: us) := .cons rfl rv
  have bound : BindsTo { s1 with heap := (s1.heap.push PySem.W.emptyDict).push (PySem.W.instObj C s1.heap.objs.size) } fd ⟨Value.ref (s1.heap.objs.size + 1) :: us, []⟩ (ps.zip (Value.ref (s1.heap.objs.size + 1) :: us)) := by
    have b := hb { s1 with heap := (s1.heap.push PySem.W.emptyDict).push (PySem.W.instObj C s1.heap.objs.size) } (Value.ref (s1.heap.objs.size + 1) :: us) J2.kIn (by rw [List.append_nil, ← rv2.length]; exact F.lenG _ _ _ _ hq)
    rwa [List.append_nil] at b
  have hG2 : (X.A.under (.builtin "type.__call__" ⟨.ref C :: us, []⟩)).guards = some [] := by
    have hg0 : Code.isGuard (.builtin "type.__call__" ⟨.ref C :: us, []⟩) = false := by show guardIds.contains "type.__call__" = false; decide
    simp [Around.under, Code.guards, hg0, pushGuards, hG]
  refine wpAny_call (make_map (f := f) J.kIn M.makes M.init (beq_iff_eq.mp M.fn) (codeAny_mono (F.runG _ hG2 X.stack _ _ ⟨Value.ref (s1.heap.objs.size + 1) :: us, []⟩ (Value.ref (s1.heap.objs.size + 1) :: us) _ _ (E σ) (hr.make C us []) (J2.env0.make C us []) bound rv2 hq) ?_))
  intro r s' hq'
  match r, hq' with
  | .error e, hq' => exact hx σ pins _ _ e s' J2 hq'
  | .ok (.ret u), hq' =>
    obtain ⟨v, H', J3, rv', ev, q3⟩ := J2.after hq'
    subst ev
    exact ⟨rv', ⟨V.ref (s1.heap.objs.size + 1), H', J3, rfl, q3⟩⟩
def mMake (c : Str) (F : Fn) (fa : MA) : ME := fun ms => (fa ms).bind fun rs ms1 => match callOut F (.slot ms1.length :: rs) (ms1 ++ [some (.own false (insD c []))]) with
  | .ok (.dat .none) ms2 => (match ms2[ms1.length]? with
    | some (some (.own false d')) => .ok (.new d') (ms2.take ms1.length)
    | _ => .stuck)
  | .exc c fs ms2 => .exc c fs (ms2.take ms1.length)
  | _ => .stuck
theorem ex_make {F : Fn} {fa : MA} (G : GdOk X.prog X.w X.K X.mg X.base k f fd ps (spF (kw X) X.mg ps.length F)) (M : Mk X.K C f) (hC : ClsAt (kw X) x C) (hG : X.A.guards = some []) (hr : Room (k + 1) X.A) (hg : Gl X x) (hm : X.mg x = some (.ref C)) (hb : Binds X.K fd ps []) (tk : Takes X W)
    (ha : AX X W (e :: es) fa) (hlen : ∀ ms rs ms', fa ms = .ok rs ms' → rs.length + 1 = ps.length) (hdb : (x == ("__debug__" : Str)) = false := by decide)
    (he : starEach (e :: es) X.env = (false, eval e X.env) :: starEach es X.env := by rfl) (hpl : (backTo pos (starEach es X.env)).any (·.1) = false := by rfl) : EX X W (.Call (.Name x p) (e :: es) [] pos) (mMake x F fa) :=
  ⟨PE.imp (gd_make M G hG hr hg hm hb (fun σ => passAt tk σ) ha.pa hdb he hpl) fun σ H Q q => by
    obtain ⟨la, ms, Hf, S, q⟩ := q
    have q' := After.bind q
    refine ⟨la, ms, Hf, S, ?_⟩
    cases hfa : fa ms with
    | stuck => rw [hfa] at q'; exact q'
    | exc c fs ms1 => rw [hfa] at q'; exact q'
    | ok rs ms1 =>
      rw [hfa] at q'
      intro H1 Hf1 s1 S1 vs rv X0 dx hX hdx hne
      have q1 : After (kw X) X.mg W la σ Hf1 (fun r ms' H' Hf' => ∀ v, RvR (kw X) la ms' σ H' Hf' v r → Q v H') (match callOut F (.slot ms1.length :: rs) (ms1 ++ [some (.own false (insD x []))]) with
        | .ok (.dat .none) ms2 => (match ms2[ms1.length]? with
          | some (some (.own false d')) => .ok (.new d') (ms2.take ms1.length)
          | _ => .stuck)
        | .exc c fs ms2 => .exc c fs (ms2.take ms1.length)
        | _ => .stuck) := q' H1 Hf1 s1 S1
      have hn := S1.len
      -- the state with the new instance in a slot of its own
      have Sd := S1.frozen (o := .own X0) hdx
      have hX' : (upd H1 dx (.own X0)) X0 = none := by rw [upd_ne (Ne.symm hne)]; exact hX
      have Sx := Sd.laid (o := .ins C dx []) hX'
      have nox : ∀ (i : Nat) (l : Bool) (d' : PyData), ms1[i]? = some (some (.own l d')) → σ[i]? ≠ some (some (.ref X0)) := fun i l d' hi z => by
        obtain ⟨b, ob, eb, _, _, _, qb, _⟩ := S1.own i l d' hi
        rw [z] at eb; cases eb
        rw [hX] at qb; cases qb
      have lax : la.fr X0 = none := by
        cases hq : la.fr X0 with
        | none => rfl
        | some u => rw [(S1.fr X0 u hq).1] at hX; cases hX
      have hfx : (upd Hf1 dx (.own X0)) X0 = none := by rw [upd_ne (Ne.symm hne)]; exact S1.sub.free hX
      have SP := Sx.push nox lax hfx upd_same (OObj.ins (c := x) (es := []) (dx := dx) upd_same hC .nil)
      have rvP : RvRs (kw X) (σ ++ [some (.ref X0)]) (upd Hf1 dx (.own X0)) (.ref X0 :: vs) (.slot ms1.length :: rs) := .cons (by show (σ ++ [some (V.ref X0)])[ms1.length]? = _; rw [hn]; simp) (rvs_left (same_upd (S1.sub.free hdx)) rv)
      unfold callOut at q1
      cases hnd : nodupB (lentOf (ms1 ++ [some (.own false (insD x []))]) (.slot ms1.length :: rs)) with
      | false => rw [hnd, if_neg Bool.false_ne_true] at q1; exact False.elim q1
      | true =>
        rw [hnd, if_pos rfl] at q1
        cases hta : toArgs (ms1 ++ [some (.own false (insD x []))]) (.slot ms1.length :: rs) with
        | none => rw [hta] at q1; exact False.elim q1
        | some args =>
          rw [hta] at q1
          simp only at q1
          refine ⟨by rw [List.length_cons, Paired.length rv]; exact hlen ms rs ms1 hfa, args, laOf (ms1 ++ [some (.own false (insD x []))]) (σ ++ [some (.ref X0)]) 0 (.slot ms1.length :: rs), upd Hf1 dx (.own X0), frOf _ _ (laOf (ms1 ++ [some (.own false (insD x []))]) (σ ++ [some (.ref X0)]) 0 (.slot ms1.length :: rs)), args_of SP rvP hta, la_nodup SP hnd, SP.sub, fun a o h => frOf_some h, ?_⟩
          have hs0 : Same Hf1 (upd Hf1 dx (.own X0)) := same_upd (S1.sub.free hdx)
          cases hF : F args with
          | stuck => rw [hF] at q1; exact False.elim q1
          | ret r ds =>
            rw [hF] at q1
            intro v H' Hf' po mu ro
            have S2 := SP.back hnd po mu
            simp only at q1
            split at q1
            · rename_i heq
              cases heq
              have rn : Rep (kw X) Hf' v .none := ro
              cases rn
              refine ⟨rfl, ?_⟩
              split at q1
              · rename_i d' hd'
                have S3 := S2.pop hn.symm
                obtain ⟨a, oo, ea, _, fa', na, ha', ra⟩ := S2.own _ _ _ hd'
                rw [hn] at ea
                simp at ea
                subst ea
                refine q1 H' Hf' (hs0.trans po.ff) S3 _ ⟨X0, oo, rfl, fa', na, ha', ra, fun i l dd hi z => ?_⟩
                have hi2 : i < ms1.length := by
                  have := (List.getElem?_eq_some_iff.mp hi).1
                  rw [List.length_take] at this
                  omega
                rw [List.getElem?_take_of_lt hi2] at hi
                have := S2.apart i ms1.length X0 _ _ _ _ hi hd' (get_left z) (by rw [hn]; simp)
                omega
              · exact q1.elim
            · rename_i heq; cases heq
            · exact q1.elim
          | exc c fs ds =>
            rw [hF] at q1
            intro cls d H' Hf' po mu ex
            exact q1 cls d H' Hf' (hs0.trans po.ff) ((SP.back hnd po mu).pop hn.symm) ex⟩
/-! a method -/
def tMethS (C : Addr) (m : Str) (sp : Sp) (E : St → XK) (ta : TE) (t : TA) : TE := fun σ H Q => ta σ H fun x H1 => ∃ a dx fs, x = .ref a ∧ H1 a = some (.ins C dx fs) ∧ fs.lookup m = none ∧ t σ H1 fun vs H2 => sp (.ref a :: vs) H2 Q (E σ)
theorem gd_run (F : GdOk X.prog X.w X.K X.mg X.base k f fd ps sp) (hG : X.A.guards = some []) (hr : Room k X.A) (hb : Binds X.K fd ps []) {σ : L2.St} (hx : PassesAt (L2.CX X.prog X.w) X σ (E σ)) {pins : List (Addr × Obj)} {H : Hp} {s : Shared} {Q : VK} {us : List Value} {vs : List V} (J : Inv X pins σ H s) (rv : Vals vs us) (q : sp vs H Q (E σ)) :
    wpAny (model X.prog X.w) X.A (call (.ref f) us) (EP X pins σ Q) X.xe s := by
  have bound : BindsTo s fd ⟨us, []⟩ (ps.zip us) := by
    have b := hb s us J.kIn (by rw [List.append_nil, ← rv.length]; exact F.lenG _ _ _ _ q)
    rwa [List.append_nil] at b
  refine wpAny_call (codeAny_mono (F.runG X.A hG X.stack s H ⟨us, []⟩ us vs Q (E σ) hr J.env0 bound rv q) ?_)
  intro r s' hq
  match r, hq with
  | .error e, hq => exact hx pins H s e s' J hq
  | .ok (.ret u), hq => exact J.after hq
theorem gd_meth {pl : Sem Bool} (he : PE X o ta) (c : Cls X.K C) (hm : Meth X.K C m f) (F : GdOk X.prog X.w X.K X.mg X.base k f fd ps sp) (hG : X.A.guards = some []) (hr : Room k X.A) (hb : Binds X.K fd ps []) (hx : ∀ σ, PassesAt (L2.CX X.prog X.w) X σ (E σ)) (ha : PA X (e :: es) t)
    (hst : starEach (e :: es) X.env = (false, eval e X.env) :: starEach es X.env := by rfl) (hpl : (backTo pos (starEach es X.env)).any (·.1) = false := by rfl)
    (ht : eval (.Call (.Attribute o m apos) (e :: es) [] pos) X.env = (do
      let ov ← eval o X.env
      standAt apos.atName
      let (f, first) ← holding [ov] (getMethod ov m pl)
      callWith pos f first (backTo pos (starEach (e :: es) X.env)) (backToKw pos (keywordEach [] X.env))) := by rfl) :
    PE X (.Call (.Attribute o m apos) (e :: es) [] pos) (tMethS C m sp E ta t) := by
  constructor
  intro pins s σ H Q I h
  refine PySem.W.methodCall_KW (pl := pl) (thn (he.run pins s σ H _ I h) ?_) ht
  rintro u s1 ⟨x, H1, I1, rx, a, dx, fs, ex, ea, l, q⟩
  subst ex
  obtain rfl : u = Value.ref a := rx
  refine getmeth_ok I1 ea c hm l ?_
  refine PySem.W.callWith_K (first := [.ref a]) (h₀ := X.base) I1.ok.mod.kin hm.kp (thn (ha.run pos pins s1 σ H1 _ I1 q) ?_) hst hpl
  rintro us s2 ⟨vs, H2, I2, r, q2⟩
  exact ⟨I2.kIn, gd_run (us := .ref a :: us) (vs := .ref a :: vs) F hG hr hb (hx σ) I2 (.cons rfl r) q2⟩
theorem gd_meth0 {pl : Sem Bool} (he : PE X o ta) (c : Cls X.K C) (hm : Meth X.K C m f) (F : GdOk X.prog X.w X.K X.mg X.base k f fd ps sp) (hG : X.A.guards = some []) (hr : Room k X.A) (hb : Binds X.K fd ps []) (hx : ∀ σ, PassesAt (L2.CX X.prog X.w) X σ (E σ))
    (ht : eval (.Call (.Attribute o m apos) [] [] pos) X.env = (do
      let ov ← eval o X.env
      standAt apos.atName
      let (f, first) ← holding [ov] (getMethod ov m pl)
      callWith pos f first (backTo pos (starEach [] X.env)) (backToKw pos (keywordEach [] X.env))) := by rfl) :
    PE X (.Call (.Attribute o m apos) [] [] pos) (tMethS C m sp E ta tNil) := by
  constructor
  intro pins s σ H Q I h
  refine PySem.W.methodCall_KW (pl := pl) (thn (he.run pins s σ H _ I h) ?_) ht
  rintro u s1 ⟨x, H1, I1, rx, a, dx, fs, ex, ea, l, q⟩
  subst ex
  obtain rfl : u = Value.ref a := rx
  refine getmeth_ok I1 ea c hm l ?_
  exact PySem.W.callWith_K0 (first := [.ref a]) I1.kIn hm.kp (gd_run (us := [.ref a]) (vs := [.ref a]) F hG hr hb (hx σ) I1 (.cons rfl .nil) q)
/-- the object is asked ahead of the arguments -/
def mMethC (c m : Str) (F : Fn) (fo : ME) (fa : MA) : ME := fun ms => (fo ms).bind fun r0 ms1 => match view ms1 r0 with
  | some d => match unIns d with
    | some (c', es) => if c' = c ∧ es.lookup m = none then (fa ms1).bind fun rs ms2 => callOut F (settle r0 :: rs) ms2 else .stuck
    | none => .stuck
  | none => .stuck
/-- how a method's promise follows from its mirror -/
theorem tE_methC {F : Fn} {fo : ME} {fa : MA} {c : Str} {n : Nat} {σ : L2.St} {H : Hp} {Q : VK} (hC : ∀ C', ClsAt (kw X) c C' → C' = C) (hlen : ∀ ms rs ms', fa ms = .ok rs ms' → rs.length + 1 = n) (q : tE (kw X) X.mg W (mMethC c m F fo fa) σ H Q) :
    tMethS C m (spF (kw X) X.mg n F) (WE W) (tE (kw X) X.mg W fo) (tAx (kw X) X.mg W fa) σ H Q := by
  obtain ⟨la, ms, Hf, S, q⟩ := q
  refine ⟨la, ms, Hf, S, (After.bind q).imp fun r0 ms1 H1 Hf1 s1 S1 q1 v rv => ?_⟩
  cases e1 : view ms1 r0 with
  | none => rw [e1] at q1; exact q1.elim
  | some d =>
    rw [e1] at q1
    simp only at q1
    cases e2 : unIns d with
    | none => rw [e2] at q1; exact q1.elim
    | some ce =>
      obtain ⟨c', es⟩ := ce
      rw [e2] at q1
      simp only at q1
      split at q1
      · rename_i hc
        obtain ⟨rfl, hlk⟩ := hc
        have := unIns_inv e2
        subst this
        obtain ⟨a, dx, C', fs, rfl, ha, cl, rf⟩ := (RvR.vw S1 rv e1).insOf S1.sub
        have := hC C' cl
        subst this
        obtain ⟨Hf2, s2, S2, rv2⟩ := rv_settle S1 rv
        refine ⟨a, dx, fs, rfl, ha, rf.lookN hlk, la, ms1, Hf2, S2, ?_⟩
        have q2 := After.bind (After.hf s2 q1)
        cases hfa : fa ms1 with
        | stuck => rw [hfa] at q2; exact q2
        | exc c fs ms2 => rw [hfa] at q2; exact q2
        | ok rs ms2 =>
          rw [hfa] at q2
          intro H3 Hf3 s3 S3 vs rvs
          have q3 : After (kw X) X.mg W la σ Hf3 (fun r ms' H' Hf' => ∀ v, RvR (kw X) la ms' σ H' Hf' v r → Q v H') (callOut F (settle r0 :: rs) ms2) := q2 H3 Hf3 s3 S3
          have rvs' : RvRs (kw X) σ Hf3 (.ref a :: vs) (settle r0 :: rs) := .cons (rv2.later s3) rvs
          unfold callOut at q3
          cases hn : nodupB (lentOf ms2 (settle r0 :: rs)) with
          | false => rw [hn, if_neg Bool.false_ne_true] at q3; exact False.elim q3
          | true =>
            rw [hn, if_pos rfl] at q3
            cases hta : toArgs ms2 (settle r0 :: rs) with
            | none => rw [hta] at q3; exact False.elim q3
            | some args =>
              rw [hta] at q3
              refine ⟨by rw [List.length_cons, Paired.length rvs]; exact hlen ms1 rs ms2 hfa, args, laOf ms2 σ 0 (settle r0 :: rs), Hf3, frOf H3 Hf3 (laOf ms2 σ 0 (settle r0 :: rs)), args_of S3 rvs' hta, la_nodup S3 hn, S3.sub, fun a o h => frOf_some h, ?_⟩
              simp only at q3
              cases hF : F args with
              | stuck => rw [hF] at q3; exact False.elim q3
              | ret r ds =>
                rw [hF] at q3
                exact fun v H' Hf' po mu ro => q3 H' Hf' po.ff (S3.back hn po mu) v (RvO.rv S3 hn po mu ro)
              | exc c fs ds =>
                rw [hF] at q3
                exact fun cls d H' Hf' po mu ex => q3 cls d H' Hf' po.ff (S3.back hn po mu) ex
      · exact q1.elim
end
end Pl

/-! Pl32 -/
set_option Elab.async false
set_option linter.all false
set_option maxRecDepth 100000
set_option maxHeartbeats 4000000
/-! Classes: what the module holds of them; made, asked, read, by the promises of their methods. -/
namespace Pl
open PySem PySem.Spec PyProof.Rows L2
structure ClF (K : PySem.W.Frag) (mg : Str → Option Value) (c : Str) (C : Addr) : Prop where
  ns : PySem.W.nsIn K mainGlobals c = some (some (.ref C))
  gl : mg c = some (.ref C)
  cls : Cls K C
/-- the class and its fields -/
def ClG (K : PySem.W.Frag) (mg : Str → Option Value) (c : Str) (flds : List Str) : Prop := ∃ C, ClF K mg c C ∧ ∀ f ∈ flds, NoAttr K C f
def CalI (P : Program) (w : World) (K : PySem.W.Frag) (mg : Str → Option Value) (base : Heap) (k : Nat) (c : Str) (n : Nat) (F : Fn) : Prop :=
  ∃ (C f : Addr) (fd : FuncData) (ps : List Str), ps.length = n + 1 ∧ ClF K mg c C ∧ Mk K C f ∧ GdOk P w K mg base k f fd ps (spF ⟨K, w, P⟩ mg ps.length F) ∧ Binds K fd ps []
def CalM (P : Program) (w : World) (K : PySem.W.Frag) (mg : Str → Option Value) (base : Heap) (k : Nat) (c m : Str) (n : Nat) (F : Fn) : Prop :=
  ∃ (C f : Addr) (fd : FuncData) (ps : List Str), ps.length = n + 1 ∧ ClF K mg c C ∧ Meth K C m f ∧ GdOk P w K mg base k f fd ps (spF ⟨K, w, P⟩ mg ps.length F) ∧ Binds K fd ps []
section
variable {X : Cx} {W : WX} {e o value : Expr} {es : List Expr} {pos p apos pos' : Pos} {x m c : Str}
theorem clsAt_one {K : KW} {mg : Str → Option Value} {c : Str} {C C' : Addr} (h : ClF K.K mg c C) (h' : ClsAt K c C') : C' = C := by
  have e : PySem.W.nsIn K.K mainGlobals c = some (some (.ref C')) := h'
  rw [h.ns] at e
  injection e with e
  injection e with e
  injection e with e
  exact e.symm
theorem ex_makeC {k j n : Nat} {F : Fn} {fa : MA} (G : CalI X.prog X.w X.K X.mg X.base k x n F) (hG : X.A.guards = some []) (hr : Room j X.A) (hk : k + 1 ≤ j) (hg : Gl X x) (tk : Takes X W) (ha : AX X W (e :: es) fa) (hlen : ∀ ms rs ms', fa ms = .ok rs ms' → rs.length = n) (hdb : (x == ("__debug__" : Str)) = false := by decide)
    (he : starEach (e :: es) X.env = (false, eval e X.env) :: starEach es X.env := by rfl) (hpl : (backTo pos (starEach es X.env)).any (·.1) = false := by rfl) : EX X W (.Call (.Name x p) (e :: es) [] pos) (mMake x F fa) := by
  obtain ⟨C, f, fd, ps, hn, cl, M, g, hb⟩ := G
  exact ex_make g M cl.ns hG (hr.mono hk) hg cl.gl hb tk ha (fun ms rs ms' h => by rw [hlen ms rs ms' h, hn]) hdb he hpl
theorem ex_attrC {flds : List Str} {f : Str} {fe : ME} (hc : ClG X.K X.mg c flds) (hf : f ∈ flds) (h : EX X W e fe) (hb : attributeBase e f X.env (eval e X.env) = eval e X.env := by rfl) : EX X W (.Attribute e f pos) (mUn (pAttr [c] f) fe) := by
  obtain ⟨C, cl, na⟩ := hc
  refine ex_attr (fun c' hc' C' h' => ?_) h hb
  rw [List.mem_singleton] at hc'
  subst hc'
  have := clsAt_one cl h'
  subst this
  exact ⟨cl.cls, na f hf⟩
theorem sx_fldC {flds : List Str} {i : Nat} {f : Str} {fv : ME} (hc : ClG X.K X.mg c flds) (hf : f ∈ flds) (hv : EX X W value fv) (ho : EX X W o (mVar i)) (hs : swapsWith value (some (.Attribute o f pos')) pos.line X.env = pure false := by rfl) : SX X W (.Assign [.Attribute o f pos'] value pos) (mFld [c] i f fv) := by
  obtain ⟨C, cl, na⟩ := hc
  refine sx_fld (fun c' hc' C' h' => ?_) hv ho hs
  rw [List.mem_singleton] at hc'
  subst hc'
  have := clsAt_one cl h'
  subst this
  exact ⟨cl.cls, na f hf⟩
theorem ex_methC {pl : Sem Bool} {k j n : Nat} {F : Fn} {fo : ME} {fa : MA} (G : CalM X.prog X.w X.K X.mg X.base k c m n F) (hG : X.A.guards = some []) (hr : Room j X.A) (hk : k ≤ j) (tk : Takes X W) (ho : EX X W o fo) (ha : AX X W (e :: es) fa) (hlen : ∀ ms rs ms', fa ms = .ok rs ms' → rs.length = n)
    (hst : starEach (e :: es) X.env = (false, eval e X.env) :: starEach es X.env := by rfl) (hpl : (backTo pos (starEach es X.env)).any (·.1) = false := by rfl)
    (ht : eval (.Call (.Attribute o m apos) (e :: es) [] pos) X.env = (do
      let ov ← eval o X.env
      standAt apos.atName
      let (f, first) ← holding [ov] (getMethod ov m pl)
      callWith pos f first (backTo pos (starEach (e :: es) X.env)) (backToKw pos (keywordEach [] X.env))) := by rfl) : EX X W (.Call (.Attribute o m apos) (e :: es) [] pos) (mMethC c m F fo fa) := by
  obtain ⟨C, f, fd, ps, hn, cl, M, g, hb⟩ := G
  exact ⟨PE.imp (gd_meth ho.pe cl.cls M g hG (hr.mono hk) hb (fun σ => passAt tk σ) ha.pa hst hpl ht) fun σ H Q q => tE_methC (fun C' h' => clsAt_one cl h') (fun ms rs ms' h => by rw [hlen ms rs ms' h, hn]) q⟩
theorem ex_methC0 {pl : Sem Bool} {k j : Nat} {F : Fn} {fo : ME} (G : CalM X.prog X.w X.K X.mg X.base k c m 0 F) (hG : X.A.guards = some []) (hr : Room j X.A) (hk : k ≤ j) (tk : Takes X W) (ho : EX X W o fo)
    (ht : eval (.Call (.Attribute o m apos) [] [] pos) X.env = (do
      let ov ← eval o X.env
      standAt apos.atName
      let (f, first) ← holding [ov] (getMethod ov m pl)
      callWith pos f first (backTo pos (starEach [] X.env)) (backToKw pos (keywordEach [] X.env))) := by rfl) : EX X W (.Call (.Attribute o m apos) [] [] pos) (mMethC c m F fo mNil) := by
  obtain ⟨C, f, fd, ps, hn, cl, M, g, hb⟩ := G
  refine ⟨PE.imp (gd_meth0 ho.pe cl.cls M g hG (hr.mono hk) hb (fun σ => passAt tk σ) ht) fun σ H Q q => ?_⟩
  obtain ⟨la, ms, Hf, S, q⟩ := tE_methC (fa := mNil) (fun C' h' => clsAt_one cl h') (fun ms rs ms' h => by cases h; exact hn.symm) q
  refine ⟨la, ms, Hf, S, q.imp fun r ms1 H1 Hf1 s1 S1 q1 v rv => ?_⟩
  obtain ⟨a, dx, fs, e1, e2, e3, q2⟩ := q1 v rv
  refine ⟨a, dx, fs, e1, e2, e3, ?_⟩
  obtain ⟨la2, ms2, Hf2, S2, q2⟩ := q2
  exact q2 _ _ (.refl _) S2 [] .nil
/-- binding where a default stands that is not used -/
theorem binds_dflt {K : PySem.W.Frag} {fd : FuncData} {ps : List Str} {T : Addr} {o : Obj} {its : Array Value} {n : Nat} (lT : K.lookup T = some o) (oT : o.data = .seq its n)
    (h : ∀ us : List Value, us.length = ps.length → ∃ k, bindArgs fd ⟨us, []⟩ = seqItems? (.ref T) >>= k ∧ k (some its) = pure (ps.zip us)) : Binds K fd ps [] := fun s us X hlen => by
  rw [List.append_nil] at hlen ⊢
  obtain ⟨k, e1, e2⟩ := h us hlen
  refine BindsTo.of_looks fun M => ?_
  rw [e1]
  exact looks_items X lT oT (.of_pure e2)
end
end Pl

/-! Sp0 -/
set_option Elab.async false
set_option linter.all false
set_option maxRecDepth 100000
set_option maxHeartbeats 1000000
/-! Running mirrors by parts: equations, one for each way of putting together. -/
namespace Pl
open PySem PySem.Spec PyProof.Rows L2
section
variable {fa fb f : ME} {ms ms1 ms2 : MS} {a b d : PyData} {r ra : Rv} {i : Nat}
def Ev (f : ME) (ms : MS) (d : PyData) : Prop := ∃ r, f ms = .ok r ms ∧ view ms r = some d
theorem Ev.of (h : f ms = .ok (.dat d) ms) : Ev f ms d := ⟨_, h, rfl⟩
theorem Ev.new (h : f ms = .ok (.new d) ms) : Ev f ms d := ⟨_, h, rfl⟩
theorem ev_c : Ev (mC d) ms d := ⟨_, rfl, rfl⟩
theorem ev_dat (h : ms[i]? = some (some (.dat d))) : Ev (mVar i) ms d := ⟨.dat d, by simp [mVar, h], rfl⟩
theorem ev_own {l : Bool} (h : ms[i]? = some (some (.own l d))) : Ev (mVar i) ms d := ⟨.slot i, by simp [mVar, h], by simp [view, h]⟩
def svD : SV → PyData
  | .dat d => d
  | .own _ d => d
theorem ev_sv {x : SV} (h : ms[i]? = some (some x)) : Ev (mVar i) ms (svD x) := by
  cases x with
  | dat d => exact ev_dat h
  | own l d => exact ev_own h
theorem op2_ev {g : PyData → PyData → Option Rv} (h1 : Ev fa ms a) (h2 : Ev fb ms b) (hg : g a b = some r) : mOp2 g fa fb ms = .ok r ms := by
  obtain ⟨r1, e1, v1⟩ := h1
  obtain ⟨r2, e2, v2⟩ := h2
  simp [mOp2, e1, e2, app2, v1, v2, hg]
theorem op2_d {g : PyData → PyData → Option Rv} (h1 : fa ms = .ok (.dat a) ms1) (h2 : fb ms1 = .ok (.dat b) ms2) (hg : g a b = some r) : mOp2 g fa fb ms = .ok r ms2 := by
  simp [mOp2, h1, h2, app2, view, hg]
theorem op2_n {g : PyData → PyData → Option Rv} (h1 : fa ms = .ok (.new a) ms1) (h2 : fb ms1 = .ok (.dat b) ms2) (hg : g a b = some r) : mOp2 g fa fb ms = .ok r ms2 := by
  simp [mOp2, h1, h2, app2, view, hg]
theorem fun1 {g : List PyData → Option Rv} (h1 : Ev f ms a) (hg : g [a] = some r) : mFun g (mOne f) ms = .ok r ms := by
  obtain ⟨r1, e1, v1⟩ := h1
  have v2 : view ms (Pl.settle r1) = some a := by cases r1 <;> exact v1
  simp [mFun, mOne, e1, appN, views, v2, hg]
theorem fun1_d {g : List PyData → Option Rv} (h1 : f ms = .ok (.dat a) ms1) (hg : g [a] = some r) : mFun g (mOne f) ms = .ok r ms1 := by
  simp [mFun, mOne, h1, Pl.settle, appN, views, view, hg]
theorem fun1_n {g : List PyData → Option Rv} (h1 : f ms = .ok (.new a) ms1) (hg : g [a] = some r) : mFun g (mOne f) ms = .ok r ms1 := by
  simp [mFun, mOne, h1, Pl.settle, appN, views, view, hg]
theorem b_of {b : Bool} (h : f ms = .ok (.dat (.bool b)) ms1) : mB f ms = .ok b ms1 := by simp [mB, h, asB]
theorem set_d (h : f ms = .ok (.dat d) ms1) (hl : isLent ms1 i = false) : mSet i f ms = .nx (ms1.set i (some (.dat d))) := by simp [mSet, h, SO.of, asg, hl]
theorem set_n (h : f ms = .ok (.new d) ms1) (hl : isLent ms1 i = false) : mSet i f ms = .nx (ms1.set i (some (.own false d))) := by simp [mSet, h, SO.of, asg, hl]
theorem ret_of (h : f ms = .ok r ms1) : mRet f ms = .rt r ms1 := by simp [mRet, h, SO.of]
theorem if_t {t : MT} {p q : MX} (h : t ms = .ok true ms1) : mIf t p q ms = p ms1 := by simp [mIf, h, SO.of]
theorem if_f {t : MT} {p q : MX} (h : t ms = .ok false ms1) : mIf t p q ms = q ms1 := by simp [mIf, h, SO.of]
theorem seq_nx {p q : MX} (h : p ms = .nx ms1) : mSeq p q ms = q ms1 := by unfold mSeq; rw [h]; rfl
theorem seq_rt {p q : MX} (h : p ms = .rt r ms1) : mSeq p q ms = .rt r ms1 := by unfold mSeq; rw [h]; rfl
theorem sl_none : mNoPart ms = .ok none ms := rfl
theorem sl_part {z : Int} (h : Ev f ms (.int z)) : mPart f ms = .ok (some z) ms := by
  obtain ⟨r1, e1, v1⟩ := h
  simp [mPart, e1, v1]
theorem sl_ev {pl ph : MP} {lo hi : Option Int} (h : Ev f ms d) (h1 : pl ms = .ok lo ms) (h2 : ph ms = .ok hi ms) (hg : pSl d lo hi = some r) : mSl f pl ph ms = .ok r ms := by
  obtain ⟨r1, e1, v1⟩ := h
  simp [mSl, e1, h1, h2, v1, hg]
theorem rng1_in {j : Int} (h1 : -(2 ^ 62) ≤ j) (h2 : j < 2 ^ 62) : rng1 [.dat (.int j)] ms = .ok (.fix (rgInts 0 j.toNat)) ms := by
  simp only [rng1, view]
  rw [if_pos ⟨h1, h2⟩]
theorem le62 {z : Nat} : -(2 ^ 62) ≤ (z : Int) := Int.le_trans (by decide) (Int.natCast_nonneg z)
theorem lt62 {z : Nat} (hz : z < 1000000000) : (z : Int) < 2 ^ 62 := Int.lt_of_lt_of_le (Int.ofNat_lt.mpr hz) (by decide)
theorem one_d (h : f ms = .ok (.dat d) ms1) : mOne f ms = .ok [.dat d] ms1 := by simp only [mOne, h, Out.bind_ok, Pl.settle]
theorem rng_of {z : Nat} (h : f ms = .ok (.dat (.int (z : Int))) ms1) (hz : z < 1000000000) : ((mOne f) ms).bind rng1 = .ok (.fix (rgInts 0 z)) ms1 := by
  rw [one_d h, Out.bind_ok, rng1_in le62 (lt62 hz), Int.toNat_natCast]
theorem mlc_eq {vs : List Nat} {fi : MS → Out Src} {g : PyData → MS → SO} {t : MT} {src : Src} {acc : List PyData} (h1 : fi ms = .ok src ms1) (h2 : lcS vs g t f src ms1 = .ok acc ms2) : mLc vs fi g t f ms = .ok (.new (.list acc)) ms2 := by
  unfold mLc
  simp only [h1, Out.bind_ok, h2]
  rfl
theorem mlc_fix {vs : List Nat} {fi : MS → Out Src} {g : PyData → MS → SO} {t : MT} {ds acc : List PyData} (h1 : fi ms = .ok (.fix ds) ms1) (h2 : lcF vs g t f ds [] (wipeM ms1 vs) = .ok acc ms2) : mLc vs fi g t f ms = .ok (.new (.list acc)) ms2 := mlc_eq h1 h2
theorem one_n (h : f ms = .ok (.new d) ms1) : mOne f ms = .ok [.dat d] ms1 := by simp only [mOne, h, Out.bind_ok, Pl.settle]
theorem meth1 {ts : List String} {t : String} {g : PyData → List PyData → Option Rv} {fo : ME} {fa : MA} (ho : Ev fo ms d) (ty : tyIn ts d = some t) (hf : fa ms = .ok [.dat a] ms) (ht : tyN d = some t) (hg : g d [a] = some r) : mMeth ts g fo fa ms = .ok r ms := by
  obtain ⟨r1, e1, v1⟩ := ho
  have e2 : views ms [Rv.dat a] = some [a] := rfl
  simp [mMeth, e1, v1, ty, hf, e2, ht, hg]
theorem meth1_d {ts : List String} {t : String} {g : PyData → List PyData → Option Rv} {fo : ME} {fa : MA} (ho : fo ms = .ok (.dat d) ms) (ty : tyIn ts d = some t) (hf : fa ms = .ok [.dat a] ms1) (ht : tyN d = some t) (hg : g d [a] = some r) : mMeth ts g fo fa ms = .ok r ms1 := by
  simp [mMeth, ho, view, ty, hf, views, ht, hg]
theorem keep_d {g : MA} {rs : List Rv} (h : f ms = .ok (.dat d) ms1) (h2 : g ms1 = .ok rs ms2) : mKeep f g ms = .ok (.dat d :: rs) ms2 := by simp [mKeep, h, kpt, frz, h2]
theorem keep_n {g : MA} {rs : List Rv} (h : f ms = .ok (.new d) ms1) (h2 : g ms1 = .ok rs ms2) : mKeep f g ms = .ok (.new d :: rs) ms2 := by simp [mKeep, h, kpt, h2]
theorem par_of {is : List Nat} {fa : MA} {rs : List Rv} {ms2 : MS} (h : fa ms = .ok rs ms1) (h2 : asgs is rs ms1 = .nx ms2) : mPar is fa ms = .nx ms2 := by simp [mPar, h, SO.of, h2]
theorem for_fix {fi : MS → Out Src} {g : PyData → MS → SO} {b : MX} {ds : List PyData} (h : fi ms = .ok (.fix ds) ms1) : mFor fi g b ms = loopF g b ds ms1 := by simp [mFor, h, SO.of, loopS]
/-- a method that changes its object, of one argument -/
theorem mut_one {T : String} {g : Mu} {l : Bool} {d' x y : PyData} (h0 : isOwnT T ms i = true) (hf : f ms = .ok (.dat x) ms1) (hi : ms1[i]? = some (some (.own l d))) (hT : tyN d = some T) (hg : g d [x] = some (y, d')) :
    mMut T g i (mOne f) ms = .ok (.dat y) (ms1.set i (some (.own l d'))) := by
  simp [mMut, h0, mOne, hf, Pl.settle, frzs, frz, hi, hT, hg]
theorem drop_nx (h : f ms = .ok r ms1) : mDrop f ms = .nx ms1 := by
  unfold mDrop; rw [h]; rfl
theorem while_go {n : Nat} {t : MT} {p : MX} (h : t ms = .ok true ms1) (h2 : p ms1 = .nx ms2) : mWhile (n + 1) t p ms = mWhile n t p ms2 := by
  show SO.of (t ms) _ = _
  rw [h]
  simp only [SO.of, if_true, h2]
theorem while_end {n : Nat} {t : MT} {p : MX} (h : t ms = .ok false ms1) : mWhile (n + 1) t p ms = .nx ms1 := by
  show SO.of (t ms) _ = _
  rw [h]
  rfl
theorem cutS_from (z : Str) (k : Nat) : (cutS z (some (k : Int)) none).cps.toList = z.cps.toList.drop k := by
  unfold cutS
  rw [HT.sIx_nat, HT.sIx_none]
  show ((z.cps.toList.drop (min k z.cps.size)).take (z.cps.size - min k z.cps.size)) = _
  rw [List.take_of_length_le (by simp)]
  by_cases h : k ≤ z.cps.size
  · rw [Nat.min_eq_left h]
  · rw [Nat.min_eq_right (by omega), List.drop_of_length_le (by simp), List.drop_of_length_le (by simp; omega)]
theorem cutS_to (z : Str) (k : Nat) : (cutS z none (some (k : Int))).cps.toList = z.cps.toList.take k := by
  unfold cutS
  rw [HT.sIx_nat, HT.sIx_none]
  show ((z.cps.toList.drop 0).take (min k z.cps.size - 0)) = _
  rw [List.drop_zero, Nat.sub_zero]
  by_cases h : k ≤ z.cps.size
  · rw [Nat.min_eq_left h]
  · rw [Nat.min_eq_right (by omega), List.take_of_length_le (by simp), List.take_of_length_le (by simp; omega)]
theorem cons_d {g : MA} {rs : List Rv} (h : f ms = .ok (.dat d) ms1) (h2 : g ms1 = .ok rs ms2) : mCons f g ms = .ok (.dat d :: rs) ms2 := by simp only [mCons, h, Out.bind_ok, h2, Pl.settle]
theorem cons_n {g : MA} {rs : List Rv} (h : f ms = .ok (.new d) ms1) (h2 : g ms1 = .ok rs ms2) : mCons f g ms = .ok (.dat d :: rs) ms2 := by simp only [mCons, h, Out.bind_ok, h2, Pl.settle]
theorem lst_of {fa : MA} {rs : List Rv} {ds : List PyData} (h : fa ms = .ok rs ms1) (h2 : frzs ms1 rs = some (ds, ms2)) (hl : ds.length ≤ SZ) : mLst fa ms = .ok (.new (.list ds)) ms2 := by
  simp only [mLst, h, Out.bind_ok, mkLst, h2]
  rw [if_pos hl]
theorem tup_of {fa : MA} {rs : List Rv} {ds : List PyData} (h : fa ms = .ok rs ms1) (h2 : frzs ms1 rs = some (ds, ms2)) (hl : ds.length ≤ SZ) : mTup fa ms = .ok (.dat (.tuple ds)) ms2 := by
  simp only [mTup, h, Out.bind_ok, mkTup, h2]
  rw [if_pos hl]
/-- a loop over things told, by what stays -/
theorem for_inv {g : PyData → MS → SO} {b : MX} (I : Nat → MS → Prop) : ∀ (ds : List PyData) (k : Nat) (ms : MS), I k ms →
    (∀ (j : Nat) (h : j < ds.length) (ms : MS), I (k + j) ms → ∃ ms1 ms2, g ds[j] ms = .nx ms1 ∧ (b ms1 = .nx ms2 ∨ b ms1 = .ct ms2) ∧ I (k + j + 1) ms2) → ∃ ms', loopF g b ds ms = .nx ms' ∧ I (k + ds.length) ms' := by
  intro ds
  induction ds with
  | nil => intro k ms h _; exact ⟨ms, rfl, h⟩
  | cons d ds ih =>
    intro k ms h hs
    obtain ⟨ms1, ms2, e1, e2, h2⟩ := hs 0 (by simp) ms h
    obtain ⟨ms', e3, h3⟩ := ih (k + 1) ms2 h2 (fun j hj ms hm => by
      have := hs (j + 1) (by simpa using hj) ms (by rw [show k + (j + 1) = k + 1 + j from by omega]; exact hm)
      rw [show k + (j + 1) = k + 1 + j from by omega] at this
      exact this)
    refine ⟨ms', ?_, by rw [List.length_cons, show k + (ds.length + 1) = k + 1 + ds.length from by omega]; exact h3⟩
    simp only [List.getElem_cons_zero] at e1
    show (g d ms).then _ = _
    rw [e1]
    simp only [SO.then]
    rcases e2 with e2 | e2 <;> rw [e2] <;> exact e3
/-- a list comprehension without a condition, over things told, by what stays -/
theorem lc_inv {vs : List Nat} {g : PyData → MS → SO} {f : ME} (I : Nat → List PyData → MS → Prop) : ∀ (ds acc : List PyData) (k : Nat) (ms : MS), I k acc ms → acc.length + ds.length < SZ →
    (∀ (j : Nat) (h : j < ds.length) (acc : List PyData) (ms : MS), I (k + j) acc ms → ∃ ms1 ms2 x, g ds[j] ms = .nx ms1 ∧ f ms1 = .ok (.dat x) ms2 ∧ I (k + j + 1) (acc ++ [x]) (wipeM ms2 vs)) →
    ∃ acc' ms', lcF vs g mYes f ds acc ms = .ok acc' ms' ∧ I (k + ds.length) acc' ms' ∧ acc'.length = acc.length + ds.length := by
  intro ds
  induction ds with
  | nil => intro acc k ms h _ _; exact ⟨acc, ms, rfl, h, rfl⟩
  | cons d ds ih =>
    intro acc k ms h hz hs
    obtain ⟨ms1, ms2, x, e1, e2, h2⟩ := hs 0 (by simp) acc ms h
    simp only [List.length_cons] at hz
    obtain ⟨acc', ms', e3, h3, h4⟩ := ih (acc ++ [x]) (k + 1) _ h2 (by simp only [List.length_append, List.length_cons, List.length_nil]; omega) (fun j hj acc ms hm => by
      have := hs (j + 1) (by simpa using hj) acc ms (by rw [show k + (j + 1) = k + 1 + j from by omega]; exact hm)
      rw [show k + (j + 1) = k + 1 + j from by omega] at this
      exact this)
    refine ⟨acc', ms', ?_, by rw [List.length_cons, show k + (ds.length + 1) = k + 1 + ds.length from by omega]; exact h3, by rw [h4]; simp; omega⟩
    simp only [List.getElem_cons_zero] at e1
    show (lcTurn vs g mYes f d acc ms).bind _ = _
    have hlt : acc.length < SZ := by omega
    simp only [lcTurn, e1, ofSO_nx, mYes, noExc_ok, Out.bind_ok, if_true, e2, grown, frz, hlt]
    exact e3
/-- the same for what leaves the state but for the loop's own slots -/
theorem lc_map {vs : List Nat} {g : PyData → MS → SO} {f : ME} {ms : MS} (F : PyData → PyData) (hw : wipeM ms vs = ms) : ∀ (ds acc : List PyData), acc.length + ds.length < SZ →
    (∀ d ∈ ds, ∃ ms1, g d ms = .nx ms1 ∧ f ms1 = .ok (.dat (F d)) ms1 ∧ wipeM ms1 vs = ms) → lcF vs g mYes f ds acc ms = .ok (acc ++ ds.map F) ms := by
  intro ds
  induction ds with
  | nil => intro acc _ _; simp [lcF]
  | cons d ds ih =>
    intro acc hz hs
    obtain ⟨ms1, e1, e2, e3⟩ := hs d (by simp)
    simp only [List.length_cons] at hz
    show (lcTurn vs g mYes f d acc ms).bind _ = _
    have hlt : acc.length < SZ := by omega
    simp only [lcTurn, e1, ofSO_nx, mYes, noExc_ok, Out.bind_ok, if_true, e2, grown, frz, hlt, e3]
    rw [ih (acc ++ [F d]) (by simp only [List.length_append, List.length_cons, List.length_nil]; omega) (fun x hx => hs x (by simp [hx]))]
    simp
end
end Pl

/-! Tk -/
set_option Elab.async false
set_option linter.all false
set_option maxRecDepth 100000
set_option maxHeartbeats 4000000
namespace Lw
open PySem PySem.Spec PyProof.Rows L2 Pl
/-- what the module's names are -/
structure Gb (mg : Str → Option Value) : Prop where
  b_list : mg "list" = none
  b_len : mg "len" = none
  b_abs : mg "abs" = none
  b_range : mg "range" = none
  b_sorted : mg "sorted" = none
  b_isinstance : mg "isinstance" = none
  b_str : mg "str" = none
  b_all : mg "all" = none
  b_tuple : mg "tuple" = none
  b_dict : mg "dict" = none
  c_LONGEST_HAND : ∃ t, mg "LONGEST_HAND" = some (.int 8 t)
  c_LETTERS : ∃ t, mg "LETTERS" = some (.str "abcdefghijklmnopqrstuvwxyz" t)
  c_MOST_HANDS : ∃ t, mg "MOST_HANDS" = some (.int 8 t)
structure Gc (K : PySem.W.Frag) (mg : Str → Option Value) : Prop where
  k_Book : ClG K mg "Book" ["known", "own"]
def topS (i : Nat) : Stmt := PySem.Challenge.pw_aheadbook_k24_marks_round_a_ring.main.body.getD i (.Pass ⟨0, 0, 0, 0⟩)
section
variable {P : Program} {w : World} {K : PySem.W.Frag} {mg : Str → Option Value} {base : Heap}
/-! ### _law_pen(script)  slots 0 script -/
abbrev s__law_pen : Stmt := topS 25
theorem sc__law_pen : FnScope ["script"] ["script"] (defScope s__law_pen) := ⟨rfl, rfl, rfl, by decide +kernel, rfl, by decide +kernel, by decide +kernel⟩
def b__law_pen : MX :=
  (mRet (mDict (mPCons (mC (.str "cells")) (mFun pList (mOne (mSl (mVar 0) mNoPart (mPart (mC (.int 63)))))) (mPCons (mC (.str "at")) (mC (.int 0)) (mPCons (mC (.str "left")) (mC (.int 0)) mPNil)))))
def F__law_pen : Fn := runF 1 b__law_pen
theorem ok__law_pen {f : Addr} {fd : FuncData} (G : Gb mg) (F : L2.Fun K "_law_pen" "_law_pen" s__law_pen f fd)  : GdOk P w K mg base 1 f fd ["script"] (spF ⟨K, w, P⟩ mg 1 F__law_pen) :=
  fs_of (k := 0) F sc__law_pen fun cdv A outer s H E hr hG =>
    (sxs_one (sx_ret (ex_dict (n := 3) (ppx_cons ex_str (ex_callTy (call_pList rfl) rfl G.b_list PySem.Pv.boot_list (ax_one (ex_sl (ex_var 0 (pv 0)) px_none (px_some ex_int)))) (ppx_cons ex_str ex_int (ppx_cons ex_str ex_int ppx_nil))) (mP_len (mP_len (mP_len mP_len0))) (by decide) rfl rfl (by simp) (by decide))))
/-! ### _law_draw(pen, many)  slots 0 pen, 1 many, 2 digit, 3 at, 4 cell, 5 blend -/
abbrev s__law_draw : Stmt := topS 26
theorem sc__law_draw : FnScope ["pen", "many", "digit", "at", "cell", "blend"] ["pen", "many"] (defScope s__law_draw) := ⟨rfl, rfl, rfl, by decide +kernel, rfl, by decide +kernel, by decide +kernel⟩
def b__law_draw : MX :=
  (mSeq (mIf (mB (mOp2 pGt (mOp2 pIx (mVar 0) (mC (.str "left"))) (mC (.int 0)))) (mSeq (mSet 2 (mOp2 pMod (mOp2 pIx (mVar 0) (mC (.str "left"))) (mVar 1)))
    (mSeq (mPut 0 (mC (.str "left")) (mOp2 pDiv (mOp2 pIx (mVar 0) (mC (.str "left"))) (mVar 1)))
    (mRet (mVar 2)))) mSkip)
    (mSeq (mSet 3 (mOp2 pIx (mVar 0) (mC (.str "at"))))
    (mSeq (mPut 0 (mC (.str "at")) (mOp2 pAdd (mVar 3) (mC (.int 1))))
    (mSeq (mSet 4 (mOp2 pAdd (mOp2 pMul (mC (.int 17)) (mVar 3)) (mC (.int 3))))
    (mSeq (mIf (mB (mOp2 pNe (mOp2 pIx (mVar 0) (mC (.str "cells"))) (mLst mNil))) (mSet 4 (mOp2 pIx (mOp2 pIx (mVar 0) (mC (.str "cells"))) (mOp2 pMod (mVar 3) (mFun pLenS (mOne (mOp2 pIx (mVar 0) (mC (.str "cells")))))))) mSkip)
    (mSeq (mIf (mAnd (mB (mOp2 pLt (mVar 3) (mFun pLenS (mOne (mOp2 pIx (mVar 0) (mC (.str "cells"))))))) (mB (mOp2 pGe (mFun pAbs (mOne (mVar 4))) (mOp2 pPow (mC (.int 10)) (mC (.int 18)))))) (mSeq (mPut 0 (mC (.str "left")) (mOp2 pDiv (mOp2 pSub (mFun pAbs (mOne (mVar 4))) (mOp2 pPow (mC (.int 10)) (mC (.int 18)))) (mVar 1)))
    (mRet (mOp2 pMod (mOp2 pSub (mFun pAbs (mOne (mVar 4))) (mOp2 pPow (mC (.int 10)) (mC (.int 18)))) (mVar 1)))) mSkip)
    (mSeq (mSet 5 (mOp2 pMod (mOp2 pAdd (mOp2 pAdd (mOp2 pAdd (mOp2 pMul (mOp2 pMod (mVar 4) (mC (.int 2147483659))) (mC (.int 48271))) (mOp2 pMul (mOp2 pMul (mC (.int 30011)) (mVar 3)) (mVar 3))) (mOp2 pMul (mC (.int 12289)) (mVar 3))) (mC (.int 7))) (mC (.int 2147483693))))
    (mSeq (mSet 5 (mOp2 pMod (mOp2 pAdd (mOp2 pAdd (mOp2 pAdd (mOp2 pMul (mVar 5) (mVar 5)) (mOp2 pMul (mC (.int 16807)) (mVar 5))) (mOp2 pMul (mC (.int 5)) (mVar 3))) (mC (.int 1))) (mC (.int 2147483713))))
    (mRet (mOp2 pMod (mOp2 pDiv (mOp2 pMod (mOp2 pMul (mVar 5) (mOp2 pAdd (mVar 5) (mC (.int 39373)))) (mC (.int 2147483743))) (mC (.int 32))) (mVar 1)))))))))))
def F__law_draw : Fn := runF 6 b__law_draw
theorem ok__law_draw {f : Addr} {fd : FuncData} (G : Gb mg) (F : L2.Fun K "_law_draw" "_law_draw" s__law_draw f fd)  : GdOk P w K mg base 1 f fd ["pen", "many"] (spF ⟨K, w, P⟩ mg 2 F__law_draw) :=
  fs_of (k := 0) F sc__law_draw fun cdv A outer s H E hr hG =>
    (sxs_cons (sx_if (tx_cmp op_pGt (ex_ix (ix_pIx (Room.u4 hr)) (ex_var 0 (pv 0)) ex_str (fun _ _ => rfl)) ex_int (by rfl)) (sxs_cons (sx_set 2 sc__law_draw.nd rfl (by first | exact .inl rfl | exact .inr rfl) (ex_bin op_pMod (ex_ix (ix_pIx (Room.u4 hr)) (ex_var 0 (pv 0)) ex_str (fun _ _ => rfl)) (ex_var 1 (pv 1))))
    (sxs_cons (sx_put (Room.u4 hr) (ex_bin op_pDiv (ex_ix (ix_pIx (Room.u4 hr)) (ex_var 0 (pv 0)) ex_str (fun _ _ => rfl)) (ex_var 1 (pv 1))) (pv 0) ex_str)
    (sxs_one (sx_ret (ex_var 2 (pv 2)))))) sxs_nil)
    (sxs_cons (sx_set 3 sc__law_draw.nd rfl (by first | exact .inl rfl | exact .inr rfl) (ex_ix (ix_pIx (Room.u4 hr)) (ex_var 0 (pv 0)) ex_str (fun _ _ => rfl)))
    (sxs_cons (sx_put (Room.u4 hr) (ex_bin op_pAdd (ex_var 3 (pv 3)) ex_int) (pv 0) ex_str)
    (sxs_cons (sx_set 4 sc__law_draw.nd rfl (by first | exact .inl rfl | exact .inr rfl) (ex_bin op_pAdd (ex_bin op_pMul ex_int (ex_var 3 (pv 3))) ex_int))
    (sxs_cons (sx_if (tx_cmp (op_pNe (Room.u4 hr)) (ex_ix (ix_pIx (Room.u4 hr)) (ex_var 0 (pv 0)) ex_str (fun _ _ => rfl)) (ex_lst ax_nil) (by rfl)) (sxs_one (sx_set 4 sc__law_draw.nd rfl (by first | exact .inl rfl | exact .inr rfl) (ex_ix (ix_pIx (Room.u4 hr)) (ex_ix (ix_pIx (Room.u4 hr)) (ex_var 0 (pv 0)) ex_str (fun _ _ => rfl)) (ex_bin op_pMod (ex_var 3 (pv 3)) (ex_callB call_pLenS rfl G.b_len PySem.boot_len (ax_one (ex_ix (ix_pIx (Room.u4 hr)) (ex_var 0 (pv 0)) ex_str (fun _ _ => rfl))))) (fun _ _ => rfl)))) sxs_nil)
    (sxs_cons (sx_if (tx_wx (wx_and (tx_cmp op_pLt (ex_var 3 (pv 3)) (ex_callB call_pLenS rfl G.b_len PySem.boot_len (ax_one (ex_ix (ix_pIx (Room.u4 hr)) (ex_var 0 (pv 0)) ex_str (fun _ _ => rfl)))) (by rfl)) (wx_and1 (tx_cmp op_pGe (ex_callB call_pAbs rfl G.b_abs PyProof.Rows.boot_abs (ax_one (ex_var 4 (pv 4)))) (ex_bin op_pPow ex_int ex_int) (by rfl))))) (sxs_cons (sx_put (Room.u4 hr) (ex_bin op_pDiv (ex_bin op_pSub (ex_callB call_pAbs rfl G.b_abs PyProof.Rows.boot_abs (ax_one (ex_var 4 (pv 4)))) (ex_bin op_pPow ex_int ex_int)) (ex_var 1 (pv 1))) (pv 0) ex_str)
    (sxs_one (sx_ret (ex_bin op_pMod (ex_bin op_pSub (ex_callB call_pAbs rfl G.b_abs PyProof.Rows.boot_abs (ax_one (ex_var 4 (pv 4)))) (ex_bin op_pPow ex_int ex_int)) (ex_var 1 (pv 1)))))) sxs_nil)
    (sxs_cons (sx_set 5 sc__law_draw.nd rfl (by first | exact .inl rfl | exact .inr rfl) (ex_bin op_pMod (ex_bin op_pAdd (ex_bin op_pAdd (ex_bin op_pAdd (ex_bin op_pMul (ex_bin op_pMod (ex_var 4 (pv 4)) ex_int) ex_int) (ex_bin op_pMul (ex_bin op_pMul ex_int (ex_var 3 (pv 3))) (ex_var 3 (pv 3)))) (ex_bin op_pMul ex_int (ex_var 3 (pv 3)))) ex_int) ex_int))
    (sxs_cons (sx_set 5 sc__law_draw.nd rfl (by first | exact .inl rfl | exact .inr rfl) (ex_bin op_pMod (ex_bin op_pAdd (ex_bin op_pAdd (ex_bin op_pAdd (ex_bin op_pMul (ex_var 5 (pv 5)) (ex_var 5 (pv 5))) (ex_bin op_pMul ex_int (ex_var 5 (pv 5)))) (ex_bin op_pMul ex_int (ex_var 3 (pv 3)))) ex_int) ex_int))
    (sxs_one (sx_ret (ex_bin op_pMod (ex_bin op_pDiv (ex_bin op_pMod (ex_bin op_pMul (ex_var 5 (pv 5)) (ex_bin op_pAdd (ex_var 5 (pv 5)) ex_int)) ex_int) ex_int) (ex_var 1 (pv 1)))))))))))))
/-! ### _law_pick(pen, some)  slots 0 pen, 1 some -/
abbrev s__law_pick : Stmt := topS 27
theorem sc__law_pick : FnScope ["pen", "some"] ["pen", "some"] (defScope s__law_pick) := ⟨rfl, rfl, rfl, by decide +kernel, rfl, by decide +kernel, by decide +kernel⟩
def b__law_pick : MX :=
  (mRet (mOp2 pIx (mVar 1) (mCall F__law_draw (mCons (mVar 0) (mOne (mFun pLenS (mOne (mVar 1))))))))
def F__law_pick : Fn := runF 2 b__law_pick
theorem ok__law_pick {f : Addr} {fd : FuncData} (G : Gb mg) (F : L2.Fun K "_law_pick" "_law_pick" s__law_pick f fd) (c__law_draw : Cal P w K mg base 1 "_law_draw" 2 F__law_draw) : GdOk P w K mg base 2 f fd ["pen", "some"] (spF ⟨K, w, P⟩ mg 2 F__law_pick) :=
  fs_of (k := 1) F sc__law_pick fun cdv A outer s H E hr hG =>
    (sxs_one (sx_ret (ex_ix (ix_pIx (Room.u4 hr)) (ex_var 1 (pv 1)) (ex_callC c__law_draw hG hr (by decide) rfl (takes_of rfl rfl rfl rfl) (ax_cons (ex_var 0 (pv 0)) (ax_one (ex_callB call_pLenS rfl G.b_len PySem.boot_len (ax_one (ex_var 1 (pv 1)))))) (len_cons (len_one _))) (fun _ _ => rfl))))
/-! ### _law_hands(pen, many)  slots 0 pen, 1 many, 2 letters, 3 base, 4 k, 5 at, 6 first, 7 cut, 8 by, 9 found, 10 some, 11 tail -/
abbrev s__law_hands : Stmt := topS 29
theorem sc__law_hands : FnScope ["pen", "many", "letters", "base", "k", "at", "first", "cut", "by", "found", "some", "tail"] ["pen", "many"] (defScope s__law_hands) := ⟨rfl, rfl, rfl, by decide +kernel, rfl, by decide +kernel, by decide +kernel⟩
def b__law_hands : MX :=
  (mSeq (mSet 2 (mC (.str "abcdefghijklmnopqrstuvwxyz")))
    (mSeq (mSet 3 (mMeth ["str"] gJoin (mC (.str "")) (mOne (mLc [4] (fun ms => ((mOne (mOp2 pAdd (mC (.int 1)) (mCall F__law_draw (mCons (mVar 0) (mOne (mC (.int 8))))))) ms).bind rng1) (gNm 4) mYes (mCall F__law_pick (mCons (mVar 0) (mOne (mVar 2))))))))
    (mSeq (mPar [5, 6, 7] (mKeep (mCall F__law_draw (mCons (mVar 0) (mOne (mFun pLenS (mOne (mVar 3)))))) (mKeep (mCall F__law_draw (mCons (mVar 0) (mOne (mC (.int 26))))) (mKeep (mCall F__law_draw (mCons (mVar 0) (mOne (mC (.int 2))))) mKNil))))
    (mSeq (mPar [8, 9] (mKeep (mCall F__law_pick (mCons (mVar 0) (mOne (mLst (mCons (mC (.int 1)) (mCons (mC (.int 3)) (mCons (mC (.int 5)) (mCons (mC (.int 7)) (mCons (mC (.int 9)) (mCons (mC (.int 11)) (mCons (mC (.int 15)) (mCons (mC (.int 17)) (mCons (mC (.int 19)) (mCons (mC (.int 21)) (mCons (mC (.int 23)) (mOne (mC (.int 25)))))))))))))))))) (mKeep (mLst mNil) mKNil)))
    (mSeq (mIf (mB (mOp2 pEq (mVar 8) (mC (.int 25)))) (mSeq (mSet 10 (mC (.str "let hands a ab abc abcd ann anna b ba lets hand z zz zzz le row rows an bar bars c ca")))
    (mRet (mLc [4] (fun ms => ((mOne (mVar 1)) ms).bind rng1) (gNm 4) mYes (mOp2 pIx (mMeth ["str"] gSplit (mVar 10) (mOne (mC (.str " ")))) (mOp2 pMod (mOp2 pAdd (mVar 6) (mOp2 pMul (mC (.int 5)) (mVar 4))) (mC (.int 23))))))) mSkip)
    (mSeq (mFor (fun ms => ((mOne (mVar 1)) ms).bind rng1) (gNm 4) (mSeq (mSet 11 (mSl (mSl (mVar 3) (mPart (mOp2 pAdd (mVar 5) (mC (.int 1)))) mNoPart) mNoPart (mPart (mOp2 pIx (mLst (mCons (mC (.int 8)) (mOne (mOp2 pMod (mVar 4) (mC (.int 3)))))) (mVar 7)))))
    (mDrop (mMut "list" gAppend 9 (mOne (mOp2 pAdd (mOp2 pAdd (mSl (mVar 3) mNoPart (mPart (mVar 5))) (mOp2 pIx (mVar 2) (mOp2 pMod (mOp2 pAdd (mVar 6) (mOp2 pMul (mVar 8) (mVar 4))) (mC (.int 26))))) (mVar 11)))))))
    (mRet (mVar 9))))))))
def F__law_hands : Fn := runF 12 b__law_hands
theorem ok__law_hands {f : Addr} {fd : FuncData} (G : Gb mg) (F : L2.Fun K "_law_hands" "_law_hands" s__law_hands f fd) (c__law_draw : Cal P w K mg base 1 "_law_draw" 2 F__law_draw) (c__law_pick : Cal P w K mg base 2 "_law_pick" 2 F__law_pick) : GdOk P w K mg base 3 f fd ["pen", "many"] (spF ⟨K, w, P⟩ mg 2 F__law_hands) :=
  fs_of (k := 2) F sc__law_hands fun cdv A outer s H E hr hG =>
    (sxs_cons (sx_set 2 sc__law_hands.nd rfl (by first | exact .inl rfl | exact .inr rfl) ex_str)
    (sxs_cons (sx_set 3 sc__law_hands.nd rfl (by first | exact .inl rfl | exact .inr rfl) (ex_meth rfl me_join ex_str (ax_one (ex_lc (own := [("k", 4)]) (vs := [4]) rfl sc__law_hands.nd (ix_range1 rfl G.b_range (ax_one (ex_bin op_pAdd ex_int (ex_callC c__law_draw hG hr (by decide) rfl (takes_of rfl rfl rfl rfl) (ax_cons (ex_var 0 (pv 0)) (ax_one ex_int)) (len_cons (len_one _)))))) (blkOk_by (by kernel_rfl)) (fun s H C cl fp => (gx_name 4 sc__law_hands.nd rfl (by first | exact .inl rfl | exact .inr rfl))) (gNm_nx 4) (fun s H C cl fp => txs_nil) (fun s H C cl fp => (ex_callC c__law_pick hG hr (by decide) rfl takes_w0 (ax_cons (ex_var 0 (pv 0)) (ax_one (ex_var 2 (pv 2)))) (len_cons (len_one _))))))))
    (sxs_cons (sx_unp (n := 3) rfl (kx_cons (ex_callC c__law_draw hG hr (by decide) rfl (takes_of rfl rfl rfl rfl) (ax_cons (ex_var 0 (pv 0)) (ax_one (ex_callB call_pLenS rfl G.b_len PySem.boot_len (ax_one (ex_var 3 (pv 3)))))) (len_cons (len_one _))) (kx_cons (ex_callC c__law_draw hG hr (by decide) rfl (takes_of rfl rfl rfl rfl) (ax_cons (ex_var 0 (pv 0)) (ax_one ex_int)) (len_cons (len_one _))) (kx_cons (ex_callC c__law_draw hG hr (by decide) rfl (takes_of rfl rfl rfl rfl) (ax_cons (ex_var 0 (pv 0)) (ax_one ex_int)) (len_cons (len_one _))) kx_nil))) (nm_cons 5 sc__law_hands.nd rfl (by first | exact .inl rfl | exact .inr rfl) (nm_cons 6 sc__law_hands.nd rfl (by first | exact .inl rfl | exact .inr rfl) (nm_cons 7 sc__law_hands.nd rfl (by first | exact .inl rfl | exact .inr rfl) nm_nil))))
    (sxs_cons (sx_par2 (i := 8) (j := 9) rfl sc__law_hands.nd rfl rfl (by decide) rfl rfl (kx_cons (ex_callC c__law_pick hG hr (by decide) rfl (takes_of rfl rfl rfl rfl) (ax_cons (ex_var 0 (pv 0)) (ax_one (ex_lst (ax_cons ex_int (ax_cons ex_int (ax_cons ex_int (ax_cons ex_int (ax_cons ex_int (ax_cons ex_int (ax_cons ex_int (ax_cons ex_int (ax_cons ex_int (ax_cons ex_int (ax_cons ex_int (ax_one ex_int))))))))))))))) (len_cons (len_one _))) (kx_cons (ex_lst ax_nil) kx_nil)))
    (sxs_cons (sx_if (tx_cmp (op_pEq (Room.u4 hr)) (ex_var 8 (pv 8)) ex_int (by rfl)) (sxs_cons (sx_set 10 sc__law_hands.nd rfl (by first | exact .inl rfl | exact .inr rfl) ex_str)
    (sxs_one (sx_ret (ex_lc (own := [("k", 4)]) (vs := [4]) rfl sc__law_hands.nd (ix_range1 rfl G.b_range (ax_one (ex_var 1 (pv 1)))) (blkOk_by (by kernel_rfl)) (fun s H C cl fp => (gx_name 4 sc__law_hands.nd rfl (by first | exact .inl rfl | exact .inr rfl))) (gNm_nx 4) (fun s H C cl fp => txs_nil) (fun s H C cl fp => (ex_ix (ix_pIx (Room.u4 hr)) (ex_meth rfl me_split (ex_var 10 (pv 10)) (ax_one ex_str)) (ex_bin op_pMod (ex_bin op_pAdd (ex_var 6 (pv 6)) (ex_bin op_pMul ex_int (ex_var 4 (pv 4)))) ex_int) (fun _ _ => rfl))))))) sxs_nil)
    (sxs_cons (sx_for (passes_of rfl) rfl (ix_range1 rfl G.b_range (ax_one (ex_var 1 (pv 1)))) (gx_name 4 sc__law_hands.nd rfl (by first | exact .inl rfl | exact .inr rfl)) (gNm_nx 4) (sxs_cons (sx_set 11 sc__law_hands.nd rfl (by first | exact .inl rfl | exact .inr rfl) (ex_sl (ex_sl (ex_var 3 (pv 3)) (px_some (ex_bin op_pAdd (ex_var 5 (pv 5)) ex_int)) px_none) px_none (px_some (ex_ix (ix_pIx (Room.u4 hr)) (ex_lst (ax_cons ex_int (ax_one (ex_bin op_pMod (ex_var 4 (pv 4)) ex_int)))) (ex_var 7 (pv 7)) (fun _ _ => rfl)))))
    (sxs_one (sx_drop (ex_mut rfl mu_append (pv 9) (ax_one (ex_bin op_pAdd (ex_bin op_pAdd (ex_sl (ex_var 3 (pv 3)) px_none (px_some (ex_var 5 (pv 5)))) (ex_ix (ix_pIx (Room.u4 hr)) (ex_var 2 (pv 2)) (ex_bin op_pMod (ex_bin op_pAdd (ex_var 6 (pv 6)) (ex_bin op_pMul (ex_var 8 (pv 8)) (ex_var 4 (pv 4)))) ex_int) (fun _ _ => rfl))) (ex_var 11 (pv 11)))))))))
    (sxs_one (sx_ret (ex_var 9 (pv 9))))))))))
/-! ### _law_twos(hands)  slots 0 hands, 1 rising, 2 found, 3 k, 4 other -/
abbrev s__law_twos : Stmt := topS 32
theorem sc__law_twos : FnScope ["hands", "rising", "found", "k", "other"] ["hands"] (defScope s__law_twos) := ⟨rfl, rfl, rfl, by decide +kernel, rfl, by decide +kernel, by decide +kernel⟩
def b__law_twos : MX :=
  (mSeq (mSet 1 (mFun pSorted (mOne (mVar 0))))
    (mSeq (mSet 2 (mLst mNil))
    (mSeq (mFor (fun ms => ((mOne (mFun pLenS (mOne (mVar 1)))) ms).bind rng1) (gNm 3) (mDrop (mMut "list" gExtend 2 (mOne (mLc [4] (fun ms => ((mSl (mVar 1) (mPart (mOp2 pAdd (mVar 3) (mC (.int 1)))) mNoPart) ms).bind srcOf) (gNm 4) mYes (mTup (mCons (mOp2 pIx (mVar 1) (mVar 3)) (mOne (mVar 4)))))))))
    (mRet (mVar 2)))))
def F__law_twos : Fn := runF 5 b__law_twos
theorem ok__law_twos {f : Addr} {fd : FuncData} (G : Gb mg) (F : L2.Fun K "_law_twos" "_law_twos" s__law_twos f fd)  : GdOk P w K mg base 1 f fd ["hands"] (spF ⟨K, w, P⟩ mg 1 F__law_twos) :=
  fs_of (k := 0) F sc__law_twos fun cdv A outer s H E hr hG =>
    (sxs_cons (sx_set 1 sc__law_twos.nd rfl (by first | exact .inl rfl | exact .inr rfl) (ex_callB (call_pSorted rfl (Room.u4 hr)) rfl G.b_sorted PyProof.Rows.boot_sorted (ax_one (ex_var 0 (pv 0)))))
    (sxs_cons (sx_set 2 sc__law_twos.nd rfl (by first | exact .inl rfl | exact .inr rfl) (ex_lst ax_nil))
    (sxs_cons (sx_for (passes_of rfl) rfl (ix_range1 rfl G.b_range (ax_one (ex_callB call_pLenS rfl G.b_len PySem.boot_len (ax_one (ex_var 1 (pv 1)))))) (gx_name 3 sc__law_twos.nd rfl (by first | exact .inl rfl | exact .inr rfl)) (gNm_nx 3) (sxs_one (sx_drop (ex_mut rfl mu_extend (pv 2) (ax_one (ex_lc (own := [("other", 4)]) (vs := [4]) rfl sc__law_twos.nd (ix_seq (ex_sl (ex_var 1 (pv 1)) (px_some (ex_bin op_pAdd (ex_var 3 (pv 3)) ex_int)) px_none)) (blkOk_by (by kernel_rfl)) (fun s H C cl fp => (gx_name 4 sc__law_twos.nd rfl (by first | exact .inl rfl | exact .inr rfl))) (gNm_nx 4) (fun s H C cl fp => txs_nil) (fun s H C cl fp => (ex_tup (ax_cons (ex_ix (ix_pIx (Room.u4 hr)) (ex_var 1 (pv 1)) (ex_var 3 (pv 3)) (fun _ _ => rfl)) (ax_one (ex_var 4 (pv 4))))))))))))
    (sxs_one (sx_ret (ex_var 2 (pv 2)))))))
/-! ### _law_sets(hands)  slots 0 hands, 1 found, 2 hand, 3 one -/
abbrev s__law_sets : Stmt := topS 31
theorem sc__law_sets : FnScope ["hands", "found", "hand", "one"] ["hands"] (defScope s__law_sets) := ⟨rfl, rfl, rfl, by decide +kernel, rfl, by decide +kernel, by decide +kernel⟩
def b__law_sets : MX :=
  (mSeq (mSet 1 (mLst (mOne (mTup mNil))))
    (mSeq (mFor (fun ms => ((mFun pSorted (mOne (mVar 0))) ms).bind srcFz) (gNm 2) (mSet 1 (mOp2 pAdd (mVar 1) (mLc [3] (fun ms => ((mVar 1) ms).bind srcOf) (gNm 3) mYes (mOp2 pAdd (mVar 3) (mTup (mOne (mVar 2))))))))
    (mRet (mFun pSorted (mOne (mVar 1))))))
def F__law_sets : Fn := runF 4 b__law_sets
theorem ok__law_sets {f : Addr} {fd : FuncData} (G : Gb mg) (F : L2.Fun K "_law_sets" "_law_sets" s__law_sets f fd)  : GdOk P w K mg base 1 f fd ["hands"] (spF ⟨K, w, P⟩ mg 1 F__law_sets) :=
  fs_of (k := 0) F sc__law_sets fun cdv A outer s H E hr hG =>
    (sxs_cons (sx_set 1 sc__law_sets.nd rfl (by first | exact .inl rfl | exact .inr rfl) (ex_lst (ax_one (ex_tup ax_nil))))
    (sxs_cons (sx_for (passes_of rfl) rfl (ix_fz (ex_callB (call_pSorted rfl (Room.u4 hr)) rfl G.b_sorted PyProof.Rows.boot_sorted (ax_one (ex_var 0 (pv 0))))) (gx_name 2 sc__law_sets.nd rfl (by first | exact .inl rfl | exact .inr rfl)) (gNm_nx 2) (sxs_one (sx_set 1 sc__law_sets.nd rfl (by first | exact .inl rfl | exact .inr rfl) (ex_bin op_pAdd (ex_var 1 (pv 1)) (ex_lc (own := [("one", 3)]) (vs := [3]) rfl sc__law_sets.nd (ix_seq (ex_var 1 (pv 1))) (blkOk_by (by kernel_rfl)) (fun s H C cl fp => (gx_name 3 sc__law_sets.nd rfl (by first | exact .inl rfl | exact .inr rfl))) (gNm_nx 3) (fun s H C cl fp => txs_nil) (fun s H C cl fp => (ex_bin op_pAdd (ex_var 3 (pv 3)) (ex_tup (ax_one (ex_var 2 (pv 2)))))))))))
    (sxs_one (sx_ret (ex_callB (call_pSorted rfl (Room.u4 hr)) rfl G.b_sorted PyProof.Rows.boot_sorted (ax_one (ex_var 1 (pv 1))))))))
/-! ### _law_every_let(hands)  slots 0 hands, 1 found, 2 one, 3 other, 4 ahead, 5 k -/
abbrev s__law_every_let : Stmt := topS 33
theorem sc__law_every_let : FnScope ["hands", "found", "one", "other", "ahead", "k"] ["hands"] (defScope s__law_every_let) := ⟨rfl, rfl, rfl, by decide +kernel, rfl, by decide +kernel, by decide +kernel⟩
def b__law_every_let : MX :=
  (mSeq (mSet 1 (mLst mNil))
    (mSeq (mFor (fun ms => ((mCall F__law_twos (mOne (mVar 0))) ms).bind srcFz) (gSeq 2 (gsCons (gNm 2) (gsCons (gNm 3) gsNil))) (mDrop (mMut "list" gExtend 1 (mOne (mLc [4] (fun ms => ((mCall F__law_sets (mOne (mLc [5] (fun ms => ((mVar 0) ms).bind srcOf) (gNm 5) (mB (mOp2 pNotIn (mVar 5) (mTup (mCons (mVar 2) (mOne (mVar 3)))))) (mVar 5)))) ms).bind srcOf) (gNm 4) mYes (mTup (mCons (mVar 2) (mCons (mVar 3) (mOne (mVar 4))))))))))
    (mRet (mVar 1))))
def F__law_every_let : Fn := runF 6 b__law_every_let
theorem ok__law_every_let {f : Addr} {fd : FuncData} (G : Gb mg) (F : L2.Fun K "_law_every_let" "_law_every_let" s__law_every_let f fd) (c__law_twos : Cal P w K mg base 1 "_law_twos" 1 F__law_twos) (c__law_sets : Cal P w K mg base 1 "_law_sets" 1 F__law_sets) : GdOk P w K mg base 2 f fd ["hands"] (spF ⟨K, w, P⟩ mg 1 F__law_every_let) :=
  fs_of (k := 1) F sc__law_every_let fun cdv A outer s H E hr hG =>
    (sxs_cons (sx_set 1 sc__law_every_let.nd rfl (by first | exact .inl rfl | exact .inr rfl) (ex_lst ax_nil))
    (sxs_cons (sx_for (passes_of rfl) rfl (ix_fz (ex_callC c__law_twos hG hr (by decide) rfl (takes_of rfl rfl rfl rfl) (ax_one (ex_var 0 (pv 0))) (len_one _))) (gx_seq (n := 2) rfl (gxs_cons (gx_name 2 sc__law_every_let.nd rfl (by first | exact .inl rfl | exact .inr rfl)) (gxs_cons (gx_name 3 sc__law_every_let.nd rfl (by first | exact .inl rfl | exact .inr rfl)) gxs_nil))) (gSeq_nx (gsCons_nx (gNm_nx 2) (gsCons_nx (gNm_nx 3) gsNil_nx))) (sxs_one (sx_drop (ex_mut rfl mu_extend (pv 1) (ax_one (ex_lc (own := [("ahead", 4)]) (vs := [4]) rfl sc__law_every_let.nd (ix_seq (ex_callC c__law_sets hG hr (by decide) rfl (takes_of rfl rfl rfl rfl) (ax_one (ex_lc (own := [("k", 5)]) (vs := [5]) rfl sc__law_every_let.nd (ix_seq (ex_var 0 (pv 0))) (blkOk_by (by kernel_rfl)) (fun s H C cl fp => (gx_name 5 sc__law_every_let.nd rfl (by first | exact .inl rfl | exact .inr rfl))) (gNm_nx 5) (fun s H C cl fp => (txs_one (tx_cmp (op_pNotIn (Room.u hr)) (ex_var 5 (pv 5)) (ex_tup (ax_cons (ex_var 2 (pv 2)) (ax_one (ex_var 3 (pv 3))))) (by rfl)))) (fun s H C cl fp => (ex_var 5 (pv 5))))) (len_one _))) (blkOk_by (by kernel_rfl)) (fun s H C cl fp => (gx_name 4 sc__law_every_let.nd rfl (by first | exact .inl rfl | exact .inr rfl))) (gNm_nx 4) (fun s H C cl fp => txs_nil) (fun s H C cl fp => (ex_tup (ax_cons (ex_var 2 (pv 2)) (ax_cons (ex_var 3 (pv 3)) (ax_one (ex_var 4 (pv 4)))))))))))))
    (sxs_one (sx_ret (ex_var 1 (pv 1))))))
/-! ### _law_raw_lets(pen, hands)  slots 0 pen, 1 hands, 2 part, 3 found, 4 one -/
abbrev s__law_raw_lets : Stmt := topS 37
theorem sc__law_raw_lets : FnScope ["pen", "hands", "part", "found", "one"] ["pen", "hands"] (defScope s__law_raw_lets) := ⟨rfl, rfl, rfl, by decide +kernel, rfl, by decide +kernel, by decide +kernel⟩
def b__law_raw_lets : MX :=
  (mSeq (mPar [2, 3] (mKeep (mCall F__law_pick (mCons (mVar 0) (mOne (mLst (mCons (mC (.int 2)) (mCons (mC (.int 3)) (mCons (mC (.int 5)) (mOne (mC (.int 9)))))))))) (mKeep mDict0 mKNil)))
    (mSeq (mFor (fun ms => ((mCall F__law_every_let (mOne (mVar 1))) ms).bind srcFz) (gNm 4) (mIf (mB (mOp2 pEq (mCall F__law_draw (mCons (mVar 0) (mOne (mVar 2)))) (mC (.int 0)))) (mPut 3 (mVar 4) (mC (.bool true))) mSkip))
    (mRet (mVar 3))))
def F__law_raw_lets : Fn := runF 5 b__law_raw_lets
theorem ok__law_raw_lets {f : Addr} {fd : FuncData} (G : Gb mg) (F : L2.Fun K "_law_raw_lets" "_law_raw_lets" s__law_raw_lets f fd) (c__law_pick : Cal P w K mg base 2 "_law_pick" 2 F__law_pick) (c__law_every_let : Cal P w K mg base 2 "_law_every_let" 1 F__law_every_let) (c__law_draw : Cal P w K mg base 1 "_law_draw" 2 F__law_draw) : GdOk P w K mg base 3 f fd ["pen", "hands"] (spF ⟨K, w, P⟩ mg 2 F__law_raw_lets) :=
  fs_of (k := 2) F sc__law_raw_lets fun cdv A outer s H E hr hG =>
    (sxs_cons (sx_par2 (i := 2) (j := 3) rfl sc__law_raw_lets.nd rfl rfl (by decide) rfl rfl (kx_cons (ex_callC c__law_pick hG hr (by decide) rfl (takes_of rfl rfl rfl rfl) (ax_cons (ex_var 0 (pv 0)) (ax_one (ex_lst (ax_cons ex_int (ax_cons ex_int (ax_cons ex_int (ax_one ex_int))))))) (len_cons (len_one _))) (kx_cons ex_dict0 kx_nil)))
    (sxs_cons (sx_for (passes_of rfl) rfl (ix_fz (ex_callC c__law_every_let hG hr (by decide) rfl (takes_of rfl rfl rfl rfl) (ax_one (ex_var 1 (pv 1))) (len_one _))) (gx_name 4 sc__law_raw_lets.nd rfl (by first | exact .inl rfl | exact .inr rfl)) (gNm_nx 4) (sxs_one (sx_if (tx_cmp (op_pEq (Room.u4 hr)) (ex_callC c__law_draw hG hr (by decide) rfl (takes_of rfl rfl rfl rfl) (ax_cons (ex_var 0 (pv 0)) (ax_one (ex_var 2 (pv 2)))) (len_cons (len_one _))) ex_int (by rfl)) (sxs_one (sx_put (Room.u4 hr) ex_bl (pv 3) (ex_var 4 (pv 4)))) sxs_nil)))
    (sxs_one (sx_ret (ex_var 3 (pv 3))))))
/-! ### are_unlike(some)  slots 0 some, 1 name -/
abbrev s_are_unlike : Stmt := topS 9
theorem sc_are_unlike : FnScope ["some", "name"] ["some"] (defScope s_are_unlike) := ⟨rfl, rfl, rfl, by decide +kernel, rfl, by decide +kernel, by decide +kernel⟩
def b_are_unlike : MX :=
  (mRet (mOp2 pEq (mFun pLenS (mOne (mCm [1] (fun ms => ((mVar 0) ms).bind srcFz) (gNm 1) mYes (stepS (mVar 1)) (stD [])))) (mFun pLenS (mOne (mVar 0)))))
def F_are_unlike : Fn := runF 2 b_are_unlike
theorem ok_are_unlike {f : Addr} {fd : FuncData} (G : Gb mg) (F : L2.Fun K "are_unlike" "are_unlike" s_are_unlike f fd)  : GdOk P w K mg base 1 f fd ["some"] (spF ⟨K, w, P⟩ mg 1 F_are_unlike) :=
  fs_of (k := 0) F sc_are_unlike fun cdv A outer s H E hr hG =>
    (sxs_one (sx_ret (ex_cmp (op_pEq (Room.u4 hr)) (ex_callB call_pLenS rfl G.b_len PySem.boot_len (ax_one (ex_sc (own := [("name", 1)]) (vs := [1]) rfl sc_are_unlike.nd (ix_fz (ex_var 0 (pv 0))) (blkOk_by (by kernel_rfl)) (fun s H C cl fp => (gx_name 1 sc_are_unlike.nd rfl (by first | exact .inl rfl | exact .inr rfl))) (gNm_nx 1) (fun s H C cl fp => txs_nil) (fun s H C cl fp => (ex_var 1 (pv 1)))))) (ex_callB call_pLenS rfl G.b_len PySem.boot_len (ax_one (ex_var 0 (pv 0)))) (by rfl))))
/-! ### is_hand(thing)  slots 0 thing, 1 sign -/
abbrev s_is_hand : Stmt := topS 8
theorem sc_is_hand : FnScope ["thing", "sign"] ["thing"] (defScope s_is_hand) := ⟨rfl, rfl, rfl, by decide +kernel, rfl, by decide +kernel, by decide +kernel⟩
def b_is_hand : MX :=
  (mSeq (mIf (mOr (mNot (mTru (mIsi ["str"] (mVar 0)))) (mNot (mB (mChain qLe qLe (mC (.int 1)) (mFun pLenS (mOne (mVar 0))) (mC (.int 8)))))) (mRet (mC (.bool false))) mSkip)
    (mRet (mFun pAll (mOne (mLc [1] (fun ms => ((mVar 0) ms).bind srcOf) (gNm 1) mYes (mOp2 pIn (mVar 1) (mC (.str "abcdefghijklmnopqrstuvwxyz"))))))))
def F_is_hand : Fn := runF 2 b_is_hand
theorem ok_is_hand {f : Addr} {fd : FuncData} (G : Gb mg) (F : L2.Fun K "is_hand" "is_hand" s_is_hand f fd)  : GdOk P w K mg base 1 f fd ["thing"] (spF ⟨K, w, P⟩ mg 1 F_is_hand) :=
  fs_of (k := 0) F sc_is_hand fun cdv A outer s H E hr hG =>
    (sxs_cons (sx_if (tx_wx (wx_or (tx_not (tx_tru (ex_isi (ex_var 0 (pv 0)) rfl G.b_isinstance rfl G.b_str PySem.Pv.boot_str))) (wx_or1 (tx_not (tx_chain (op_qLe (Room.u4 hr)) (op_qLe (Room.u4 hr)) ex_int (ex_callB call_pLenS rfl G.b_len PySem.boot_len (ax_one (ex_var 0 (pv 0)))) (ex_gintE rfl G.c_LONGEST_HAND)))))) (sxs_one (sx_ret ex_bl)) sxs_nil)
    (sxs_one (sx_ret (ex_callB (call_pAll rfl) rfl G.b_all PyProof.Rows.boot_all (ax_one (ex_lc (own := [("sign", 1)]) (vs := [1]) rfl sc_is_hand.nd (ix_seq (ex_var 0 (pv 0))) (blkOk_by (by kernel_rfl)) (fun s H C cl fp => (gx_name 1 sc_is_hand.nd rfl (by first | exact .inl rfl | exact .inr rfl))) (gNm_nx 1) (fun s H C cl fp => txs_nil) (fun s H C cl fp => (ex_cmp (op_pIn (Room.u hr)) (ex_var 1 (pv 1)) (ex_gstrE rfl G.c_LETTERS) (by rfl)))))))))
/-! ### are_hands(thing)  slots 0 thing, 1 one -/
abbrev s_are_hands : Stmt := topS 10
theorem sc_are_hands : FnScope ["thing", "one"] ["thing"] (defScope s_are_hands) := ⟨rfl, rfl, rfl, by decide +kernel, rfl, by decide +kernel, by decide +kernel⟩
def b_are_hands : MX :=
  (mSeq (mIf (mOr (mNot (mTru (mIsi ["list", "tuple"] (mVar 0)))) (mNot (mB (mChain qLe qLe (mC (.int 1)) (mFun pLenS (mOne (mVar 0))) (mC (.int 8)))))) (mRet (mC (.bool false))) mSkip)
    (mRet (mAndV (mFun pAll (mOne (mLc [1] (fun ms => ((mVar 0) ms).bind srcOf) (gNm 1) mYes (mCall F_is_hand (mOne (mVar 1)))))) (mCall F_are_unlike (mOne (mVar 0))))))
def F_are_hands : Fn := runF 2 b_are_hands
theorem ok_are_hands {f : Addr} {fd : FuncData} (G : Gb mg) (F : L2.Fun K "are_hands" "are_hands" s_are_hands f fd) (c_is_hand : Cal P w K mg base 1 "is_hand" 1 F_is_hand) (c_are_unlike : Cal P w K mg base 1 "are_unlike" 1 F_are_unlike) : GdOk P w K mg base 2 f fd ["thing"] (spF ⟨K, w, P⟩ mg 1 F_are_hands) :=
  fs_of (k := 1) F sc_are_hands fun cdv A outer s H E hr hG =>
    (sxs_cons (sx_if (tx_wx (wx_or (tx_not (tx_tru (ex_isiN (ex_var 0 (pv 0)) rfl G.b_isinstance (pa_tys rfl G.b_list PySem.Pv.boot_list (pa_tys rfl G.b_tuple PySem.Pv.boot_tuple pa_tys_nil))))) (wx_or1 (tx_not (tx_chain (op_qLe (Room.u4 hr)) (op_qLe (Room.u4 hr)) ex_int (ex_callB call_pLenS rfl G.b_len PySem.boot_len (ax_one (ex_var 0 (pv 0)))) (ex_gintE rfl G.c_MOST_HANDS)))))) (sxs_one (sx_ret ex_bl)) sxs_nil)
    (sxs_one (sx_ret (ex_and (ex_callB (call_pAll rfl) rfl G.b_all PyProof.Rows.boot_all (ax_one (ex_lc (own := [("one", 1)]) (vs := [1]) rfl sc_are_hands.nd (ix_seq (ex_var 0 (pv 0))) (blkOk_by (by kernel_rfl)) (fun s H C cl fp => (gx_name 1 sc_are_hands.nd rfl (by first | exact .inl rfl | exact .inr rfl))) (gNm_nx 1) (fun s H C cl fp => txs_nil) (fun s H C cl fp => (ex_callC c_is_hand hG hr (by decide) rfl takes_w0 (ax_one (ex_var 1 (pv 1))) (len_one _)))))) (ex_one (ex_callC c_are_unlike hG hr (by decide) rfl (takes_of rfl rfl rfl rfl) (ax_one (ex_var 0 (pv 0))) (len_one _)))))))
/-! ### need_hands(thing)  slots 0 thing -/
abbrev s_need_hands : Stmt := topS 11
theorem sc_need_hands : FnScope ["thing"] ["thing"] (defScope s_need_hands) := ⟨rfl, rfl, rfl, by decide +kernel, rfl, by decide +kernel, by decide +kernel⟩
def b_need_hands : MX :=
  (mSeq (mIf (mNot (mTru (mCall F_are_hands (mOne (mVar 0))))) mBadX mSkip)
    (mRet (mFun pTuple (mOne (mFun pSorted (mOne (mVar 0)))))))
def F_need_hands : Fn := runF 1 b_need_hands
theorem ok_need_hands {f : Addr} {fd : FuncData} (G : Gb mg) (F : L2.Fun K "need_hands" "need_hands" s_need_hands f fd) (c_are_hands : Cal P w K mg base 2 "are_hands" 1 F_are_hands) : GdOk P w K mg base 3 f fd ["thing"] (spF ⟨K, w, P⟩ mg 1 F_need_hands) :=
  fs_of (k := 2) F sc_need_hands fun cdv A outer s H E hr hG =>
    (sxs_cons (sx_if (tx_not (tx_tru (ex_callC c_are_hands hG hr (by decide) rfl (takes_of rfl rfl rfl rfl) (ax_one (ex_var 0 (pv 0))) (len_one _)))) (sxs_one sx_bad) sxs_nil)
    (sxs_one (sx_ret (ex_callTy call_pTuple rfl G.b_tuple PySem.Pv.boot_tuple (ax_one (ex_callB (call_pSorted rfl (Room.u4 hr)) rfl G.b_sorted PyProof.Rows.boot_sorted (ax_one (ex_var 0 (pv 0)))))))))
/-! ### set_of(some)  slots 0 some -/
abbrev s_set_of : Stmt := topS 12
theorem sc_set_of : FnScope ["some"] ["some"] (defScope s_set_of) := ⟨rfl, rfl, rfl, by decide +kernel, rfl, by decide +kernel, by decide +kernel⟩
def b_set_of : MX :=
  (mRet (mFun pTuple (mOne (mFun pSorted (mOne (mVar 0))))))
def F_set_of : Fn := runF 1 b_set_of
theorem ok_set_of {f : Addr} {fd : FuncData} (G : Gb mg) (F : L2.Fun K "set_of" "set_of" s_set_of f fd)  : GdOk P w K mg base 1 f fd ["some"] (spF ⟨K, w, P⟩ mg 1 F_set_of) :=
  fs_of (k := 0) F sc_set_of fun cdv A outer s H E hr hG =>
    (sxs_one (sx_ret (ex_callTy call_pTuple rfl G.b_tuple PySem.Pv.boot_tuple (ax_one (ex_callB (call_pSorted rfl (Room.u4 hr)) rfl G.b_sorted PyProof.Rows.boot_sorted (ax_one (ex_var 0 (pv 0))))))))
/-! ### is_set(hands, thing)  slots 0 hands, 1 thing, 2 one -/
abbrev s_is_set : Stmt := topS 14
theorem sc_is_set : FnScope ["hands", "thing", "one"] ["hands", "thing"] (defScope s_is_set) := ⟨rfl, rfl, rfl, by decide +kernel, rfl, by decide +kernel, by decide +kernel⟩
def b_is_set : MX :=
  (mSeq (mIf (mOr (mNot (mTru (mIsi ["tuple"] (mVar 1)))) (mNot (mTru (mFun pAll (mOne (mLc [2] (fun ms => ((mVar 1) ms).bind srcOf) (gNm 2) mYes (mAndV (mIsi ["str"] (mVar 2)) (mOp2 pIn (mVar 2) (mVar 0))))))))) (mRet (mC (.bool false))) mSkip)
    (mRet (mAndV (mCall F_are_unlike (mOne (mVar 1))) (mOp2 pEq (mVar 1) (mCall F_set_of (mOne (mVar 1)))))))
def F_is_set : Fn := runF 3 b_is_set
theorem ok_is_set {f : Addr} {fd : FuncData} (G : Gb mg) (F : L2.Fun K "is_set" "is_set" s_is_set f fd) (c_are_unlike : Cal P w K mg base 1 "are_unlike" 1 F_are_unlike) (c_set_of : Cal P w K mg base 1 "set_of" 1 F_set_of) : GdOk P w K mg base 2 f fd ["hands", "thing"] (spF ⟨K, w, P⟩ mg 2 F_is_set) :=
  fs_of (k := 1) F sc_is_set fun cdv A outer s H E hr hG =>
    (sxs_cons (sx_if (tx_wx (wx_or (tx_not (tx_tru (ex_isi (ex_var 1 (pv 1)) rfl G.b_isinstance rfl G.b_tuple PySem.Pv.boot_tuple))) (wx_or1 (tx_not (tx_tru (ex_callB (call_pAll rfl) rfl G.b_all PyProof.Rows.boot_all (ax_one (ex_lc (own := [("one", 2)]) (vs := [2]) rfl sc_is_set.nd (ix_seq (ex_var 1 (pv 1))) (blkOk_by (by kernel_rfl)) (fun s H C cl fp => (gx_name 2 sc_is_set.nd rfl (by first | exact .inl rfl | exact .inr rfl))) (gNm_nx 2) (fun s H C cl fp => txs_nil) (fun s H C cl fp => (ex_and (ex_isi (ex_var 2 (pv 2)) rfl G.b_isinstance rfl G.b_str PySem.Pv.boot_str) (ex_one (ex_cmp (op_pIn (Room.u hr)) (ex_var 2 (pv 2)) (ex_var 0 (pv 0)) (by rfl))))))))))))) (sxs_one (sx_ret ex_bl)) sxs_nil)
    (sxs_one (sx_ret (ex_and (ex_callC c_are_unlike hG hr (by decide) rfl (takes_of rfl rfl rfl rfl) (ax_one (ex_var 1 (pv 1))) (len_one _)) (ex_one (ex_cmp (op_pEq (Room.u4 hr)) (ex_var 1 (pv 1)) (ex_callC c_set_of hG hr (by decide) rfl (takes_of rfl rfl rfl rfl) (ax_one (ex_var 1 (pv 1))) (len_one _)) (by rfl)))))))
/-! ### without(hands, some)  slots 0 hands, 1 some, 2 hand -/
abbrev s_without : Stmt := topS 13
theorem sc_without : FnScope ["hands", "some", "hand"] ["hands", "some"] (defScope s_without) := ⟨rfl, rfl, rfl, by decide +kernel, rfl, by decide +kernel, by decide +kernel⟩
def b_without : MX :=
  (mRet (mFun pTuple (mOne (mLc [2] (fun ms => ((mVar 0) ms).bind srcOf) (gNm 2) (mB (mOp2 pNotIn (mVar 2) (mVar 1))) (mVar 2)))))
def F_without : Fn := runF 3 b_without
theorem ok_without {f : Addr} {fd : FuncData} (G : Gb mg) (F : L2.Fun K "without" "without" s_without f fd)  : GdOk P w K mg base 1 f fd ["hands", "some"] (spF ⟨K, w, P⟩ mg 2 F_without) :=
  fs_of (k := 0) F sc_without fun cdv A outer s H E hr hG =>
    (sxs_one (sx_ret (ex_callTy call_pTuple rfl G.b_tuple PySem.Pv.boot_tuple (ax_one (ex_lc (own := [("hand", 2)]) (vs := [2]) rfl sc_without.nd (ix_seq (ex_var 0 (pv 0))) (blkOk_by (by kernel_rfl)) (fun s H C cl fp => (gx_name 2 sc_without.nd rfl (by first | exact .inl rfl | exact .inr rfl))) (gNm_nx 2) (fun s H C cl fp => (txs_one (tx_cmp (op_pNotIn (Room.u hr)) (ex_var 2 (pv 2)) (ex_var 1 (pv 1)) (by rfl)))) (fun s H C cl fp => (ex_var 2 (pv 2))))))))
/-! ### is_let(hands, thing)  slots 0 hands, 1 thing, 2 pair -/
abbrev s_is_let : Stmt := topS 21
theorem sc_is_let : FnScope ["hands", "thing", "pair"] ["hands", "thing"] (defScope s_is_let) := ⟨rfl, rfl, rfl, by decide +kernel, rfl, by decide +kernel, by decide +kernel⟩
def b_is_let : MX :=
  (mSeq (mIf (mOr (mNot (mTru (mIsi ["tuple"] (mVar 1)))) (mB (mOp2 pNe (mFun pLenS (mOne (mVar 1))) (mC (.int 3))))) (mRet (mC (.bool false))) mSkip)
    (mSeq (mSet 2 (mSl (mVar 1) mNoPart (mPart (mC (.int 2)))))
    (mRet (mAndV (mCall F_is_set (mCons (mVar 0) (mOne (mVar 2)))) (mCall F_is_set (mCons (mCall F_without (mCons (mVar 0) (mOne (mVar 2)))) (mOne (mOp2 pIx (mVar 1) (mC (.int 2))))))))))
def F_is_let : Fn := runF 3 b_is_let
theorem ok_is_let {f : Addr} {fd : FuncData} (G : Gb mg) (F : L2.Fun K "is_let" "is_let" s_is_let f fd) (c_is_set : Cal P w K mg base 2 "is_set" 2 F_is_set) (c_without : Cal P w K mg base 1 "without" 2 F_without) : GdOk P w K mg base 3 f fd ["hands", "thing"] (spF ⟨K, w, P⟩ mg 2 F_is_let) :=
  fs_of (k := 2) F sc_is_let fun cdv A outer s H E hr hG =>
    (sxs_cons (sx_if (tx_wx (wx_or (tx_not (tx_tru (ex_isi (ex_var 1 (pv 1)) rfl G.b_isinstance rfl G.b_tuple PySem.Pv.boot_tuple))) (wx_or1 (tx_cmp (op_pNe (Room.u4 hr)) (ex_callB call_pLenS rfl G.b_len PySem.boot_len (ax_one (ex_var 1 (pv 1)))) ex_int (by rfl))))) (sxs_one (sx_ret ex_bl)) sxs_nil)
    (sxs_cons (sx_set 2 sc_is_let.nd rfl (by first | exact .inl rfl | exact .inr rfl) (ex_sl (ex_var 1 (pv 1)) px_none (px_some ex_int)))
    (sxs_one (sx_ret (ex_and (ex_callC c_is_set hG hr (by decide) rfl (takes_of rfl rfl rfl rfl) (ax_cons (ex_var 0 (pv 0)) (ax_one (ex_var 2 (pv 2)))) (len_cons (len_one _))) (ex_one (ex_callC c_is_set hG hr (by decide) rfl (takes_of rfl rfl rfl rfl) (ax_cons (ex_callC c_without hG hr (by decide) rfl (takes_of rfl rfl rfl rfl) (ax_cons (ex_var 0 (pv 0)) (ax_one (ex_var 2 (pv 2)))) (len_cons (len_one _))) (ax_one (ex_ix (ix_pIx (Room.u4 hr)) (ex_var 1 (pv 1)) ex_int (fun _ _ => rfl)))) (len_cons (len_one _)))))))))
/-! ### Book.__init__(self, hands, lets)  slots 0 self, 1 hands, 2 lets, 3 one -/
abbrev s_Book___init__ : Stmt := inClass (topS 23) 0
theorem sc_Book___init__ : FnScope ["self", "hands", "lets", "one"] ["self", "hands", "lets"] (defScope s_Book___init__) := ⟨rfl, rfl, rfl, by decide +kernel, rfl, by decide +kernel, by decide +kernel⟩
def b_Book___init__ : MX :=
  (mSeq (mFld ["Book"] 0 "known" (mCall F_need_hands (mOne (mVar 1))))
    (mSeq (mIf (mNot (mTru (mIsi ["list", "tuple"] (mVar 2)))) mBadX mSkip)
    (mSeq (mForV 2 (gNm 3) (mIf (mNot (mTru (mCall F_is_let (mCons (mUn (pAttr ["Book"] "known") (mVar 0)) (mOne (mVar 3)))))) mBadX mSkip))
    (mFld ["Book"] 0 "own" (mCm [3] (fun ms => ((mVar 2) ms).bind srcFz) (gNm 3) mYes (stepD (mVar 3) (mC (.bool true))) (.dict []))))))
def F_Book___init__ : Fn := runF 4 b_Book___init__
theorem ok_Book___init__ {f : Addr} {fd : FuncData} (G : Gb mg) (Gk : Gc K mg) (F : FunG K "__init__" "Book.__init__" s_Book___init__ f fd) (c_need_hands : Cal P w K mg base 3 "need_hands" 1 F_need_hands) (c_is_let : Cal P w K mg base 3 "is_let" 2 F_is_let) : GdOk P w K mg base 4 f fd ["self", "hands", "lets"] (spF ⟨K, w, P⟩ mg 3 F_Book___init__) :=
  fs_ofG (k := 3) F sc_Book___init__ fun cdv A outer s H E hr hG =>
    (sxs_cons (sx_fldC Gk.k_Book (by simp) (ex_callC c_need_hands hG hr (by decide) rfl (takes_of rfl rfl rfl rfl) (ax_one (ex_var 1 (pv 1))) (len_one _)) (ex_var 0 (pv 0)))
    (sxs_cons (sx_if (tx_not (tx_tru (ex_isiN (ex_var 2 (pv 2)) rfl G.b_isinstance (pa_tys rfl G.b_list PySem.Pv.boot_list (pa_tys rfl G.b_tuple PySem.Pv.boot_tuple pa_tys_nil))))) (sxs_one sx_bad) sxs_nil)
    (sxs_cons (sx_forV (passes_of rfl) rfl (ex_var 2 (pv 2)) (gx_name 3 sc_Book___init__.nd rfl (by first | exact .inl rfl | exact .inr rfl)) (gNm_nx 3) (sxs_one (sx_if (tx_not (tx_tru (ex_callC c_is_let hG hr (by decide) rfl (takes_of rfl rfl rfl rfl) (ax_cons (ex_attrC Gk.k_Book (by simp) (ex_var 0 (pv 0))) (ax_one (ex_var 3 (pv 3)))) (len_cons (len_one _))))) (sxs_one sx_bad) sxs_nil)))
    (sxs_one (sx_fldC Gk.k_Book (by simp) (ex_dc (own := [("one", 3)]) (vs := [3]) (Room.u4 hr) rfl sc_Book___init__.nd (ix_fz (ex_var 2 (pv 2))) (blkOk_by (by kernel_rfl)) (fun s H C cl fp => (gx_name 3 sc_Book___init__.nd rfl (by first | exact .inl rfl | exact .inr rfl))) (gNm_nx 3) (fun s H C cl fp => txs_nil) (fun s H C cl fp => (ex_var 3 (pv 3))) (fun s H C cl fp => ex_bl)) (ex_var 0 (pv 0)))))))
/-! ### _law_shuffled(pen, some)  slots 0 pen, 1 some, 2 left, 3 found -/
abbrev s__law_shuffled : Stmt := topS 28
theorem sc__law_shuffled : FnScope ["pen", "some", "left", "found"] ["pen", "some"] (defScope s__law_shuffled) := ⟨rfl, rfl, rfl, by decide +kernel, rfl, by decide +kernel, by decide +kernel⟩
def b__law_shuffled : MX :=
  (mSeq (mPar [2, 3] (mKeep (mFun pList (mOne (mVar 1))) (mKeep (mLst mNil) mKNil)))
    (mSeq (mWhile wN (mB (mOp2 pNe (mVar 2) (mLst mNil))) (mDrop (mMut "list" gAppend 3 (mOne (mMut "list" gPop 2 (mOne (mCall F__law_draw (mCons (mVar 0) (mOne (mFun pLenS (mOne (mVar 2))))))))))))
    (mRet (mVar 3))))
def F__law_shuffled : Fn := runF 4 b__law_shuffled
theorem ok__law_shuffled {f : Addr} {fd : FuncData} (G : Gb mg) (F : L2.Fun K "_law_shuffled" "_law_shuffled" s__law_shuffled f fd) (c__law_draw : Cal P w K mg base 1 "_law_draw" 2 F__law_draw) : GdOk P w K mg base 2 f fd ["pen", "some"] (spF ⟨K, w, P⟩ mg 2 F__law_shuffled) :=
  fs_of (k := 1) F sc__law_shuffled fun cdv A outer s H E hr hG =>
    (sxs_cons (sx_par2 (i := 2) (j := 3) rfl sc__law_shuffled.nd rfl rfl (by decide) rfl rfl (kx_cons (ex_callTy (call_pList rfl) rfl G.b_list PySem.Pv.boot_list (ax_one (ex_var 1 (pv 1)))) (kx_cons (ex_lst ax_nil) kx_nil)))
    (sxs_cons (sx_while wN (passes_of rfl) (tx_cmp (op_pNe (Room.u4 hr)) (ex_var 2 (pv 2)) (ex_lst ax_nil) (by rfl)) (sxs_one (sx_drop (ex_mut rfl mu_append (pv 3) (ax_one (ex_mut rfl mu_pop (pv 2) (ax_one (ex_callC c__law_draw hG hr (by decide) rfl (takes_of rfl rfl rfl rfl) (ax_cons (ex_var 0 (pv 0)) (ax_one (ex_callB call_pLenS rfl G.b_len PySem.boot_len (ax_one (ex_var 2 (pv 2)))))) (len_cons (len_one _))))))))))
    (sxs_one (sx_ret (ex_var 3 (pv 3))))))
/-! ### _law_listed(pen, hands)  slots 0 pen, 1 hands, 2 found -/
abbrev s__law_listed : Stmt := topS 38
theorem sc__law_listed : FnScope ["pen", "hands", "found"] ["pen", "hands"] (defScope s__law_listed) := ⟨rfl, rfl, rfl, by decide +kernel, rfl, by decide +kernel, by decide +kernel⟩
def b__law_listed : MX :=
  (mSeq (mSet 2 (mCall F__law_shuffled (mCons (mVar 0) (mOne (mVar 1)))))
    (mRet (mOp2 pIx (mLst (mCons (mVar 2) (mOne (mFun pTuple (mOne (mVar 2)))))) (mCall F__law_draw (mCons (mVar 0) (mOne (mC (.int 2))))))))
def F__law_listed : Fn := runF 3 b__law_listed
theorem ok__law_listed {f : Addr} {fd : FuncData} (G : Gb mg) (F : L2.Fun K "_law_listed" "_law_listed" s__law_listed f fd) (c__law_shuffled : Cal P w K mg base 2 "_law_shuffled" 2 F__law_shuffled) (c__law_draw : Cal P w K mg base 1 "_law_draw" 2 F__law_draw) : GdOk P w K mg base 3 f fd ["pen", "hands"] (spF ⟨K, w, P⟩ mg 2 F__law_listed) :=
  fs_of (k := 2) F sc__law_listed fun cdv A outer s H E hr hG =>
    (sxs_cons (sx_set 2 sc__law_listed.nd rfl (by first | exact .inl rfl | exact .inr rfl) (ex_callC c__law_shuffled hG hr (by decide) rfl (takes_of rfl rfl rfl rfl) (ax_cons (ex_var 0 (pv 0)) (ax_one (ex_var 1 (pv 1)))) (len_cons (len_one _))))
    (sxs_one (sx_ret (ex_ix (ix_pIx (Room.u4 hr)) (ex_lst (ax_cons (ex_var 2 (pv 2)) (ax_one (ex_callTy call_pTuple rfl G.b_tuple PySem.Pv.boot_tuple (ax_one (ex_var 2 (pv 2))))))) (ex_callC c__law_draw hG hr (by decide) rfl (takes_of rfl rfl rfl rfl) (ax_cons (ex_var 0 (pv 0)) (ax_one ex_int)) (len_cons (len_one _))) (fun _ _ => rfl)))))
/-! ### _law_book(pen, hands, lets)  slots 0 pen, 1 hands, 2 lets, 3 some, 4 at, 5 told -/
abbrev s__law_book : Stmt := topS 39
theorem sc__law_book : FnScope ["pen", "hands", "lets", "some", "at", "told"] ["pen", "hands", "lets"] (defScope s__law_book) := ⟨rfl, rfl, rfl, by decide +kernel, rfl, by decide +kernel, by decide +kernel⟩
def b__law_book : MX :=
  (mSeq (mSet 3 (mFun pSorted (mOne (mVar 2))))
    (mSeq (mSet 4 (mCall F__law_draw (mCons (mVar 0) (mOne (mOp2 pAdd (mFun pLenS (mOne (mVar 3))) (mC (.int 1)))))))
    (mSeq (mSet 5 (mOp2 pAdd (mOp2 pAdd (mSl (mVar 3) (mPart (mVar 4)) mNoPart) (mSl (mVar 3) mNoPart (mPart (mVar 4)))) (mSl (mVar 3) mNoPart (mPart (mCall F__law_draw (mCons (mVar 0) (mOne (mC (.int 2)))))))))
    (mRet (mMake "Book" F_Book___init__ (mCons (mCall F__law_listed (mCons (mVar 0) (mOne (mVar 1)))) (mOne (mOp2 pIx (mLst (mCons (mVar 5) (mOne (mFun pTuple (mOne (mVar 5)))))) (mCall F__law_draw (mCons (mVar 0) (mOne (mC (.int 2)))))))))))))
def F__law_book : Fn := runF 6 b__law_book
theorem ok__law_book {f : Addr} {fd : FuncData} (G : Gb mg) (Gk : Gc K mg) (F : L2.Fun K "_law_book" "_law_book" s__law_book f fd) (c__law_draw : Cal P w K mg base 1 "_law_draw" 2 F__law_draw) (c_Book___init__ : CalI P w K mg base 4 "Book" 2 F_Book___init__) (c__law_listed : Cal P w K mg base 3 "_law_listed" 2 F__law_listed) : GdOk P w K mg base 6 f fd ["pen", "hands", "lets"] (spF ⟨K, w, P⟩ mg 3 F__law_book) :=
  fs_of (k := 5) F sc__law_book fun cdv A outer s H E hr hG =>
    (sxs_cons (sx_set 3 sc__law_book.nd rfl (by first | exact .inl rfl | exact .inr rfl) (ex_callB (call_pSorted rfl (Room.u4 hr)) rfl G.b_sorted PyProof.Rows.boot_sorted (ax_one (ex_var 2 (pv 2)))))
    (sxs_cons (sx_set 4 sc__law_book.nd rfl (by first | exact .inl rfl | exact .inr rfl) (ex_callC c__law_draw hG hr (by decide) rfl (takes_of rfl rfl rfl rfl) (ax_cons (ex_var 0 (pv 0)) (ax_one (ex_bin op_pAdd (ex_callB call_pLenS rfl G.b_len PySem.boot_len (ax_one (ex_var 3 (pv 3)))) ex_int))) (len_cons (len_one _))))
    (sxs_cons (sx_set 5 sc__law_book.nd rfl (by first | exact .inl rfl | exact .inr rfl) (ex_bin op_pAdd (ex_bin op_pAdd (ex_sl (ex_var 3 (pv 3)) (px_some (ex_var 4 (pv 4))) px_none) (ex_sl (ex_var 3 (pv 3)) px_none (px_some (ex_var 4 (pv 4))))) (ex_sl (ex_var 3 (pv 3)) px_none (px_some (ex_callC c__law_draw hG hr (by decide) rfl (takes_of rfl rfl rfl rfl) (ax_cons (ex_var 0 (pv 0)) (ax_one ex_int)) (len_cons (len_one _)))))))
    (sxs_one (sx_ret (ex_makeC c_Book___init__ hG hr (by decide) rfl (takes_of rfl rfl rfl rfl) (ax_cons (ex_callC c__law_listed hG hr (by decide) rfl (takes_of rfl rfl rfl rfl) (ax_cons (ex_var 0 (pv 0)) (ax_one (ex_var 1 (pv 1)))) (len_cons (len_one _))) (ax_one (ex_ix (ix_pIx (Room.u4 hr)) (ex_lst (ax_cons (ex_var 5 (pv 5)) (ax_one (ex_callTy call_pTuple rfl G.b_tuple PySem.Pv.boot_tuple (ax_one (ex_var 5 (pv 5))))))) (ex_callC c__law_draw hG hr (by decide) rfl (takes_of rfl rfl rfl rfl) (ax_cons (ex_var 0 (pv 0)) (ax_one ex_int)) (len_cons (len_one _))) (fun _ _ => rfl)))) (len_cons (len_one _))))))))
/-! ### _law_set(some)  slots 0 some -/
abbrev s__law_set : Stmt := topS 30
theorem sc__law_set : FnScope ["some"] ["some"] (defScope s__law_set) := ⟨rfl, rfl, rfl, by decide +kernel, rfl, by decide +kernel, by decide +kernel⟩
def b__law_set : MX :=
  (mRet (mFun pTuple (mOne (mFun pSorted (mOne (mVar 0))))))
def F__law_set : Fn := runF 1 b__law_set
theorem ok__law_set {f : Addr} {fd : FuncData} (G : Gb mg) (F : L2.Fun K "_law_set" "_law_set" s__law_set f fd)  : GdOk P w K mg base 1 f fd ["some"] (spF ⟨K, w, P⟩ mg 1 F__law_set) :=
  fs_of (k := 0) F sc__law_set fun cdv A outer s H E hr hG =>
    (sxs_one (sx_ret (ex_callTy call_pTuple rfl G.b_tuple PySem.Pv.boot_tuple (ax_one (ex_callB (call_pSorted rfl (Room.u4 hr)) rfl G.b_sorted PyProof.Rows.boot_sorted (ax_one (ex_var 0 (pv 0))))))))
/-! ### _law_some(pen, hands)  slots 0 pen, 1 hands, 2 hand -/
abbrev s__law_some : Stmt := topS 40
theorem sc__law_some : FnScope ["pen", "hands", "hand"] ["pen", "hands"] (defScope s__law_some) := ⟨rfl, rfl, rfl, by decide +kernel, rfl, by decide +kernel, by decide +kernel⟩
def b__law_some : MX :=
  (mRet (mCall F__law_set (mOne (mLc [2] (fun ms => ((mVar 1) ms).bind srcOf) (gNm 2) (mB (mOp2 pEq (mCall F__law_draw (mCons (mVar 0) (mOne (mC (.int 2))))) (mC (.int 0)))) (mVar 2)))))
def F__law_some : Fn := runF 3 b__law_some
theorem ok__law_some {f : Addr} {fd : FuncData} (G : Gb mg) (F : L2.Fun K "_law_some" "_law_some" s__law_some f fd) (c__law_set : Cal P w K mg base 1 "_law_set" 1 F__law_set) (c__law_draw : Cal P w K mg base 1 "_law_draw" 2 F__law_draw) : GdOk P w K mg base 2 f fd ["pen", "hands"] (spF ⟨K, w, P⟩ mg 2 F__law_some) :=
  fs_of (k := 1) F sc__law_some fun cdv A outer s H E hr hG =>
    (sxs_one (sx_ret (ex_callC c__law_set hG hr (by decide) rfl (takes_of rfl rfl rfl rfl) (ax_one (ex_lc (own := [("hand", 2)]) (vs := [2]) rfl sc__law_some.nd (ix_seq (ex_var 1 (pv 1))) (blkOk_by (by kernel_rfl)) (fun s H C cl fp => (gx_name 2 sc__law_some.nd rfl (by first | exact .inl rfl | exact .inr rfl))) (gNm_nx 2) (fun s H C cl fp => (txs_one (tx_cmp (op_pEq (Room.u4 hr)) (ex_callC c__law_draw hG hr (by decide) rfl takes_w0 (ax_cons (ex_var 0 (pv 0)) (ax_one ex_int)) (len_cons (len_one _))) ex_int (by rfl)))) (fun s H C cl fp => (ex_var 2 (pv 2))))) (len_one _))))
/-! ### _law_ring_drawn(pen, hands)  slots 0 pen, 1 hands, 2 blend -/
abbrev s__law_ring_drawn : Stmt := topS 41
theorem sc__law_ring_drawn : FnScope ["pen", "hands", "blend"] ["pen", "hands"] (defScope s__law_ring_drawn) := ⟨rfl, rfl, rfl, by decide +kernel, rfl, by decide +kernel, by decide +kernel⟩
def b__law_ring_drawn : MX :=
  (mSeq (mSet 2 (mCall F__law_shuffled (mCons (mVar 0) (mOne (mVar 1)))))
    (mRet (mTup (mCons (mCall F__law_set (mOne (mSl (mVar 2) mNoPart (mPart (mC (.int 3)))))) (mOne (mCall F__law_some (mCons (mVar 0) (mOne (mSl (mVar 2) (mPart (mC (.int 3))) mNoPart)))))))))
def F__law_ring_drawn : Fn := runF 3 b__law_ring_drawn
theorem ok__law_ring_drawn {f : Addr} {fd : FuncData} (G : Gb mg) (F : L2.Fun K "_law_ring_drawn" "_law_ring_drawn" s__law_ring_drawn f fd) (c__law_shuffled : Cal P w K mg base 2 "_law_shuffled" 2 F__law_shuffled) (c__law_set : Cal P w K mg base 1 "_law_set" 1 F__law_set) (c__law_some : Cal P w K mg base 2 "_law_some" 2 F__law_some) : GdOk P w K mg base 3 f fd ["pen", "hands"] (spF ⟨K, w, P⟩ mg 2 F__law_ring_drawn) :=
  fs_of (k := 2) F sc__law_ring_drawn fun cdv A outer s H E hr hG =>
    (sxs_cons (sx_set 2 sc__law_ring_drawn.nd rfl (by first | exact .inl rfl | exact .inr rfl) (ex_callC c__law_shuffled hG hr (by decide) rfl (takes_of rfl rfl rfl rfl) (ax_cons (ex_var 0 (pv 0)) (ax_one (ex_var 1 (pv 1)))) (len_cons (len_one _))))
    (sxs_one (sx_ret (ex_tup (ax_cons (ex_callC c__law_set hG hr (by decide) rfl (takes_of rfl rfl rfl rfl) (ax_one (ex_sl (ex_var 2 (pv 2)) px_none (px_some ex_int))) (len_one _)) (ax_one (ex_callC c__law_some hG hr (by decide) rfl (takes_of rfl rfl rfl rfl) (ax_cons (ex_var 0 (pv 0)) (ax_one (ex_sl (ex_var 2 (pv 2)) (px_some ex_int) px_none))) (len_cons (len_one _)))))))))
/-! ### _law_changed(row, place)  slots 0 row, 1 place -/
abbrev s__law_changed : Stmt := topS 36
theorem sc__law_changed : FnScope ["row", "place"] ["row", "place"] (defScope s__law_changed) := ⟨rfl, rfl, rfl, by decide +kernel, rfl, by decide +kernel, by decide +kernel⟩
def b__law_changed : MX :=
  (mRet (mOp2 pAdd (mOp2 pAdd (mSl (mVar 0) mNoPart (mPart (mVar 1))) (mTup (mCons (mOp2 pIx (mVar 0) (mOp2 pAdd (mVar 1) (mC (.int 1)))) (mOne (mOp2 pIx (mVar 0) (mVar 1)))))) (mSl (mVar 0) (mPart (mOp2 pAdd (mVar 1) (mC (.int 2)))) mNoPart)))
def F__law_changed : Fn := runF 2 b__law_changed
theorem ok__law_changed {f : Addr} {fd : FuncData} (G : Gb mg) (F : L2.Fun K "_law_changed" "_law_changed" s__law_changed f fd)  : GdOk P w K mg base 1 f fd ["row", "place"] (spF ⟨K, w, P⟩ mg 2 F__law_changed) :=
  fs_of (k := 0) F sc__law_changed fun cdv A outer s H E hr hG =>
    (sxs_one (sx_ret (ex_bin op_pAdd (ex_bin op_pAdd (ex_sl (ex_var 0 (pv 0)) px_none (px_some (ex_var 1 (pv 1)))) (ex_tup (ax_cons (ex_ix (ix_pIx (Room.u4 hr)) (ex_var 0 (pv 0)) (ex_bin op_pAdd (ex_var 1 (pv 1)) ex_int) (fun _ _ => rfl)) (ax_one (ex_ix (ix_pIx (Room.u4 hr)) (ex_var 0 (pv 0)) (ex_var 1 (pv 1)) (fun _ _ => rfl)))))) (ex_sl (ex_var 0 (pv 0)) (px_some (ex_bin op_pAdd (ex_var 1 (pv 1)) ex_int)) px_none))))
/-! ### _law_let_at(row, place)  slots 0 row, 1 place -/
abbrev s__law_let_at : Stmt := topS 35
theorem sc__law_let_at : FnScope ["row", "place"] ["row", "place"] (defScope s__law_let_at) := ⟨rfl, rfl, rfl, by decide +kernel, rfl, by decide +kernel, by decide +kernel⟩
def b__law_let_at : MX :=
  (mRet (mOp2 pAdd (mFun pTuple (mOne (mFun pSorted (mOne (mSl (mVar 0) (mPart (mVar 1)) (mPart (mOp2 pAdd (mVar 1) (mC (.int 2))))))))) (mTup (mOne (mCall F__law_set (mOne (mSl (mVar 0) mNoPart (mPart (mVar 1)))))))))
def F__law_let_at : Fn := runF 2 b__law_let_at
theorem ok__law_let_at {f : Addr} {fd : FuncData} (G : Gb mg) (F : L2.Fun K "_law_let_at" "_law_let_at" s__law_let_at f fd) (c__law_set : Cal P w K mg base 1 "_law_set" 1 F__law_set) : GdOk P w K mg base 2 f fd ["row", "place"] (spF ⟨K, w, P⟩ mg 2 F__law_let_at) :=
  fs_of (k := 1) F sc__law_let_at fun cdv A outer s H E hr hG =>
    (sxs_one (sx_ret (ex_bin op_pAdd (ex_callTy call_pTuple rfl G.b_tuple PySem.Pv.boot_tuple (ax_one (ex_callB (call_pSorted rfl (Room.u4 hr)) rfl G.b_sorted PyProof.Rows.boot_sorted (ax_one (ex_sl (ex_var 0 (pv 0)) (px_some (ex_var 1 (pv 1))) (px_some (ex_bin op_pAdd (ex_var 1 (pv 1)) ex_int))))))) (ex_tup (ax_one (ex_callC c__law_set hG hr (by decide) rfl (takes_of rfl rfl rfl rfl) (ax_one (ex_sl (ex_var 0 (pv 0)) px_none (px_some (ex_var 1 (pv 1))))) (len_one _)))))))
/-! ### ring_lets(three, ahead)  slots 0 three, 1 ahead, 2 i, 3 j, 4 k -/
abbrev s_ring_lets : Stmt := topS 16
theorem sc_ring_lets : FnScope ["three", "ahead", "i", "j", "k"] ["three", "ahead"] (defScope s_ring_lets) := ⟨rfl, rfl, rfl, by decide +kernel, rfl, by decide +kernel, by decide +kernel⟩
def b_ring_lets : MX :=
  (mSeq (mAsg (gSeq 3 (gsCons (gNm 2) (gsCons (gNm 3) (gsCons (gNm 4) gsNil)))) (mVar 0))
    (mRet (mLst (mCons (mTup (mCons (mVar 2) (mCons (mVar 3) (mOne (mVar 1))))) (mCons (mTup (mCons (mVar 2) (mCons (mVar 4) (mOne (mCall F_set_of (mOne (mOp2 pAdd (mVar 1) (mTup (mOne (mVar 3)))))))))) (mCons (mTup (mCons (mVar 3) (mCons (mVar 4) (mOne (mVar 1))))) (mCons (mTup (mCons (mVar 2) (mCons (mVar 3) (mOne (mCall F_set_of (mOne (mOp2 pAdd (mVar 1) (mTup (mOne (mVar 4)))))))))) (mCons (mTup (mCons (mVar 2) (mCons (mVar 4) (mOne (mVar 1))))) (mOne (mTup (mCons (mVar 3) (mCons (mVar 4) (mOne (mCall F_set_of (mOne (mOp2 pAdd (mVar 1) (mTup (mOne (mVar 2)))))))))))))))))))
def F_ring_lets : Fn := runF 5 b_ring_lets
theorem ok_ring_lets {f : Addr} {fd : FuncData} (G : Gb mg) (F : L2.Fun K "ring_lets" "ring_lets" s_ring_lets f fd) (c_set_of : Cal P w K mg base 1 "set_of" 1 F_set_of) : GdOk P w K mg base 2 f fd ["three", "ahead"] (spF ⟨K, w, P⟩ mg 2 F_ring_lets) :=
  fs_of (k := 1) F sc_ring_lets fun cdv A outer s H E hr hG =>
    (sxs_cons (sx_asg (ex_var 0 (pv 0)) (gx_seq (n := 3) rfl (gxs_cons (gx_name 2 sc_ring_lets.nd rfl (by first | exact .inl rfl | exact .inr rfl)) (gxs_cons (gx_name 3 sc_ring_lets.nd rfl (by first | exact .inl rfl | exact .inr rfl)) (gxs_cons (gx_name 4 sc_ring_lets.nd rfl (by first | exact .inl rfl | exact .inr rfl)) gxs_nil)))) (gSeq_nx (gsCons_nx (gNm_nx 2) (gsCons_nx (gNm_nx 3) (gsCons_nx (gNm_nx 4) gsNil_nx)))))
    (sxs_one (sx_ret (ex_lst (ax_cons (ex_tup (ax_cons (ex_var 2 (pv 2)) (ax_cons (ex_var 3 (pv 3)) (ax_one (ex_var 1 (pv 1)))))) (ax_cons (ex_tup (ax_cons (ex_var 2 (pv 2)) (ax_cons (ex_var 4 (pv 4)) (ax_one (ex_callC c_set_of hG hr (by decide) rfl (takes_of rfl rfl rfl rfl) (ax_one (ex_bin op_pAdd (ex_var 1 (pv 1)) (ex_tup (ax_one (ex_var 3 (pv 3)))))) (len_one _)))))) (ax_cons (ex_tup (ax_cons (ex_var 3 (pv 3)) (ax_cons (ex_var 4 (pv 4)) (ax_one (ex_var 1 (pv 1)))))) (ax_cons (ex_tup (ax_cons (ex_var 2 (pv 2)) (ax_cons (ex_var 3 (pv 3)) (ax_one (ex_callC c_set_of hG hr (by decide) rfl (takes_of rfl rfl rfl rfl) (ax_one (ex_bin op_pAdd (ex_var 1 (pv 1)) (ex_tup (ax_one (ex_var 4 (pv 4)))))) (len_one _)))))) (ax_cons (ex_tup (ax_cons (ex_var 2 (pv 2)) (ax_cons (ex_var 4 (pv 4)) (ax_one (ex_var 1 (pv 1)))))) (ax_one (ex_tup (ax_cons (ex_var 3 (pv 3)) (ax_cons (ex_var 4 (pv 4)) (ax_one (ex_callC c_set_of hG hr (by decide) rfl (takes_of rfl rfl rfl rfl) (ax_one (ex_bin op_pAdd (ex_var 1 (pv 1)) (ex_tup (ax_one (ex_var 2 (pv 2)))))) (len_one _))))))))))))))))
/-! ### _law_comes_round(pen, hands, three, ahead)  slots 0 pen, 1 hands, 2 three, 3 ahead, 4 others, 5 hand, 6 first, 7 row, 8 found, 9 k, 10 place -/
abbrev s__law_comes_round : Stmt := topS 42
theorem sc__law_comes_round : FnScope ["pen", "hands", "three", "ahead", "others", "hand", "first", "row", "found", "k", "place"] ["pen", "hands", "three", "ahead"] (defScope s__law_comes_round) := ⟨rfl, rfl, rfl, by decide +kernel, rfl, by decide +kernel, by decide +kernel⟩
def b__law_comes_round : MX :=
  (mSeq (mSet 4 (mLc [5] (fun ms => ((mVar 1) ms).bind srcOf) (gNm 5) (mAnd (mB (mOp2 pNotIn (mVar 5) (mVar 2))) (mB (mOp2 pNotIn (mVar 5) (mVar 3)))) (mVar 5)))
    (mSeq (mSet 6 (mOp2 pAdd (mOp2 pAdd (mFun pTuple (mOne (mCall F__law_shuffled (mCons (mVar 0) (mOne (mVar 3)))))) (mVar 2)) (mFun pTuple (mOne (mCall F__law_shuffled (mCons (mVar 0) (mOne (mVar 4))))))))
    (mSeq (mPar [7, 8] (mKeep (mVar 6) (mKeep (mLst mNil) mKNil)))
    (mSeq (mFor (fun ms => ((mOne (mC (.int 6))) ms).bind rng1) (gNm 9) (mSeq (mSet 10 (mOp2 pAdd (mFun pLenS (mOne (mVar 3))) (mOp2 pMod (mVar 9) (mC (.int 2)))))
    (mSeq (mDrop (mMut "list" gAppend 8 (mOne (mCall F__law_let_at (mCons (mVar 7) (mOne (mVar 10)))))))
    (mSet 7 (mCall F__law_changed (mCons (mVar 7) (mOne (mVar 10))))))))
    (mRet (mAndV (mOp2 pEq (mVar 7) (mVar 6)) (mOp2 pEq (mCall F_ring_lets (mCons (mVar 2) (mOne (mVar 3)))) (mVar 8))))))))
def F__law_comes_round : Fn := runF 11 b__law_comes_round
theorem ok__law_comes_round {f : Addr} {fd : FuncData} (G : Gb mg) (F : L2.Fun K "_law_comes_round" "_law_comes_round" s__law_comes_round f fd) (c__law_shuffled : Cal P w K mg base 2 "_law_shuffled" 2 F__law_shuffled) (c__law_let_at : Cal P w K mg base 2 "_law_let_at" 2 F__law_let_at) (c__law_changed : Cal P w K mg base 1 "_law_changed" 2 F__law_changed) (c_ring_lets : Cal P w K mg base 2 "ring_lets" 2 F_ring_lets) : GdOk P w K mg base 3 f fd ["pen", "hands", "three", "ahead"] (spF ⟨K, w, P⟩ mg 4 F__law_comes_round) :=
  fs_of (k := 2) F sc__law_comes_round fun cdv A outer s H E hr hG =>
    (sxs_cons (sx_setLc 4 (own := [("hand", 5)]) (vs := [5]) rfl sc__law_comes_round.nd rfl rfl (sw_true rfl rfl rfl rfl) (ix_seq (ex_var 1 (pv 1))) (blkOk_by (by kernel_rfl)) (fun s H C cl fp => (gx_name 5 sc__law_comes_round.nd rfl (by first | exact .inl rfl | exact .inr rfl))) (gNm_nx 5) (fun s H C cl fp => (txs_one (tx_wx (wx_and (tx_cmp (op_pNotIn (Room.u hr)) (ex_var 5 (pv 5)) (ex_var 2 (pv 2)) (by rfl)) (wx_and1 (tx_cmp (op_pNotIn (Room.u hr)) (ex_var 5 (pv 5)) (ex_var 3 (pv 3)) (by rfl))))))) (fun s H C cl fp => (ex_var 5 (pv 5))))
    (sxs_cons (sx_set 6 sc__law_comes_round.nd rfl (by first | exact .inl rfl | exact .inr rfl) (ex_bin op_pAdd (ex_bin op_pAdd (ex_callTy call_pTuple rfl G.b_tuple PySem.Pv.boot_tuple (ax_one (ex_callC c__law_shuffled hG hr (by decide) rfl (takes_of rfl rfl rfl rfl) (ax_cons (ex_var 0 (pv 0)) (ax_one (ex_var 3 (pv 3)))) (len_cons (len_one _))))) (ex_var 2 (pv 2))) (ex_callTy call_pTuple rfl G.b_tuple PySem.Pv.boot_tuple (ax_one (ex_callC c__law_shuffled hG hr (by decide) rfl (takes_of rfl rfl rfl rfl) (ax_cons (ex_var 0 (pv 0)) (ax_one (ex_var 4 (pv 4)))) (len_cons (len_one _)))))))
    (sxs_cons (sx_par2 (i := 7) (j := 8) rfl sc__law_comes_round.nd rfl rfl (by decide) rfl rfl (kx_cons (ex_var 6 (pv 6)) (kx_cons (ex_lst ax_nil) kx_nil)))
    (sxs_cons (sx_for (passes_of rfl) rfl (ix_range1 rfl G.b_range (ax_one ex_int)) (gx_name 9 sc__law_comes_round.nd rfl (by first | exact .inl rfl | exact .inr rfl)) (gNm_nx 9) (sxs_cons (sx_set 10 sc__law_comes_round.nd rfl (by first | exact .inl rfl | exact .inr rfl) (ex_bin op_pAdd (ex_callB call_pLenS rfl G.b_len PySem.boot_len (ax_one (ex_var 3 (pv 3)))) (ex_bin op_pMod (ex_var 9 (pv 9)) ex_int)))
    (sxs_cons (sx_drop (ex_mut rfl mu_append (pv 8) (ax_one (ex_callC c__law_let_at hG hr (by decide) rfl (takes_of rfl rfl rfl rfl) (ax_cons (ex_var 7 (pv 7)) (ax_one (ex_var 10 (pv 10)))) (len_cons (len_one _))))))
    (sxs_one (sx_set 7 sc__law_comes_round.nd rfl (by first | exact .inl rfl | exact .inr rfl) (ex_callC c__law_changed hG hr (by decide) rfl (takes_of rfl rfl rfl rfl) (ax_cons (ex_var 7 (pv 7)) (ax_one (ex_var 10 (pv 10)))) (len_cons (len_one _))))))))
    (sxs_one (sx_ret (ex_and (ex_cmp (op_pEq (Room.u4 hr)) (ex_var 7 (pv 7)) (ex_var 6 (pv 6)) (by rfl)) (ex_one (ex_cmp (op_pEq (Room.u4 hr)) (ex_callC c_ring_lets hG hr (by decide) rfl (takes_of rfl rfl rfl rfl) (ax_cons (ex_var 2 (pv 2)) (ax_one (ex_var 3 (pv 3)))) (len_cons (len_one _))) (ex_var 8 (pv 8)) (by rfl))))))))))
/-! ### plain_marks(book, three, ahead)  slots 0 book, 1 three, 2 ahead, 3 let -/
abbrev s_plain_marks : Stmt := topS 18
theorem sc_plain_marks : FnScope ["book", "three", "ahead", "let"] ["book", "three", "ahead"] (defScope s_plain_marks) := ⟨rfl, rfl, rfl, by decide +kernel, rfl, by decide +kernel, by decide +kernel⟩
def b_plain_marks : MX :=
  (mRet (mFun pTuple (mOne (mLc [3] (fun ms => ((mCall F_ring_lets (mCons (mVar 1) (mOne (mVar 2)))) ms).bind srcOf) (gNm 3) mYes (mOp2 pIn (mVar 3) (mUn (pAttr ["Book"] "own") (mVar 0)))))))
def F_plain_marks : Fn := runF 4 b_plain_marks
theorem ok_plain_marks {f : Addr} {fd : FuncData} (G : Gb mg) (Gk : Gc K mg) (F : L2.Fun K "plain_marks" "plain_marks" s_plain_marks f fd) (c_ring_lets : Cal P w K mg base 2 "ring_lets" 2 F_ring_lets) : GdOk P w K mg base 3 f fd ["book", "three", "ahead"] (spF ⟨K, w, P⟩ mg 3 F_plain_marks) :=
  fs_of (k := 2) F sc_plain_marks fun cdv A outer s H E hr hG =>
    (sxs_one (sx_ret (ex_callTy call_pTuple rfl G.b_tuple PySem.Pv.boot_tuple (ax_one (ex_lc (own := [("let", 3)]) (vs := [3]) rfl sc_plain_marks.nd (ix_seq (ex_callC c_ring_lets hG hr (by decide) rfl (takes_of rfl rfl rfl rfl) (ax_cons (ex_var 1 (pv 1)) (ax_one (ex_var 2 (pv 2)))) (len_cons (len_one _)))) (blkOk_by (by kernel_rfl)) (fun s H C cl fp => (gx_name 3 sc_plain_marks.nd rfl (by first | exact .inl rfl | exact .inr rfl))) (gNm_nx 3) (fun s H C cl fp => txs_nil) (fun s H C cl fp => (ex_cmp (op_pIn (Room.u hr)) (ex_var 3 (pv 3)) (ex_attrC Gk.k_Book (by simp) (ex_var 0 (pv 0))) (by rfl))))))))
/-! ### is_ring(hands, three, ahead)  slots 0 hands, 1 three, 2 ahead -/
abbrev s_is_ring : Stmt := topS 17
theorem sc_is_ring : FnScope ["hands", "three", "ahead"] ["hands", "three", "ahead"] (defScope s_is_ring) := ⟨rfl, rfl, rfl, by decide +kernel, rfl, by decide +kernel, by decide +kernel⟩
def b_is_ring : MX :=
  (mRet (mAndV (mCall F_is_set (mCons (mVar 0) (mOne (mVar 1)))) (mAndV (mOp2 pEq (mFun pLenS (mOne (mVar 1))) (mC (.int 3))) (mCall F_is_set (mCons (mCall F_without (mCons (mVar 0) (mOne (mVar 1)))) (mOne (mVar 2)))))))
def F_is_ring : Fn := runF 3 b_is_ring
theorem ok_is_ring {f : Addr} {fd : FuncData} (G : Gb mg) (F : L2.Fun K "is_ring" "is_ring" s_is_ring f fd) (c_is_set : Cal P w K mg base 2 "is_set" 2 F_is_set) (c_without : Cal P w K mg base 1 "without" 2 F_without) : GdOk P w K mg base 3 f fd ["hands", "three", "ahead"] (spF ⟨K, w, P⟩ mg 3 F_is_ring) :=
  fs_of (k := 2) F sc_is_ring fun cdv A outer s H E hr hG =>
    (sxs_one (sx_ret (ex_and (ex_callC c_is_set hG hr (by decide) rfl (takes_of rfl rfl rfl rfl) (ax_cons (ex_var 0 (pv 0)) (ax_one (ex_var 1 (pv 1)))) (len_cons (len_one _))) (ex_and (ex_cmp (op_pEq (Room.u4 hr)) (ex_callB call_pLenS rfl G.b_len PySem.boot_len (ax_one (ex_var 1 (pv 1)))) ex_int (by rfl)) (ex_one (ex_callC c_is_set hG hr (by decide) rfl (takes_of rfl rfl rfl rfl) (ax_cons (ex_callC c_without hG hr (by decide) rfl (takes_of rfl rfl rfl rfl) (ax_cons (ex_var 0 (pv 0)) (ax_one (ex_var 1 (pv 1)))) (len_cons (len_one _))) (ax_one (ex_var 2 (pv 2)))) (len_cons (len_one _))))))))
/-! ### Book.hands(self)  slots 0 self -/
abbrev s_Book_hands : Stmt := inClass (topS 23) 1
theorem sc_Book_hands : FnScope ["self"] ["self"] (defScope s_Book_hands) := ⟨rfl, rfl, rfl, by decide +kernel, rfl, by decide +kernel, by decide +kernel⟩
def b_Book_hands : MX :=
  (mRet (mUn (pAttr ["Book"] "known") (mVar 0)))
def F_Book_hands : Fn := runF 1 b_Book_hands
theorem ok_Book_hands {f : Addr} {fd : FuncData} (G : Gb mg) (Gk : Gc K mg) (F : L2.Fun K "hands" "Book.hands" s_Book_hands f fd)  : GdOk P w K mg base 1 f fd ["self"] (spF ⟨K, w, P⟩ mg 1 F_Book_hands) :=
  fs_of (k := 0) F sc_Book_hands fun cdv A outer s H E hr hG =>
    (sxs_one (sx_ret (ex_attrC Gk.k_Book (by simp) (ex_var 0 (pv 0)))))
/-! ### marks(book, three, ahead)  slots 0 book, 1 three, 2 ahead -/
abbrev s_marks : Stmt := topS 19
theorem sc_marks : FnScope ["book", "three", "ahead"] ["book", "three", "ahead"] (defScope s_marks) := ⟨rfl, rfl, rfl, by decide +kernel, rfl, by decide +kernel, by decide +kernel⟩
def b_marks : MX :=
  (mSeq (mIf (mNot (mTru (mCall F_is_ring (mCons (mMethC "Book" "hands" F_Book_hands (mVar 0) mNil) (mCons (mVar 1) (mOne (mVar 2))))))) mBadX mSkip)
    (mRet (mCall F_plain_marks (mCons (mVar 0) (mCons (mVar 1) (mOne (mVar 2)))))))
def F_marks : Fn := runF 3 b_marks
theorem ok_marks {f : Addr} {fd : FuncData} (G : Gb mg) (Gk : Gc K mg) (F : L2.Fun K "marks" "marks" s_marks f fd) (c_is_ring : Cal P w K mg base 3 "is_ring" 3 F_is_ring) (c_Book_hands : CalM P w K mg base 1 "Book" "hands" 0 F_Book_hands) (c_plain_marks : Cal P w K mg base 3 "plain_marks" 3 F_plain_marks) : GdOk P w K mg base 4 f fd ["book", "three", "ahead"] (spF ⟨K, w, P⟩ mg 3 F_marks) :=
  fs_of (k := 3) F sc_marks fun cdv A outer s H E hr hG =>
    (sxs_cons (sx_if (tx_not (tx_tru (ex_callC c_is_ring hG hr (by decide) rfl (takes_of rfl rfl rfl rfl) (ax_cons (ex_methC0 c_Book_hands hG hr (by decide) (takes_of rfl rfl rfl rfl) (ex_var 0 (pv 0))) (ax_cons (ex_var 1 (pv 1)) (ax_one (ex_var 2 (pv 2))))) (len_cons (len_cons (len_one _)))))) (sxs_one sx_bad) sxs_nil)
    (sxs_one (sx_ret (ex_callC c_plain_marks hG hr (by decide) rfl (takes_of rfl rfl rfl rfl) (ax_cons (ex_var 0 (pv 0)) (ax_cons (ex_var 1 (pv 1)) (ax_one (ex_var 2 (pv 2))))) (len_cons (len_cons (len_one _)))))))
/-! ### _law_ring(three, ahead)  slots 0 three, 1 ahead, 2 i, 3 j, 4 k, 5 with_i, 6 with_j, 7 with_k, 8 hand -/
abbrev s__law_ring : Stmt := topS 34
theorem sc__law_ring : FnScope ["three", "ahead", "i", "j", "k", "with_i", "with_j", "with_k", "hand"] ["three", "ahead"] (defScope s__law_ring) := ⟨rfl, rfl, rfl, by decide +kernel, rfl, by decide +kernel, by decide +kernel⟩
def b__law_ring : MX :=
  (mSeq (mAsg (gSeq 3 (gsCons (gNm 2) (gsCons (gNm 3) (gsCons (gNm 4) gsNil)))) (mVar 0))
    (mSeq (mAsg (gSeq 3 (gsCons (gNm 5) (gsCons (gNm 6) (gsCons (gNm 7) gsNil)))) (mLc [8] (fun ms => ((mVar 0) ms).bind srcOf) (gNm 8) mYes (mCall F__law_set (mOne (mOp2 pAdd (mVar 1) (mTup (mOne (mVar 8))))))))
    (mRet (mLst (mCons (mTup (mCons (mVar 2) (mCons (mVar 3) (mOne (mVar 1))))) (mCons (mTup (mCons (mVar 2) (mCons (mVar 4) (mOne (mVar 6))))) (mCons (mTup (mCons (mVar 3) (mCons (mVar 4) (mOne (mVar 1))))) (mCons (mTup (mCons (mVar 2) (mCons (mVar 3) (mOne (mVar 7))))) (mCons (mTup (mCons (mVar 2) (mCons (mVar 4) (mOne (mVar 1))))) (mOne (mTup (mCons (mVar 3) (mCons (mVar 4) (mOne (mVar 5)))))))))))))))
def F__law_ring : Fn := runF 9 b__law_ring
theorem ok__law_ring {f : Addr} {fd : FuncData} (G : Gb mg) (F : L2.Fun K "_law_ring" "_law_ring" s__law_ring f fd) (c__law_set : Cal P w K mg base 1 "_law_set" 1 F__law_set) : GdOk P w K mg base 2 f fd ["three", "ahead"] (spF ⟨K, w, P⟩ mg 2 F__law_ring) :=
  fs_of (k := 1) F sc__law_ring fun cdv A outer s H E hr hG =>
    (sxs_cons (sx_asg (ex_var 0 (pv 0)) (gx_seq (n := 3) rfl (gxs_cons (gx_name 2 sc__law_ring.nd rfl (by first | exact .inl rfl | exact .inr rfl)) (gxs_cons (gx_name 3 sc__law_ring.nd rfl (by first | exact .inl rfl | exact .inr rfl)) (gxs_cons (gx_name 4 sc__law_ring.nd rfl (by first | exact .inl rfl | exact .inr rfl)) gxs_nil)))) (gSeq_nx (gsCons_nx (gNm_nx 2) (gsCons_nx (gNm_nx 3) (gsCons_nx (gNm_nx 4) gsNil_nx)))))
    (sxs_cons (sx_asg (ex_lc (own := [("hand", 8)]) (vs := [8]) rfl sc__law_ring.nd (ix_seq (ex_var 0 (pv 0))) (blkOk_by (by kernel_rfl)) (fun s H C cl fp => (gx_name 8 sc__law_ring.nd rfl (by first | exact .inl rfl | exact .inr rfl))) (gNm_nx 8) (fun s H C cl fp => txs_nil) (fun s H C cl fp => (ex_callC c__law_set hG hr (by decide) rfl takes_w0 (ax_one (ex_bin op_pAdd (ex_var 1 (pv 1)) (ex_tup (ax_one (ex_var 8 (pv 8)))))) (len_one _)))) (gx_seq (n := 3) rfl (gxs_cons (gx_name 5 sc__law_ring.nd rfl (by first | exact .inl rfl | exact .inr rfl)) (gxs_cons (gx_name 6 sc__law_ring.nd rfl (by first | exact .inl rfl | exact .inr rfl)) (gxs_cons (gx_name 7 sc__law_ring.nd rfl (by first | exact .inl rfl | exact .inr rfl)) gxs_nil)))) (gSeq_nx (gsCons_nx (gNm_nx 5) (gsCons_nx (gNm_nx 6) (gsCons_nx (gNm_nx 7) gsNil_nx)))))
    (sxs_one (sx_ret (ex_lst (ax_cons (ex_tup (ax_cons (ex_var 2 (pv 2)) (ax_cons (ex_var 3 (pv 3)) (ax_one (ex_var 1 (pv 1)))))) (ax_cons (ex_tup (ax_cons (ex_var 2 (pv 2)) (ax_cons (ex_var 4 (pv 4)) (ax_one (ex_var 6 (pv 6)))))) (ax_cons (ex_tup (ax_cons (ex_var 3 (pv 3)) (ax_cons (ex_var 4 (pv 4)) (ax_one (ex_var 1 (pv 1)))))) (ax_cons (ex_tup (ax_cons (ex_var 2 (pv 2)) (ax_cons (ex_var 3 (pv 3)) (ax_one (ex_var 7 (pv 7)))))) (ax_cons (ex_tup (ax_cons (ex_var 2 (pv 2)) (ax_cons (ex_var 4 (pv 4)) (ax_one (ex_var 1 (pv 1)))))) (ax_one (ex_tup (ax_cons (ex_var 3 (pv 3)) (ax_cons (ex_var 4 (pv 4)) (ax_one (ex_var 5 (pv 5)))))))))))))))))
/-! ### _law_marked(book, lets, three, ahead)  slots 0 book, 1 lets, 2 three, 3 ahead, 4 told, 5 one -/
abbrev s__law_marked : Stmt := topS 43
theorem sc__law_marked : FnScope ["book", "lets", "three", "ahead", "told", "one"] ["book", "lets", "three", "ahead"] (defScope s__law_marked) := ⟨rfl, rfl, rfl, by decide +kernel, rfl, by decide +kernel, by decide +kernel⟩
def b__law_marked : MX :=
  (mSeq (mSet 4 (mCall F_marks (mCons (mVar 0) (mCons (mVar 2) (mOne (mVar 3))))))
    (mSeq (mIf (mOr (mNot (mTru (mIsi ["tuple"] (mVar 4)))) (mB (mOp2 pNe (mLc [5] (fun ms => ((mVar 4) ms).bind srcOf) (gNm 5) (mAnd (mB (mOp2 pIsNot (mVar 5) (mC (.bool true)))) (mB (mOp2 pIsNot (mVar 5) (mC (.bool false))))) (mVar 5)) (mLst mNil)))) (mRet (mC (.bool false))) mSkip)
    (mRet (mOp2 pEq (mVar 4) (mFun pTuple (mOne (mLc [5] (fun ms => ((mCall F__law_ring (mCons (mVar 2) (mOne (mVar 3)))) ms).bind srcOf) (gNm 5) mYes (mOp2 pIn (mVar 5) (mVar 1)))))))))
def F__law_marked : Fn := runF 6 b__law_marked
theorem ok__law_marked {f : Addr} {fd : FuncData} (G : Gb mg) (F : L2.Fun K "_law_marked" "_law_marked" s__law_marked f fd) (c_marks : Cal P w K mg base 4 "marks" 3 F_marks) (c__law_ring : Cal P w K mg base 2 "_law_ring" 2 F__law_ring) : GdOk P w K mg base 5 f fd ["book", "lets", "three", "ahead"] (spF ⟨K, w, P⟩ mg 4 F__law_marked) :=
  fs_of (k := 4) F sc__law_marked fun cdv A outer s H E hr hG =>
    (sxs_cons (sx_set 4 sc__law_marked.nd rfl (by first | exact .inl rfl | exact .inr rfl) (ex_callC c_marks hG hr (by decide) rfl (takes_of rfl rfl rfl rfl) (ax_cons (ex_var 0 (pv 0)) (ax_cons (ex_var 2 (pv 2)) (ax_one (ex_var 3 (pv 3))))) (len_cons (len_cons (len_one _)))))
    (sxs_cons (sx_if (tx_wx (wx_or (tx_not (tx_tru (ex_isi (ex_var 4 (pv 4)) rfl G.b_isinstance rfl G.b_tuple PySem.Pv.boot_tuple))) (wx_or1 (tx_cmp (op_pNe (Room.u4 hr)) (ex_lc (own := [("one", 5)]) (vs := [5]) rfl sc__law_marked.nd (ix_seq (ex_var 4 (pv 4))) (blkOk_by (by kernel_rfl)) (fun s H C cl fp => (gx_name 5 sc__law_marked.nd rfl (by first | exact .inl rfl | exact .inr rfl))) (gNm_nx 5) (fun s H C cl fp => (txs_one (tx_wx (wx_and (tx_cmp op_pIsNot (ex_var 5 (pv 5)) ex_bl (by rfl)) (wx_and1 (tx_cmp op_pIsNot (ex_var 5 (pv 5)) ex_bl (by rfl))))))) (fun s H C cl fp => (ex_var 5 (pv 5)))) (ex_lst ax_nil) (by rfl))))) (sxs_one (sx_ret ex_bl)) sxs_nil)
    (sxs_one (sx_ret (ex_cmp (op_pEq (Room.u4 hr)) (ex_var 4 (pv 4)) (ex_callTy call_pTuple rfl G.b_tuple PySem.Pv.boot_tuple (ax_one (ex_lc (own := [("one", 5)]) (vs := [5]) rfl sc__law_marked.nd (ix_seq (ex_callC c__law_ring hG hr (by decide) rfl (takes_of rfl rfl rfl rfl) (ax_cons (ex_var 2 (pv 2)) (ax_one (ex_var 3 (pv 3)))) (len_cons (len_one _)))) (blkOk_by (by kernel_rfl)) (fun s H C cl fp => (gx_name 5 sc__law_marked.nd rfl (by first | exact .inl rfl | exact .inr rfl))) (gNm_nx 5) (fun s H C cl fp => txs_nil) (fun s H C cl fp => (ex_cmp (op_pIn (Room.u hr)) (ex_var 5 (pv 5)) (ex_var 1 (pv 1)) (by rfl)))))) (by rfl))))))
/-! ### law(script)  slots 0 script, 1 pen, 2 bout, 3 hands, 4 lets, 5 others, 6 one, 7 book, 8 beside_own, 9 k, 10 three, 11 ahead -/
abbrev s_law : Stmt := topS 44
theorem sc_law : FnScope ["script", "pen", "bout", "hands", "lets", "others", "one", "book", "beside_own", "k", "three", "ahead"] ["script"] (defScope s_law) := ⟨rfl, rfl, rfl, by decide +kernel, rfl, by decide +kernel, by decide +kernel⟩
def b_law : MX :=
  (mSeq (mSet 1 (mCall F__law_pen (mOne (mVar 0))))
    (mSeq (mFor (fun ms => ((mOne (mC (.int 2))) ms).bind rng1) (gNm 2) (mSeq (mSet 3 (mCall F__law_hands (mCons (mVar 1) (mOne (mCall F__law_pick (mCons (mVar 1) (mOne (mLst (mCons (mC (.int 3)) (mCons (mC (.int 3)) (mCons (mC (.int 4)) (mCons (mC (.int 4)) (mCons (mC (.int 5)) (mCons (mC (.int 5)) (mCons (mC (.int 6)) (mOne (mC (.int 8))))))))))))))))))
    (mSeq (mSet 4 (mCall F__law_raw_lets (mCons (mVar 1) (mOne (mVar 3)))))
    (mSeq (mSet 5 (mFun pDict (mOne (mLc [6] (fun ms => ((mCall F__law_every_let (mOne (mVar 3))) ms).bind srcOf) (gNm 6) (mB (mOp2 pNotIn (mVar 6) (mVar 4))) (mTup (mCons (mVar 6) (mOne (mC (.bool true)))))))))
    (mSeq (mPar [7, 8] (mKeep (mCall F__law_book (mCons (mVar 1) (mCons (mVar 3) (mOne (mVar 4))))) (mKeep (mCall F__law_book (mCons (mVar 1) (mCons (mVar 3) (mOne (mVar 5))))) mKNil)))
    (mFor (fun ms => ((mOne (mC (.int 4))) ms).bind rng1) (gNm 9) (mSeq (mAsg (gSeq 2 (gsCons (gNm 10) (gsCons (gNm 11) gsNil))) (mCall F__law_ring_drawn (mCons (mVar 1) (mOne (mVar 3)))))
    (mSeq (mIf (mOr (mNot (mTru (mCall F__law_comes_round (mCons (mVar 1) (mCons (mVar 3) (mCons (mVar 10) (mOne (mVar 11)))))))) (mNot (mTru (mCall F__law_marked (mCons (mVar 7) (mCons (mVar 4) (mCons (mVar 10) (mOne (mVar 11))))))))) (mRet (mC (.bool false))) mSkip)
    (mIf (mOr (mNot (mTru (mCall F__law_marked (mCons (mVar 8) (mCons (mVar 5) (mCons (mVar 10) (mOne (mVar 11)))))))) (mNot (mTru (mCall F__law_marked (mCons (mVar 7) (mCons (mVar 4) (mCons (mVar 10) (mOne (mVar 11))))))))) (mRet (mC (.bool false))) mSkip)))))))))
    (mRet (mC (.bool true)))))
def F_law : Fn := runF 12 b_law
theorem ok_law {f : Addr} {fd : FuncData} (G : Gb mg) (F : L2.Fun K "law" "law" s_law f fd) (c__law_pen : Cal P w K mg base 1 "_law_pen" 1 F__law_pen) (c__law_hands : Cal P w K mg base 3 "_law_hands" 2 F__law_hands) (c__law_pick : Cal P w K mg base 2 "_law_pick" 2 F__law_pick) (c__law_raw_lets : Cal P w K mg base 3 "_law_raw_lets" 2 F__law_raw_lets) (c__law_every_let : Cal P w K mg base 2 "_law_every_let" 1 F__law_every_let) (c__law_book : Cal P w K mg base 6 "_law_book" 3 F__law_book) (c__law_ring_drawn : Cal P w K mg base 3 "_law_ring_drawn" 2 F__law_ring_drawn) (c__law_comes_round : Cal P w K mg base 3 "_law_comes_round" 4 F__law_comes_round) (c__law_marked : Cal P w K mg base 5 "_law_marked" 4 F__law_marked) : GdOk P w K mg base 7 f fd ["script"] (spF ⟨K, w, P⟩ mg 1 F_law) :=
  fs_of (k := 6) F sc_law fun cdv A outer s H E hr hG =>
    (sxs_cons (sx_set 1 sc_law.nd rfl (by first | exact .inl rfl | exact .inr rfl) (ex_callC c__law_pen hG hr (by decide) rfl (takes_of rfl rfl rfl rfl) (ax_one (ex_var 0 (pv 0))) (len_one _)))
    (sxs_cons (sx_for (passes_of rfl) rfl (ix_range1 rfl G.b_range (ax_one ex_int)) (gx_name 2 sc_law.nd rfl (by first | exact .inl rfl | exact .inr rfl)) (gNm_nx 2) (sxs_cons (sx_set 3 sc_law.nd rfl (by first | exact .inl rfl | exact .inr rfl) (ex_callC c__law_hands hG hr (by decide) rfl (takes_of rfl rfl rfl rfl) (ax_cons (ex_var 1 (pv 1)) (ax_one (ex_callC c__law_pick hG hr (by decide) rfl (takes_of rfl rfl rfl rfl) (ax_cons (ex_var 1 (pv 1)) (ax_one (ex_lst (ax_cons ex_int (ax_cons ex_int (ax_cons ex_int (ax_cons ex_int (ax_cons ex_int (ax_cons ex_int (ax_cons ex_int (ax_one ex_int))))))))))) (len_cons (len_one _))))) (len_cons (len_one _))))
    (sxs_cons (sx_set 4 sc_law.nd rfl (by first | exact .inl rfl | exact .inr rfl) (ex_callC c__law_raw_lets hG hr (by decide) rfl (takes_of rfl rfl rfl rfl) (ax_cons (ex_var 1 (pv 1)) (ax_one (ex_var 3 (pv 3)))) (len_cons (len_one _))))
    (sxs_cons (sx_set 5 sc_law.nd rfl (by first | exact .inl rfl | exact .inr rfl) (ex_callTy (call_pDict rfl (Room.u4 hr)) rfl G.b_dict PySem.Pv.boot_dict (ax_one (ex_lc (own := [("one", 6)]) (vs := [6]) rfl sc_law.nd (ix_seq (ex_callC c__law_every_let hG hr (by decide) rfl (takes_of rfl rfl rfl rfl) (ax_one (ex_var 3 (pv 3))) (len_one _))) (blkOk_by (by kernel_rfl)) (fun s H C cl fp => (gx_name 6 sc_law.nd rfl (by first | exact .inl rfl | exact .inr rfl))) (gNm_nx 6) (fun s H C cl fp => (txs_one (tx_cmp (op_pNotIn (Room.u hr)) (ex_var 6 (pv 6)) (ex_var 4 (pv 4)) (by rfl)))) (fun s H C cl fp => (ex_tup (ax_cons (ex_var 6 (pv 6)) (ax_one ex_bl))))))))
    (sxs_cons (sx_par2 (i := 7) (j := 8) rfl sc_law.nd rfl rfl (by decide) rfl rfl (kx_cons (ex_callC c__law_book hG hr (by decide) rfl (takes_of rfl rfl rfl rfl) (ax_cons (ex_var 1 (pv 1)) (ax_cons (ex_var 3 (pv 3)) (ax_one (ex_var 4 (pv 4))))) (len_cons (len_cons (len_one _)))) (kx_cons (ex_callC c__law_book hG hr (by decide) rfl (takes_of rfl rfl rfl rfl) (ax_cons (ex_var 1 (pv 1)) (ax_cons (ex_var 3 (pv 3)) (ax_one (ex_var 5 (pv 5))))) (len_cons (len_cons (len_one _)))) kx_nil)))
    (sxs_one (sx_for (passes_of rfl) rfl (ix_range1 rfl G.b_range (ax_one ex_int)) (gx_name 9 sc_law.nd rfl (by first | exact .inl rfl | exact .inr rfl)) (gNm_nx 9) (sxs_cons (sx_asg (ex_callC c__law_ring_drawn hG hr (by decide) rfl (takes_of rfl rfl rfl rfl) (ax_cons (ex_var 1 (pv 1)) (ax_one (ex_var 3 (pv 3)))) (len_cons (len_one _))) (gx_seq (n := 2) rfl (gxs_cons (gx_name 10 sc_law.nd rfl (by first | exact .inl rfl | exact .inr rfl)) (gxs_cons (gx_name 11 sc_law.nd rfl (by first | exact .inl rfl | exact .inr rfl)) gxs_nil))) (gSeq_nx (gsCons_nx (gNm_nx 10) (gsCons_nx (gNm_nx 11) gsNil_nx))))
    (sxs_cons (sx_if (tx_wx (wx_or (tx_not (tx_tru (ex_callC c__law_comes_round hG hr (by decide) rfl (takes_of rfl rfl rfl rfl) (ax_cons (ex_var 1 (pv 1)) (ax_cons (ex_var 3 (pv 3)) (ax_cons (ex_var 10 (pv 10)) (ax_one (ex_var 11 (pv 11)))))) (len_cons (len_cons (len_cons (len_one _))))))) (wx_or1 (tx_not (tx_tru (ex_callC c__law_marked hG hr (by decide) rfl (takes_of rfl rfl rfl rfl) (ax_cons (ex_var 7 (pv 7)) (ax_cons (ex_var 4 (pv 4)) (ax_cons (ex_var 10 (pv 10)) (ax_one (ex_var 11 (pv 11)))))) (len_cons (len_cons (len_cons (len_one _)))))))))) (sxs_one (sx_ret ex_bl)) sxs_nil)
    (sxs_one (sx_if (tx_wx (wx_or (tx_not (tx_tru (ex_callC c__law_marked hG hr (by decide) rfl (takes_of rfl rfl rfl rfl) (ax_cons (ex_var 8 (pv 8)) (ax_cons (ex_var 5 (pv 5)) (ax_cons (ex_var 10 (pv 10)) (ax_one (ex_var 11 (pv 11)))))) (len_cons (len_cons (len_cons (len_one _))))))) (wx_or1 (tx_not (tx_tru (ex_callC c__law_marked hG hr (by decide) rfl (takes_of rfl rfl rfl rfl) (ax_cons (ex_var 7 (pv 7)) (ax_cons (ex_var 4 (pv 4)) (ax_cons (ex_var 10 (pv 10)) (ax_one (ex_var 11 (pv 11)))))) (len_cons (len_cons (len_cons (len_one _)))))))))) (sxs_one (sx_ret ex_bl)) sxs_nil)))))))))))
    (sxs_one (sx_ret ex_bl))))
end
end Lw

/-! Sp1 -/
set_option Elab.async false
set_option linter.all false
set_option maxRecDepth 100000
set_option maxHeartbeats 1000000
namespace Lw
open PySem PySem.Spec PyProof.Rows L2 Pl
def penD (cs : List Int) (a l : Int) : PyData := .dict [(.str "cells", .list (cs.map .int)), (.str "at", .int a), (.str "left", .int l)]
theorem sne1 : (("cells" : Str) == ("at" : Str)) = false := by decide
theorem sne2 : (("cells" : Str) == ("left" : Str)) = false := by decide
theorem sne3 : (("at" : Str) == ("left" : Str)) = false := by decide
theorem sne4 : (("left" : Str) == ("at" : Str)) = false := by decide
theorem look_cells (cs : List Int) (a l : Int) : pIx (penD cs a l) (.str "cells") = some (.dat (.list (cs.map .int))) := by
  simp [pIx, penD, dOk, kind0, kind1, kOf, dLook, PyData.eqv]
theorem look_at (cs : List Int) (a l : Int) : pIx (penD cs a l) (.str "at") = some (.dat (.int a)) := by
  simp [pIx, penD, dOk, kind0, kind1, kOf, dLook, PyData.eqv, List.find?_cons, sne1]
theorem look_left (cs : List Int) (a l : Int) : pIx (penD cs a l) (.str "left") = some (.dat (.int l)) := by
  simp [pIx, penD, dOk, kind0, kind1, kOf, dLook, PyData.eqv, List.find?_cons, sne2, sne3]
theorem put_left (cs : List Int) (a l z : Int) : gPut (penD cs a l) (.str "left") (.int z) = some (penD cs a z) := by
  unfold gPut penD dPut
  simp only [dOk, kind0, kind1, kOf, PyData.eqv, SZ, List.any_cons, List.map_cons, sne2, sne3]
  simp
theorem put_at (cs : List Int) (a l z : Int) : gPut (penD cs a l) (.str "at") (.int z) = some (penD cs z l) := by
  unfold gPut penD dPut
  simp only [dOk, kind0, kind1, kOf, PyData.eqv, SZ, List.any_cons, List.map_cons, sne1, sne4]
  simp
theorem mulL {i j : Int} (h : -B64 < i) (h2 : i < B64) : pMul (.int i) (.int j) = dI (i * j) := by
  unfold pMul; simp only; rw [if_pos (.inl ⟨h, h2⟩)]
theorem mulR {i j : Int} (h : -B64 < j) (h2 : j < B64) : pMul (.int i) (.int j) = dI (i * j) := by
  unfold pMul; simp only; rw [if_pos (.inr ⟨h, h2⟩)]
theorem modP {i j : Int} (h : 0 < j) : pMod (.int i) (.int j) = dI (i % j) := by unfold pMod; simp only; rw [if_pos h]
theorem divP {i j : Int} (h : 0 < j) (h2 : j < 1073741824) : pDiv (.int i) (.int j) = dI (i / j) := by unfold pDiv; simp only; rw [if_pos ⟨h, h2⟩]
theorem pow18 : pPow (.int 10) (.int 18) = dI 1000000000000000000 := by unfold pPow; simp only; rw [if_pos (by decide)]; rfl
/-- the pen, n draws or fewer done -/
def Pn (n : Nat) (d : PyData) : Prop := ∃ (cs : List Int) (a l : Nat), d = penD cs a l ∧ a ≤ n ∧ cs.length ≤ 63
theorem draw_left (cs : List Int) (a l m : Int) (hl : 0 < l) (hm : 0 < m) (hm2 : m < 1073741824) : F__law_draw [.lnt (penD cs a l), .dat (.int m)] = .ret (.dat (.int (l % m))) [penD cs a (l / m)] := by
  have h0 : b__law_draw [some (.own true (penD cs a l)), some (.dat (.int m)), none, none, none, none] = .rt (.dat (.int (l % m))) [some (.own true (penD cs a (l / m))), some (.dat (.int m)), some (.dat (.int (l % m))), none, none, none] := by
    unfold b__law_draw
    simp [mSeq, mIf, mB, mOp2, mVar, mC, app2, view, look_left, Out.bind, asB, SO.of, SO.then, mSet, mPut, mRet, asg, isLent, pGt, dB, hl, pMod, pDiv, dI, hm, hm2, frz, put_left]
  unfold F__law_draw runF
  rw [show initMS 6 [.lnt (penD cs a l), .dat (.int m)] = [some (.own true (penD cs a l)), some (.dat (.int m)), none, none, none, none] from rfl, h0]
  simp [mutsOf, outRv]
/-! ### shallow data -/
def Sh (n : Nat) (d : PyData) : Prop := d.plain = true ∧ d.depth ≤ n
theorem Sh.mono {n m : Nat} {d : PyData} (h : Sh n d) (q : n ≤ m) : Sh m d := ⟨h.1, Nat.le_trans h.2 q⟩
theorem sh_int (n : Nat) (i : Int) : Sh n (.int i) := ⟨rfl, by simp [PyData.depth]⟩
theorem sh_str (n : Nat) (i : Str) : Sh n (.str i) := ⟨rfl, by simp [PyData.depth]⟩
theorem sh_bool (n : Nat) (i : Bool) : Sh n (.bool i) := ⟨rfl, by simp [PyData.depth]⟩
theorem sh_none (n : Nat) : Sh n .none := ⟨rfl, by simp [PyData.depth]⟩
theorem sh_all {n : Nat} : ∀ {xs : List PyData}, (∀ x ∈ xs, Sh n x) → PyData.plainAll xs = true ∧ PyData.depthAll xs ≤ n
  | [], _ => ⟨rfl, by simp [PyData.depthAll]⟩
  | x :: xs, h => by
    have a := h x (by simp)
    have b := sh_all (xs := xs) (fun y hy => h y (List.mem_cons_of_mem _ hy))
    refine ⟨?_, ?_⟩
    · simp [PyData.plainAll, a.1, b.1]
    · simp only [PyData.depthAll]
      have := a.2
      have := b.2
      omega
theorem sh_list {n : Nat} {xs : List PyData} (h : ∀ x ∈ xs, Sh n x) : Sh (n + 1) (.list xs) := by
  have := sh_all h
  refine ⟨this.1, ?_⟩
  simp only [PyData.depth]
  omega
theorem sh_tuple {n : Nat} {xs : List PyData} (h : ∀ x ∈ xs, Sh n x) : Sh (n + 1) (.tuple xs) := by
  have := sh_all h
  refine ⟨this.1, ?_⟩
  simp only [PyData.depth]
  omega
theorem Sh.dep {n : Nat} {d : PyData} (h : Sh n d) (q : n < 60) : Pl.dep d = true := by
  unfold Pl.dep
  rw [h.1]
  have := h.2
  simp
  omega
theorem eq_of {n m : Nat} {d e : PyData} (h : Sh n d) (h2 : Sh m e) (q : n < 60) (q2 : m < 60) : pEq d e = dB (PyData.eqv d e) := by
  unfold pEq eqOk; rw [h.dep q, h2.dep q2]; rfl
theorem ne_of {n m : Nat} {d e : PyData} (h : Sh n d) (h2 : Sh m e) (q : n < 60) (q2 : m < 60) : pNe d e = dB (!PyData.eqv d e) := by
  unfold pNe eqOk; rw [h.dep q, h2.dep q2]; rfl
theorem eqvAll_nil (xs : List PyData) : PyData.eqvAll xs [] = decide (xs = []) := by
  cases xs <;> simp [PyData.eqvAll]
theorem ne_nil {n : Nat} {xs : List PyData} (h : ∀ x ∈ xs, Sh n x) (q : n < 50) : pNe (.list xs) (.list []) = dB (decide (xs ≠ [])) := by
  rw [ne_of (sh_list h) (sh_list (n := 0) (by simp)) (by omega) (by omega), PyData.eqv, eqvAll_nil]
  simp
theorem eq_nil {n : Nat} {xs : List PyData} (h : ∀ x ∈ xs, Sh n x) (q : n < 50) : pEq (.list xs) (.list []) = dB (decide (xs = [])) := by
  rw [eq_of (sh_list h) (sh_list (n := 0) (by simp)) (by omega) (by omega), PyData.eqv, eqvAll_nil]
theorem ne_nil_ints (cs : List Int) : pNe (.list (cs.map .int)) (.list []) = dB (decide (cs ≠ [])) := by
  rw [ne_nil (n := 0) (by intro x hx; obtain ⟨i, _, rfl⟩ := List.mem_map.mp hx; exact sh_int _ _) (by decide)]
  simp

theorem natAbs_ite (i : Int) : (if i < 0 then -i else i) = (i.natAbs : Int) := by omega
theorem pAbs_int (i : Int) : pAbs [.int i] = dI (i.natAbs : Int) := by
  show dI (if i < 0 then -i else i) = _
  rw [natAbs_ite]
/-- what the last rows of draw say -/
def blendV (cell a : Int) : Int :=
  let b1 := (cell % 2147483659 * 48271 + 30011 * a * a + 12289 * a + 7) % 2147483693
  (b1 * b1 + 16807 * b1 + 5 * a + 1) % 2147483713
def lastV (b m : Int) : Int := b * (b + 39373) % 2147483743 / 32 % m
def t_draw : MX :=
    (mSeq (mSet 5 (mOp2 pMod (mOp2 pAdd (mOp2 pAdd (mOp2 pAdd (mOp2 pMul (mOp2 pMod (mVar 4) (mC (.int 2147483659))) (mC (.int 48271))) (mOp2 pMul (mOp2 pMul (mC (.int 30011)) (mVar 3)) (mVar 3))) (mOp2 pMul (mC (.int 12289)) (mVar 3))) (mC (.int 7))) (mC (.int 2147483693))))
    (mSeq (mSet 5 (mOp2 pMod (mOp2 pAdd (mOp2 pAdd (mOp2 pAdd (mOp2 pMul (mVar 5) (mVar 5)) (mOp2 pMul (mC (.int 16807)) (mVar 5))) (mOp2 pMul (mC (.int 5)) (mVar 3))) (mC (.int 1))) (mC (.int 2147483713))))
    (mRet (mOp2 pMod (mOp2 pDiv (mOp2 pMod (mOp2 pMul (mVar 5) (mOp2 pAdd (mVar 5) (mC (.int 39373)))) (mC (.int 2147483743))) (mC (.int 32))) (mVar 1)))))
theorem draw_blend (p : PyData) (a cell m : Int) (x2 : Option SV) (hm : 0 < m) (ha : 0 ≤ a) (ha2 : a < 1152921504606846976) :
    t_draw [some (.own true p), some (.dat (.int m)), x2, some (.dat (.int a)), some (.dat (.int cell)), none]
      = .rt (.dat (.int (lastV (blendV cell a) m))) [some (.own true p), some (.dat (.int m)), x2, some (.dat (.int a)), some (.dat (.int cell)), some (.dat (.int (blendV cell a)))] := by
  unfold t_draw
  have hb1 : ∃ b1, b1 = (cell % 2147483659 * 48271 + 30011 * a * a + 12289 * a + 7) % 2147483693 := ⟨_, rfl⟩
  obtain ⟨b1, hb1⟩ := hb1
  have b1a : 0 ≤ b1 := by rw [hb1]; exact Int.emod_nonneg _ (by decide)
  have b1b : b1 < 2147483693 := by rw [hb1]; exact Int.emod_lt_of_pos _ (by decide)
  have hb2 : ∃ b2, b2 = blendV cell a := ⟨_, rfl⟩
  obtain ⟨b2, hb2⟩ := hb2
  have b2a : 0 ≤ b2 := by rw [hb2]; exact Int.emod_nonneg _ (by decide)
  have b2b : b2 < 2147483713 := by rw [hb2]; exact Int.emod_lt_of_pos _ (by decide)
  have e2 : (b1 * b1 + 16807 * b1 + 5 * a + 1) % 2147483713 = b2 := by rw [hb2, hb1]; rfl
  have k0 : pMod (.int cell) (.int 2147483659) = dI (cell % 2147483659) := modP (by decide)
  have k1 : pMul (.int (cell % 2147483659)) (.int 48271) = dI (cell % 2147483659 * 48271) := mulR (by decide) (by decide)
  have k2 : pMul (.int 30011) (.int a) = dI (30011 * a) := mulL (by decide) (by decide)
  have k3 : pMul (.int (30011 * a)) (.int a) = dI (30011 * a * a) := mulR (by unfold B64; omega) (by unfold B64; omega)
  have k4 : pMul (.int 12289) (.int a) = dI (12289 * a) := mulL (by decide) (by decide)
  have k5 : pMod (.int (cell % 2147483659 * 48271 + 30011 * a * a + 12289 * a + 7)) (.int 2147483693) = dI b1 := by rw [hb1]; exact modP (by decide)
  have k6 : pMul (.int b1) (.int b1) = dI (b1 * b1) := mulR (by unfold B64; omega) (by unfold B64; omega)
  have k7 : pMul (.int 16807) (.int b1) = dI (16807 * b1) := mulL (by decide) (by decide)
  have k8 : pMul (.int 5) (.int a) = dI (5 * a) := mulL (by decide) (by decide)
  have k9 : pMod (.int (b1 * b1 + 16807 * b1 + 5 * a + 1)) (.int 2147483713) = dI b2 := by rw [← e2]; exact modP (by decide)
  have k10 : pMul (.int b2) (.int (b2 + 39373)) = dI (b2 * (b2 + 39373)) := mulL (by unfold B64; omega) (by unfold B64; omega)
  have k11 : pMod (.int (b2 * (b2 + 39373))) (.int 2147483743) = dI (b2 * (b2 + 39373) % 2147483743) := modP (by decide)
  have k12 : pDiv (.int (b2 * (b2 + 39373) % 2147483743)) (.int 32) = dI (b2 * (b2 + 39373) % 2147483743 / 32) := divP (by decide) (by decide)
  have k13 : pMod (.int (b2 * (b2 + 39373) % 2147483743 / 32)) (.int m) = dI (lastV b2 m) := modP hm
  rw [seq_nx (ms1 := [some (.own true p), some (.dat (.int m)), x2, some (.dat (.int a)), some (.dat (.int cell)), some (.dat (.int b1))]) (by
    simp only [mSet, mOp2, mVar, mC, app2, view, Out.bind, SO.of, List.getElem?_cons_succ, List.getElem?_cons_zero, dI, pAdd, k0, k1, k2, k3, k4, k5]
    rfl)]
  rw [seq_nx (ms1 := [some (.own true p), some (.dat (.int m)), x2, some (.dat (.int a)), some (.dat (.int cell)), some (.dat (.int b2))]) (by
    simp only [mSet, mOp2, mVar, mC, app2, view, Out.bind, SO.of, List.getElem?_cons_succ, List.getElem?_cons_zero, dI, pAdd, k6, k7, k8, k9]
    rfl)]
  simp only [mRet, mOp2, mVar, mC, app2, view, Out.bind, SO.of, List.getElem?_cons_succ, List.getElem?_cons_zero, dI, pAdd, k10, k11, k12, k13]
  rw [hb2]
theorem atI_nat {α : Type} (xs : List α) (i : Nat) (h : i < xs.length) : L2.atI xs (i : Int) = some xs[i] := by
  unfold L2.atI L2.ixN
  rw [if_pos (by omega), if_pos (by omega)]
  simp [h]
theorem ix_list (xs : List PyData) (i : Nat) (h : i < xs.length) : pIx (.list xs) (.int (i : Int)) = some (.dat xs[i]) := by
  unfold pIx; simp only; rw [atI_nat xs i h]; rfl
theorem ix_tuple (xs : List PyData) (i : Nat) (h : i < xs.length) : pIx (.tuple xs) (.int (i : Int)) = some (.dat xs[i]) := by
  unfold pIx; simp only; rw [atI_nat xs i h]; rfl
theorem len_list (xs : List PyData) : pLenS [.list xs] = dI xs.length := rfl
theorem len_tuple (xs : List PyData) : pLenS [.tuple xs] = dI xs.length := rfl
theorem ev_nil (ms : MS) : mLst mNil ms = .ok (.new (.list [])) ms := rfl
theorem draw_spec {n : Nat} {d : PyData} {m : Nat} (hp : Pn n d) (hn : n < 1000000000) (hm : 0 < m) (hm2 : m < 1073741824) :
    ∃ (z : Nat) (d' : PyData), F__law_draw [.lnt d, .dat (.int m)] = .ret (.dat (.int z)) [d'] ∧ z < m ∧ Pn (n + 1) d' := by
  obtain ⟨cs, a, l, rfl, ha, hc⟩ := hp
  by_cases hl : 0 < l
  · refine ⟨l % m, penD cs a (l / m), ?_, Nat.mod_lt _ hm, cs, a, l / m, by simp, by omega, hc⟩
    rw [draw_left cs a l m (by omega) (by omega) (by omega)]
    simp
  have hl0 : l = 0 := by omega
  subst hl0
  suffices h : ∃ (z : Nat) (l' : Nat) (s2 s3 s4 s5 : Option SV), b__law_draw [some (.own true (penD cs a 0)), some (.dat (.int m)), none, none, none, none] = .rt (.dat (.int z)) [some (.own true (penD cs (a + 1 : Nat) l')), some (.dat (.int m)), s2, s3, s4, s5] ∧ z < m by
    obtain ⟨z, l', s2, s3, s4, s5, h, hz⟩ := h
    refine ⟨z, penD cs (a + 1 : Nat) l', ?_, hz, cs, a + 1, l', rfl, by omega, hc⟩
    unfold F__law_draw runF
    rw [show initMS 6 [.lnt (penD cs a (0 : Nat)), .dat (.int m)] = [some (.own true (penD cs a 0)), some (.dat (.int m)), none, none, none, none] from rfl, h]
    simp [mutsOf, outRv]
  unfold b__law_draw
  rw [seq_nx (ms1 := [some (.own true (penD cs a 0)), some (.dat (.int m)), none, none, none, none]) (by
    simp only [mIf, mB, mOp2, mVar, mC, app2, view, Out.bind, SO.of, List.getElem?_cons_succ, List.getElem?_cons_zero, look_left, pGt, dB, asB]
    rfl)]
  rw [seq_nx (ms1 := [some (.own true (penD cs a 0)), some (.dat (.int m)), none, some (.dat (.int a)), none, none]) (by
    simp only [mSet, mOp2, mVar, mC, app2, view, Out.bind, SO.of, List.getElem?_cons_succ, List.getElem?_cons_zero, look_at]
    rfl)]
  rw [seq_nx (ms1 := [some (.own true (penD cs (a + 1 : Nat) 0)), some (.dat (.int m)), none, some (.dat (.int a)), none, none]) (by
    simp [mPut, mOp2, mVar, mC, app2, view, Out.bind, SO.of, pAdd, dI, frz, put_at])]
  rw [seq_nx (ms1 := [some (.own true (penD cs (a + 1 : Nat) 0)), some (.dat (.int m)), none, some (.dat (.int a)), some (.dat (.int (17 * a + 3))), none]) (by
    have k0 : pMul (.int 17) (.int a) = dI (17 * a) := mulL (by decide) (by decide)
    simp [mSet, mOp2, mVar, mC, app2, view, Out.bind, SO.of, pAdd, dI, k0, asg, isLent])]
  have h5 : ∃ cell : Int, (mIf (mB (mOp2 pNe (mOp2 pIx (mVar 0) (mC (.str "cells"))) (mLst mNil))) (mSet 4 (mOp2 pIx (mOp2 pIx (mVar 0) (mC (.str "cells"))) (mOp2 pMod (mVar 3) (mFun pLenS (mOne (mOp2 pIx (mVar 0) (mC (.str "cells")))))))) mSkip)
      [some (.own true (penD cs (a + 1 : Nat) 0)), some (.dat (.int m)), none, some (.dat (.int a)), some (.dat (.int (17 * a + 3))), none] = .nx [some (.own true (penD cs (a + 1 : Nat) 0)), some (.dat (.int m)), none, some (.dat (.int a)), some (.dat (.int cell)), none] := by
    by_cases e : cs = []
    · refine ⟨17 * a + 3, ?_⟩
      simp only [mIf, mB, mOp2, mVar, mC, app2, view, Out.bind, SO.of, List.getElem?_cons_succ, List.getElem?_cons_zero, look_cells, appN, Pl.settle, ev_nil, ne_nil_ints, dB, asB, e]
      rfl
    · have hpos : 0 < cs.length := by cases cs with | nil => exact absurd rfl e | cons x xs => simp
      obtain ⟨r, hr⟩ : ∃ r : Nat, r = a % cs.length := ⟨_, rfl⟩
      have hlt0 : r < cs.length := by rw [hr]; exact Nat.mod_lt _ hpos
      have hlt : r < (cs.map PyData.int).length := by rw [List.length_map]; exact hlt0
      have k0 : pMod (.int a) (.int (cs.map PyData.int).length) = dI (r : Int) := by
        rw [List.length_map, modP (by omega), hr]; simp
      refine ⟨cs[r], ?_⟩
      simp only [mIf, mB, mSet, mOp2, mVar, mC, app2, view, Out.bind, SO.of, List.getElem?_cons_succ, List.getElem?_cons_zero, look_cells, appN, Pl.settle, ev_nil, ne_nil_ints, dB, asB, e, mFun, mOne, Pl.settle, appN, views, len_list, k0, dI]
      simp [ix_list _ _ hlt, asg, isLent, e]
  obtain ⟨cell, h5⟩ := h5
  rw [seq_nx h5]
  have hlen : ((cs.map PyData.int).length : Int) = cs.length := by simp
  by_cases c1 : (a : Int) < cs.length ∧ (1000000000000000000 : Int) ≤ (cell.natAbs : Int)
  · have k1 : pDiv (.int ((cell.natAbs : Int) - 1000000000000000000)) (.int m) = dI (((cell.natAbs : Int) - 1000000000000000000) / m) := divP (by omega) (by omega)
    have k2 : pMod (.int ((cell.natAbs : Int) - 1000000000000000000)) (.int m) = dI (((cell.natAbs : Int) - 1000000000000000000) % m) := modP (by omega)
    obtain ⟨q, hq⟩ : ∃ q : Nat, (cell.natAbs : Int) - 1000000000000000000 = q := ⟨cell.natAbs - 1000000000000000000, by omega⟩
    have k1 : pDiv (.int q) (.int m) = dI ((q / m : Nat) : Int) := by rw [divP (by omega) (by omega)]; simp
    have k2 : pMod (.int q) (.int m) = dI ((q % m : Nat) : Int) := by rw [modP (by omega)]; simp
    refine ⟨q % m, q / m, none, some (.dat (.int a)), some (.dat (.int cell)), none, ?_, Nat.mod_lt _ hm⟩
    rw [seq_rt (r := .dat (.int ((q % m : Nat) : Int))) (ms1 := [some (.own true (penD cs (a + 1 : Nat) (q / m : Nat))), some (.dat (.int m)), none, some (.dat (.int a)), some (.dat (.int cell)), none]) (by
      simp [mIf, mAnd, mSeq, mPut, mRet, mB, mOp2, mVar, mC, app2, view, Out.bind, SO.of, SO.then, look_cells, mFun, mOne, Pl.settle, appN, views, len_list, dI, pLt, dB, asB, c1, pAbs_int, pow18, pGe, pSub, k1, k2, frz, put_left, hq])]
  · have hz : 0 ≤ lastV (blendV cell a) m := Int.emod_nonneg _ (by omega)
    have hz2 : lastV (blendV cell a) m < m := Int.emod_lt_of_pos _ (by omega)
    obtain ⟨z, ez⟩ : ∃ z : Nat, lastV (blendV cell a) m = z := ⟨(lastV (blendV cell a) m).toNat, by omega⟩
    refine ⟨z, 0, none, some (.dat (.int a)), some (.dat (.int cell)), some (.dat (.int (blendV cell a))), ?_, by omega⟩
    rw [seq_nx (ms1 := [some (.own true (penD cs (a + 1 : Nat) 0)), some (.dat (.int m)), none, some (.dat (.int a)), some (.dat (.int cell)), none]) (by
      by_cases c2 : (a : Int) < cs.length
      · have c3 : ¬ (1000000000000000000 : Int) ≤ (cell.natAbs : Int) := fun h => c1 ⟨c2, h⟩
        simp [mIf, mAnd, mSkip, mB, mOp2, mVar, mC, app2, view, Out.bind, SO.of, SO.then, look_cells, mFun, mOne, Pl.settle, appN, views, len_list, dI, pLt, dB, asB, c2, c3, pAbs_int, pow18, pGe]
      · simp [mIf, mAnd, mSkip, mB, mOp2, mVar, mC, app2, view, Out.bind, SO.of, SO.then, look_cells, mFun, mOne, Pl.settle, appN, views, len_list, dI, pLt, dB, asB, c2])]
    have := draw_blend (penD cs (a + 1 : Nat) 0) a cell m none (by omega) (by omega) (by omega)
    unfold t_draw at this
    rw [this, ez]
    rfl
end Lw

/-! Sp2 -/
set_option Elab.async false
set_option linter.all false
set_option maxRecDepth 100000
set_option maxHeartbeats 1000000
namespace Lw
open PySem PySem.Spec PyProof.Rows L2 Pl
def aD : Pl.Arg → PyData
  | .dat d => d
  | .lnt d => d
def aB : Pl.Arg → List PyData
  | .dat _ => []
  | .lnt d => [d]
theorem draw_at {ms : MS} {i n m : Nat} {l : Bool} {p : PyData} {f : ME} (hi : ms[i]? = some (some (.own l p))) (hf : f ms = .ok (.dat (.int (m : Int))) ms) (hp : Pn n p) (hn : n < 1000000000) (hm : 0 < m) (hm2 : m < 1073741824) :
    ∃ (z : Nat) (p' : PyData), mCall F__law_draw (mCons (mVar i) (mOne f)) ms = .ok (.dat (.int z)) (ms.set i (some (.own l p'))) ∧ z < m ∧ Pn (n + 1) p' := by
  obtain ⟨z, p', h, hz, hp'⟩ := draw_spec hp hn hm hm2
  refine ⟨z, p', ?_, hz, hp'⟩
  simp [mCall, mCons, mOne, mVar, hi, hf, Pl.settle, callOut, lentOf, nodupB, toArgs, toArg, h, putBack]
/-- the things of a sequence -/
def sqD : PyData → Option (List PyData)
  | .list ds => some ds
  | .tuple ds => some ds
  | .str z => if z.length ≤ SZ then some (z.cps.toList.map fun c => .str ⟨#[c]⟩) else none
  | _ => none
theorem ix_sq {d : PyData} {ds : List PyData} (h : sqD d = some ds) (i : Nat) (hi : i < ds.length) : pIx d (.int (i : Int)) = some (.dat ds[i]) := by
  cases d with
  | list xs => cases h; exact ix_list _ _ hi
  | tuple xs => cases h; exact ix_tuple _ _ hi
  | str z =>
    simp only [sqD] at h
    split at h
    · rename_i hz
      cases h
      simp only [pIx]
      rw [if_pos hz]
      rw [List.length_map] at hi
      rw [atI_nat _ _ hi]
      simp
    · cases h
  | _ => cases h
theorem len_sq {d : PyData} {ds : List PyData} (h : sqD d = some ds) : pLenS [d] = dI ds.length := by
  cases d with
  | list xs => cases h; rfl
  | tuple xs => cases h; rfl
  | str z =>
    simp only [sqD] at h
    split at h
    · rename_i hz
      cases h
      have hz' : z.cps.size ≤ SZ := hz
      simp [pLenS, pLen, Str.length, hz']
    · cases h
  | _ => cases h
theorem pick_spec {n : Nat} {p : PyData} {x : Pl.Arg} {ds : List PyData} (hp : Pn n p) (hn : n < 1000000000) (hx : sqD (aD x) = some ds) (h0 : 0 < ds.length) (h1 : ds.length < 1073741824) :
    ∃ (z : Nat) (p' : PyData) (hz : z < ds.length), F__law_pick [.lnt p, x] = .ret (.dat ds[z]) (p' :: aB x) ∧ Pn (n + 1) p' := by
  cases x with
  | dat d =>
    obtain ⟨z, p', h, hz, hp'⟩ := draw_at (ms := [some (.own true p), some (.dat d)]) (i := 0) (f := mFun pLenS (mOne (mVar 1))) rfl (by
      have e := len_sq hx
      simp only [aD] at e
      simp [mFun, mOne, mVar, Pl.settle, appN, views, view, e, dI]) hp hn h0 h1
    refine ⟨z, p', hz, ?_, hp'⟩
    unfold F__law_pick runF b__law_pick
    rw [show initMS 2 [.lnt p, .dat d] = [some (.own true p), some (.dat d)] from rfl]
    have e := ix_sq hx z hz
    simp only [aD] at e
    simp [mRet, mOp2, mVar, h, app2, view, SO.of, e, mutsOf, outRv, aB]
  | lnt d =>
    obtain ⟨z, p', h, hz, hp'⟩ := draw_at (ms := [some (.own true p), some (.own true d)]) (i := 0) (f := mFun pLenS (mOne (mVar 1))) rfl (by
      have e := len_sq hx
      simp only [aD] at e
      simp [mFun, mOne, mVar, Pl.settle, appN, views, view, e, dI]) hp hn h0 h1
    refine ⟨z, p', hz, ?_, hp'⟩
    unfold F__law_pick runF b__law_pick
    rw [show initMS 2 [.lnt p, .lnt d] = [some (.own true p), some (.own true d)] from rfl]
    have e := ix_sq hx z hz
    simp only [aD] at e
    simp [mRet, mOp2, mVar, h, app2, view, SO.of, e, mutsOf, outRv, aB]
theorem perm_erase {α : Type} (xs : List α) (i : Nat) (h : i < xs.length) : (xs[i] :: xs.eraseIdx i).Perm xs := by
  induction xs generalizing i with
  | nil => cases h
  | cons x xs ih =>
    cases i with
    | zero => simp
    | succ i =>
      simp only [List.getElem_cons_succ, List.eraseIdx_cons_succ]
      exact (List.Perm.swap _ _ _).trans ((ih i (by simpa using h)).cons x)
/-- the round of shuffled -/
def w_shuffled : MX := mDrop (mMut "list" gAppend 3 (mOne (mMut "list" gPop 2 (mOne (mCall F__law_draw (mCons (mVar 0) (mOne (mFun pLenS (mOne (mVar 2))))))))))
theorem sIx {n z : Nat} (h : z < n) : seqIndex? (z : Int) n = some z := by
  have hz0 : ¬ (z : Int) < 0 := by omega
  simp [seqIndex?, hz0, h]
theorem gPop_at {xs : List PyData} {z : Nat} (h : z < xs.length) (h2 : (z : Int) < 2 ^ 63) : gPop (.list xs) [.int (z : Int)] = some (xs[z], .list (xs.eraseIdx z)) := by
  have h3 : -(2 ^ 63) ≤ (z : Int) := Int.le_trans (by decide) (Int.natCast_nonneg z)
  simp only [gPop]
  rw [if_pos ⟨h3, h2⟩, sIx h]
  simp [h]
theorem gApp_at {xs : List PyData} {x : PyData} (h : xs.length < SZ) : gAppend (.list xs) [x] = some (.none, .list (xs ++ [x])) := by
  simp only [gAppend]
  rw [if_pos h]
theorem lt63 {z : Nat} (h : z < 1000000000) : (z : Int) < 2 ^ 63 := Int.lt_of_lt_of_le (Int.ofNat_lt.mpr h) (by decide)
theorem shuf_step (s1 : Option SV) {left found : List PyData} {p p' : PyData} {z : Nat} (hzl : z < left.length) (h : mCall F__law_draw (mCons (mVar 0) (mOne (mFun pLenS (mOne (mVar 2))))) [some (.own true p), s1, some (.own false (.list left)), some (.own false (.list found))] = .ok (.dat (.int z)) [some (.own true p'), s1, some (.own false (.list left)), some (.own false (.list found))])
    (hgp : gPop (.list left) [.int (z : Int)] = some (left[z], .list (left.eraseIdx z))) (hga : gAppend (.list found) [left[z]] = some (.none, .list (found ++ [left[z]]))) :
    w_shuffled [some (.own true p), s1, some (.own false (.list left)), some (.own false (.list found))] = .nx [some (.own true p'), s1, some (.own false (.list (left.eraseIdx z))), some (.own false (.list (found ++ [left[z]])))] := by
  unfold w_shuffled
  exact drop_nx (mut_one (l := false) (d := .list found) rfl (mut_one (l := false) (d := .list left) rfl h rfl rfl hgp) rfl rfl hga)
theorem shuf_loop (s1 : Option SV) (k : Nat) : ∀ (left found : List PyData) (p : PyData) (n fuel : Nat), left.length = k → Pn n p → n + k < 1000000000 → (∀ x ∈ left, Sh 40 x) → found.length + k ≤ 16777000 → k + 1 ≤ fuel →
    ∃ (p' : PyData) (zs : List PyData), mWhile fuel (mB (mOp2 pNe (mVar 2) (mLst mNil))) w_shuffled [some (.own true p), s1, some (.own false (.list left)), some (.own false (.list found))]
      = .nx [some (.own true p'), s1, some (.own false (.list [])), some (.own false (.list (found ++ zs)))] ∧ zs.Perm left ∧ Pn (n + k) p' := by
  induction k with
  | zero =>
    intro left found p n fuel hl hp hn hs hz hf
    obtain ⟨fuel, rfl⟩ : ∃ f, fuel = f + 1 := ⟨fuel - 1, by omega⟩
    have : left = [] := List.length_eq_zero_iff.mp hl
    subst this
    refine ⟨p, [], ?_, .refl _, hp⟩
    have e := ne_nil (n := 40) (xs := []) (by simp) (by decide)
    simp [mWhile, mB, mOp2, mVar, ev_nil, app2, view, e, dB, asB, SO.of]
  | succ k ih =>
    intro left found p n fuel hl hp hn hs hz hf
    obtain ⟨fuel, rfl⟩ : ∃ f, fuel = f + 1 := ⟨fuel - 1, by omega⟩
    have hne : left ≠ [] := by intro e; subst e; cases hl
    have e := ne_nil (n := 40) hs (by decide)
    obtain ⟨z, p', h, hzl, hp'⟩ := draw_at (ms := [some (.own true p), s1, some (.own false (.list left)), some (.own false (.list found))]) (i := 0) (m := left.length) (f := mFun pLenS (mOne (mVar 2))) rfl (by
      simp [mFun, mOne, mVar, Pl.settle, appN, views, view, len_list, dI]) hp (by omega) (by omega) (by omega)
    have hgp := gPop_at hzl (lt63 (by omega))
    have hga := gApp_at (xs := found) (x := left[z]) (Nat.lt_of_le_of_lt (Nat.le_trans (Nat.le_add_right _ _) hz) (by decide))
    have hstep := shuf_step s1 hzl h hgp hga
    obtain ⟨p2, zs, h2, hperm, hp2⟩ := ih (left.eraseIdx z) (found ++ [left[z]]) p' (n + 1) fuel (by rw [List.length_eraseIdx]; simp [hzl]; omega) hp' (by omega)
      (fun x hx => hs x (List.mem_of_mem_eraseIdx hx)) (by simp; omega) (by omega)
    refine ⟨p2, left[z] :: zs, ?_, ((hperm.cons _).trans (perm_erase left z hzl)), by rw [show n + (k + 1) = n + 1 + k from by omega]; exact hp2⟩
    rw [while_go (ms1 := [some (.own true p), s1, some (.own false (.list left)), some (.own false (.list found))]) (by
      simp [mB, mOp2, mVar, ev_nil, app2, view, e, dB, asB, hne]) hstep, h2]
    simp
theorem shuffled_spec {n : Nat} {p : PyData} {x : Pl.Arg} {ds : List PyData} (hp : Pn n p) (hx : aD x = .list ds ∨ aD x = .tuple ds) (hl : ds.length ≤ 1000000) (hn : n + ds.length < 1000000000) (hs : ∀ x ∈ ds, Sh 40 x) :
    ∃ (p' : PyData) (zs : List PyData), F__law_shuffled [.lnt p, x] = .ret (.new (.list zs)) (p' :: aB x) ∧ zs.Perm ds ∧ Pn (n + ds.length) p' := by
  have key : ∀ s1 : Option SV, s1 = some (.dat (aD x)) ∨ s1 = some (.own true (aD x)) → ∃ (p' : PyData) (zs : List PyData), b__law_shuffled [some (.own true p), s1, none, none] = .rt (.slot 3) [some (.own true p'), s1, some (.own false (.list [])), some (.own false (.list zs))] ∧ zs.Perm ds ∧ Pn (n + ds.length) p' := by
    intro s1 h1
    obtain ⟨p', zs, h, hperm, hp'⟩ := shuf_loop s1 ds.length ds [] p n wN rfl hp hn hs (by simp; omega) (by unfold wN; omega)
    refine ⟨p', zs, ?_, hperm, hp'⟩
    unfold b__law_shuffled
    rw [seq_nx (ms1 := [some (.own true p), s1, some (.own false (.list ds)), some (.own false (.list []))]) (by
      rcases h1 with rfl | rfl <;> rcases hx with e | e <;>
      simp [mPar, mKeep, mKNil, mFun, mOne, mVar, Pl.settle, appN, views, view, e, pList, kpt, ev_nil, SO.of, asgs, asg, isLent, SO.then])]
    have h' := h
    unfold w_shuffled at h'
    rw [seq_nx h']
    simp [mRet, mVar, SO.of]
  cases x with
  | dat d =>
    obtain ⟨p', zs, h, hperm, hp'⟩ := key (some (.dat d)) (.inl rfl)
    refine ⟨p', zs, ?_, hperm, hp'⟩
    unfold F__law_shuffled runF
    rw [show initMS 4 [.lnt p, .dat d] = [some (.own true p), some (.dat d), none, none] from rfl, h]
    simp [mutsOf, outRv, aB]
  | lnt d =>
    obtain ⟨p', zs, h, hperm, hp'⟩ := key (some (.own true d)) (.inr rfl)
    refine ⟨p', zs, ?_, hperm, hp'⟩
    unfold F__law_shuffled runF
    rw [show initMS 4 [.lnt p, .lnt d] = [some (.own true p), some (.own true d), none, none] from rfl, h]
    simp [mutsOf, outRv, aB]
end Lw

/-! Sp3 -/
set_option Elab.async false
set_option linter.all false
set_option maxRecDepth 100000
set_option maxHeartbeats 1000000
namespace Lw
open PySem PySem.Spec PyProof.Rows L2 Pl
theorem Pn.mono {n m : Nat} {d : PyData} (h : Pn n d) (q : n ≤ m) : Pn m d := by
  obtain ⟨cs, a, l, e, h1, h2⟩ := h
  exact ⟨cs, a, l, e, by omega, h2⟩
theorem pick_at {ms : MS} {i n : Nat} {l : Bool} {p d : PyData} {r : Rv} {f : ME} {ds : List PyData} (hi : ms[i]? = some (some (.own l p))) (hf : f ms = .ok r ms) (hr : Pl.settle r = .dat d) (hp : Pn n p) (hn : n < 1000000000) (hx : sqD d = some ds) (h0 : 0 < ds.length) (h1 : ds.length < 1073741824) :
    ∃ (z : Nat) (p' : PyData) (hz : z < ds.length), mCall F__law_pick (mCons (mVar i) (mOne f)) ms = .ok (.dat ds[z]) (ms.set i (some (.own l p'))) ∧ Pn (n + 1) p' := by
  obtain ⟨z, p', hz, h, hp'⟩ := pick_spec (x := .dat d) hp hn hx h0 h1
  refine ⟨z, p', hz, ?_, hp'⟩
  have e : mOne f ms = .ok [.dat d] ms := by simp [mOne, hf, hr]
  simp [mCall, mCons, e, mVar, hi, callOut, Pl.settle, lentOf, nodupB, toArgs, toArg, h, putBack, aB]
/-! ### letters and hands -/
def L26 : Str := "abcdefghijklmnopqrstuvwxyz"
theorem l26_cps : L26.cps.toList = (List.range 26).map (97 + ·) := by decide +kernel
theorem l26_len : L26.length = 26 := by decide +kernel
def ltr (i : Nat) : Str := ⟨#[97 + i]⟩
theorem l26_sq : sqD (.str L26) = some ((List.range 26).map fun i => .str (ltr i)) := by
  simp only [sqD]
  rw [if_pos (by rw [l26_len]; decide), l26_cps, List.map_map]
  rfl
def lts (z : Str) : Prop := ∀ c ∈ z.cps.toList, 97 ≤ c ∧ c ≤ 122
def IsHand (z : Str) : Prop := 1 ≤ z.cps.size ∧ z.cps.size ≤ 8 ∧ lts z
theorem app_cps (a b : Str) : (a ++ b).cps.toList = a.cps.toList ++ b.cps.toList := by
  show (a.cps ++ b.cps).toList = _
  simp
theorem join_cps : ∀ l : List Str, (Txt.join (Str.ofString "") l).cps.toList = (l.map fun z => z.cps.toList).flatten := by
  intro l
  show (Builtin.Str.glued (PySem.Str.ofString "") l).cps.toList = _
  rw [StrLaws.glued_eq_join]
  have e0 : (Str.ofString "").cps.toList = [] := by decide +kernel
  induction l with
  | nil => rfl
  | cons x r ih =>
    cases r with
    | nil => simp [Str.join]
    | cons y r =>
      show (x ++ Str.ofString "" ++ Str.join (Str.ofString "") (y :: r)).cps.toList = _
      rw [app_cps, app_cps, ih, e0]
      simp
theorem strsOf_map (l : List Str) : strsOf (l.map .str) = some l := by
  induction l with
  | nil => rfl
  | cons x r ih => simp [strsOf, ih]
/-- what the comprehension over letters keeps -/
def baseLc : ME := (mLc [4] (fun ms => ((mOne (mOp2 pAdd (mC (.int 1)) (mCall F__law_draw (mCons (mVar 0) (mOne (mC (.int 8))))))) ms).bind rng1) (gNm 4) mYes (mCall F__law_pick (mCons (mVar 0) (mOne (mVar 2)))))
theorem base_lc {n : Nat} {p : PyData} {m : Option SV} (hp : Pn n p) (hn : n < 900000000) :
    ∃ (ls : List Str) (p' : PyData), baseLc [some (.own true p), m, some (.dat (.str L26)), none, none, none, none, none, none, none, none, none] = .ok (.new (.list (ls.map .str))) [some (.own true p'), m, some (.dat (.str L26)), none, none, none, none, none, none, none, none, none] ∧ 1 ≤ ls.length ∧ ls.length ≤ 8 ∧ (∀ x ∈ ls, ∃ i, i < 26 ∧ x = ltr i) ∧ Pn (n + 9) p' := by
  obtain ⟨z, p1, hd, hz, hp1⟩ := draw_at (ms := [some (.own true p), m, some (.dat (.str L26)), none, none, none, none, none, none, none, none, none]) (i := 0) (m := 8) (f := mC (.int 8)) rfl rfl hp (by omega) (by decide) (by decide)
  have e : mOp2 pAdd (mC (.int 1)) (mCall F__law_draw (mCons (mVar 0) (mOne (mC (.int 8))))) [some (.own true p), m, some (.dat (.str L26)), none, none, none, none, none, none, none, none, none] = .ok (.dat (.int ((1 + z : Nat) : Int))) [some (.own true p1), m, some (.dat (.str L26)), none, none, none, none, none, none, none, none, none] :=
    op2_d (a := .int 1) (b := .int z) rfl hd (by show some (Rv.dat (.int (1 + (z : Int)))) = _; rw [Int.natCast_add]; rfl)
  have hr := rng_of e (by omega)
  obtain ⟨acc, ms', h4, ⟨p', ls, e1, e2, e3, e4⟩, h6⟩ := lc_inv (vs := [4]) (g := gNm 4) (f := mCall F__law_pick (mCons (mVar 0) (mOne (mVar 2)))) (fun k acc ms => ∃ (p' : PyData) (ls : List Str), ms = [some (.own true p'), m, some (.dat (.str L26)), none, none, none, none, none, none, none, none, none] ∧ acc = ls.map .str ∧ (∀ x ∈ ls, ∃ i, i < 26 ∧ x = ltr i) ∧ Pn (n + 1 + k) p')
    (rgInts 0 (1 + z)) [] 0 (wipeM [some (.own true p1), m, some (.dat (.str L26)), none, none, none, none, none, none, none, none, none] [4]) ⟨p1, [], rfl, rfl, by simp, hp1⟩ (by simp only [rgInts, List.length_map, List.length_range, List.length_nil]; exact Nat.lt_of_lt_of_le (by omega : 0 + (1 + z) < 100) (by decide)) (by
      rintro j hj acc ms ⟨p', ls, rfl, rfl, h1, h2⟩
      simp only [rgInts, List.length_map, List.length_range] at hj
      obtain ⟨y, p2, hy, hc, hp2⟩ := pick_at (ms := [some (.own true p'), m, some (.dat (.str L26)), none, some (.dat (.int (0 + (j : Int)))), none, none, none, none, none, none, none]) (i := 0) (f := mVar 2) (r := .dat (.str L26)) rfl rfl rfl h2 (by omega) l26_sq (by simp) (by simp)
      simp only [List.length_map, List.length_range] at hy
      refine ⟨_, _, .str (ltr y), ?_, (hc.trans (by simp; rfl)), p2, ls ++ [ltr y], rfl, by simp, ?_, by rw [show n + 1 + (0 + j + 1) = n + 1 + (0 + j) + 1 from by omega]; exact hp2⟩
      · simp [rgInts, gNm, isLent]
      · intro x hx
        rcases List.mem_append.mp hx with hx | hx
        · exact h1 x hx
        · exact ⟨y, hy, List.mem_singleton.mp hx⟩)
  simp only [rgInts, List.length_map, List.length_range, List.length_nil] at h6 e4
  refine ⟨ls, p', ?_, ?_, ?_, e3, e4.mono (by omega)⟩
  · rw [e1, e2] at h4
    exact mlc_fix hr h4
  · rw [e2, List.length_map] at h6; omega
  · rw [e2, List.length_map] at h6; omega
/-! ### the names of hands -/
def S23 : Str := "let hands a ab abc abcd ann anna b ba lets hand z zz zzz le row rows an bar bars c ca"
def W23 : List Str := Txt.split S23 " "
def okHand (z : Str) : Bool := decide (1 ≤ z.cps.size) && decide (z.cps.size ≤ 8) && z.cps.toList.all fun c => decide (97 ≤ c) && decide (c ≤ 122)
theorem isHand_of {z : Str} (h : okHand z = true) : IsHand z := by
  unfold okHand at h
  simp only [Bool.and_eq_true, decide_eq_true_eq, List.all_eq_true] at h
  exact ⟨h.1.1, h.1.2, fun c hc => h.2 c hc⟩
theorem w23_all : W23.all okHand = true := by decide +kernel
theorem w23_len : W23.length = 23 := by decide +kernel
theorem w23_nd : W23.Nodup := by decide +kernel
theorem split23 : gSplit (.str S23) [.str " "] = some (.new (.list (W23.map .str))) := by
  have h : ((" " : Str).length == 0) = false ∧ S23.length + 2 ≤ SZ := by decide +kernel
  simp only [gSplit]
  rw [if_pos h]
  rfl
end Lw

/-! Sp4 -/
set_option Elab.async false
set_option linter.all false
set_option maxRecDepth 100000
set_option maxHeartbeats 1000000
namespace Lw
open PySem PySem.Spec PyProof.Rows L2 Pl
/-- the k-th name, of a word, a place, a first letter, a step and cuts -/
def nmAt (b : Str) (at' first by' : Nat) (c : Nat → Nat) (k : Nat) : Str := cutS b none (some (at' : Int)) ++ ltr ((first + by' * k) % 26) ++ cutS (cutS b (some ((at' + 1 : Nat) : Int)) none) none (some (c k : Int))
theorem nmAt_cps (b : Str) (at' first by' : Nat) (c : Nat → Nat) (k : Nat) : (nmAt b at' first by' c k).cps.toList = b.cps.toList.take at' ++ (97 + (first + by' * k) % 26) :: (b.cps.toList.drop (at' + 1)).take (c k) := by
  unfold nmAt
  rw [app_cps, app_cps, cutS_to, cutS_to, cutS_from]
  simp [ltr]
theorem nmAt_hand {b : Str} {at' first by' : Nat} {c : Nat → Nat} {k : Nat} (hb : IsHand b) (ha : at' < b.cps.size) : IsHand (nmAt b at' first by' c k) := by
  have e := nmAt_cps b at' first by' c k
  have hs : (nmAt b at' first by' c k).cps.size = (nmAt b at' first by' c k).cps.toList.length := by simp
  have h2 := hb.2.1
  refine ⟨?_, ?_, ?_⟩
  · rw [hs, e]; simp; omega
  · rw [hs, e]; simp; omega
  · intro x hx
    rw [e] at hx
    rcases List.mem_append.mp hx with h | h
    · exact hb.2.2 x (List.mem_of_mem_take h)
    · rcases List.mem_cons.mp h with h | h
      · have := Nat.mod_lt (first + by' * k) (show 0 < 26 by decide); omega
      · exact hb.2.2 x (List.mem_of_mem_drop (List.mem_of_mem_take h))
theorem nmAt_inj {b : Str} {at' first by' : Nat} {c : Nat → Nat} {i j : Nat} (ha : at' < b.cps.size) (hby : by' ∈ [1, 3, 5, 7, 9, 11, 15, 17, 19, 21, 23]) (hi : i < 8) (hj : j < 8) (h : nmAt b at' first by' c i = nmAt b at' first by' c j) : i = j := by
  have e : (nmAt b at' first by' c i).cps.toList = (nmAt b at' first by' c j).cps.toList := by rw [h]
  rw [nmAt_cps, nmAt_cps] at e
  have e2 := List.append_cancel_left e
  injection e2 with e3 _
  simp only [List.mem_cons, List.not_mem_nil, or_false] at hby
  rcases hby with rfl | rfl | rfl | rfl | rfl | rfl | rfl | rfl | rfl | rfl | rfl <;> omega
theorem nodup_range {α : Type} (F : Nat → α) (m : Nat) (h : ∀ i j, i < m → j < m → F i = F j → i = j) : ((List.range m).map F).Nodup := by
  rw [List.nodup_iff_pairwise_ne, List.pairwise_map]
  refine List.Pairwise.imp_of_mem ?_ (List.nodup_range (n := m))
  intro a b ha hb hne e
  exact hne (h a b (List.mem_range.mp ha) (List.mem_range.mp hb) e)
theorem nodup_inj {α : Type} {l : List α} (h : l.Nodup) {i j : Nat} (hi : i < l.length) (hj : j < l.length) (e : l[i] = l[j]) : i = j := by
  have h' := List.pairwise_iff_getElem.mp h
  rcases Nat.lt_trichotomy i j with q | q | q
  · exact absurd e (h' i j hi hj q)
  · exact q
  · exact absurd e.symm (h' j i hj hi q)
/-- names that can be hands, unlike -/
structure Hands (zs : List Str) : Prop where
  nd : zs.Nodup
  ok : ∀ z ∈ zs, IsHand z
theorem ev_ix {d : PyData} {ds : List PyData} (h : sqD d = some ds) {i : Nat} {z : Int} (e : z = (i : Int)) (hi : i < ds.length) : pIx d (.int z) = some (.dat ds[i]) := by
  subst e; exact ix_sq h i hi
theorem hands_23 {first : Nat} {ms : MS} {m : Nat} (h1 : ms[1]? = some (some (.dat (.int (m : Int))))) (h6 : ms[6]? = some (some (.dat (.int (first : Int))))) (h10 : ms[10]? = some (some (.dat (.str S23)))) (hl : isLent ms 4 = false) (h4 : ms[4]? = some none) (hm : m ≤ 8) (hf : first < 26) :
    mLc [4] (fun ms => ((mOne (mVar 1)) ms).bind rng1) (gNm 4) mYes (mOp2 pIx (mMeth ["str"] gSplit (mVar 10) (mOne (mC (.str " ")))) (mOp2 pMod (mOp2 pAdd (mVar 6) (mOp2 pMul (mC (.int 5)) (mVar 4))) (mC (.int 23)))) ms = .ok (.new (.list (((List.range m).map fun k => W23.getD ((first + 5 * k) % 23) "").map .str))) ms := by
  have hw : wipeM ms [4] = ms := by
    show ms.set 4 none = ms
    apply List.ext_getElem?
    intro j
    by_cases hj : 4 = j
    · subst hj
      rw [List.getElem?_set_self (List.getElem?_eq_some_iff.mp h4).1, h4]
    · rw [List.getElem?_set_ne hj]
  have hlen : 4 < ms.length := (List.getElem?_eq_some_iff.mp h4).1
  have hr : ((mOne (mVar 1)) ms).bind rng1 = .ok (.fix (rgInts 0 m)) ms := rng_of (by simp [mVar, h1]) (by omega)
  refine mlc_fix hr ?_
  rw [hw]
  have key := lc_map (vs := [4]) (g := gNm 4) (f := mOp2 pIx (mMeth ["str"] gSplit (mVar 10) (mOne (mC (.str " ")))) (mOp2 pMod (mOp2 pAdd (mVar 6) (mOp2 pMul (mC (.int 5)) (mVar 4))) (mC (.int 23)))) (ms := ms)
    (fun d => match d with
      | .int k => .str (W23.getD ((first + 5 * k.toNat) % 23) "")
      | d => d) hw (rgInts 0 m) [] (by simp only [rgInts, List.length_map, List.length_range, List.length_nil]; exact Nat.lt_of_lt_of_le (by omega : 0 + m < 100) (by decide)) (by
    intro d hd
    simp only [rgInts, List.mem_map, List.mem_range] at hd
    obtain ⟨k, hk, rfl⟩ := hd
    have q1 : (ms.set 4 (some (.dat (.int (0 + (k : Int))))))[4]? = some (some (.dat (.int (0 + (k : Int))))) := List.getElem?_set_self hlen
    have q6 : (ms.set 4 (some (.dat (.int (0 + (k : Int))))))[6]? = some (some (.dat (.int (first : Int)))) := by rw [List.getElem?_set_ne (by decide)]; exact h6
    have q10 : (ms.set 4 (some (.dat (.int (0 + (k : Int))))))[10]? = some (some (.dat (.str S23))) := by rw [List.getElem?_set_ne (by decide)]; exact h10
    have hlt : (first + 5 * k) % 23 < (W23.map PyData.str).length := by rw [List.length_map, w23_len]; exact Nat.mod_lt _ (by decide)
    refine ⟨ms.set 4 (some (.dat (.int (0 + (k : Int))))), by simp [gNm, hl], ?_, ?_⟩
    · have e1 := op2_ev (g := pMul) (r := .dat (.int (5 * (0 + (k : Int))))) (ev_c (d := .int 5)) (ev_dat q1) (mulL (by decide) (by decide))
      have e2 := op2_ev (g := pAdd) (r := .dat (.int (first + 5 * (0 + (k : Int))))) (ev_dat q6) (Ev.of e1) rfl
      have e3 := op2_ev (g := pMod) (r := .dat (.int ((first + 5 * (0 + (k : Int))) % 23))) (Ev.of e2) (ev_c (d := .int 23)) (modP (by decide))
      have e4 := meth1 (ts := ["str"]) (t := "str") (g := gSplit) (fa := mOne (mC (.str " "))) (ev_dat q10) rfl rfl rfl split23
      rw [op2_ev (Ev.new e4) (Ev.of e3) (ev_ix (ds := W23.map .str) rfl (i := (first + 5 * k) % 23) (by omega) hlt)]
      rw [List.length_map] at hlt
      simp only [List.getElem_map]
      rw [show (0 + (k : Int)).toNat = k from by omega, show W23.getD ((first + 5 * k) % 23) "" = W23[(first + 5 * k) % 23] from by simp [List.getD, hlt]]
    · show (ms.set 4 _).set 4 none = ms
      rw [List.set_set]
      exact hw)
  rw [key, List.nil_append]
  have e : ∀ l : List Nat, (l.map fun k => PyData.int (0 + (k : Nat))).map (fun d => match d with
      | .int k => PyData.str (W23.getD ((first + 5 * k.toNat) % 23) "")
      | d => d) = (l.map fun k => W23.getD ((first + 5 * k) % 23) "").map .str := by
    intro l
    induction l with
    | nil => rfl
    | cons x l ih =>
      simp only [List.map_cons, ih]
      rw [show (0 + (x : Int)).toNat = x from by omega]
  exact congrArg (fun z => Out.ok z ms) (e (List.range m))
theorem hands_23_ok {first m : Nat} (hm : m ≤ 8) : Hands ((List.range m).map fun k => W23.getD ((first + 5 * k) % 23) "") := by
  refine ⟨nodup_range _ _ ?_, ?_⟩
  · intro i j hi hj e
    have h1 : (first + 5 * i) % 23 < W23.length := by rw [w23_len]; exact Nat.mod_lt _ (by decide)
    have h2 : (first + 5 * j) % 23 < W23.length := by rw [w23_len]; exact Nat.mod_lt _ (by decide)
    have e2 : W23[(first + 5 * i) % 23] = W23[(first + 5 * j) % 23] := by simpa [List.getD, h1, h2] using e
    have := nodup_inj w23_nd h1 h2 e2
    omega
  · intro z hz
    obtain ⟨k, hk, rfl⟩ := List.mem_map.mp hz
    have h1 : (first + 5 * k) % 23 < W23.length := by rw [w23_len]; exact Nat.mod_lt _ (by decide)
    rw [show W23.getD ((first + 5 * k) % 23) "" = W23[(first + 5 * k) % 23] from by simp [List.getD, h1]]
    exact isHand_of (List.all_eq_true.mp w23_all _ (List.getElem_mem h1))
end Lw

/-! Sp5 -/
set_option Elab.async false
set_option linter.all false
set_option maxRecDepth 100000
set_option maxHeartbeats 1000000
namespace Lw
open PySem PySem.Spec PyProof.Rows L2 Pl
/-- the round that makes a name -/
def nmBody : MX := (mSeq (mSet 11 (mSl (mSl (mVar 3) (mPart (mOp2 pAdd (mVar 5) (mC (.int 1)))) mNoPart) mNoPart (mPart (mOp2 pIx (mLst (mCons (mC (.int 8)) (mOne (mOp2 pMod (mVar 4) (mC (.int 3)))))) (mVar 7)))))
    (mDrop (mMut "list" gAppend 9 (mOne (mOp2 pAdd (mOp2 pAdd (mSl (mVar 3) mNoPart (mPart (mVar 5))) (mOp2 pIx (mVar 2) (mOp2 pMod (mOp2 pAdd (mVar 6) (mOp2 pMul (mVar 8) (mVar 4))) (mC (.int 26))))) (mVar 11))))))
def cutOf (cut k : Nat) : Nat := if cut = 0 then 8 else k % 3
def nmSt (p : PyData) (m : Nat) (b : Str) (x4 : Option SV) (at' first cut by' : Nat) (ds : List PyData) (x11 : Option SV) : MS :=
  [some (.own true p), some (.dat (.int (m : Int))), some (.dat (.str L26)), some (.dat (.str b)), x4, some (.dat (.int (at' : Int))), some (.dat (.int (first : Int))), some (.dat (.int (cut : Int))), some (.dat (.int (by' : Int))), some (.own false (.list ds)), none, x11]
theorem strAdd {a b : Str} (h : a.length + b.length ≤ SZ) : pAdd (.str a) (.str b) = some (.dat (.str (a ++ b))) := by
  simp only [pAdd]; rw [if_pos h]
theorem slS {a : Str} (lo hi : Option Int) (h : a.length ≤ SZ) : pSl (.str a) lo hi = some (.dat (.str (cutS a lo hi))) := by
  simp only [pSl]; rw [if_pos h]
theorem szs {a : Str} (h : a.cps.size ≤ 100) : a.length ≤ SZ := Nat.le_trans h (by decide)
theorem szs2 {a b : Str} (h : a.cps.size + b.cps.size ≤ 100) : a.length + b.length ≤ SZ := Nat.le_trans h (by decide)
theorem size_cps (a : Str) : a.cps.size = a.cps.toList.length := by simp
theorem nm_step {p : PyData} {m : Nat} {b : Str} {at' first cut by' k : Nat} {ds : List PyData} {x11 : Option SV} (hb : b.cps.size ≤ 8) (hc : cut < 2) (hk : k < 100) (hl : ds.length < 100) (h11 : isLent (nmSt p m b (some (.dat (.int (k : Int)))) at' first cut by' ds x11) 11 = false) :
    ∃ y11 : Option SV, nmBody (nmSt p m b (some (.dat (.int (k : Int)))) at' first cut by' ds x11) = .nx (nmSt p m b (some (.dat (.int (k : Int)))) at' first cut by' (ds ++ [.str (nmAt b at' first by' (cutOf cut) k)]) y11) ∧ isLent (nmSt p m b (some (.dat (.int (k : Int)))) at' first cut by' (ds ++ [.str (nmAt b at' first by' (cutOf cut) k)]) y11) 11 = false := by
  obtain ⟨M, hM⟩ : ∃ M, M = nmSt p m b (some (.dat (.int (k : Int)))) at' first cut by' ds x11 := ⟨_, rfl⟩
  have v3 : Ev (mVar 3) M (.str b) := by rw [hM]; exact ev_dat rfl
  have v4 : Ev (mVar 4) M (.int (k : Int)) := by rw [hM]; exact ev_dat rfl
  have v5 : Ev (mVar 5) M (.int (at' : Int)) := by rw [hM]; exact ev_dat rfl
  have v7 : Ev (mVar 7) M (.int (cut : Int)) := by rw [hM]; exact ev_dat rfl
  have a1 := op2_ev (g := pAdd) (r := .dat (.int ((at' + 1 : Nat) : Int))) v5 (ev_c (d := .int 1)) (by rw [Int.natCast_add]; rfl)
  have a2 := sl_ev (pl := mPart (mOp2 pAdd (mVar 5) (mC (.int 1)))) (ph := mNoPart) v3 (sl_part (Ev.of a1)) sl_none (slS _ _ (szs (by omega)))
  have a3 := op2_ev (g := pMod) (r := .dat (.int ((k % 3 : Nat) : Int))) v4 (ev_c (d := .int 3)) (by rw [modP (by decide)]; rfl)
  have a4 : mLst (mCons (mC (.int 8)) (mOne (mOp2 pMod (mVar 4) (mC (.int 3))))) M = .ok (.new (.list [.int 8, .int ((k % 3 : Nat) : Int)])) M :=
    lst_of (cons_d rfl (one_d a3)) rfl (by show 2 ≤ SZ; decide)
  have a5 := op2_ev (g := pIx) (r := .dat (.int (cutOf cut k : Nat))) (Ev.new a4) v7 (by
    have : cut = 0 ∨ cut = 1 := by omega
    rcases this with h | h <;> subst h <;> rfl)
  have s2 : (cutS b (some ((at' + 1 : Nat) : Int)) none).cps.size ≤ 8 := by rw [size_cps, cutS_from]; simp; omega
  have a6 := sl_ev (pl := mNoPart) (ph := mPart (mOp2 pIx (mLst (mCons (mC (.int 8)) (mOne (mOp2 pMod (mVar 4) (mC (.int 3)))))) (mVar 7))) (Ev.of a2) sl_none (sl_part (Ev.of a5)) (slS _ _ (szs (by omega)))
  obtain ⟨tail, ht⟩ : ∃ t, t = cutS (cutS b (some ((at' + 1 : Nat) : Int)) none) none (some (cutOf cut k : Int)) := ⟨_, rfl⟩
  have s3 : tail.cps.size ≤ 8 := by rw [ht, size_cps, cutS_to]; simp only [List.length_take]; rw [← size_cps]; omega
  rw [← ht] at a6
  have n1 := set_d (i := 11) a6 (by rw [hM]; exact h11)
  obtain ⟨N, hN⟩ : ∃ N, N = nmSt p m b (some (.dat (.int (k : Int)))) at' first cut by' ds (some (.dat (.str tail))) := ⟨_, rfl⟩
  have n2 : M.set 11 (some (.dat (.str tail))) = N := by rw [hM, hN]; rfl
  rw [n2] at n1
  have w2 : Ev (mVar 2) N (.str L26) := by rw [hN]; exact ev_dat rfl
  have w3 : Ev (mVar 3) N (.str b) := by rw [hN]; exact ev_dat rfl
  have w4 : Ev (mVar 4) N (.int (k : Int)) := by rw [hN]; exact ev_dat rfl
  have w5 : Ev (mVar 5) N (.int (at' : Int)) := by rw [hN]; exact ev_dat rfl
  have w6 : Ev (mVar 6) N (.int (first : Int)) := by rw [hN]; exact ev_dat rfl
  have w8 : Ev (mVar 8) N (.int (by' : Int)) := by rw [hN]; exact ev_dat rfl
  have w11 : Ev (mVar 11) N (.str tail) := by rw [hN]; exact ev_dat rfl
  have b1 := op2_ev (g := pMul) (r := .dat (.int ((by' : Int) * (k : Int)))) w8 w4 (mulR (by unfold B64; omega) (by unfold B64; omega))
  have b2 := op2_ev (g := pAdd) (r := .dat (.int ((first + by' * k : Nat) : Int))) w6 (Ev.of b1) (by rw [Int.natCast_add, Int.natCast_mul]; rfl)
  have b3 := op2_ev (g := pMod) (r := .dat (.int (((first + by' * k) % 26 : Nat) : Int))) (Ev.of b2) (ev_c (d := .int 26)) (by rw [modP (by decide)]; rfl)
  have hlt : (first + by' * k) % 26 < ((List.range 26).map fun i => PyData.str (ltr i)).length := by rw [List.length_map, List.length_range]; exact Nat.mod_lt _ (by decide)
  have b4 := op2_ev (g := pIx) w2 (Ev.of b3) (ix_sq l26_sq _ hlt)
  simp only [List.getElem_map, List.getElem_range] at b4
  have b5 := sl_ev (pl := mNoPart) (ph := mPart (mVar 5)) w3 sl_none (sl_part w5) (slS _ _ (szs (by omega)))
  have s4 : (cutS b none (some (at' : Int))).cps.size ≤ 8 := by rw [size_cps, cutS_to]; simp only [List.length_take]; rw [← size_cps]; omega
  have b6 := op2_ev (g := pAdd) (Ev.of b5) (Ev.of b4) (strAdd (szs2 (by show _ + 1 ≤ 100; omega)))
  have s5 : (cutS b none (some (at' : Int)) ++ ltr ((first + by' * k) % 26)).cps.size ≤ 9 := by rw [size_cps, app_cps, List.length_append, ← size_cps]; show _ + 1 ≤ 9; omega
  have b7 := op2_ev (g := pAdd) (Ev.of b6) w11 (strAdd (szs2 (by omega)))
  have b8 : gAppend (.list ds) [.str (cutS b none (some (at' : Int)) ++ ltr ((first + by' * k) % 26) ++ tail)] = some (.none, .list (ds ++ [.str (nmAt b at' first by' (cutOf cut) k)])) := by
    rw [gApp_at (Nat.lt_of_lt_of_le hl (by decide)), ht]
    rfl
  have b9 := drop_nx (mut_one (T := "list") (g := gAppend) (i := 9) (l := false) (d := .list ds) (by rw [hN]; rfl) b7 (by rw [hN]; rfl) rfl b8)
  refine ⟨some (.dat (.str tail)), ?_, rfl⟩
  unfold nmBody
  rw [← hM, seq_nx n1, b9, hN]
  rfl
theorem nm_loop {p : PyData} {m : Nat} {b : Str} {at' first cut by' : Nat} (hb : b.cps.size ≤ 8) (hc : cut < 2) (hm : m ≤ 8) :
    ∃ (x4 x11 : Option SV), loopF (gNm 4) nmBody (rgInts 0 m) (nmSt p m b none at' first cut by' [] none) = .nx (nmSt p m b x4 at' first cut by' (((List.range m).map (nmAt b at' first by' (cutOf cut))).map .str) x11) := by
  obtain ⟨ms', h, x4, x11, e, _, _⟩ := for_inv (g := gNm 4) (b := nmBody) (fun k ms => ∃ x4 x11, ms = nmSt p m b x4 at' first cut by' (((List.range k).map (nmAt b at' first by' (cutOf cut))).map .str) x11 ∧ isLent ms 4 = false ∧ isLent ms 11 = false) (rgInts 0 m) 0 (nmSt p m b none at' first cut by' [] none) ⟨none, none, rfl, rfl, rfl⟩ (by
    rintro j hj ms ⟨x4, x11, rfl, q4, q11⟩
    simp only [rgInts, List.length_map, List.length_range] at hj
    obtain ⟨y11, h1, h2⟩ := nm_step (p := p) (m := m) (b := b) (at' := at') (first := first) (cut := cut) (by' := by') (k := j) (ds := ((List.range (0 + j)).map (nmAt b at' first by' (cutOf cut))).map .str) (x11 := x11) hb hc (by omega) (by simp; omega) q11
    refine ⟨nmSt p m b (some (.dat (.int (j : Int)))) at' first cut by' (((List.range (0 + j)).map (nmAt b at' first by' (cutOf cut))).map .str) x11, _, ?_, .inl h1, some (.dat (.int (j : Int))), y11, ?_, rfl, h2⟩
    · have e : (rgInts 0 m)[j]'(by simpa [rgInts] using hj) = .int (j : Int) := by simp [rgInts]
      rw [e]
      unfold gNm
      rw [q4]
      rfl
    · rw [show 0 + j + 1 = (0 + j) + 1 from rfl, List.range_succ, List.map_append, List.map_append, Nat.zero_add]
      rfl)
  refine ⟨x4, x11, ?_⟩
  rw [h, e]
  simp [rgInts]
theorem keep_nil (ms : MS) : mKNil ms = .ok [] ms := rfl
theorem bys_sq : sqD (.list ([1, 3, 5, 7, 9, 11, 15, 17, 19, 21, 23, 25].map fun i : Nat => PyData.int (i : Int))) = some ([1, 3, 5, 7, 9, 11, 15, 17, 19, 21, 23, 25].map fun i : Nat => PyData.int (i : Int)) := rfl
theorem hands_spec {n m : Nat} {p : PyData} (hp : Pn n p) (hn : n < 800000000) (hm : m ≤ 8) :
    ∃ (zs : List Str) (p' : PyData), F__law_hands [.lnt p, .dat (.int m)] = .ret (.new (.list (zs.map .str))) [p'] ∧ zs.length = m ∧ Hands zs ∧ Pn (n + 13) p' := by
  obtain ⟨ls, p1, h1, hl1, hl2, hlt, hp1⟩ := base_lc (m := some (.dat (.int (m : Int)))) hp (by omega)
  obtain ⟨b, hb⟩ : ∃ b, b = Txt.join (Str.ofString "") ls := ⟨_, rfl⟩
  have hbc : b.cps.toList = (ls.map fun z => z.cps.toList).flatten := by rw [hb, join_cps]
  have hone : ∀ x ∈ ls, x.cps.toList.length = 1 := fun x hx => by obtain ⟨i, _, rfl⟩ := hlt x hx; rfl
  have hbl : b.cps.size = ls.length := by
    rw [size_cps, hbc]
    clear hbc hb h1 hl1 hl2 hlt
    induction ls with
    | nil => rfl
    | cons x r ih =>
      rw [List.map_cons, List.flatten_cons, List.length_append, hone x (by simp), ih (fun y hy => hone y (by simp [hy]))]
      simp; omega
  have hbh : IsHand b := ⟨by omega, by omega, fun c hc => by
    rw [hbc] at hc
    obtain ⟨l, hl, hc⟩ := List.mem_flatten.mp hc
    obtain ⟨x, hx, rfl⟩ := List.mem_map.mp hl
    obtain ⟨i, hi, rfl⟩ := hlt x hx
    have : c = 97 + i := by simpa [ltr] using hc
    omega⟩
  have hlen : (ls.map (·.length)).sum = ls.length := by
    clear h1 hl1 hl2 hlt hb hbc hbl hbh
    induction ls with
    | nil => rfl
    | cons x r ih =>
      rw [List.map_cons, List.sum_cons, ih (fun y hy => hone y (by simp [hy]))]
      have : x.length = 1 := by rw [← hone x (by simp)]; show x.cps.size = _; simp
      rw [this]; simp; omega
  have hj : gJoin (.str (Str.ofString "")) [.list (ls.map .str)] = some (.dat (.str b)) := by
    simp only [gJoin, strsOf_map]
    rw [hlen, show (Str.ofString "").length = 0 from by decide +kernel, if_pos (by omega), hb]
  -- the three draws
  obtain ⟨at', p2, d1, hat, hp2⟩ := draw_at (ms := [some (.own true p1), some (.dat (.int (m : Int))), some (.dat (.str L26)), some (.dat (.str b)), none, none, none, none, none, none, none, none]) (i := 0) (m := b.cps.size) (f := mFun pLenS (mOne (mVar 3))) rfl (fun1 (ev_dat rfl) (by
    have hz' : b.cps.size ≤ SZ := Nat.le_trans (by omega : b.cps.size ≤ 8) (by decide)
    simp [pLenS, pLen, Str.length, hz', dI])) hp1 (by omega) (by omega) (by omega)
  obtain ⟨first, p3, d2, hfi, hp3⟩ := draw_at (ms := [some (.own true p2), some (.dat (.int (m : Int))), some (.dat (.str L26)), some (.dat (.str b)), none, none, none, none, none, none, none, none]) (i := 0) (m := 26) (f := mC (.int 26)) rfl rfl hp2 (by omega) (by omega) (by omega)
  obtain ⟨cut, p4, d3, hcu, hp4⟩ := draw_at (ms := [some (.own true p3), some (.dat (.int (m : Int))), some (.dat (.str L26)), some (.dat (.str b)), none, none, none, none, none, none, none, none]) (i := 0) (m := 2) (f := mC (.int 2)) rfl rfl hp3 (by omega) (by omega) (by omega)
  obtain ⟨z, p5, hz, d4, hp5⟩ := pick_at (ms := [some (.own true p4), some (.dat (.int (m : Int))), some (.dat (.str L26)), some (.dat (.str b)), none, some (.dat (.int (at' : Int))), some (.dat (.int (first : Int))), some (.dat (.int (cut : Int))), none, none, none, none]) (i := 0)
    (f := (mLst (mCons (mC (.int 1)) (mCons (mC (.int 3)) (mCons (mC (.int 5)) (mCons (mC (.int 7)) (mCons (mC (.int 9)) (mCons (mC (.int 11)) (mCons (mC (.int 15)) (mCons (mC (.int 17)) (mCons (mC (.int 19)) (mCons (mC (.int 21)) (mCons (mC (.int 23)) (mOne (mC (.int 25)))))))))))))))) (r := .new (.list ([1, 3, 5, 7, 9, 11, 15, 17, 19, 21, 23, 25].map fun i : Nat => PyData.int (i : Int)))) rfl
    (lst_of (cons_d rfl (cons_d rfl (cons_d rfl (cons_d rfl (cons_d rfl (cons_d rfl (cons_d rfl (cons_d rfl (cons_d rfl (cons_d rfl (cons_d rfl (one_d rfl)))))))))))) rfl (by show 12 ≤ SZ; decide)) rfl hp4 (by omega) bys_sq (by decide) (by decide)
  rw [List.getElem_map] at d4
  have hby : [1, 3, 5, 7, 9, 11, 15, 17, 19, 21, 23, 25][z]'(by simpa using hz) ∈ [1, 3, 5, 7, 9, 11, 15, 17, 19, 21, 23, 25] := List.getElem_mem _
  generalize [1, 3, 5, 7, 9, 11, 15, 17, 19, 21, 23, 25][z]'(by simpa using hz) = by' at d4 hby
  have run : ∃ (zs : List Str) (r : Rv) (ms' : MS), b__law_hands [some (.own true p), some (.dat (.int (m : Int))), none, none, none, none, none, none, none, none, none, none] = .rt r ms' ∧ outRv ms' r = some (.new (.list (zs.map .str))) ∧ mutsOf ms' 0 [.lnt p, .dat (.int (m : Int))] = some [p5] ∧ zs.length = m ∧ Hands zs := by
    unfold b__law_hands
    rw [seq_nx (show mSet 2 (mC (.str "abcdefghijklmnopqrstuvwxyz")) _ = SO.nx [some (.own true p), some (.dat (.int (m : Int))), some (.dat (.str L26)), none, none, none, none, none, none, none, none, none] from rfl)]
    unfold baseLc at h1
    rw [seq_nx (set_d (i := 3) (meth1_d (ts := ["str"]) (t := "str") (fo := mC (.str "")) rfl rfl (one_n h1) rfl hj) rfl)]
    rw [show List.set [some (SV.own true p1), some (.dat (.int (m : Int))), some (.dat (.str L26)), none, none, none, none, none, none, none, none, none] 3 (some (.dat (.str b))) = [some (.own true p1), some (.dat (.int (m : Int))), some (.dat (.str L26)), some (.dat (.str b)), none, none, none, none, none, none, none, none] from rfl]
    rw [seq_nx (par_of (is := [5, 6, 7]) (keep_d d1 (keep_d d2 (keep_d d3 (keep_nil _)))) (ms2 := [some (.own true p4), some (.dat (.int (m : Int))), some (.dat (.str L26)), some (.dat (.str b)), none, some (.dat (.int (at' : Int))), some (.dat (.int (first : Int))), some (.dat (.int (cut : Int))), none, none, none, none]) rfl)]
    rw [seq_nx (par_of (is := [8, 9]) (keep_d d4 (keep_n (ev_nil _) (keep_nil _))) (ms2 := nmSt p5 m b none at' first cut by' [] none) rfl)]
    have hq : mB (mOp2 pEq (mVar 8) (mC (.int 25))) (nmSt p5 m b none at' first cut by' [] none) = .ok (decide (by' = 25)) (nmSt p5 m b none at' first cut by' [] none) := by
      refine b_of (op2_ev (ev_dat rfl) (ev_c (d := .int 25)) ?_)
      rw [eq_of (sh_int 0 _) (sh_int 0 _) (by decide) (by decide), PyData.eqv]
      have : (((by' : Int) == 25) : Bool) = decide (by' = 25) := by
        rw [Bool.eq_iff_iff]; simp; omega
      rw [this]; rfl
    by_cases h25 : by' = 25
    · rw [decide_eq_true h25] at hq
      refine ⟨(List.range m).map fun k => W23.getD ((first + 5 * k) % 23) "", .new (.list (((List.range m).map fun k => W23.getD ((first + 5 * k) % 23) "").map .str)), (nmSt p5 m b none at' first cut by' [] none).set 10 (some (.dat (.str S23))), ?_, rfl, rfl, by simp, hands_23_ok hm⟩
      refine seq_rt ?_
      refine (if_t hq).trans ?_
      rw [seq_nx (show mSet 10 (mC (.str "let hands a ab abc abcd ann anna b ba lets hand z zz zzz le row rows an bar bars c ca")) _ = SO.nx ((nmSt p5 m b none at' first cut by' [] none).set 10 (some (.dat (.str S23)))) from rfl)]
      exact ret_of (hands_23 rfl rfl rfl rfl rfl hm hfi)
    · rw [decide_eq_false h25] at hq
      have hby2 : by' ∈ [1, 3, 5, 7, 9, 11, 15, 17, 19, 21, 23] := by
        simp only [List.mem_cons, List.not_mem_nil, or_false] at hby ⊢
        omega
      obtain ⟨x4, x11, hlp⟩ := nm_loop (p := p5) (m := m) (b := b) (at' := at') (first := first) (cut := cut) (by' := by') hbh.2.1 hcu hm
      refine ⟨(List.range m).map (nmAt b at' first by' (cutOf cut)), .slot 9, nmSt p5 m b x4 at' first cut by' (((List.range m).map (nmAt b at' first by' (cutOf cut))).map .str) x11, ?_, ?_, ?_, by simp, nodup_range _ _ (fun i j hi hj e => nmAt_inj hat hby2 (by omega) (by omega) e), fun z hz => ?_⟩
      · refine (seq_nx (ms1 := nmSt p5 m b none at' first cut by' [] none) (by rw [if_f hq]; rfl)).trans ?_
        have hr : ((mOne (mVar 1)) (nmSt p5 m b none at' first cut by' [] none)).bind rng1 = .ok (.fix (rgInts 0 m)) (nmSt p5 m b none at' first cut by' [] none) := rng_of rfl (by omega)
        have hlp' := (for_fix (fi := fun ms => ((mOne (mVar 1)) ms).bind rng1) (g := gNm 4) (b := nmBody) hr).trans hlp
        unfold nmBody at hlp'
        exact (seq_nx hlp').trans (ret_of rfl)
      · rfl
      · rfl
      · obtain ⟨k, hk, rfl⟩ := List.mem_map.mp hz
        exact nmAt_hand hbh hat
  obtain ⟨zs, r, ms', e1, e2, e3, e4, e5⟩ := run
  refine ⟨zs, p5, ?_, e4, e5, hp5.mono (by omega)⟩
  unfold F__law_hands runF
  rw [show initMS 12 [.lnt p, .dat (.int (m : Int))] = [some (.own true p), some (.dat (.int (m : Int))), none, none, none, none, none, none, none, none, none, none] from rfl, e1]
  simp only [e2, e3]
end Lw

/-! Sp6 -/
set_option Elab.async false
set_option linter.all false
set_option maxRecDepth 100000
set_option maxHeartbeats 1000000
namespace Lw
open PySem PySem.Spec PyProof.Rows L2 Pl
/-! ### sorted texts -/
def leS (a b : Str) : Bool := decide (a.cps.toList ≤ b.cps.toList)
def srtS (zs : List Str) : List Str := zs.mergeSort leS
theorem srtS_perm (zs : List Str) : (srtS zs).Perm zs := List.mergeSort_perm _ _
theorem sortOk_strs (zs : List Str) : sortOk (zs.map .str) = true := by
  unfold sortOk
  simp only [Bool.and_eq_true, List.all_eq_true]
  refine ⟨⟨?_, ?_⟩, ?_⟩
  · intro x hx y hy
    obtain ⟨a, _, rfl⟩ := List.mem_map.mp hx
    obtain ⟨b, _, rfl⟩ := List.mem_map.mp hy
    rfl
  · intro x hx
    obtain ⟨a, _, rfl⟩ := List.mem_map.mp hx
    simp [PyData.depth]
  · intro x hx
    obtain ⟨a, _, rfl⟩ := List.mem_map.mp hx
    rfl
theorem sortD_strs (zs : List Str) : sortD (zs.map .str) = (srtS zs).map .str := by
  unfold sortD srtS
  rw [List.map_mergeSort]
  intro a _ b _
  exact (congrFun (congrFun (PySem.W.dataLe_str (fun z : Str => z)) a) b).symm
theorem sorted_strs (zs : List Str) : pSorted [.list (zs.map .str)] = some (.new (.list ((srtS zs).map .str))) := by
  simp only [pSorted]
  rw [if_pos (sortOk_strs zs), sortD_strs]
theorem sorted_strsT (zs : List Str) : pSorted [.tuple (zs.map .str)] = some (.new (.list ((srtS zs).map .str))) := by
  simp only [pSorted]
  rw [if_pos (sortOk_strs zs), sortD_strs]
theorem leS_trans (a b c : Str) (h1 : leS a b = true) (h2 : leS b c = true) : leS a c = true := by
  simp only [leS, decide_eq_true_eq] at *
  exact List.le_trans h1 h2
theorem leS_total (a b : Str) : (leS a b || leS b a) = true := by
  simp only [leS, Bool.or_eq_true, decide_eq_true_eq]
  exact List.le_total _ _
theorem leS_anti {a b : Str} (h1 : leS a b = true) (h2 : leS b a = true) : a = b := by
  simp only [leS, decide_eq_true_eq] at *
  exact PySem.W.str_of_cps (List.le_antisymm h1 h2)
theorem srtS_sorted (zs : List Str) : (srtS zs).Pairwise fun a b => leS a b = true := List.pairwise_mergeSort leS_trans leS_total zs
/-- of one list's orders there is one that rises -/
theorem sorted_unique : ∀ {xs ys : List Str}, xs.Pairwise (fun a b => leS a b = true) → ys.Pairwise (fun a b => leS a b = true) → xs.Perm ys → xs = ys := by
  intro xs ys h1 h2 hp
  exact hp.eq_of_pairwise (fun a b _ _ q1 q2 => leS_anti q1 q2) h1 h2
theorem srtS_perm_eq {xs ys : List Str} (h : xs.Perm ys) : srtS xs = srtS ys :=
  sorted_unique (srtS_sorted xs) (srtS_sorted ys) ((srtS_perm xs).trans (h.trans (srtS_perm ys).symm))
theorem Hands.perm {xs ys : List Str} (h : Hands xs) (p : ys.Perm xs) : Hands ys := ⟨p.nodup_iff.mpr h.nd, fun z hz => h.ok z (p.mem_iff.mp hz)⟩
theorem perm_map_inv {α β : Type} (f : α → β) {zs ws : List β} (h : zs.Perm ws) : ∀ l : List α, ws = l.map f → ∃ ys : List α, ys.Perm l ∧ zs = ys.map f := by
  induction h with
  | nil => intro l e; exact ⟨[], by rw [List.map_eq_nil_iff.mp e.symm], rfl⟩
  | cons x _ ih =>
    intro l e
    cases l with
    | nil => cases e
    | cons a l =>
      simp only [List.map_cons, List.cons.injEq] at e
      obtain ⟨ys, p, q⟩ := ih l e.2
      exact ⟨a :: ys, p.cons a, by rw [q, e.1]; rfl⟩
  | swap x y l0 =>
    intro l e
    cases l with
    | nil => cases e
    | cons a l =>
      cases l with
      | nil => cases e
      | cons b l =>
        simp only [List.map_cons, List.cons.injEq] at e
        exact ⟨b :: a :: l, List.Perm.swap _ _ _, by rw [e.1, e.2.1, e.2.2]; rfl⟩
  | trans _ _ ih1 ih2 =>
    intro l e
    obtain ⟨ys, p, q⟩ := ih2 l e
    obtain ⟨xs, p2, q2⟩ := ih1 ys q
    exact ⟨xs, p2.trans p, q2⟩
theorem shuffled_at {ms : MS} {i n : Nat} {l : Bool} {p d : PyData} {r : Rv} {f : ME} {ds : List PyData} (hi : ms[i]? = some (some (.own l p))) (hf : f ms = .ok r ms) (hr : Pl.settle r = .dat d) (hp : Pn n p) (hx : d = .list ds ∨ d = .tuple ds) (hl : ds.length ≤ 1000000) (hn : n + ds.length < 1000000000) (hs : ∀ x ∈ ds, Sh 40 x) :
    ∃ (p' : PyData) (zs : List PyData), mCall F__law_shuffled (mCons (mVar i) (mOne f)) ms = .ok (.new (.list zs)) (ms.set i (some (.own l p'))) ∧ zs.Perm ds ∧ Pn (n + ds.length) p' := by
  obtain ⟨p', zs, h, hz, hp'⟩ := shuffled_spec (x := .dat d) hp hx hl hn hs
  refine ⟨p', zs, ?_, hz, hp'⟩
  have e : mOne f ms = .ok [.dat d] ms := by simp [mOne, hf, hr]
  simp [mCall, mCons, e, mVar, hi, callOut, Pl.settle, lentOf, nodupB, toArgs, toArg, h, putBack, aB]
end Lw

/-! Sp7 -/
set_option Elab.async false
set_option linter.all false
set_option maxRecDepth 100000
set_option maxHeartbeats 1000000
namespace Lw
open PySem PySem.Spec PyProof.Rows L2 Pl
theorem rep_ints {K : KW} {H : Hp} : ∀ ns : List Int, RepAll K H (ns.map V.int) (ns.map .int)
  | [] => .nil
  | n :: ns => .cons (.int n) (rep_ints ns)
/-- the law's promise from its mirror's answer -/
theorem sp_of {K : KW} {H : Hp} {a : Addr} {ns : List Int} {F : Pl.Fn} (hS : SqL K.K H a (ns.map V.int)) (hF : F [.dat (roD (ns.map .int))] = .ret (.dat (.bool true)) []) (mg : Str → Option Value) :
    spF K mg 1 F [.ref a] H (fun v _ => v = .bl true) fun _ _ _ => False := by
  refine ⟨rfl, [.dat (roD (ns.map .int))], [], H, fun _ => none, .dat (.ro hS (rep_ints ns)) .nil, List.nodup_nil, .refl _, (fun a o (h : (none : Option HO) = some o) => by cases h), ?_⟩
  rw [hF]
  intro v H' Hf' _ _ r
  have r' : Rep K Hf' v (.bool true) := r
  cases r'
  rfl
end Lw

/-! SpRow -/
set_option Elab.async false
set_option linter.all false
set_option maxRecDepth 100000
set_option maxHeartbeats 1000000
namespace Lw
open PySem PySem.Spec PyProof.Rows L2 Pl
/-! for laws with _law_row -/
end Lw

/-! Sq0 -/
set_option Elab.async false
set_option linter.all false
set_option maxRecDepth 100000
set_option maxHeartbeats 1000000
/-! Running mirrors by parts, more of it: comprehensions with a condition, calls that change nothing. -/
namespace Lw
open PySem PySem.Spec PyProof.Rows L2 Pl
section
variable {fa fb f : ME} {ms ms1 ms2 : MS} {a b d : PyData} {r ra : Rv} {i : Nat}
/-- what a source tells -/
inductive SrcIs (ms : MS) : Src → List PyData → Prop
  | fix (ds : List PyData) : SrcIs ms (.fix ds) ds
  | live {j : Nat} {l : Bool} {ds : List PyData} : ms[j]? = some (some (.own l (.list ds))) → SrcIs ms (.live j) ds
def svA : Pl.Arg → SV
  | .dat d => .dat d
  | .lnt d => .own true d
def argOf : SV → Pl.Arg
  | .dat d => .dat d
  | .own _ d => .lnt d
def rvOf (i : Nat) : SV → Rv
  | .dat d => .dat d
  | .own _ _ => .slot i
theorem argOf_svA (x : Pl.Arg) : argOf (svA x) = x := by cases x <;> rfl
theorem svD_svA (x : Pl.Arg) : svD (svA x) = aD x := by cases x <;> rfl
theorem var_ok {x : SV} (h : ms[i]? = some (some x)) : mVar i ms = .ok (rvOf i x) ms := by
  cases x <;> simp [mVar, h, rvOf]
theorem toArg_rv {x : SV} (h : ms[i]? = some (some x)) : toArg ms (rvOf i x) = some (argOf x) := by
  cases x <;> simp [toArg, h, rvOf, argOf]
/-- a sequence in a slot that is walked by a comprehension -/
theorem src_var {x : SV} {ds : List PyData} (h : ms[i]? = some (some x)) (hx : svD x = .list ds ∨ ((∃ d, x = .dat d) ∧ svD x = .tuple ds)) : ∃ src, ((mVar i) ms).bind srcOf = .ok src ms ∧ SrcIs ms src ds := by
  cases x with
  | dat d =>
    rcases hx with e | ⟨_, e⟩ <;> simp only [svD] at e <;> subst e <;> exact ⟨.fix ds, by simp [mVar, h, srcOf], .fix ds⟩
  | own l d =>
    rcases hx with e | ⟨⟨d', e⟩, _⟩
    · simp only [svD] at e
      subst e
      exact ⟨.live i, by simp [mVar, h, srcOf, view], .live h⟩
    · cases e
theorem src_new {ds : List PyData} (h : f ms = .ok (.new (.list ds)) ms1) : (f ms).bind srcOf = .ok (.fix ds) ms1 := by simp [h, srcOf]
theorem src_dat {ds : List PyData} (h : f ms = .ok (.dat (.list ds)) ms1) : (f ms).bind srcOf = .ok (.fix ds) ms1 := by simp [h, srcOf]
theorem fz_new {ds : List PyData} (h : f ms = .ok (.new (.list ds)) ms1) : (f ms).bind srcFz = .ok (.fix ds) ms1 := by simp [h, srcFz, frz]
/-- one turn of a comprehension -/
structure Turn1 (vs : List Nat) (g : PyData → MS → SO) (t : MT) (f : ME) (ms : MS) (d : PyData) (p : Bool) (x : PyData) : Prop where
  ex : ∃ ms1, g d ms = .nx ms1 ∧ t ms1 = .ok p ms1 ∧ wipeM ms1 vs = ms ∧ (p = true → ∃ r, f ms1 = .ok r ms1 ∧ frz ms1 r = some (x, ms1))
theorem turn1_run {vs : List Nat} {g : PyData → MS → SO} {t : MT} {p : Bool} {x : PyData} {acc : List PyData} (h : Turn1 vs g t f ms d p x) (hz : acc.length < SZ) : lcTurn vs g t f d acc ms = .ok (if p = true then acc ++ [x] else acc) ms := by
  obtain ⟨ms1, e1, e2, e3, e4⟩ := h.ex
  unfold lcTurn
  rw [e1, ofSO_nx, e2, noExc_ok, Out.bind_ok]
  cases p with
  | false => simp [e3]
  | true =>
    obtain ⟨r, e5, e6⟩ := e4 rfl
    simp [e5, grown, e6, hz, e3]
theorem lcF_fm {vs : List Nat} {g : PyData → MS → SO} {t : MT} (p : PyData → Bool) (F : PyData → PyData) : ∀ (ds acc : List PyData), acc.length + ds.length < SZ → (∀ d ∈ ds, Turn1 vs g t f ms d (p d) (F d)) → lcF vs g t f ds acc ms = .ok (acc ++ (ds.filter p).map F) ms := by
  intro ds
  induction ds with
  | nil => intro acc _ _; simp [lcF]
  | cons d ds ih =>
    intro acc hz hs
    simp only [List.length_cons] at hz
    show (lcTurn vs g t f d acc ms).bind _ = _
    rw [turn1_run (hs d (by simp)) (by omega), Out.bind_ok]
    by_cases hp : p d = true
    · rw [if_pos hp, ih (acc ++ [F d]) (by simp; omega) (fun x hx => hs x (by simp [hx]))]
      simp [hp]
    · rw [if_neg hp, ih acc (by omega) (fun x hx => hs x (by simp [hx]))]
      simp [hp]
theorem lcL_fm {vs : List Nat} {g : PyData → MS → SO} {t : MT} (p : PyData → Bool) (F : PyData → PyData) {j : Nat} {l : Bool} {ds : List PyData} (hj : ms[j]? = some (some (.own l (.list ds)))) (hs : ∀ d ∈ ds, Turn1 vs g t f ms d (p d) (F d)) :
    ∀ (m k n : Nat) (acc : List PyData), k + m = ds.length → m < n → acc.length + m < SZ → lcL vs g t f j n k acc ms = .ok (acc ++ ((ds.drop k).filter p).map F) ms := by
  intro m
  induction m with
  | zero =>
    intro k n acc hk hn hz
    obtain ⟨n, rfl⟩ : ∃ n', n = n' + 1 := ⟨n - 1, by omega⟩
    have : ds[k]? = none := List.getElem?_eq_none (by omega)
    simp [lcL, view, hj, this, List.drop_of_length_le (show ds.length ≤ k by omega)]
  | succ m ih =>
    intro k n acc hk hn hz
    obtain ⟨n, rfl⟩ : ∃ n', n = n' + 1 := ⟨n - 1, by omega⟩
    have hlt : k < ds.length := by omega
    have e : ds[k]? = some ds[k] := List.getElem?_eq_getElem hlt
    have step : lcL vs g t f j (n + 1) k acc ms = (lcTurn vs g t f ds[k] acc ms).bind (lcL vs g t f j n (k + 1)) := by
      simp [lcL, view, hj, e]
    rw [step, turn1_run (hs _ (List.getElem_mem _)) (by omega), Out.bind_ok, List.drop_eq_getElem_cons hlt]
    by_cases hp : p ds[k] = true
    · rw [if_pos hp, ih (k + 1) n _ (by omega) (by omega) (by simp; omega), List.filter_cons_of_pos hp, List.map_cons, List.append_assoc]
      rfl
    · rw [if_neg hp, ih (k + 1) n _ (by omega) (by omega) (by omega), List.filter_cons_of_neg hp]
/-- a comprehension with a condition over a sequence told -/
theorem lc_fm {vs : List Nat} {fi : MS → Out Src} {g : PyData → MS → SO} {t : MT} {src : Src} {ds : List PyData} (p : PyData → Bool) (F : PyData → PyData) (h1 : fi ms = .ok src ms) (hsrc : SrcIs ms src ds) (hw : wipeM ms vs = ms) (hz : ds.length < 1000000) (hs : ∀ d ∈ ds, Turn1 vs g t f ms d (p d) (F d)) :
    mLc vs fi g t f ms = .ok (.new (.list ((ds.filter p).map F))) ms := by
  have hz' : ds.length < SZ := Nat.lt_trans hz (by decide)
  refine mlc_eq h1 ?_
  cases hsrc with
  | fix =>
    show lcF vs g t f ds [] (wipeM ms vs) = _
    rw [hw, lcF_fm p F ds [] (by simpa using hz') hs, List.nil_append]
  | live hj =>
    show lcL vs g t f _ lcN 0 [] (wipeM ms vs) = _
    rw [hw, lcL_fm p F hj hs ds.length 0 lcN [] (by omega) (by unfold lcN; omega) (by simpa using hz')]
    simp
/-- without a condition -/
theorem lc_mp {vs : List Nat} {fi : MS → Out Src} {g : PyData → MS → SO} {src : Src} {ds : List PyData} (F : PyData → PyData) (h1 : fi ms = .ok src ms) (hsrc : SrcIs ms src ds) (hw : wipeM ms vs = ms) (hz : ds.length < 1000000) (hs : ∀ d ∈ ds, Turn1 vs g mYes f ms d true (F d)) :
    mLc vs fi g mYes f ms = .ok (.new (.list (ds.map F))) ms := by
  have := lc_fm (fun _ => true) F h1 hsrc hw hz hs
  rw [List.filter_eq_self.mpr (fun _ _ => rfl)] at this
  exact this
/-! ### calls that leave what is lent as it was -/
def backs (args : List Pl.Arg) : List PyData := args.flatMap aB
theorem putBack_same : ∀ {rs : List Rv} {args : List Pl.Arg}, toArgs ms rs = some args → putBack ms (lentOf ms rs) (backs args) = ms
  | [], args, h => by cases h; rfl
  | r :: rs, args, h => by
    simp only [toArgs] at h
    cases e1 : toArg ms r with
    | none => rw [e1] at h; cases h
    | some x =>
      cases e2 : toArgs ms rs with
      | none => rw [e1, e2] at h; cases h
      | some as =>
        rw [e1, e2] at h
        cases h
        have ih := putBack_same e2
        cases r with
        | dat d => cases e1; exact ih
        | new d => cases e1
        | slot i =>
          cases hm : ms[i]? with
          | none => simp [toArg, hm] at e1
          | some y =>
            cases y with
            | none => simp [toArg, hm] at e1
            | some y =>
              cases y with
              | dat d =>
                simp [toArg, hm] at e1
                subst e1
                simp [lentOf, hm, backs, aB]
                exact ih
              | own l d =>
                simp [toArg, hm] at e1
                subst e1
                simp [lentOf, hm, backs, aB, putBack]
                rw [show ms.set i (some (.own l d)) = ms from by
                  apply List.ext_getElem?
                  intro j
                  by_cases hj : i = j
                  · subst hj
                    rw [List.getElem?_set_self (List.getElem?_eq_some_iff.mp hm).1, hm]
                  · rw [List.getElem?_set_ne hj]]
                exact ih
theorem call_ok {F : Pl.Fn} {fa : MA} {rs : List Rv} {args : List Pl.Arg} (h1 : fa ms = .ok rs ms) (h2 : toArgs ms rs = some args) (h3 : nodupB (lentOf ms rs) = true) (hF : F args = .ret r (backs args)) : mCall F fa ms = .ok r ms := by
  simp [mCall, h1, callOut, h3, h2, hF, putBack_same h2]
/-- one argument: a new thing, or data -/
theorem call1_n {F : Pl.Fn} (h1 : f ms = .ok (.new d) ms) (hF : F [.dat d] = .ret r []) : mCall F (mOne f) ms = .ok r ms :=
  call_ok (one_n h1) rfl rfl hF
theorem call1_d {F : Pl.Fn} (h1 : f ms = .ok (.dat d) ms) (hF : F [.dat d] = .ret r []) : mCall F (mOne f) ms = .ok r ms :=
  call_ok (one_d h1) rfl rfl hF
/-- arguments that stand in slots -/
theorem one_v {x : SV} (h : ms[i]? = some (some x)) : mOne (mVar i) ms = .ok [rvOf i x] ms := by
  cases x <;> simp [mOne, mVar, h, rvOf, Pl.settle]
theorem cons_v {x : SV} {g : MA} {rs : List Rv} (h : ms[i]? = some (some x)) (h2 : g ms = .ok rs ms) : mCons (mVar i) g ms = .ok (rvOf i x :: rs) ms := by
  cases x <;> simp [mCons, mVar, h, rvOf, Pl.settle, h2]
theorem call1_v {F : Pl.Fn} {x : SV} (h : ms[i]? = some (some x)) (hF : F [argOf x] = .ret r (backs [argOf x])) : mCall F (mOne (mVar i)) ms = .ok r ms := by
  refine call_ok (one_v h) (by simp [toArgs, toArg_rv h]) ?_ hF
  cases x <;> simp [lentOf, rvOf, h, nodupB]
theorem call2_v {F : Pl.Fn} {x y : SV} {j : Nat} (h : ms[i]? = some (some x)) (h2 : ms[j]? = some (some y)) (hij : i ≠ j) (hF : F [argOf x, argOf y] = .ret r (backs [argOf x, argOf y])) : mCall F (mCons (mVar i) (mOne (mVar j))) ms = .ok r ms := by
  refine call_ok (cons_v h (one_v h2)) (by simp [toArgs, toArg_rv h, toArg_rv h2]) ?_ hF
  cases x <;> cases y <;> simp [lentOf, rvOf, h, h2, nodupB, hij]
/-! ### what a def tells that changes nothing -/
theorem run1 {n : Nat} {b : MX} {x : Pl.Arg} {ms' : MS} {r' : Rv} (h : b (some (svA x) :: List.replicate (n - 1) none) = .rt r ms') (h0 : ms'[0]? = some (some (svA x))) (ho : outRv ms' r = some r') : runF n b [x] = .ret r' (backs [x]) := by
  unfold runF
  have e : initMS n [x] = some (svA x) :: List.replicate (n - 1) none := by cases x <;> rfl
  rw [e, h]
  cases x <;> simp only [svA] at h0 <;> simp [mutsOf, ho, backs, aB, h0, svA]
theorem run2 {n : Nat} {b : MX} {x y : Pl.Arg} {ms' : MS} {r' : Rv} (h : b (some (svA x) :: some (svA y) :: List.replicate (n - 2) none) = .rt r ms') (h0 : ms'[0]? = some (some (svA x))) (h1 : ms'[1]? = some (some (svA y))) (ho : outRv ms' r = some r') : runF n b [x, y] = .ret r' (backs [x, y]) := by
  unfold runF
  have e : initMS n [x, y] = some (svA x) :: some (svA y) :: List.replicate (n - 2) none := by cases x <;> cases y <;> rfl
  rw [e, h]
  cases x <;> cases y <;> simp only [svA] at h0 h1 <;> simp [mutsOf, ho, backs, aB, h0, h1, svA]
theorem run3 {n : Nat} {b : MX} {x y z : Pl.Arg} {ms' : MS} {r' : Rv} (h : b (some (svA x) :: some (svA y) :: some (svA z) :: List.replicate (n - 3) none) = .rt r ms') (h0 : ms'[0]? = some (some (svA x))) (h1 : ms'[1]? = some (some (svA y))) (h2 : ms'[2]? = some (some (svA z))) (ho : outRv ms' r = some r') : runF n b [x, y, z] = .ret r' (backs [x, y, z]) := by
  unfold runF
  have e : initMS n [x, y, z] = some (svA x) :: some (svA y) :: some (svA z) :: List.replicate (n - 3) none := by cases x <;> cases y <;> cases z <;> rfl
  rw [e, h]
  cases x <;> cases y <;> cases z <;> simp only [svA] at h0 h1 h2 <;> simp [mutsOf, ho, backs, aB, h0, h1, h2, svA]
end
end Lw

/-! Sq1 -/
set_option Elab.async false
set_option linter.all false
set_option maxRecDepth 100000
set_option maxHeartbeats 1000000
/-! Data of texts and tuples: equality, keys, order. -/
namespace Lw
open PySem PySem.Spec PyProof.Rows L2 Pl
open PySem.W (dataLt dataLt_pair dataLt_str dataLt_tuple alike alikeAll keyToks keyToksAll)
mutual
def stB : PyData → Bool
  | .str _ => true
  | .tuple ds => stBs ds
  | _ => false
def stBs : List PyData → Bool
  | [] => true
  | d :: ds => stB d && stBs ds
end
mutual
theorem eqv_st1 : ∀ c d : PyData, stB c = true → PyData.eqv c d = true → c = d
  | .str x, d, _, h => by
    cases d <;> simp [PyData.eqv] at h
    rw [h]
  | .tuple xs, d, hs, h => by
    cases d <;> simp [PyData.eqv] at h
    rename_i ys
    rw [eqv_sts xs ys (by simpa [stB] using hs) h]
  | .none, _, hs, _ => by simp [stB] at hs
  | .bool _, _, hs, _ => by simp [stB] at hs
  | .int _, _, hs, _ => by simp [stB] at hs
  | .list _, _, hs, _ => by simp [stB] at hs
  | .dict _, _, hs, _ => by simp [stB] at hs
theorem eqv_sts : ∀ xs ys : List PyData, stBs xs = true → PyData.eqvAll xs ys = true → xs = ys
  | [], ys, _, h => by cases ys <;> simp [PyData.eqvAll] at h; rfl
  | x :: xs, ys, hs, h => by
    simp only [stBs, Bool.and_eq_true] at hs
    cases ys with
    | nil => simp [PyData.eqvAll] at h
    | cons y ys =>
      simp only [PyData.eqvAll, Bool.and_eq_true] at h
      rw [eqv_st1 x y hs.1 h.1, eqv_sts xs ys hs.2 h.2]
end
mutual
theorem plain_st : ∀ c : PyData, stB c = true → c.plain = true
  | .str x, _ => rfl
  | .tuple xs, hs => by simpa [PyData.plain] using plain_sts xs (by simpa [stB] using hs)
  | .none, hs => by simp [stB] at hs
  | .bool _, hs => by simp [stB] at hs
  | .int _, hs => by simp [stB] at hs
  | .list _, hs => by simp [stB] at hs
  | .dict _, hs => by simp [stB] at hs
theorem plain_sts : ∀ xs : List PyData, stBs xs = true → PyData.plainAll xs = true
  | [], _ => rfl
  | x :: xs, hs => by
    simp only [stBs, Bool.and_eq_true] at hs
    simp [PyData.plainAll, plain_st x hs.1, plain_sts xs hs.2]
end
theorem eqv_iff {c d : PyData} (h : stB c = true) : PyData.eqv c d = true ↔ c = d :=
  ⟨eqv_st1 c d h, fun e => by subst e; exact PySem.SeqAt.eqv_refl_plain c (plain_st c h)⟩
theorem eqv_no {c d : PyData} (h : stB c = true) : PyData.eqv c d = false ↔ c ≠ d := by
  rw [← Bool.not_eq_true, eqv_iff h]
/-! ### sets, lets, rings -/
def tS (A : List Str) : PyData := .tuple (A.map .str)
abbrev Let := Str × Str × List Str
def letD (l : Let) : PyData := .tuple [.str l.1, .str l.2.1, tS l.2.2]
abbrev Rg := List Str × List Str
def ringD (r : Rg) : PyData := .tuple [tS r.1, tS r.2]
theorem stBs_map (A : List Str) : stBs (A.map .str) = true := by
  induction A with
  | nil => rfl
  | cons a A ih => simp [stBs, stB, ih]
theorem st_tS (A : List Str) : stB (tS A) = true := by simp [tS, stB, stBs_map]
theorem st_letD (l : Let) : stB (letD l) = true := by simp [letD, stB, stBs, st_tS]
theorem st_ringD (r : Rg) : stB (ringD r) = true := by simp [ringD, stB, stBs, st_tS]
theorem map_str_inj {A B : List Str} (h : A.map PyData.str = B.map PyData.str) : A = B := by
  induction A generalizing B with
  | nil => cases B with
    | nil => rfl
    | cons b B => cases h
  | cons a A ih => cases B with
    | nil => cases h
    | cons b B =>
      simp only [List.map_cons, List.cons.injEq, PyData.str.injEq] at h
      rw [h.1, ih h.2]
theorem tS_inj {A B : List Str} (h : tS A = tS B) : A = B := map_str_inj (by injection h)
theorem letD_inj {l m : Let} (h : letD l = letD m) : l = m := by
  obtain ⟨p, q, A⟩ := l
  obtain ⟨p', q', A'⟩ := m
  simp only [letD, PyData.tuple.injEq, List.cons.injEq, PyData.str.injEq, and_true] at h
  obtain ⟨rfl, rfl, h⟩ := h
  rw [tS_inj h]
theorem sh_tS (A : List Str) : Sh 1 (tS A) := sh_tuple (n := 0) (fun x hx => by obtain ⟨a, _, rfl⟩ := List.mem_map.mp hx; exact sh_str _ _)
theorem sh_letD (l : Let) : Sh 2 (letD l) := sh_tuple (n := 1) (fun x hx => by
  simp only [List.mem_cons, List.not_mem_nil, or_false] at hx
  rcases hx with rfl | rfl | rfl
  · exact sh_str _ _
  · exact sh_str _ _
  · exact sh_tS _)
theorem sh_ringD (r : Rg) : Sh 2 (ringD r) := sh_tuple (n := 1) (fun x hx => by
  simp only [List.mem_cons, List.not_mem_nil, or_false] at hx
  rcases hx with rfl | rfl <;> exact sh_tS _)
theorem keysOf_map (A : List Str) : keysOf (A.map .str) = some (A.map .text) := by
  induction A with
  | nil => rfl
  | cons a A ih => simp [keysOf, Pl.keyOf, ih]
theorem depthAll_text (A : List Str) : NestedKey.depthAll (A.map .text) = 0 := by
  induction A with
  | nil => rfl
  | cons a A ih => simp [NestedKey.depthAll, NestedKey.depth, ih]
theorem kind1_letD (l : Let) : kind1 (letD l) = true := by
  simp [letD, kind1, Pl.keyOf, keysOf, tS, keysOf_map, NestedKey.depth, NestedKey.depthAll, depthAll_text]
/-! ### order -/
def ltS (a b : Str) : Bool := decide (a.cps.toList < b.cps.toList)
theorem ltS_leS (a b : Str) : ltS a b = !leS b a := by
  unfold ltS leS
  by_cases h : b.cps.toList ≤ a.cps.toList
  · simp [h, List.not_lt.mpr h]
  · simp [h, List.not_le.mp h]
theorem ltS_irr (a : Str) : ltS a a = false := by simp [ltS]
theorem ltS_trans {a b c : Str} (h1 : ltS a b = true) (h2 : ltS b c = true) : ltS a c = true := by
  simp only [ltS, decide_eq_true_eq] at *
  exact List.lt_trans h1 h2
theorem ltS_tot (a b : Str) : ltS a b = true ∨ a = b ∨ ltS b a = true := by
  by_cases h1 : leS b a = true
  · by_cases h2 : leS a b = true
    · exact .inr (.inl (leS_anti h2 h1))
    · refine .inr (.inr ?_)
      rw [ltS_leS]; simpa using h2
  · refine .inl ?_
    rw [ltS_leS]; simpa using h1
theorem alikeAll_map (A B : List Str) : alikeAll (A.map .str) (B.map .str) = true := by
  induction A generalizing B with
  | nil => simp [alikeAll]
  | cons a A ih => cases B with
    | nil => simp [alikeAll]
    | cons b B => simp [alikeAll, alike, ih]
theorem alike_tS (A B : List Str) : alike (tS A) (tS B) = true := by simp [tS, alike, alikeAll_map]
theorem alike_ringD (r r' : Rg) : alike (ringD r) (ringD r') = true := by simp [ringD, alike, alikeAll, alike_tS]
def ltT (A B : List Str) : Bool := dataLt (tS A) (tS B)
theorem ltT_irr (A : List Str) : ltT A A = false := (PyProof.Rows.listOrd PyProof.Rows.itemOrd).irrefl _
theorem ltT_trans {A B C : List Str} (h1 : ltT A B = true) (h2 : ltT B C = true) : ltT A C = true := (PyProof.Rows.listOrd PyProof.Rows.itemOrd).trans _ _ _ h1 h2
theorem ltT_tot {A B : List Str} (h1 : ltT A B = false) (h2 : ltT B A = false) : A = B := by
  have e : keyToks (tS A) = keyToks (tS B) := (PyProof.Rows.listOrd PyProof.Rows.itemOrd).total _ _ h1 h2
  by_cases h : PyData.eqv (tS A) (tS B) = true
  · exact tS_inj ((eqv_iff (st_tS A)).mp h)
  · have h' : PyData.eqv (tS A) (tS B) = false := by simpa using h
    have k := (PySem.W.toks_eqv _ _ (alike_tS A B)).2 h' [] [.inl 0]
    rw [← e] at k
    rw [PySem.W.lex_pre, PyProof.Rows.lex_irrefl] at k
    exact absurd k (by decide)
theorem ringLt (r r' : Rg) : dataLt (ringD r) (ringD r') = (ltT r.1 r'.1 || (decide (r.1 = r'.1) && ltT r.2 r'.2)) := by
  unfold ringD
  rw [dataLt_pair (alike_tS _ _) (alike_tS _ _)]
  by_cases h : r.1 = r'.1
  · have e1 : PyData.eqv (tS r.1) (tS r'.1) = true := (eqv_iff (st_tS _)).mpr (by rw [h])
    rw [if_pos e1]
    by_cases h2 : r.2 = r'.2
    · have e2 : PyData.eqv (tS r.2) (tS r'.2) = true := (eqv_iff (st_tS _)).mpr (by rw [h2])
      rw [if_pos e2, h, h2, ltT_irr, ltT_irr]
      simp
    · have e2 : ¬ PyData.eqv (tS r.2) (tS r'.2) = true := fun z => h2 (tS_inj ((eqv_iff (st_tS _)).mp z))
      rw [if_neg e2, h, ltT_irr]
      simp [ltT]
  · have e1 : ¬ PyData.eqv (tS r.1) (tS r'.1) = true := fun z => h (tS_inj ((eqv_iff (st_tS _)).mp z))
    rw [if_neg e1]
    simp [h, ltT]
/-! ### the operations -/
theorem cmp_st {d e : PyData} {n m : Nat} (h1 : Sh n d) (h2 : Sh m e) (hn : n < 60) (hm : m < 60) (ha : alike d e = true) (hd : stB d = true) : cmpOk d e = true := by
  unfold cmpOk eqOk
  rw [h1.dep hn, h2.dep hm, ha]
  cases d <;> simp [stB] at hd ⊢
theorem qGe_str (a b : Str) : qGe (.str a) (.str b) = dB (!ltS a b) := by
  show cGe (.str a) (.str b) = _
  unfold cGe
  rw [if_pos (cmp_st (sh_str 0 a) (sh_str 0 b) (by decide) (by decide) rfl rfl), dataLt_str]
  rfl
theorem qLt_ring (r r' : Rg) : qLt (ringD r) (ringD r') = dB (dataLt (ringD r) (ringD r')) := by
  show cLt (ringD r) (ringD r') = _
  unfold cLt
  rw [if_pos (cmp_st (sh_ringD r) (sh_ringD r') (by decide) (by decide) (alike_ringD r r') (st_ringD r))]
theorem any_eqv {A : List Str} {a : Str} : ((A.map PyData.str).any fun y => PyData.eqv y (.str a)) = decide (a ∈ A) := by
  rw [Bool.eq_iff_iff, List.any_eq_true, decide_eq_true_eq]
  constructor
  · rintro ⟨x, hx, he⟩
    obtain ⟨b, hb, rfl⟩ := List.mem_map.mp hx
    have := (eqv_iff (c := .str b) rfl).mp he
    cases this
    exact hb
  · intro h
    exact ⟨_, List.mem_map.mpr ⟨a, h, rfl⟩, (eqv_iff (c := .str a) rfl).mpr rfl⟩
theorem dep_tS (A : List Str) : Pl.dep (tS A) = true := (sh_tS A).dep (by decide)
theorem dep_lS (A : List Str) : Pl.dep (.list (A.map .str)) = true := (sh_list (n := 0) (xs := A.map .str) (fun x hx => by obtain ⟨a, _, rfl⟩ := List.mem_map.mp hx; exact sh_str _ _)).dep (by decide)
theorem dep_str (a : Str) : Pl.dep (.str a) = true := (sh_str 0 a).dep (by decide)
theorem hasIn_of {a : Str} {A : List Str} {d : PyData} (h : d = .list (A.map .str) ∨ d = .tuple (A.map .str)) : hasIn (.str a) d = some (decide (a ∈ A)) := by
  rcases h with rfl | rfl
  · simp only [hasIn]
    rw [dep_lS, dep_str, any_eqv]; rfl
  · have := dep_tS A
    unfold tS at this
    simp only [hasIn]
    rw [this, dep_str, any_eqv]; rfl
theorem pIn_of {a : Str} {A : List Str} {d : PyData} (h : d = .list (A.map .str) ∨ d = .tuple (A.map .str)) : pIn (.str a) d = dB (decide (a ∈ A)) := by
  unfold pIn; rw [hasIn_of h]; rfl
theorem pNotIn_of {a : Str} {A : List Str} {d : PyData} (h : d = .list (A.map .str) ∨ d = .tuple (A.map .str)) : pNotIn (.str a) d = dB (!decide (a ∈ A)) := by
  unfold pNotIn; rw [hasIn_of h]; rfl
/-- sorting sets -/
def leT (A B : List Str) : Bool := !ltT B A
def srtT (Ls : List (List Str)) : List (List Str) := Ls.mergeSort leT
theorem sorted_sets (Ls : List (List Str)) : pSorted [.list (Ls.map tS)] = some (.new (.list ((srtT Ls).map tS))) := by
  simp only [pSorted]
  rw [if_pos (by
    unfold sortOk
    simp only [Bool.and_eq_true, List.all_eq_true]
    refine ⟨⟨?_, ?_⟩, ?_⟩
    · intro x hx y hy
      obtain ⟨a, _, rfl⟩ := List.mem_map.mp hx
      obtain ⟨b, _, rfl⟩ := List.mem_map.mp hy
      exact alike_tS a b
    · intro x hx
      obtain ⟨a, _, rfl⟩ := List.mem_map.mp hx
      have := (sh_tS a).2
      simp; omega
    · intro x hx
      obtain ⟨a, _, rfl⟩ := List.mem_map.mp hx
      rfl)]
  unfold sortD srtT
  rw [List.map_mergeSort]
  intro a _ b _
  rfl
theorem leT_trans (a b c : List Str) (h1 : leT a b = true) (h2 : leT b c = true) : leT a c = true := by
  simp only [leT, Bool.not_eq_true'] at *
  by_cases h : ltT c a = true
  · rcases (PyProof.Rows.listOrd PyProof.Rows.itemOrd).negTrans (keyToks (tS c)) (keyToks (tS b)) (keyToks (tS a)) h with q | q
    · have : ltT c b = true := q
      rw [h2] at this; cases this
    · have : ltT b a = true := q
      rw [h1] at this; cases this
  · simpa using h
theorem leT_total (a b : List Str) : (leT a b || leT b a) = true := by
  unfold leT
  cases h : ltT b a
  · rfl
  · cases h2 : ltT a b
    · rfl
    · have := ltT_trans h h2
      rw [ltT_irr] at this; cases this
theorem srtT_perm (Ls : List (List Str)) : (srtT Ls).Perm Ls := List.mergeSort_perm _ _
theorem srtT_strict {Ls : List (List Str)} (h : Ls.Nodup) : (srtT Ls).Pairwise fun a b => ltT a b = true := by
  have h1 : (srtT Ls).Pairwise fun a b => leT a b = true := List.pairwise_mergeSort leT_trans leT_total Ls
  have h2 : (srtT Ls).Pairwise (· ≠ ·) := (srtT_perm Ls).nodup_iff.mpr h
  refine h1.imp₂ (fun a b q1 q2 => ?_) h2
  simp only [leT, Bool.not_eq_true'] at q1
  cases q : ltT a b
  · exact absurd (ltT_tot q q1) q2
  · rfl
end Lw

/-! Cm1 -/
set_option Elab.async false
set_option linter.all false
set_option maxRecDepth 100000
set_option maxHeartbeats 1000000
/-! Sets as rising lists: all of them, counted. -/
namespace Lw
open PySem PySem.Spec PyProof.Rows L2 Pl
theorem snoc_ind {α : Type} {P : List α → Prop} (h0 : P []) (hs : ∀ l a, P l → P (l ++ [a])) (l : List α) : P l := by
  have : ∀ m : List α, P m.reverse := by
    intro m
    induction m with
    | nil => exact h0
    | cons a m ih => rw [List.reverse_cons]; exact hs _ _ ih
  have := this l.reverse
  rwa [List.reverse_reverse] at this
def SS (A : List Str) : Prop := A.Pairwise fun a b => ltS a b = true
theorem ltS_ne {a b : Str} (h : ltS a b = true) : a ≠ b := fun e => by subst e; rw [ltS_irr] at h; cases h
theorem ltS_asymm {a b : Str} (h : ltS a b = true) : ltS b a = false := by
  cases h2 : ltS b a
  · rfl
  · have := ltS_trans h h2; rw [ltS_irr] at this; cases this
theorem ltS_le {a b : Str} (h : ltS a b = true) : leS a b = true := by
  have := ltS_asymm h
  rw [ltS_leS] at this
  simpa using this
theorem SS.nodup {A : List Str} (h : SS A) : A.Nodup := List.Pairwise.imp (fun q => ltS_ne q) h
theorem SS.le {A : List Str} (h : SS A) : A.Pairwise fun a b => leS a b = true := List.Pairwise.imp (fun q => ltS_le q) h
theorem SS.ext {A B : List Str} (h : SS A) (h2 : SS B) (e : ∀ x, x ∈ A ↔ x ∈ B) : A = B :=
  sorted_unique h.le h2.le ((List.perm_ext_iff_of_nodup h.nodup h2.nodup).mpr fun a => e a)
theorem SS.srt {zs : List Str} (h : zs.Nodup) : SS (srtS zs) := by
  have h1 := srtS_sorted zs
  have h2 : (srtS zs).Pairwise (· ≠ ·) := (srtS_perm zs).nodup_iff.mpr h
  refine h1.imp₂ (fun a b q1 q2 => ?_) h2
  rcases ltS_tot a b with q | q | q
  · exact q
  · exact absurd q q2
  · rw [ltS_leS, q1] at q; cases q
theorem SS.srt_eq {A : List Str} (h : SS A) : srtS A = A := sorted_unique (srtS_sorted A) h.le (srtS_perm A)
theorem SS.filter {A : List Str} (h : SS A) (p : Str → Bool) : SS (A.filter p) := List.Pairwise.filter p h
theorem mem_srtS {zs : List Str} {a : Str} : a ∈ srtS zs ↔ a ∈ zs := (srtS_perm zs).mem_iff
theorem SS.snoc {z : List Str} {h : Str} : SS (z ++ [h]) ↔ SS z ∧ ∀ a ∈ z, ltS a h = true := by
  unfold SS
  rw [List.pairwise_append]
  simp
def pw (z : List Str) : List (List Str) := z.foldl (fun f h => f ++ f.map (· ++ [h])) [[]]
theorem pw_snoc (z : List Str) (h : Str) : pw (z ++ [h]) = pw z ++ (pw z).map (· ++ [h]) := by
  unfold pw; rw [List.foldl_append]; rfl
theorem mem_pw {z : List Str} : SS z → ∀ A, A ∈ pw z ↔ SS A ∧ ∀ a ∈ A, a ∈ z := by
  refine snoc_ind (P := fun z => SS z → ∀ A, A ∈ pw z ↔ SS A ∧ ∀ a ∈ A, a ∈ z) ?_ ?_ z
  · intro _ A
    constructor
    · intro h
      have : A = [] := by simpa [pw] using h
      subst this
      exact ⟨List.Pairwise.nil, by simp⟩
    · rintro ⟨_, h⟩
      have : A = [] := List.eq_nil_iff_forall_not_mem.mpr fun a ha => by simpa using h a ha
      subst this
      simp [pw]
  · intro z h ih hz A
    obtain ⟨h1, h2⟩ := SS.snoc.mp hz
    rw [pw_snoc, List.mem_append, List.mem_map]
    constructor
    · rintro (q | ⟨B, q, rfl⟩)
      · obtain ⟨q1, q2⟩ := (ih h1 A).mp q
        exact ⟨q1, fun a ha => List.mem_append.mpr (.inl (q2 a ha))⟩
      · obtain ⟨q1, q2⟩ := (ih h1 B).mp q
        refine ⟨SS.snoc.mpr ⟨q1, fun a ha => h2 a (q2 a ha)⟩, fun a ha => ?_⟩
        rcases List.mem_append.mp ha with ha | ha
        · exact List.mem_append.mpr (.inl (q2 a ha))
        · exact List.mem_append.mpr (.inr ha)
    · rintro ⟨q1, q2⟩
      by_cases hA : h ∈ A
      · refine .inr ⟨A.filter (fun a => !decide (a = h)), (ih h1 _).mpr ⟨q1.filter _, fun a ha => ?_⟩, ?_⟩
        · obtain ⟨m1, m2⟩ := List.mem_filter.mp ha
          have := q2 a m1
          simp at this m2
          rcases this with t | t
          · exact t
          · exact absurd t m2
        · refine SS.ext (SS.snoc.mpr ⟨q1.filter _, fun a ha => ?_⟩) q1 fun x => ?_
          · obtain ⟨m1, m2⟩ := List.mem_filter.mp ha
            have := q2 a m1
            simp at this m2
            rcases this with t | t
            · exact h2 a t
            · exact absurd t m2
          · simp only [List.mem_append, List.mem_filter, List.mem_singleton, Bool.not_eq_true', decide_eq_false_iff_not]
            constructor
            · rintro (⟨t, _⟩ | rfl)
              · exact t
              · exact hA
            · intro t
              by_cases e : x = h
              · exact .inr e
              · exact .inl ⟨t, e⟩
      · refine .inl ((ih h1 A).mpr ⟨q1, fun a ha => ?_⟩)
        rcases List.mem_append.mp (q2 a ha) with t | t
        · exact t
        · simp at t; subst t; exact absurd ha hA
theorem pw_nodup {z : List Str} : SS z → (pw z).Nodup := by
  refine snoc_ind (P := fun z => SS z → (pw z).Nodup) ?_ ?_ z
  · intro _; simp [pw]
  · intro z h ih hz
    obtain ⟨h1, h2⟩ := SS.snoc.mp hz
    rw [pw_snoc, List.nodup_append]
    refine ⟨ih h1, ?_, ?_⟩
    · rw [List.nodup_iff_pairwise_ne, List.pairwise_map]
      exact List.Pairwise.imp (fun q e => q (List.append_cancel_right e)) (ih h1)
    · intro A hA B hB e
      subst e
      obtain ⟨C, _, rfl⟩ := List.mem_map.mp hB
      have := ((mem_pw h1 _).mp hA).2 h (by simp)
      have := h2 h this
      rw [ltS_irr] at this
      cases this
def lens : Nat → List Nat
  | 0 => [0]
  | n + 1 => lens n ++ (lens n).map (· + 1)
theorem pw_lens (z : List Str) : (pw z).map List.length = lens z.length := by
  refine snoc_ind (P := fun z => (pw z).map List.length = lens z.length) ?_ ?_ z
  · rfl
  · intro z h ih
    rw [pw_snoc, List.length_append, List.map_append, ih]
    show _ = lens z.length ++ (lens z.length).map (· + 1)
    rw [← ih]
    simp [Function.comp_def]
theorem lens_length (n : Nat) : (lens n).length = 2 ^ n := by
  induction n with
  | zero => rfl
  | succ n ih => unfold lens; rw [List.length_append, List.length_map, ih, Nat.pow_succ]; omega
theorem pw_length (z : List Str) : (pw z).length = 2 ^ z.length := by
  rw [← lens_length, ← pw_lens, List.length_map]
/-- all sets of hands, rising -/
def sets (zs : List Str) : List (List Str) := srtT (pw (srtS zs))
def wo (zs T : List Str) : List Str := zs.filter fun h => !decide (h ∈ T)
section
variable {zs T A : List Str}
theorem mem_sets (h : zs.Nodup) : A ∈ sets zs ↔ SS A ∧ ∀ a ∈ A, a ∈ zs := by
  unfold sets
  rw [(srtT_perm _).mem_iff, mem_pw (SS.srt h)]
  simp only [mem_srtS]
theorem sets_nodup (h : zs.Nodup) : (sets zs).Nodup := (srtT_perm _).nodup_iff.mpr (pw_nodup (SS.srt h))
theorem sets_strict (h : zs.Nodup) : (sets zs).Pairwise fun a b => ltT a b = true := srtT_strict (pw_nodup (SS.srt h))
theorem srtS_length (zs : List Str) : (srtS zs).length = zs.length := (srtS_perm zs).length_eq
theorem sets_length (zs : List Str) : (sets zs).length = 2 ^ zs.length := by
  unfold sets
  rw [(srtT_perm _).length_eq, pw_length, srtS_length]
theorem sets_countP (zs : List Str) (k : Nat) : (sets zs).countP (fun T => decide (T.length = k)) = (lens zs.length).countP (fun m => decide (m = k)) := by
  unfold sets
  rw [(srtT_perm _).countP_eq, ← srtS_length zs, ← pw_lens, List.countP_map]
  rfl
theorem mem_wo {a : Str} : a ∈ wo zs T ↔ a ∈ zs ∧ a ∉ T := by simp [wo]
theorem wo_nodup (h : zs.Nodup) : (wo zs T).Nodup := h.filter _
theorem wo_length (h : zs.Nodup) (hT : T.Nodup) (hs : ∀ a ∈ T, a ∈ zs) : (wo zs T).length + T.length = zs.length := by
  have h1 : (zs.filter fun h => decide (h ∈ T)).Perm T := (List.perm_ext_iff_of_nodup (h.filter _) hT).mpr fun a => by
    simp only [List.mem_filter, decide_eq_true_eq]
    exact ⟨fun q => q.2, fun q => ⟨hs a q, q⟩⟩
  have h2 := List.length_eq_countP_add_countP (l := zs) (fun h => decide (h ∈ T))
  rw [List.countP_eq_length_filter, List.countP_eq_length_filter, h1.length_eq] at h2
  unfold wo
  have e : (zs.filter fun h => !decide (h ∈ T)) = zs.filter fun a => decide ¬decide (a ∈ T) = true := by congr 1; funext a; simp
  rw [e]
  omega
end
/-! ### rings -/
def threes (zs : List Str) : List (List Str) := (sets zs).filter fun T => decide (T.length = 3)
def ringsL (zs : List Str) : List Rg := (threes zs).flatMap fun T => (sets (wo zs T)).map fun A => (T, A)
section
variable {zs T A : List Str}
theorem mem_threes (h : zs.Nodup) : T ∈ threes zs ↔ SS T ∧ (∀ a ∈ T, a ∈ zs) ∧ T.length = 3 := by
  unfold threes
  rw [List.mem_filter, mem_sets h, decide_eq_true_eq, and_assoc]
theorem mem_rings (h : zs.Nodup) : (T, A) ∈ ringsL zs ↔ (SS T ∧ (∀ a ∈ T, a ∈ zs) ∧ T.length = 3) ∧ SS A ∧ ∀ a ∈ A, a ∈ zs ∧ a ∉ T := by
  unfold ringsL
  rw [List.mem_flatMap]
  constructor
  · rintro ⟨T', h1, h2⟩
    obtain ⟨A', h3, e⟩ := List.mem_map.mp h2
    cases e
    refine ⟨(mem_threes h).mp h1, ?_⟩
    obtain ⟨q1, q2⟩ := (mem_sets (wo_nodup h)).mp h3
    exact ⟨q1, fun a ha => mem_wo.mp (q2 a ha)⟩
  · rintro ⟨h1, h2, h3⟩
    exact ⟨T, (mem_threes h).mpr h1, List.mem_map.mpr ⟨A, (mem_sets (wo_nodup h)).mpr ⟨h2, fun a ha => mem_wo.mpr (h3 a ha)⟩, rfl⟩⟩
theorem rings_strict (h : zs.Nodup) : (ringsL zs).Pairwise fun r r' => PySem.W.dataLt (ringD r) (ringD r') = true := by
  unfold ringsL
  rw [List.pairwise_flatMap]
  refine ⟨fun T _ => ?_, ?_⟩
  · rw [List.pairwise_map]
    refine List.Pairwise.imp (fun {A B} q => ?_) (sets_strict (wo_nodup h))
    rw [ringLt]
    simp [q]
  · refine List.Pairwise.imp (fun {T T'} q => ?_) ((sets_strict h).filter _)
    intro x hx y hy
    obtain ⟨A, _, rfl⟩ := List.mem_map.mp hx
    obtain ⟨B, _, rfl⟩ := List.mem_map.mp hy
    rw [ringLt]
    simp [q]
theorem sum_const {α : Type} {f : α → Nat} {c : Nat} : ∀ {l : List α}, (∀ a ∈ l, f a = c) → (l.map f).sum = l.length * c
  | [], _ => by simp
  | a :: l, h => by
    rw [List.map_cons, List.sum_cons, h a (by simp), sum_const (fun b hb => h b (by simp [hb])), List.length_cons, Nat.add_mul]
    omega
theorem rings_length (h : zs.Nodup) : (ringsL zs).length = (lens zs.length).countP (fun m => decide (m = 3)) * 2 ^ (zs.length - 3) := by
  unfold ringsL
  rw [List.length_flatMap, sum_const (c := 2 ^ (zs.length - 3)) (fun T hT => ?_)]
  · rw [← sets_countP]
    unfold threes
    rw [List.countP_eq_length_filter]
  · obtain ⟨h1, h2, h3⟩ := (mem_threes h).mp hT
    have := wo_length h h1.nodup h2
    show ((sets (wo zs T)).map fun A => (T, A)).length = _
    rw [List.length_map, sets_length]
    congr 1
    omega
end
end Lw

/-! Cm2 -/
set_option Elab.async false
set_option linter.all false
set_option maxRecDepth 100000
set_option maxHeartbeats 1000000
/-! Lets of rings, counted. -/
namespace Lw
open PySem PySem.Spec PyProof.Rows L2 Pl
def twos : List Str → List (Str × Str)
  | [] => []
  | a :: r => r.map (fun o => (a, o)) ++ twos r
def wo2 (zs : List Str) (p q : Str) : List Str := zs.filter fun k => !(decide (k ∈ [p, q]))
def every (zs : List Str) : List Let := (twos (srtS zs)).flatMap fun pq => (sets (wo2 zs pq.1 pq.2)).map fun B => (pq.1, pq.2, B)
def ins (A : List Str) (h : Str) : List Str := srtS (A ++ [h])
def six : Rg → List Let
  | ([i, j, k], A) => [(i, j, A), (i, k, ins A j), (j, k, A), (i, j, ins A k), (i, k, A), (j, k, ins A i)]
  | _ => []
theorem mem_twos {z : List Str} (h : SS z) {p q : Str} : (p, q) ∈ twos z ↔ p ∈ z ∧ q ∈ z ∧ ltS p q = true := by
  induction z with
  | nil => simp [twos]
  | cons a r ih =>
    have h1 := List.pairwise_cons.mp h
    rw [twos, List.mem_append, List.mem_map, ih h1.2]
    constructor
    · rintro (⟨o, ho, e⟩ | ⟨m1, m2, m3⟩)
      · cases e
        exact ⟨by simp, by simp [ho], h1.1 _ ho⟩
      · exact ⟨by simp [m1], by simp [m2], m3⟩
    · rintro ⟨m1, m2, m3⟩
      rcases List.mem_cons.mp m1 with rfl | n1
      · rcases List.mem_cons.mp m2 with rfl | n2
        · rw [ltS_irr] at m3; cases m3
        · exact .inl ⟨q, n2, rfl⟩
      · rcases List.mem_cons.mp m2 with rfl | n2
        · have := h1.1 p n1
          rw [ltS_asymm this] at m3; cases m3
        · exact .inr ⟨n1, n2, m3⟩
theorem twos_nodup {z : List Str} (h : SS z) : (twos z).Nodup := by
  induction z with
  | nil => simp [twos]
  | cons a r ih =>
    have h1 := List.pairwise_cons.mp h
    have hr : SS r := h1.2
    rw [twos, List.nodup_append]
    refine ⟨?_, ih hr, ?_⟩
    · rw [List.nodup_iff_pairwise_ne, List.pairwise_map]
      exact List.Pairwise.imp (fun q e => q (by cases e; rfl)) hr.nodup
    · intro x hx y hy e
      subst e
      obtain ⟨o, ho, rfl⟩ := List.mem_map.mp hx
      have := ((mem_twos hr).mp hy).1
      have := h1.1 a this
      rw [ltS_irr] at this; cases this
section
variable {zs T A B : List Str} {p q : Str}
theorem mem_wo2 {k : Str} : k ∈ wo2 zs p q ↔ k ∈ zs ∧ k ≠ p ∧ k ≠ q := by
  simp [wo2]
theorem wo2_nodup (h : zs.Nodup) : (wo2 zs p q).Nodup := h.filter _
theorem mem_every (h : zs.Nodup) : (p, q, B) ∈ every zs ↔ (p ∈ zs ∧ q ∈ zs ∧ ltS p q = true) ∧ SS B ∧ ∀ k ∈ B, k ∈ zs ∧ k ≠ p ∧ k ≠ q := by
  unfold every
  rw [List.mem_flatMap]
  constructor
  · rintro ⟨⟨p', q'⟩, h1, h2⟩
    obtain ⟨B', h3, e⟩ := List.mem_map.mp h2
    cases e
    have m := (mem_twos (SS.srt h)).mp h1
    rw [mem_srtS, mem_srtS] at m
    obtain ⟨q1, q2⟩ := (mem_sets (wo2_nodup h)).mp h3
    exact ⟨m, q1, fun k hk => mem_wo2.mp (q2 k hk)⟩
  · rintro ⟨h1, h2, h3⟩
    exact ⟨(p, q), (mem_twos (SS.srt h)).mpr (by rw [mem_srtS, mem_srtS]; exact h1), List.mem_map.mpr ⟨B, (mem_sets (wo2_nodup h)).mpr ⟨h2, fun k hk => mem_wo2.mpr (h3 k hk)⟩, rfl⟩⟩
theorem every_nodup (h : zs.Nodup) : (every zs).Nodup := by
  unfold every
  rw [List.nodup_iff_pairwise_ne, List.pairwise_flatMap]
  refine ⟨fun pq _ => ?_, ?_⟩
  · rw [List.pairwise_map]
    exact List.Pairwise.imp (fun q e => q (by cases e; rfl)) (sets_nodup (wo2_nodup h))
  · refine List.Pairwise.imp (fun {a b} hne => ?_) (twos_nodup (SS.srt h))
    intro x hx y hy e
    subst e
    obtain ⟨A, _, rfl⟩ := List.mem_map.mp hx
    obtain ⟨B, _, e⟩ := List.mem_map.mp hy
    injection e with e1 e2
    injection e2 with e2 _
    exact hne (Prod.ext e1.symm e2.symm)
theorem SS.three (h : SS T) (hl : T.length = 3) : ∃ i j k, T = [i, j, k] ∧ ltS i j = true ∧ ltS i k = true ∧ ltS j k = true := by
  match T, hl with
  | [i, j, k], _ =>
    have h1 := List.pairwise_cons.mp h
    have h2 := List.pairwise_cons.mp h1.2
    exact ⟨i, j, k, rfl, h1.1 j (by simp), h1.1 k (by simp), h2.1 k (by simp)⟩
theorem mem_ins {a x : Str} : x ∈ ins A a ↔ x ∈ A ∨ x = a := by unfold ins; rw [mem_srtS]; simp
theorem SS.ins {a : Str} (h : SS A) (ha : a ∉ A) : SS (ins A a) := by
  unfold Lw.ins
  refine SS.srt ?_
  rw [List.nodup_append]
  exact ⟨h.nodup, by simp, fun x hx y hy e => by simp at hy; subst hy; subst e; exact ha hx⟩
theorem six_mem (h : zs.Nodup) {r : Rg} (hr : r ∈ ringsL zs) {l : Let} (hl : l ∈ six r) : l ∈ every zs := by
  obtain ⟨T, A⟩ := r
  obtain ⟨⟨h1, h2, h3⟩, h4, h5⟩ := (mem_rings h).mp hr
  obtain ⟨i, j, k, rfl, hij, hik, hjk⟩ := h1.three h3
  have mi := h2 i (by simp)
  have mj := h2 j (by simp)
  have mk := h2 k (by simp)
  have nij := ltS_ne hij
  have nik := ltS_ne hik
  have njk := ltS_ne hjk
  have nA : ∀ x ∈ A, x ∈ zs ∧ x ≠ i ∧ x ≠ j ∧ x ≠ k := fun x hx => by
    have := h5 x hx
    simp at this
    exact ⟨this.1, this.2.1, this.2.2.1, this.2.2.2⟩
  have hi : i ∉ A := fun z => (nA i z).2.1 rfl
  have hj : j ∉ A := fun z => (nA j z).2.2.1 rfl
  have hk : k ∉ A := fun z => (nA k z).2.2.2 rfl
  simp only [six, List.mem_cons, List.not_mem_nil, or_false] at hl
  rcases hl with rfl | rfl | rfl | rfl | rfl | rfl
  · exact (mem_every h).mpr ⟨⟨mi, mj, hij⟩, h4, fun x hx => ⟨(nA x hx).1, (nA x hx).2.1, (nA x hx).2.2.1⟩⟩
  · refine (mem_every h).mpr ⟨⟨mi, mk, hik⟩, h4.ins hj, fun x hx => ?_⟩
    rcases mem_ins.mp hx with hx | rfl
    · exact ⟨(nA x hx).1, (nA x hx).2.1, (nA x hx).2.2.2⟩
    · exact ⟨mj, nij.symm, njk⟩
  · exact (mem_every h).mpr ⟨⟨mj, mk, hjk⟩, h4, fun x hx => ⟨(nA x hx).1, (nA x hx).2.2.1, (nA x hx).2.2.2⟩⟩
  · refine (mem_every h).mpr ⟨⟨mi, mj, hij⟩, h4.ins hk, fun x hx => ?_⟩
    rcases mem_ins.mp hx with hx | rfl
    · exact ⟨(nA x hx).1, (nA x hx).2.1, (nA x hx).2.2.1⟩
    · exact ⟨mk, nik.symm, njk.symm⟩
  · exact (mem_every h).mpr ⟨⟨mi, mk, hik⟩, h4, fun x hx => ⟨(nA x hx).1, (nA x hx).2.1, (nA x hx).2.2.2⟩⟩
  · refine (mem_every h).mpr ⟨⟨mj, mk, hjk⟩, h4.ins hi, fun x hx => ?_⟩
    rcases mem_ins.mp hx with hx | rfl
    · exact ⟨(nA x hx).1, (nA x hx).2.2.1, (nA x hx).2.2.2⟩
    · exact ⟨mi, nij, nik⟩
/-! counting -/
theorem countP_one {α : Type} [DecidableEq α] {p : α → Bool} {x : α} : ∀ {l : List α}, l.Nodup → x ∈ l → (∀ a ∈ l, p a = true ↔ a = x) → l.countP p = 1
  | [], _, h, _ => by cases h
  | a :: l, nd, h, hp => by
    have nd' := List.nodup_cons.mp nd
    by_cases e : a = x
    · subst e
      have h0 : l.countP p = 0 := List.countP_eq_zero.mpr fun b hb z => by
        have := (hp b (by simp [hb])).mp z
        subst this
        exact nd'.1 hb
      rw [List.countP_cons_of_pos ((hp a (by simp)).mpr rfl), h0]
    · have hx : x ∈ l := by
        rcases List.mem_cons.mp h with q | q
        · exact absurd q.symm e
        · exact q
      rw [List.countP_cons_of_neg (fun z => e ((hp a (by simp)).mp z))]
      exact countP_one nd'.2 hx fun b hb => hp b (by simp [hb])
theorem sum_ite {α : Type} {f : α → Nat} {p : α → Bool} : ∀ {l : List α}, (∀ a ∈ l, f a = if p a = true then 1 else 0) → (l.map f).sum = l.countP p
  | [], _ => rfl
  | a :: l, h => by
    rw [List.map_cons, List.sum_cons, h a (by simp), sum_ite (p := p) (fun b hb => h b (by simp [hb]))]
    by_cases e : p a = true
    · rw [if_pos e, List.countP_cons_of_pos e]; omega
    · rw [if_neg e, List.countP_cons_of_neg e]; omega
theorem sum_two {α : Type} {f : α → Nat} {p q : α → Bool} : ∀ {l : List α}, (∀ a ∈ l, f a = (if p a = true then 1 else 0) + (if q a = true then 1 else 0)) → (l.map f).sum = l.countP p + l.countP q
  | [], _ => rfl
  | a :: l, h => by
    rw [List.map_cons, List.sum_cons, h a (by simp), sum_two (p := p) (q := q) (fun b hb => h b (by simp [hb]))]
    by_cases e : p a = true <;> by_cases e2 : q a = true <;> simp [e, e2] <;> omega
/-- one of the sets without T is B, or B but for h -/
theorem one_ins (h : zs.Nodup) {x : Str} (hx : x ∈ T) (hB : SS B) (hs : ∀ a ∈ B, a = x ∨ (a ∈ zs ∧ a ∉ T)) : (sets (wo zs T)).countP (fun A => decide (A = B)) + (sets (wo zs T)).countP (fun A => decide (ins A x = B)) = 1 := by
  have mS : ∀ {A}, A ∈ sets (wo zs T) ↔ SS A ∧ ∀ a ∈ A, a ∈ zs ∧ a ∉ T := fun {A} => by
    rw [mem_sets (wo_nodup h)]
    simp only [mem_wo]
  have nd := sets_nodup (zs := wo zs T) (wo_nodup h)
  by_cases hb : x ∈ B
  · have h0 : (sets (wo zs T)).countP (fun A => decide (A = B)) = 0 := List.countP_eq_zero.mpr fun A hA z => by
      have : A = B := by simpa using z
      subst this
      exact ((mS.mp hA).2 x hb).2 hx
    have hF : ∀ a, a ∈ B.filter (fun a => !decide (a = x)) ↔ a ∈ B ∧ a ≠ x := fun a => by simp
    have hm : B.filter (fun a => !decide (a = x)) ∈ sets (wo zs T) := mS.mpr ⟨hB.filter _, fun a ha => by
      obtain ⟨m1, m2⟩ := (hF a).mp ha
      rcases hs a m1 with q | q
      · exact absurd q m2
      · exact q⟩
    rw [h0, countP_one nd hm (fun A hA => ?_)]
    obtain ⟨s1, s2⟩ := mS.mp hA
    have hxA : x ∉ A := fun z => (s2 x z).2 hx
    rw [decide_eq_true_eq]
    constructor
    · intro e
      refine s1.ext (hB.filter _) fun a => ?_
      rw [hF, ← e, mem_ins]
      constructor
      · intro m
        exact ⟨.inl m, fun z => hxA (z ▸ m)⟩
      · rintro ⟨m | m, ne⟩
        · exact m
        · exact absurd m ne
    · intro e
      refine (s1.ins hxA).ext hB fun a => ?_
      rw [mem_ins, e, hF]
      constructor
      · rintro (⟨m, _⟩ | rfl)
        · exact m
        · exact hb
      · intro m
        by_cases q : a = x
        · exact .inr q
        · exact .inl ⟨m, q⟩
  · have h0 : (sets (wo zs T)).countP (fun A => decide (ins A x = B)) = 0 := List.countP_eq_zero.mpr fun A hA z => by
      have : ins A x = B := by simpa using z
      exact hb (this ▸ mem_ins.mpr (.inr rfl))
    have hm : B ∈ sets (wo zs T) := mS.mpr ⟨hB, fun a ha => by
      rcases hs a ha with q | q
      · subst q; exact absurd ha hb
      · exact q⟩
    rw [h0, countP_one nd hm (fun A hA => by rw [decide_eq_true_eq])]
theorem count_six {i j k : Str} (hij : i ≠ j) (hik : i ≠ k) (hjk : j ≠ k) : (six ([i, j, k], A)).count (p, q, B) =
    if i = p ∧ j = q then (if decide (A = B) = true then 1 else 0) + (if decide (ins A k = B) = true then 1 else 0)
    else if i = p ∧ k = q then (if decide (A = B) = true then 1 else 0) + (if decide (ins A j = B) = true then 1 else 0)
    else if j = p ∧ k = q then (if decide (A = B) = true then 1 else 0) + (if decide (ins A i = B) = true then 1 else 0) else 0 := by
  simp only [six, List.count_cons, List.count_nil, beq_iff_eq, Prod.mk.injEq, decide_eq_true_eq]
  have f1 : ¬ (i = p ∧ j = p) := fun z => hij (z.1.trans z.2.symm)
  have f2 : ¬ (j = q ∧ k = q) := fun z => hjk (z.1.trans z.2.symm)
  by_cases h1 : i = p
  · have h2 : ¬ j = p := fun z => f1 ⟨h1, z⟩
    by_cases h3 : j = q
    · have h4 : ¬ k = q := fun z => f2 ⟨h3, z⟩
      simp only [eq_true h1, eq_false h2, eq_true h3, eq_false h4, true_and, false_and, and_true, and_false, if_true, if_false]
      omega
    · by_cases h4 : k = q
      · simp only [eq_true h1, eq_false h2, eq_false h3, eq_true h4, true_and, false_and, and_true, and_false, if_true, if_false]
        omega
      · simp only [eq_true h1, eq_false h2, eq_false h3, eq_false h4, true_and, false_and, and_true, and_false, if_true, if_false]
  · by_cases h2 : j = p
    · by_cases h4 : k = q
      · simp only [eq_false h1, eq_true h2, eq_true h4, true_and, false_and, and_true, and_false, if_true, if_false]
        omega
      · simp only [eq_false h1, eq_true h2, eq_false h4, true_and, false_and, and_true, and_false, if_true, if_false]
    · simp only [eq_false h1, eq_false h2, true_and, false_and, and_true, and_false, if_true, if_false]
theorem inner_one (h : zs.Nodup) (hT : T ∈ threes zs) (hl : (p, q, B) ∈ every zs) : (((sets (wo zs T)).map fun A => (T, A)).flatMap six).count (p, q, B) = if decide (p ∈ T ∧ q ∈ T) = true then 1 else 0 := by
  obtain ⟨h1, h2, h3⟩ := (mem_threes h).mp hT
  obtain ⟨i, j, k, rfl, hij, hik, hjk⟩ := h1.three h3
  obtain ⟨⟨m1, m2, m3⟩, m4, m5⟩ := (mem_every h).mp hl
  have nij := ltS_ne hij
  have nik := ltS_ne hik
  have njk := ltS_ne hjk
  rw [List.count_flatMap, List.map_map]
  have key : ∀ x : Str, x ∈ [i, j, k] → (∀ a : Str, a ∈ [i, j, k] → a = p ∨ a = q ∨ a = x) → (sets (wo zs [i, j, k])).countP (fun A => decide (A = B)) + (sets (wo zs [i, j, k])).countP (fun A => decide (ins A x = B)) = 1 := fun x hx hall => by
    refine one_ins h hx m4 fun a ha => ?_
    by_cases e : a = x
    · exact .inl e
    · refine .inr ⟨(m5 a ha).1, fun z => ?_⟩
      rcases hall a z with q1 | q1 | q1
      · exact (m5 a ha).2.1 q1
      · exact (m5 a ha).2.2 q1
      · exact e q1
  by_cases c1 : i = p ∧ j = q
  · obtain ⟨rfl, rfl⟩ := c1
    rw [if_pos (by simp), sum_two (p := fun A => decide (A = B)) (q := fun A => decide (ins A k = B)) (fun A _ => by
      show (six ([i, j, k], A)).count (i, j, B) = _
      rw [count_six nij nik njk, if_pos ⟨rfl, rfl⟩])]
    exact key k (by simp) (by simp)
  by_cases c2 : i = p ∧ k = q
  · obtain ⟨rfl, rfl⟩ := c2
    rw [if_pos (by simp), sum_two (p := fun A => decide (A = B)) (q := fun A => decide (ins A j = B)) (fun A _ => by
      show (six ([i, j, k], A)).count (i, k, B) = _
      rw [count_six nij nik njk, if_neg c1, if_pos ⟨rfl, rfl⟩])]
    exact key j (by simp) (fun a ha => by simp at ha; rcases ha with rfl | rfl | rfl <;> simp)
  by_cases c3 : j = p ∧ k = q
  · obtain ⟨rfl, rfl⟩ := c3
    rw [if_pos (by simp), sum_two (p := fun A => decide (A = B)) (q := fun A => decide (ins A i = B)) (fun A _ => by
      show (six ([i, j, k], A)).count (j, k, B) = _
      rw [count_six nij nik njk, if_neg c1, if_neg c2, if_pos ⟨rfl, rfl⟩])]
    exact key i (by simp) (fun a ha => by simp at ha; rcases ha with rfl | rfl | rfl <;> simp)
  · have hno : ¬ (p ∈ [i, j, k] ∧ q ∈ [i, j, k]) := by
      rintro ⟨z1, z2⟩
      simp only [List.mem_cons, List.not_mem_nil, or_false] at z1 z2
      rcases z1 with rfl | rfl | rfl <;> rcases z2 with rfl | rfl | rfl <;>
      first
        | exact c1 ⟨rfl, rfl⟩
        | exact c2 ⟨rfl, rfl⟩
        | exact c3 ⟨rfl, rfl⟩
        | (rw [ltS_irr] at m3; cases m3)
        | (rw [ltS_asymm hij] at m3; cases m3)
        | (rw [ltS_asymm hik] at m3; cases m3)
        | (rw [ltS_asymm hjk] at m3; cases m3)
    rw [if_neg (by simpa using hno), sum_const (c := 0) (fun A _ => by
      show (six ([i, j, k], A)).count (p, q, B) = _
      rw [count_six nij nik njk, if_neg c1, if_neg c2, if_neg c3]), Nat.mul_zero]
/-- three hands of which two are told -/
theorem threes_two (h : zs.Nodup) (hp : p ∈ zs) (hq : q ∈ zs) (hpq : p ≠ q) : (threes zs).countP (fun T => decide (p ∈ T ∧ q ∈ T)) = zs.length - 2 := by
  rw [List.countP_eq_length_filter]
  have nd : (threes zs).Nodup := (sets_nodup h).filter _
  have hP : ((threes zs).filter fun T => decide (p ∈ T ∧ q ∈ T)).Perm ((wo zs [p, q]).map fun x => srtS [p, q, x]) := by
    refine (List.perm_ext_iff_of_nodup (nd.filter _) ?_).mpr fun T => ?_
    · rw [List.nodup_iff_pairwise_ne, List.pairwise_map]
      refine List.Pairwise.imp_of_mem (fun {a b} ha hb hne e => ?_) (wo_nodup (T := [p, q]) h)
      have m := (mem_srtS (zs := [p, q, a]) (a := a)).mpr (by simp)
      rw [e, mem_srtS] at m
      have := (mem_wo.mp ha).2
      simp at m this
      rcases m with m | m | m
      · exact this.1 m
      · exact this.2 m
      · exact hne m
    · rw [List.mem_filter, mem_threes h, List.mem_map, decide_eq_true_eq]
      constructor
      · rintro ⟨⟨h1, h2, h3⟩, z1, z2⟩
        have hx : ∃ x, x ∈ T ∧ x ≠ p ∧ x ≠ q ∧ ∀ a ∈ T, a = p ∨ a = q ∨ a = x := by
          obtain ⟨i, j, k, rfl, hij, hik, hjk⟩ := h1.three h3
          have nij := ltS_ne hij
          have nik := ltS_ne hik
          have njk := ltS_ne hjk
          simp only [List.mem_cons, List.not_mem_nil, or_false] at z1 z2
          rcases z1 with rfl | rfl | rfl <;> rcases z2 with rfl | rfl | rfl <;> first | exact absurd rfl hpq | skip
          · exact ⟨k, by simp, nik.symm, njk.symm, by simp⟩
          · exact ⟨j, by simp, nij.symm, njk, fun a ha => by simp at ha; rcases ha with rfl | rfl | rfl <;> simp⟩
          · exact ⟨k, by simp, njk.symm, nik.symm, fun a ha => by simp at ha; rcases ha with rfl | rfl | rfl <;> simp⟩
          · exact ⟨i, by simp, nij, nik, fun a ha => by simp at ha; rcases ha with rfl | rfl | rfl <;> simp⟩
          · exact ⟨j, by simp, njk, nij.symm, fun a ha => by simp at ha; rcases ha with rfl | rfl | rfl <;> simp⟩
          · exact ⟨i, by simp, nik, nij, fun a ha => by simp at ha; rcases ha with rfl | rfl | rfl <;> simp⟩
        obtain ⟨x, x1, x2, x3, x4⟩ := hx
        refine ⟨x, mem_wo.mpr ⟨h2 x x1, by simp [x2, x3]⟩, (SS.srt (by simp [hpq, Ne.symm x2, Ne.symm x3])).ext h1 fun a => ?_⟩
        rw [mem_srtS]
        simp only [List.mem_cons, List.not_mem_nil, or_false]
        constructor
        · rintro (rfl | rfl | rfl) <;> assumption
        · exact x4 a
      · rintro ⟨x, hx, rfl⟩
        obtain ⟨x1, x2⟩ := mem_wo.mp hx
        simp at x2
        refine ⟨⟨SS.srt (by simp [hpq, Ne.symm x2.1, Ne.symm x2.2]), fun a ha => ?_, by rw [srtS_length]; rfl⟩, mem_srtS.mpr (by simp), mem_srtS.mpr (by simp)⟩
        rw [mem_srtS] at ha
        simp only [List.mem_cons, List.not_mem_nil, or_false] at ha
        rcases ha with rfl | rfl | rfl <;> assumption
  rw [hP.length_eq, List.length_map]
  have := wo_length (T := [p, q]) h (by simp [hpq]) (fun a ha => by simp at ha; rcases ha with rfl | rfl <;> assumption)
  simp at this
  omega
/-- each let is in as many rings as there are other hands -/
theorem lets_count (h : zs.Nodup) {l : Let} (hl : l ∈ every zs) : ((ringsL zs).flatMap six).count l = zs.length - 2 := by
  obtain ⟨p, q, B⟩ := l
  obtain ⟨⟨m1, m2, m3⟩, _, _⟩ := (mem_every h).mp hl
  rw [← threes_two h m1 m2 (ltS_ne m3)]
  unfold ringsL
  rw [List.flatMap_assoc, List.count_flatMap]
  exact sum_ite (p := fun T => decide (p ∈ T ∧ q ∈ T)) fun T hT => inner_one h hT hl
end
end Lw

/-! Sr1 -/
set_option Elab.async false
set_option linter.all false
set_option maxRecDepth 100000
set_option maxHeartbeats 1000000
/-! What the program's and the law's defs about sets tell. -/
namespace Lw
open PySem PySem.Spec PyProof.Rows L2 Pl
section
variable {fa fb f : ME} {ms ms1 ms2 : MS} {a b d : PyData} {r ra : Rv} {i : Nat}
theorem set_back {x : Option SV} (h0 : ms[i]? = some none) : (ms.set i x).set i none = ms := by
  rw [List.set_set]
  apply List.ext_getElem?
  intro j
  by_cases hj : i = j
  · subst hj
    rw [List.getElem?_set_self (List.getElem?_eq_some_iff.mp h0).1, h0]
  · rw [List.getElem?_set_ne hj]
theorem gNm_ok (hl : isLent ms i = false) : gNm i d ms = .nx (ms.set i (some (.dat d))) := by simp [gNm, hl]
/-- a turn whose target is one name -/
theorem t1 {t : MT} {p : Bool} {x : PyData} (h0 : ms[i]? = some none) (ht : t (ms.set i (some (.dat d))) = .ok p (ms.set i (some (.dat d)))) (hf : p = true → ∃ r, f (ms.set i (some (.dat d))) = .ok r (ms.set i (some (.dat d))) ∧ frz (ms.set i (some (.dat d))) r = some (x, ms.set i (some (.dat d)))) :
    Turn1 [i] (gNm i) t f ms d p x := ⟨⟨ms.set i (some (.dat d)), gNm_ok (by simp [isLent, h0]), ht, by show ((ms.set i (some (.dat d))).set i none) = ms; exact set_back h0, hf⟩⟩
theorem aug_list {l : Bool} {ds es : List PyData} (hi : ms[i]? = some (some (.own l (.list ds)))) (hf : f ms = .ok (.new (.list es)) ms) (hl : ds.length + es.length ≤ SZ) : mAug i pIAdd f ms = .nx (ms.set i (some (.own l (.list (ds ++ es))))) := by
  simp only [mAug, hi, hf, SO.of_ok, view]
  rw [if_pos hl]
theorem var_d (h : ms[i]? = some (some (.dat d))) : mVar i ms = .ok (.dat d) ms := by simp [mVar, h]
/-- hands as a list or a tuple -/
def Hd (zs : List Str) (d : PyData) : Prop := d = .list (zs.map .str) ∨ d = .tuple (zs.map .str)
/-- .. in an argument: a tuple is data -/
def HdA (zs : List Str) (x : Pl.Arg) : Prop := aD x = .list (zs.map .str) ∨ ((∃ d, x = .dat d) ∧ aD x = .tuple (zs.map .str))
theorem HdA.hd {zs : List Str} {x : Pl.Arg} (h : HdA zs x) : Hd zs (aD x) := by
  rcases h with h | ⟨_, h⟩
  · exact .inl h
  · exact .inr h
theorem HdA.src {zs : List Str} {x : Pl.Arg} (h : HdA zs x) : svD (svA x) = .list (zs.map .str) ∨ ((∃ d, svA x = .dat d) ∧ svD (svA x) = .tuple (zs.map .str)) := by
  rw [svD_svA]
  rcases h with h | ⟨⟨d, rfl⟩, h⟩
  · exact .inl h
  · exact .inr ⟨⟨d, rfl⟩, h⟩
theorem HdA.tup {zs : List Str} {d : PyData} (h : Hd zs d) : HdA zs (.dat d) := by
  rcases h with h | h
  · exact .inl h
  · exact .inr ⟨⟨d, rfl⟩, h⟩
theorem sorted_of {zs : List Str} {d : PyData} (h : Hd zs d) : pSorted [d] = some (.new (.list ((srtS zs).map .str))) := by
  rcases h with rfl | rfl
  · exact sorted_strs zs
  · exact sorted_strsT zs
theorem srt_var {zs : List Str} {x : SV} (h : ms[i]? = some (some x)) (hx : Hd zs (svD x)) : mFun pSorted (mOne (mVar i)) ms = .ok (.new (.list ((srtS zs).map .str))) ms := fun1 (ev_sv h) (sorted_of hx)
theorem addT {xs ys : List PyData} (h : xs.length + ys.length ≤ 1000) : pAdd (.tuple xs) (.tuple ys) = some (.dat (.tuple (xs ++ ys))) := by
  simp only [pAdd]; rw [if_pos (Nat.le_trans h (by decide))]
theorem addL {xs ys : List PyData} (h : xs.length + ys.length ≤ 1000000) : pAdd (.list xs) (.list ys) = some (.new (.list (xs ++ ys))) := by
  simp only [pAdd]; rw [if_pos (Nat.le_trans h (by decide))]
end
theorem pw_le {z : List Str} : ∀ A ∈ pw z, A.length ≤ z.length := by
  refine snoc_ind (P := fun z => ∀ A ∈ pw z, A.length ≤ z.length) ?_ ?_ z
  · intro A hA
    have : A = [] := by simpa [pw] using hA
    subst this
    exact Nat.le_refl _
  · intro z h ih A hA
    rw [pw_snoc, List.mem_append, List.mem_map] at hA
    rcases hA with q | ⟨B, q, rfl⟩
    · have := ih A q
      simp; omega
    · have := ih B q
      simp; omega
def addH (h : Str) (d : PyData) : PyData := match d with
  | .tuple ds => .tuple (ds ++ [.str h])
  | d => d
theorem addH_tS (h : Str) (A : List Str) : addH h (tS A) = tS (A ++ [h]) := by simp [addH, tS]
/-- [one + (hand,) for one in found] -/
theorem grow_lc {ms : MS} {f : List (List Str)} {h : Str} (h1 : ms[1]? = some (some (.own false (.list (f.map tS))))) (h2 : ms[2]? = some (some (.dat (.str h)))) (h3 : ms[3]? = some none) (hf : ∀ A ∈ f, A.length ≤ 100) (hl : f.length < 100000) :
    mLc [3] (fun ms => ((mVar 1) ms).bind srcOf) (gNm 3) mYes (mOp2 pAdd (mVar 3) (mTup (mOne (mVar 2)))) ms = .ok (.new (.list ((f.map (· ++ [h])).map tS))) ms := by
  obtain ⟨src, e1, e2⟩ := src_var (x := .own false (.list (f.map tS))) h1 (.inl rfl)
  have := lc_mp (vs := [3]) (fi := fun ms => ((mVar 1) ms).bind srcOf) (g := gNm 3) (f := mOp2 pAdd (mVar 3) (mTup (mOne (mVar 2)))) (addH h) e1 e2 (by
    show ms.set 3 none = ms
    have := set_back (x := none) h3
    rwa [List.set_set] at this) (by rw [List.length_map]; omega) (fun d hd => by
      obtain ⟨A, hA, rfl⟩ := List.mem_map.mp hd
      refine t1 h3 rfl fun _ => ?_
      have hlt : 3 < ms.length := (List.getElem?_eq_some_iff.mp h3).1
      have m3 : (ms.set 3 (some (.dat (tS A))))[3]? = some (some (.dat (tS A))) := List.getElem?_set_self hlt
      have m2 : (ms.set 3 (some (.dat (tS A))))[2]? = some (some (.dat (.str h))) := by rw [List.getElem?_set_ne (by decide)]; exact h2
      refine ⟨.dat (addH h (tS A)), ?_, rfl⟩
      refine op2_d (var_d m3) (tup_of (one_d (var_d m2)) rfl (by show 1 ≤ SZ; decide)) ?_
      have := hf A hA
      unfold tS
      rw [addT (by simp; omega)]
      rfl)
  rw [this, List.map_map, List.map_map]
  congr 4
  funext A
  exact addH_tS h A
theorem srcFz_new {f : ME} {ms ms1 : MS} {ds : List PyData} (h : f ms = .ok (.new (.list ds)) ms1) : (fun ms => (f ms).bind srcFz) ms = .ok (.fix ds) ms1 := fz_new h
def setsSt (x : Pl.Arg) (f : List (List Str)) (x2 : Option SV) : MS := [some (svA x), some (.own false (.list (f.map tS))), x2, none]
theorem take_snoc {α : Type} {l : List α} {k : Nat} (h : k < l.length) : l.take (k + 1) = l.take k ++ [l[k]] := by
  rw [List.take_succ, List.getElem?_eq_getElem h]; rfl
theorem pw_small {z : List Str} (h : z.length ≤ 8) : (pw z).length ≤ 256 := by
  rw [pw_length]
  exact Nat.pow_le_pow_right (by decide) h
theorem sets_loop {x : Pl.Arg} {z : List Str} (hz : z.length ≤ 8) {body : MX} (hb : ∀ (f : List (List Str)) (h : Str) , (∀ A ∈ f, A.length ≤ 100) → f.length ≤ 256 → body (setsSt x f (some (.dat (.str h)))) = .nx (setsSt x (f ++ f.map (· ++ [h])) (some (.dat (.str h))))) :
    ∃ x2, loopF (gNm 2) body (z.map .str) (setsSt x [[]] none) = .nx (setsSt x (pw z) x2) := by
  obtain ⟨ms', h, x2, e, _⟩ := for_inv (g := gNm 2) (b := body) (fun k ms => ∃ x2, ms = setsSt x (pw (z.take k)) x2 ∧ isLent ms 2 = false) (z.map .str) 0 (setsSt x [[]] none) ⟨none, rfl, rfl⟩ (by
    rintro j hj ms ⟨x2, rfl, hl⟩
    simp only [List.length_map] at hj
    rw [Nat.zero_add] at hl ⊢
    have hle : (z.take j).length ≤ 8 := by rw [List.length_take]; omega
    refine ⟨setsSt x (pw (z.take j)) (some (.dat (.str z[j]))), _, ?_, .inl (hb (pw (z.take j)) z[j] (fun A hA => by have := pw_le A hA; omega) (pw_small hle)), some (.dat (.str z[j])), ?_, rfl⟩
    · rw [List.getElem_map]
      exact gNm_ok hl
    · rw [take_snoc hj, pw_snoc])
  refine ⟨x2, ?_⟩
  rw [h, e, Nat.zero_add, List.length_map, List.take_length]
end Lw

/-! Sr2 -/
set_option Elab.async false
set_option linter.all false
set_option maxRecDepth 100000
set_option maxHeartbeats 1000000
/-! without, sets by the law, rings. -/
namespace Lw
open PySem PySem.Spec PyProof.Rows L2 Pl
theorem law_sets_spec {x : Pl.Arg} {zs : List Str} (hx : HdA zs x) (hl : zs.length ≤ 8) : F__law_sets [x] = .ret (.new (.list ((sets zs).map tS))) (backs [x]) := by
  unfold F__law_sets
  have hz : (srtS zs).length ≤ 8 := by rw [srtS_length]; exact hl
  obtain ⟨x2, hlp⟩ := sets_loop (x := x) hz (body := mSet 1 (mOp2 pAdd (mVar 1) (mLc [3] (fun ms => ((mVar 1) ms).bind srcOf) (gNm 3) mYes (mOp2 pAdd (mVar 3) (mTup (mOne (mVar 2))))))) (fun f h hf hfl => by
    have e := grow_lc (ms := setsSt x f (some (.dat (.str h)))) (f := f) (h := h) rfl rfl rfl hf (by omega)
    have e2 := op2_ev (g := pAdd) (fa := mVar 1) (ms := setsSt x f (some (.dat (.str h)))) (a := .list (f.map tS)) (ev_own (l := false) rfl) (Ev.new e) (addL (by simp only [List.length_map]; omega))
    rw [set_n e2 rfl]
    simp [setsSt])
  refine run1 (r := .new (.list ((sets zs).map tS))) (ms' := setsSt x (pw (srtS zs)) x2) ?_ rfl rfl
  show b__law_sets [some (svA x), none, none, none] = _
  unfold b__law_sets
  rw [seq_nx (ms1 := setsSt x [[]] none) (by rfl)]
  rw [seq_nx ((for_fix (srcFz_new (srt_var (i := 0) rfl (by rw [svD_svA]; exact hx.hd)))).trans hlp)]
  refine ret_of (fun1 (a := .list ((pw (srtS zs)).map tS)) (ev_own (l := false) rfl) ?_)
  exact sorted_sets _
/-- texts that aren't among some -/
def pNo (T : List Str) (d : PyData) : Bool := match d with
  | .str a => !decide (a ∈ T)
  | _ => false
theorem filter_pNo (zs T : List Str) : ((zs.map .str).filter (pNo T)).map id = (zs.filter fun h => !decide (h ∈ T)).map .str := by
  rw [List.map_id, List.filter_map]
  rfl
theorem no_lc {ms : MS} {src : Src} {fi : MS → Out Src} {i : Nat} {fT : ME} {zs T : List Str} {dT : PyData} (h1 : fi ms = .ok src ms) (h2 : SrcIs ms src (zs.map .str)) (h0 : ms[i]? = some none) (hl : zs.length < 100000) (hT : dT = .list (T.map .str) ∨ dT = .tuple (T.map .str)) (hv : ∀ d, Ev fT (ms.set i (some (.dat d))) dT) :
    mLc [i] fi (gNm i) (mB (mOp2 pNotIn (mVar i) fT)) (mVar i) ms = .ok (.new (.list ((zs.filter fun h => !decide (h ∈ T)).map .str))) ms := by
  have := lc_fm (vs := [i]) (g := gNm i) (t := mB (mOp2 pNotIn (mVar i) fT)) (f := mVar i) (pNo T) id h1 h2 (by
    show ms.set i none = ms
    have := set_back (x := none) h0
    rwa [List.set_set] at this) (by rw [List.length_map]; omega) (fun d hd => by
      obtain ⟨a, ha, rfl⟩ := List.mem_map.mp hd
      have hlt : i < ms.length := (List.getElem?_eq_some_iff.mp h0).1
      have mi : (ms.set i (some (.dat (.str a))))[i]? = some (some (.dat (.str a))) := List.getElem?_set_self hlt
      refine t1 h0 (b_of (op2_ev (ev_dat mi) (hv _) (pNotIn_of hT))) fun _ => ⟨.dat (.str a), var_d mi, rfl⟩)
  rw [this, filter_pNo]
theorem without_spec {x y : Pl.Arg} {zs T : List Str} (hx : HdA zs x) (hy : Hd T (aD y)) (hl : zs.length ≤ 100) : F_without [x, y] = .ret (.dat (tS (wo zs T))) (backs [x, y]) := by
  unfold F_without
  refine run2 (r := .dat (tS (wo zs T))) (ms' := [some (svA x), some (svA y), none]) ?_ rfl rfl rfl
  show b_without [some (svA x), some (svA y), none] = _
  unfold b_without
  obtain ⟨src, e1, e2⟩ := src_var (ms := [some (svA x), some (svA y), none]) (i := 0) rfl hx.src
  have := no_lc (i := 2) (fi := fun ms => ((mVar 0) ms).bind srcOf) (fT := mVar 1) (dT := aD y) e1 e2 rfl (by omega) hy (fun d => by
    rw [← svD_svA]
    exact ev_sv (by rfl))
  exact ret_of (fun1_n this rfl)
theorem set_of_spec {d : PyData} {zs : List Str} (h : Hd zs d) : F_set_of [.dat d] = .ret (.dat (tS (srtS zs))) [] := by
  unfold F_set_of
  refine run1 (x := .dat d) (r := .dat (tS (srtS zs))) (ms' := [some (.dat d)]) ?_ rfl rfl
  show b_set_of [some (.dat d)] = _
  unfold b_set_of
  exact ret_of (fun1_n (srt_var (x := .dat d) rfl h) rfl)
theorem law_set_spec {d : PyData} {zs : List Str} (h : Hd zs d) : F__law_set [.dat d] = .ret (.dat (tS (srtS zs))) [] := by
  unfold F__law_set
  refine run1 (x := .dat d) (r := .dat (tS (srtS zs))) (ms' := [some (.dat d)]) ?_ rfl rfl
  show b__law_set [some (.dat d)] = _
  unfold b__law_set
  exact ret_of (fun1_n (srt_var (x := .dat d) rfl h) rfl)
/-! rings -/
theorem flat_le {α β : Type} {f : α → List β} {c : Nat} : ∀ {l : List α}, (∀ a ∈ l, (f a).length ≤ c) → (l.flatMap f).length ≤ l.length * c
  | [], _ => by simp
  | a :: l, h => by
    have h1 := h a (by simp)
    have h2 := flat_le (l := l) (fun b hb => h b (by simp [hb]))
    rw [List.flatMap_cons, List.length_append, List.length_cons, Nat.add_mul]
    omega
def rg (zs T : List Str) : List Rg := (sets (wo zs T)).map fun A => (T, A)
def ringsTo (zs : List Str) (k : Nat) : List Rg := (((sets zs).take k).filter fun T => decide (T.length = 3)).flatMap (rg zs)
theorem wo_le (zs T : List Str) : (wo zs T).length ≤ zs.length := List.length_filter_le _ _
theorem sets_small {zs : List Str} (h : zs.length ≤ 8) : (sets zs).length ≤ 256 := by
  rw [sets_length]
  exact Nat.pow_le_pow_right (by decide) h
theorem rg_small {zs T : List Str} (h : zs.length ≤ 8) : (rg zs T).length ≤ 256 := by
  unfold rg
  rw [List.length_map]
  exact sets_small (Nat.le_trans (wo_le zs T) h)
theorem ringsTo_small {zs : List Str} (h : zs.length ≤ 8) (k : Nat) : (ringsTo zs k).length ≤ 65536 := by
  unfold ringsTo
  have h1 := flat_le (f := rg zs) (c := 256) (l := ((sets zs).take k).filter fun T => decide (T.length = 3)) (fun _ _ => rg_small h)
  have h2 : (((sets zs).take k).filter fun T => decide (T.length = 3)).length ≤ 256 := by
    have q1 := List.length_filter_le (fun T : List Str => decide (T.length = 3)) ((sets zs).take k)
    have q2 : ((sets zs).take k).length ≤ (sets zs).length := by rw [List.length_take]; omega
    have q3 := sets_small h
    omega
  omega
def ringSt (x : Pl.Arg) (R : List Rg) (x2 : Option SV) : MS := [some (svA x), some (.own false (.list (R.map ringD))), x2, none]
end Lw

/-! Sr3 -/
set_option Elab.async false
set_option linter.all false
set_option maxRecDepth 100000
set_option maxHeartbeats 1000000
/-! lets of a ring, how many rings. -/
namespace Lw
open PySem PySem.Spec PyProof.Rows L2 Pl
theorem hd_snoc (A : List Str) (h : Str) : Hd (A ++ [h]) (.tuple (A.map .str ++ [.str h])) := .inr (by simp)
section
variable {ms : MS} {A : List Str} {i j k : Str} {a t : Nat}
theorem setof_at (ha : ms[a]? = some (some (.dat (tS A)))) (ht : ms[t]? = some (some (.dat (.str k)))) (hl : A.length ≤ 100) : mCall F_set_of (mOne (mOp2 pAdd (mVar a) (mTup (mOne (mVar t))))) ms = .ok (.dat (tS (ins A k))) ms := by
  have e : mOp2 pAdd (mVar a) (mTup (mOne (mVar t))) ms = .ok (.dat (.tuple (A.map .str ++ [.str k]))) ms := by
    refine op2_d (var_d ha) (tup_of (one_d (var_d ht)) rfl (by show 1 ≤ SZ; decide)) ?_
    unfold tS
    rw [addT (by simp; omega)]
  exact call1_d e (set_of_spec (hd_snoc A k))
theorem tup3 {a b c : Nat} {x y z : PyData} (h1 : ms[a]? = some (some (.dat x))) (h2 : ms[b]? = some (some (.dat y))) (h3 : ms[c]? = some (some (.dat z))) : mTup (mCons (mVar a) (mCons (mVar b) (mOne (mVar c)))) ms = .ok (.dat (.tuple [x, y, z])) ms :=
  tup_of (cons_d (var_d h1) (cons_d (var_d h2) (one_d (var_d h3)))) rfl (by show 3 ≤ SZ; decide)
theorem tup3f {a b : Nat} {f : ME} {x y z : PyData} (h1 : ms[a]? = some (some (.dat x))) (h2 : ms[b]? = some (some (.dat y))) (h3 : f ms = .ok (.dat z) ms) : mTup (mCons (mVar a) (mCons (mVar b) (mOne f))) ms = .ok (.dat (.tuple [x, y, z])) ms :=
  tup_of (cons_d (var_d h1) (cons_d (var_d h2) (one_d h3))) rfl (by show 3 ≤ SZ; decide)
end
theorem ring_lets_spec {A : List Str} {i j k : Str} (hl : A.length ≤ 100) : F_ring_lets [.dat (tS [i, j, k]), .dat (tS A)] = .ret (.new (.list ((six ([i, j, k], A)).map letD))) [] := by
  unfold F_ring_lets
  obtain ⟨M, hM⟩ : ∃ M : MS, M = [some (.dat (tS [i, j, k])), some (.dat (tS A)), some (.dat (.str i)), some (.dat (.str j)), some (.dat (.str k))] := ⟨_, rfl⟩
  refine run2 (x := .dat (tS [i, j, k])) (y := .dat (tS A)) (r := .new (.list ((six ([i, j, k], A)).map letD))) (ms' := M) ?_ (by rw [hM]; rfl) (by rw [hM]; rfl) rfl
  show b_ring_lets [some (.dat (tS [i, j, k])), some (.dat (tS A)), none, none, none] = _
  unfold b_ring_lets
  rw [seq_nx (ms1 := M) (by rw [hM]; rfl)]
  have m1 : M[1]? = some (some (.dat (tS A))) := by rw [hM]; rfl
  have m2 : M[2]? = some (some (.dat (.str i))) := by rw [hM]; rfl
  have m3 : M[3]? = some (some (.dat (.str j))) := by rw [hM]; rfl
  have m4 : M[4]? = some (some (.dat (.str k))) := by rw [hM]; rfl
  refine ret_of (lst_of (cons_d (tup3 m2 m3 m1) (cons_d (tup3f m2 m4 (setof_at m1 m3 hl)) (cons_d (tup3 m3 m4 m1) (cons_d (tup3f m2 m3 (setof_at m1 m4 hl)) (cons_d (tup3 m2 m4 m1) (one_d (tup3f m3 m4 (setof_at m1 m2 hl)))))))) rfl (by show 6 ≤ SZ; decide))
def insD (A : List Str) (d : PyData) : PyData := match d with
  | .str h => tS (ins A h)
  | d => d
theorem law_ring_spec {A : List Str} {i j k : Str} (hl : A.length ≤ 100) : F__law_ring [.dat (tS [i, j, k]), .dat (tS A)] = .ret (.new (.list ((six ([i, j, k], A)).map letD))) [] := by
  unfold F__law_ring
  obtain ⟨M, hM⟩ : ∃ M : MS, M = [some (.dat (tS [i, j, k])), some (.dat (tS A)), some (.dat (.str i)), some (.dat (.str j)), some (.dat (.str k)), some (.dat (tS (ins A i))), some (.dat (tS (ins A j))), some (.dat (tS (ins A k))), none] := ⟨_, rfl⟩
  obtain ⟨N, hN⟩ : ∃ N : MS, N = [some (.dat (tS [i, j, k])), some (.dat (tS A)), some (.dat (.str i)), some (.dat (.str j)), some (.dat (.str k)), none, none, none, none] := ⟨_, rfl⟩
  refine run2 (x := .dat (tS [i, j, k])) (y := .dat (tS A)) (r := .new (.list ((six ([i, j, k], A)).map letD))) (ms' := M) ?_ (by rw [hM]; rfl) (by rw [hM]; rfl) rfl
  show b__law_ring [some (.dat (tS [i, j, k])), some (.dat (tS A)), none, none, none, none, none, none, none] = _
  unfold b__law_ring
  rw [seq_nx (ms1 := N) (by rw [hN]; rfl)]
  have c : mLc [8] (fun ms => ((mVar 0) ms).bind srcOf) (gNm 8) mYes (mCall F__law_set (mOne (mOp2 pAdd (mVar 1) (mTup (mOne (mVar 8)))))) N = .ok (.new (.list [tS (ins A i), tS (ins A j), tS (ins A k)])) N := by
    have n8 : N[8]? = some none := by rw [hN]; rfl
    have := lc_mp (ms := N) (vs := [8]) (fi := fun ms => ((mVar 0) ms).bind srcOf) (g := gNm 8) (f := mCall F__law_set (mOne (mOp2 pAdd (mVar 1) (mTup (mOne (mVar 8)))))) (src := .fix ([i, j, k].map .str)) (ds := [i, j, k].map .str) (insD A) (by rw [hN]; rfl) (.fix _) (by rw [hN]; rfl) (by show 3 < 1000000; decide) (fun d hd => by
      obtain ⟨h, _, rfl⟩ := List.mem_map.mp hd
      refine t1 n8 rfl fun _ => ⟨.dat (tS (ins A h)), ?_, rfl⟩
      have e : mOp2 pAdd (mVar 1) (mTup (mOne (mVar 8))) (N.set 8 (some (.dat (.str h)))) = .ok (.dat (.tuple (A.map .str ++ [.str h]))) (N.set 8 (some (.dat (.str h)))) := by
        refine op2_d (var_d (d := tS A) (by rw [hN]; rfl)) (tup_of (one_d (var_d (d := .str h) (by rw [hN]; rfl))) rfl (by show 1 ≤ SZ; decide)) ?_
        unfold tS
        rw [addT (by simp; omega)]
      exact call1_d e (law_set_spec (hd_snoc A h)))
    exact this
  rw [seq_nx (ms1 := M) (by simp only [mAsg, c, SO.of_ok, frz]; rw [hN, hM]; rfl)]
  have m1 : M[1]? = some (some (.dat (tS A))) := by rw [hM]; rfl
  have m2 : M[2]? = some (some (.dat (.str i))) := by rw [hM]; rfl
  have m3 : M[3]? = some (some (.dat (.str j))) := by rw [hM]; rfl
  have m4 : M[4]? = some (some (.dat (.str k))) := by rw [hM]; rfl
  have m5 : M[5]? = some (some (.dat (tS (ins A i)))) := by rw [hM]; rfl
  have m6 : M[6]? = some (some (.dat (tS (ins A j)))) := by rw [hM]; rfl
  have m7 : M[7]? = some (some (.dat (tS (ins A k)))) := by rw [hM]; rfl
  refine ret_of (lst_of (cons_d (tup3 m2 m3 m1) (cons_d (tup3 m2 m4 m6) (cons_d (tup3 m3 m4 m1) (cons_d (tup3 m2 m3 m7) (cons_d (tup3 m2 m4 m1) (one_d (tup3 m3 m4 m5))))))) rfl (by show 6 ≤ SZ; decide))
end Lw

/-! Sr4 -/
set_option Elab.async false
set_option linter.all false
set_option maxRecDepth 100000
set_option maxHeartbeats 1000000
/-! the law's own look at rings -/
namespace Lw
open PySem PySem.Spec PyProof.Rows L2 Pl
section
variable {fa fb f : ME} {ms ms1 ms2 : MS} {a b d : PyData} {r ra : Rv} {i : Nat} {t u : MT} {k : Bool}
theorem tru_of (h : f ms = .ok (.dat (.bool k)) ms1) : mTru f ms = .ok k ms1 := by simp [mTru, h, asT, view, pTru]
theorem not_of (h : t ms = .ok k ms1) : mNot t ms = .ok (!k) ms1 := by simp [mNot, h]
theorem or_l (h : t ms = .ok true ms1) : mOr t u ms = .ok true ms1 := by simp [mOr, h]
theorem or_r (h : t ms = .ok false ms1) : mOr t u ms = u ms1 := by simp [mOr, h]
theorem and_l (h : t ms = .ok false ms1) : mAnd t u ms = .ok false ms1 := by simp [mAnd, h]
theorem and_r (h : t ms = .ok true ms1) : mAnd t u ms = u ms1 := by simp [mAnd, h]
theorem isi_of {cs : List String} (h : Ev f ms d) (hd : pIsi cs d = some k) : mIsi cs f ms = .ok (.dat (.bool k)) ms := by
  obtain ⟨r1, e1, v1⟩ := h
  simp [mIsi, e1, v1, hd]
theorem ne_nil_nil : pNe (.list []) (.list []) = dB false := by
  rw [ne_nil (n := 0) (xs := []) (by simp) (by decide)]; simp
theorem eq_nil_nil : pEq (.list []) (.list []) = dB true := by
  rw [eq_nil (n := 0) (xs := []) (by simp) (by decide)]; simp
/-- [..] != [] -/
theorem ne_none' (h : f ms = .ok (.new (.list [])) ms) : mB (mOp2 pNe f (mLst mNil)) ms = .ok false ms := b_of (op2_ev (Ev.new h) (Ev.new (ev_nil ms)) ne_nil_nil)
theorem eq_none' (h : f ms = .ok (.new (.list [])) ms) : mOp2 pEq f (mLst mNil) ms = .ok (.dat (.bool true)) ms := op2_ev (Ev.new h) (Ev.new (ev_nil ms)) eq_nil_nil
/-- a comprehension that lets nothing by -/
theorem lc_no {vs : List Nat} {fi : MS → Out Src} {g : PyData → MS → SO} {t : MT} {src : Src} {ds : List PyData} (h1 : fi ms = .ok src ms) (hsrc : SrcIs ms src ds) (hw : wipeM ms vs = ms) (hz : ds.length < 1000000) (hs : ∀ d ∈ ds, Turn1 vs g t f ms d false d) :
    mLc vs fi g t f ms = .ok (.new (.list [])) ms := by
  have := lc_fm (fun _ => false) id h1 hsrc hw hz hs
  rw [this]
  simp
theorem len_ne {n m : Nat} : pNe (.int (n : Int)) (.int (m : Int)) = dB (decide (n ≠ m)) := by
  rw [ne_of (sh_int 0 _) (sh_int 0 _) (by decide) (by decide), PyData.eqv]
  have : (((n : Int) == m) : Bool) = decide (n = m) := by
    rw [Bool.eq_iff_iff]; simp; omega
  rw [this]; simp
end
theorem ss_lt {A : List Str} (h : SS A) {k : Nat} (hk : k + 1 < A.length) : ltS A[k] A[k + 1] = true := List.pairwise_iff_getElem.mp h k (k + 1) (by omega) hk (by omega)
end Lw

/-! Sr5 -/
set_option Elab.async false
set_option linter.all false
set_option maxRecDepth 100000
set_option maxHeartbeats 1000000
/-! all right; every let -/
namespace Lw
open PySem PySem.Spec PyProof.Rows L2 Pl
theorem dat_set {ms : MS} {i : Nat} {d : PyData} : isLent (ms.set i (some (.dat d))) i = false := by
  unfold isLent
  by_cases h : i < ms.length
  · rw [List.getElem?_set_self h]
  · rw [List.getElem?_eq_none (by rw [List.length_set]; omega)]
theorem toArgs_cons {ms : MS} {r : Rv} {rs : List Rv} {a : Pl.Arg} {as : List Pl.Arg} (h1 : toArg ms r = some a) (h2 : toArgs ms rs = some as) : toArgs ms (r :: rs) = some (a :: as) := by simp only [toArgs, h1, h2]
def arSt (x y : Pl.Arg) (x2 x3 : Option SV) : MS := [some (svA x), some (svA y), x2, x3]
theorem qGt_int (i j : Int) : qGt (.int i) (.int j) = dB (decide (j < i)) := rfl
/-! every let -/
def twosTo (z : List Str) (k : Nat) : List (Str × Str) := (List.range k).flatMap fun j => (z.drop (j + 1)).map fun o => (z.getD j "", o)
theorem twosTo_all (z : List Str) : twosTo z z.length = twos z := by
  induction z with
  | nil => rfl
  | cons a r ih =>
    unfold twosTo at ih ⊢
    rw [List.length_cons, List.range_succ_eq_map, List.flatMap_cons, List.flatMap_map, twos, ← ih]
    rfl
def prD (pq : Str × Str) : PyData := .tuple [.str pq.1, .str pq.2]
theorem twosTo_small {z : List Str} (h : z.length ≤ 8) {k : Nat} (hk : k ≤ 8) : (twosTo z k).length ≤ 64 := by
  unfold twosTo
  have := flat_le (f := fun j => (z.drop (j + 1)).map fun o => (z.getD j "", o)) (c := 8) (l := List.range k) (fun a _ => by simp; omega)
  rw [List.length_range] at this
  omega
def twSt (x : Pl.Arg) (z : List Str) (tw : List (Str × Str)) (x3 : Option SV) : MS := [some (svA x), some (.own false (.list (z.map .str))), some (.own false (.list (tw.map prD))), x3, none]
def twBody : MX := (mDrop (mMut "list" gExtend 2 (mOne (mLc [4] (fun ms => ((mSl (mVar 1) (mPart (mOp2 pAdd (mVar 3) (mC (.int 1)))) mNoPart) ms).bind srcOf) (gNm 4) mYes (mTup (mCons (mOp2 pIx (mVar 1) (mVar 3)) (mOne (mVar 4))))))))
theorem ext_at {ms : MS} {i : Nat} {l : Bool} {ds es : List PyData} {f : ME} (hi : ms[i]? = some (some (.own l (.list ds)))) (hf : f ms = .ok (.new (.list es)) ms) (hl : ds.length + es.length ≤ 1000000) : mDrop (mMut "list" gExtend i (mOne f)) ms = .nx (ms.set i (some (.own l (.list (ds ++ es))))) := by
  have hg : gExtend (.list ds) [.list es] = some (.none, .list (ds ++ es)) := by
    simp only [gExtend]
    rw [if_pos (Nat.le_trans hl (by decide))]
  refine drop_nx (r := .dat .none) ?_
  simp [mMut, isOwnT, hi, tyN, mOne, hf, Pl.settle, frzs, frz, hg]
theorem cutD_from {α : Type} (xs : List α) (k : Nat) : Pl.cutD xs (some (k : Int)) none = xs.drop k := by
  unfold Pl.cutD
  rw [HT.sIx_nat, HT.sIx_none]
  rw [List.take_of_length_le (by simp)]
  by_cases h : k ≤ xs.length
  · rw [Nat.min_eq_left h]
  · rw [Nat.min_eq_right (by omega), List.drop_of_length_le (by simp), List.drop_of_length_le (by omega)]
theorem twos_spec {x : Pl.Arg} {zs : List Str} (hx : Hd zs (aD x)) (hl : zs.length ≤ 8) : F__law_twos [x] = .ret (.new (.list ((twos (srtS zs)).map prD))) (backs [x]) := by
  unfold F__law_twos
  obtain ⟨z, hz⟩ : ∃ z, z = srtS zs := ⟨_, rfl⟩
  have hzl : z.length ≤ 8 := by rw [hz, srtS_length]; exact hl
  have step : ∀ (tw : List (Str × Str)) (k : Nat) (hk : k < z.length), tw.length ≤ 64 → twBody (twSt x z tw (some (.dat (.int (k : Int))))) = .nx (twSt x z (tw ++ (z.drop (k + 1)).map fun o => (z.getD k "", o)) (some (.dat (.int (k : Int))))) := by
    intro tw k hk htw
    obtain ⟨N, hN⟩ : ∃ N : MS, N = twSt x z tw (some (.dat (.int (k : Int)))) := ⟨_, rfl⟩
    rw [← hN]
    have n1 : Ev (mVar 1) N (.list (z.map .str)) := by rw [hN]; exact ev_own (l := false) rfl
    have n3 : Ev (mVar 3) N (.int (k : Int)) := by rw [hN]; exact ev_dat rfl
    have e1 := op2_ev (g := pAdd) (r := .dat (.int ((k + 1 : Nat) : Int))) n3 (ev_c (d := .int 1)) (by rw [Int.natCast_add]; rfl)
    have e2 : mSl (mVar 1) (mPart (mOp2 pAdd (mVar 3) (mC (.int 1)))) mNoPart N = .ok (.new (.list ((z.drop (k + 1)).map .str))) N := by
      refine sl_ev n1 (sl_part (Ev.of e1)) sl_none ?_
      simp only [pSl]
      rw [cutD_from, List.map_drop]
    have c := lc_mp (ms := N) (vs := [4]) (fi := fun ms => ((mSl (mVar 1) (mPart (mOp2 pAdd (mVar 3) (mC (.int 1)))) mNoPart) ms).bind srcOf) (g := gNm 4) (f := mTup (mCons (mOp2 pIx (mVar 1) (mVar 3)) (mOne (mVar 4)))) (fun d => .tuple [.str (z.getD k ""), d]) (src_new e2) (.fix _) (by rw [hN]; rfl) (by simp; omega) (fun d hd => by
      refine t1 (by rw [hN]; rfl) rfl fun _ => ⟨.dat (.tuple [.str (z.getD k ""), d]), ?_, rfl⟩
      have e3 := op2_ev (g := pIx) (ms := N.set 4 (some (.dat d))) (fa := mVar 1) (fb := mVar 3) (a := .list (z.map .str)) (b := .int (k : Int)) (by rw [hN]; exact ev_own (l := false) rfl) (by rw [hN]; exact ev_dat rfl) (ix_list _ _ (by rw [List.length_map]; exact hk))
      rw [List.getElem_map, show z[k] = z.getD k "" from by simp [hk]] at e3
      exact tup_of (cons_d e3 (one_d (var_d (by rw [hN]; rfl)))) rfl (by show 2 ≤ SZ; decide))
    unfold twBody
    rw [ext_at (i := 2) (l := false) (ds := tw.map prD) (by rw [hN]; rfl) c (by simp; omega), hN]
    simp [twSt, prD, Function.comp_def]
  obtain ⟨ms', h, x3, e, _⟩ := for_inv (g := gNm 3) (b := twBody) (fun k ms => ∃ x3, ms = twSt x z (twosTo z k) x3 ∧ isLent ms 3 = false) (rgInts 0 z.length) 0 (twSt x z [] none) ⟨none, rfl, rfl⟩ (by
    rintro j hj ms ⟨x3, rfl, hl3⟩
    simp only [rgInts, List.length_map, List.length_range] at hj
    rw [Nat.zero_add] at hl3 ⊢
    refine ⟨twSt x z (twosTo z j) (some (.dat (.int (j : Int)))), _, ?_, .inl (step (twosTo z j) j hj (twosTo_small hzl (by omega))), some (.dat (.int (j : Int))), ?_, rfl⟩
    · have e : (rgInts 0 z.length)[j]'(by simpa [rgInts] using hj) = .int (j : Int) := by simp [rgInts]
      rw [e]
      exact gNm_ok hl3
    · unfold twosTo
      rw [List.range_succ, List.flatMap_append]
      simp)
  rw [show 0 + (rgInts 0 z.length).length = z.length from by simp [rgInts], twosTo_all] at e
  rw [e] at h
  rw [← hz]
  refine run1 (r := .slot 2) (ms' := twSt x z (twos z) x3) ?_ rfl rfl
  show b__law_twos [some (svA x), none, none, none, none] = _
  unfold b__law_twos
  have s0 : mFun pSorted (mOne (mVar 0)) [some (svA x), none, none, none, none] = .ok (.new (.list (z.map .str))) [some (svA x), none, none, none, none] := by
    rw [hz]
    exact srt_var (i := 0) rfl (by rw [svD_svA]; exact hx)
  rw [seq_nx (set_n s0 rfl)]
  rw [seq_nx (ms1 := twSt x z [] none) (by rfl)]
  have ln : mFun pLenS (mOne (mVar 1)) (twSt x z [] none) = .ok (.dat (.int ((z.length : Nat) : Int))) (twSt x z [] none) := by
    refine fun1 (a := .list (z.map .str)) (ev_own (l := false) rfl) ?_
    rw [len_list, List.length_map]
    rfl
  have hlp := (for_fix (fi := fun ms => ((mOne (mFun pLenS (mOne (mVar 1)))) ms).bind rng1) (g := gNm 3) (b := twBody) (rng_of ln (by omega))).trans h
  unfold twBody at hlp
  rw [seq_nx hlp]
  exact ret_of rfl
def evSt (x : Pl.Arg) (E : List Let) (x2 x3 : Option SV) : MS := [some (svA x), some (.own false (.list (E.map letD))), x2, x3, none, none]
def evBody : MX := (mDrop (mMut "list" gExtend 1 (mOne (mLc [4] (fun ms => ((mCall F__law_sets (mOne (mLc [5] (fun ms => ((mVar 0) ms).bind srcOf) (gNm 5) (mB (mOp2 pNotIn (mVar 5) (mTup (mCons (mVar 2) (mOne (mVar 3)))))) (mVar 5)))) ms).bind srcOf) (gNm 4) mYes (mTup (mCons (mVar 2) (mCons (mVar 3) (mOne (mVar 4)))))))))
def evOf (zs : List Str) (pq : Str × Str) : List Let := (sets (wo2 zs pq.1 pq.2)).map fun B => (pq.1, pq.2, B)
theorem wo2_le (zs : List Str) (p q : Str) : (wo2 zs p q).length ≤ zs.length := List.length_filter_le _ _
theorem evOf_small {zs : List Str} (h : zs.length ≤ 8) (pq : Str × Str) : (evOf zs pq).length ≤ 256 := by
  unfold evOf
  rw [List.length_map]
  exact sets_small (Nat.le_trans (wo2_le zs _ _) h)
def evTo (zs : List Str) (k : Nat) : List Let := ((twos (srtS zs)).take k).flatMap (evOf zs)
theorem twos_len {z : List Str} (h : z.length ≤ 8) : (twos z).length ≤ 64 := by
  rw [← twosTo_all]
  exact twosTo_small h h
theorem evTo_small {zs : List Str} (h : zs.length ≤ 8) (k : Nat) : (evTo zs k).length ≤ 16384 := by
  unfold evTo
  have h1 := flat_le (f := evOf zs) (c := 256) (l := (twos (srtS zs)).take k) (fun pq _ => evOf_small h pq)
  have h2 := twos_len (z := srtS zs) (by rw [srtS_length]; exact h)
  rw [List.length_take] at h1
  omega
theorem every_spec {x : Pl.Arg} {zs : List Str} (hx : HdA zs x) (hl : zs.length ≤ 8) : F__law_every_let [x] = .ret (.new (.list ((every zs).map letD))) (backs [x]) := by
  unfold F__law_every_let
  have step : ∀ (E : List Let) (p q : Str), E.length ≤ 16384 → evBody (evSt x E (some (.dat (.str p))) (some (.dat (.str q)))) = .nx (evSt x (E ++ evOf zs (p, q)) (some (.dat (.str p))) (some (.dat (.str q)))) := by
    intro E p q hE
    obtain ⟨N, hN⟩ : ∃ N : MS, N = evSt x E (some (.dat (.str p))) (some (.dat (.str q))) := ⟨_, rfl⟩
    rw [← hN]
    obtain ⟨src, e1, e2⟩ := src_var (ms := N) (i := 0) (x := svA x) (by rw [hN]; rfl) hx.src
    have c1 := no_lc (ms := N) (i := 5) (fi := fun ms => ((mVar 0) ms).bind srcOf) (fT := mTup (mCons (mVar 2) (mOne (mVar 3)))) (T := [p, q]) (dT := .tuple [.str p, .str q]) e1 e2 (by rw [hN]; rfl) (by omega) (.inr rfl) (fun d => by
      refine Ev.of (tup_of (cons_d (var_d (d := .str p) (by rw [hN]; rfl)) (one_d (var_d (d := .str q) (by rw [hN]; rfl)))) rfl (by show 2 ≤ SZ; decide)))
    have c2 := call1_n (F := F__law_sets) c1 (law_sets_spec (x := .dat (.list ((wo2 zs p q).map .str))) (zs := wo2 zs p q) (HdA.tup (.inl rfl)) (Nat.le_trans (wo2_le zs p q) hl))
    have c3 := lc_mp (ms := N) (vs := [4]) (fi := fun ms => ((mCall F__law_sets (mOne (mLc [5] (fun ms => ((mVar 0) ms).bind srcOf) (gNm 5) (mB (mOp2 pNotIn (mVar 5) (mTup (mCons (mVar 2) (mOne (mVar 3)))))) (mVar 5)))) ms).bind srcOf) (g := gNm 4) (f := mTup (mCons (mVar 2) (mCons (mVar 3) (mOne (mVar 4))))) (fun d => .tuple [.str p, .str q, d]) (src_new c2) (.fix _) (by rw [hN]; rfl) (by rw [List.length_map]; have := sets_small (Nat.le_trans (wo2_le zs p q) hl); omega) (fun d hd => by
      refine t1 (by rw [hN]; rfl) rfl fun _ => ⟨.dat (.tuple [.str p, .str q, d]), ?_, rfl⟩
      exact tup_of (cons_d (var_d (by rw [hN]; rfl)) (cons_d (var_d (by rw [hN]; rfl)) (one_d (var_d (by rw [hN]; rfl))))) rfl (by show 3 ≤ SZ; decide))
    unfold evBody
    rw [ext_at (i := 1) (l := false) (ds := E.map letD) (by rw [hN]; rfl) c3 (by
      have := sets_small (Nat.le_trans (wo2_le zs p q) hl)
      simp only [List.length_map]
      omega), hN]
    simp [evSt, evOf, letD, Function.comp_def]
  obtain ⟨ms', h, x2, x3, e, _, _⟩ := for_inv (g := gSeq 2 (gsCons (gNm 2) (gsCons (gNm 3) gsNil))) (b := evBody) (fun k ms => ∃ x2 x3, ms = evSt x (evTo zs k) x2 x3 ∧ isLent ms 2 = false ∧ isLent ms 3 = false) ((twos (srtS zs)).map prD) 0 (evSt x [] none none) ⟨none, none, rfl, rfl, rfl⟩ (by
    rintro j hj ms ⟨x2, x3, rfl, hl2, hl3⟩
    simp only [List.length_map] at hj
    rw [Nat.zero_add] at hl2 hl3 ⊢
    obtain ⟨pq, hpq⟩ : ∃ pq, pq = (twos (srtS zs))[j] := ⟨_, rfl⟩
    refine ⟨evSt x (evTo zs j) (some (.dat (.str pq.1))) (some (.dat (.str pq.2))), _, ?_, .inl (step (evTo zs j) pq.1 pq.2 (evTo_small hl j)), some (.dat (.str pq.1)), some (.dat (.str pq.2)), ?_, rfl, rfl⟩
    · rw [List.getElem_map, ← hpq]
      show (gNm 2 (.str pq.1) (evSt x (evTo zs j) x2 x3)).then (gsCons (gNm 3) gsNil [.str pq.2]) = _
      rw [gNm_ok hl2]
      show (gNm 3 (.str pq.2) (evSt x (evTo zs j) (some (.dat (.str pq.1))) x3)).then (gsNil []) = _
      rw [gNm_ok (by exact hl3)]
      rfl
    · unfold evTo
      rw [take_snoc hj, List.flatMap_append, ← hpq]
      simp)
  rw [Nat.zero_add, List.length_map] at e
  have e2 : evTo zs (twos (srtS zs)).length = every zs := by unfold evTo every; rw [List.take_length]; rfl
  rw [e2] at e
  rw [e] at h
  refine run1 (r := .slot 1) (ms' := evSt x (every zs) x2 x3) ?_ rfl rfl
  show b__law_every_let [some (svA x), none, none, none, none, none] = _
  unfold b__law_every_let
  rw [seq_nx (ms1 := evSt x [] none none) (by rfl)]
  have c0 : mCall F__law_twos (mOne (mVar 0)) (evSt x [] none none) = .ok (.new (.list ((twos (srtS zs)).map prD))) (evSt x [] none none) := by
    refine call1_v (i := 0) (x := svA x) rfl ?_
    rw [argOf_svA]
    exact twos_spec hx.hd hl
  unfold evBody at h
  rw [seq_nx ((for_fix (srcFz_new c0)).trans h)]
  exact ret_of rfl
end Lw

/-! Sr6 -/
set_option Elab.async false
set_option linter.all false
set_option maxRecDepth 100000
set_option maxHeartbeats 1000000
/-! the pen; hands handed in; counts in a dict; loops over lists of one's own -/
namespace Lw
open PySem PySem.Spec PyProof.Rows L2 Pl
theorem listed_spec {n : Nat} {p : PyData} {zs : List Str} (hp : Pn n p) (hn : n < 900000000) (hl : zs.length ≤ 100) :
    ∃ (p' d : PyData) (ys : List Str), F__law_listed [.lnt p, .lnt (.list (zs.map .str))] = .ret (.dat d) [p', .list (zs.map .str)] ∧ Hd ys d ∧ ys.Perm zs ∧ Pn (n + zs.length + 1) p' := by
  obtain ⟨p1, ws, h1, hw, hp1⟩ := shuffled_spec (x := .lnt (.list (zs.map .str))) (ds := zs.map .str) hp (.inl rfl) (by rw [List.length_map]; omega) (by rw [List.length_map]; omega) (fun y hy => by
    obtain ⟨a, _, rfl⟩ := List.mem_map.mp hy; exact sh_str _ _)
  obtain ⟨ys, py, rfl⟩ := perm_map_inv PyData.str hw _ rfl
  rw [List.length_map] at hp1
  obtain ⟨L, hL⟩ : ∃ L, L = zs.map PyData.str := ⟨_, rfl⟩
  rw [← hL] at h1 ⊢
  obtain ⟨Y, hY⟩ : ∃ Y, Y = ys.map PyData.str := ⟨_, rfl⟩
  rw [← hY] at h1
  have c1 : mCall F__law_shuffled (mCons (mVar 0) (mOne (mVar 1))) [some (.own true p), some (.own true (.list L)), none] = .ok (.new (.list Y)) [some (.own true p1), some (.own true (.list L)), none] := by
    simp [mCall, mCons, mOne, mVar, Pl.settle, callOut, lentOf, nodupB, toArgs, toArg, h1, putBack, aB]
  obtain ⟨z, p2, d1, hz, hp2⟩ := draw_at (ms := [some (.own true p1), some (.own true (.list L)), some (.dat (.list Y))]) (i := 0) (m := 2) (f := mC (.int 2)) rfl rfl hp1 (by omega) (by omega) (by omega)
  have c2 : mLst (mCons (mVar 2) (mOne (mFun pTuple (mOne (mVar 2))))) [some (.own true p1), some (.own true (.list L)), some (.own false (.list Y))] = .ok (.new (.list [.list Y, .tuple Y])) [some (.own true p1), some (.own true (.list L)), some (.dat (.list Y))] := by
    refine lst_of (ms1 := [some (.own true p1), some (.own true (.list L)), some (.own false (.list Y))]) (rs := [.slot 2, .dat (.tuple Y)]) (ds := [.list Y, .tuple Y]) ?_ ?_ (by show 2 ≤ SZ; decide)
    · rfl
    · rfl
  have c3 := op2_n (g := pIx) c2 d1 (ix_list _ z (by simpa using hz))
  have hd : Hd ys ([PyData.list Y, .tuple Y][z]'(by simpa using hz)) := by
    have : z = 0 ∨ z = 1 := by omega
    rcases this with rfl | rfl
    · exact .inl (by rw [hY]; rfl)
    · exact .inr (by rw [hY]; rfl)
  obtain ⟨d, hd'⟩ : ∃ d, d = [PyData.list Y, .tuple Y][z]'(by simpa using hz) := ⟨_, rfl⟩
  rw [← hd'] at c3 hd
  refine ⟨p2, d, ys, ?_, hd, py, hp2⟩
  have run : b__law_listed [some (.own true p), some (.own true (.list L)), none] = .rt (.dat d) [some (.own true p2), some (.own true (.list L)), some (.dat (.list Y))] := by
    unfold b__law_listed
    rw [seq_nx (set_n c1 rfl)]
    exact ret_of c3
  unfold F__law_listed runF
  rw [show initMS 3 [.lnt p, .lnt (.list L)] = [some (.own true p), some (.own true (.list L)), none] from rfl, run]
  rfl
/-! counts -/
def cE (E : List Let) (c : Let → Nat) : List (PyData × PyData) := E.map fun l => (letD l, .int (c l : Int))
def cD (E : List Let) (c : Let → Nat) : PyData := .dict (cE E c)
theorem eqv_let (l m : Let) : PyData.eqv (letD l) (letD m) = decide (l = m) := by
  rw [Bool.eq_iff_iff, eqv_iff (st_letD l), decide_eq_true_eq]
  exact ⟨letD_inj, fun e => by rw [e]⟩
theorem dOk_cE (E : List Let) (c : Let → Nat) (l : Let) : dOk (cE E c) (letD l) = true := by
  have : (cE E c).all (fun p => kind1 p.1) = true := by
    rw [List.all_eq_true]
    intro p hp
    obtain ⟨m, _, rfl⟩ := List.mem_map.mp hp
    exact kind1_letD m
  simp only [dOk, kind1_letD, this]
  simp
theorem find_cE {E : List Let} {c : Let → Nat} {l : Let} (h : l ∈ E) : dLook (cE E c) (letD l) = some (.int (c l : Int)) := by
  unfold dLook cE
  induction E with
  | nil => cases h
  | cons m E ih =>
    rw [List.map_cons, List.find?_cons]
    simp only [eqv_let]
    by_cases e : m = l
    · subst e; simp
    · rw [decide_eq_false e]
      exact ih (by
        rcases List.mem_cons.mp h with q | q
        · exact absurd q.symm e
        · exact q)
theorem look_cD {E : List Let} {c : Let → Nat} {l : Let} (h : l ∈ E) : pIx (cD E c) (letD l) = some (.dat (.int (c l : Int))) := by
  have e1 : pIx (cD E c) (letD l) = if dOk (cE E c) (letD l) = true then (dLook (cE E c) (letD l)).map .dat else none := rfl
  rw [e1, if_pos (dOk_cE E c l), find_cE h]
  rfl
theorem put_cD {E : List Let} {c : Let → Nat} {l : Let} {v : Nat} (h : l ∈ E) (hz : E.length < 1000000) : gPut (cD E c) (letD l) (.int (v : Int)) = some (cD E fun m => if m = l then v else c m) := by
  have hz' : (cE E c).length < SZ := by unfold cE; rw [List.length_map]; exact Nat.lt_trans hz (by decide)
  show (if dOk (cE E c) (letD l) = true ∧ (cE E c).length < SZ then some (PyData.dict (dPut (cE E c) (letD l) (.int v))) else none) = _
  rw [if_pos ⟨dOk_cE E c l, hz'⟩]
  unfold dPut
  have ha : (cE E c).any (fun p => PyData.eqv p.1 (letD l)) = true := by
    rw [List.any_eq_true]
    exact ⟨_, List.mem_map.mpr ⟨l, h, rfl⟩, by rw [eqv_let]; simp⟩
  rw [if_pos ha]
  unfold cD cE
  rw [List.map_map]
  congr 3
  funext m
  simp only [Function.comp_def, eqv_let]
  by_cases e : m = l <;> simp [e]
theorem pairs_cE : ∀ (E E0 : List Let), (E0 ++ E).Nodup → pairsD (E.map fun l => .tuple [letD l, .int 0]) (cE E0 fun _ => 0) = some (cE (E0 ++ E) fun _ => 0)
  | [], E0, _ => by simp [pairsD]
  | l :: E, E0, h => by
    rw [List.map_cons, pairsD, if_pos (kind1_letD l)]
    have hn : ¬ (cE E0 fun _ => 0).any (fun p => PyData.eqv p.1 (letD l)) = true := by
      rw [List.any_eq_true]
      rintro ⟨p, hp, he⟩
      obtain ⟨m, hm, rfl⟩ := List.mem_map.mp hp
      rw [eqv_let, decide_eq_true_eq] at he
      subst he
      exact (List.nodup_append.mp h).2.2 m hm m (by simp) rfl
    have : dPut (cE E0 fun _ => 0) (letD l) (.int 0) = cE (E0 ++ [l]) fun _ => 0 := by
      unfold dPut
      rw [if_neg hn]
      simp [cE]
    rw [this, pairs_cE E (E0 ++ [l]) (by simpa using h)]
    simp
theorem dict_cD {E : List Let} (h : E.Nodup) : pDict [.list (E.map fun l => .tuple [letD l, .int 0])] = some (.new (cD E fun _ => 0)) := by
  show (pairsD (E.map fun l => .tuple [letD l, .int 0]) []).map _ = _
  have := pairs_cE E [] (by simpa using h)
  have e0 : (cE [] fun _ => 0) = [] := rfl
  rw [e0] at this
  rw [this]
  rfl
/-! loops over lists of one's own -/
theorem flag_self {ms : MS} {j : Nat} {l : Bool} {d : PyData} (h : ms[j]? = some (some (.own true d))) : flagM ms j l = ms.set j (some (.own l d)) := by
  unfold flagM; rw [h]
theorem loopL_inv {g : PyData → MS → SO} {b : MX} {j : Nat} {ds : List PyData} (I : Nat → MS → Prop) (hI : ∀ k ms, I k ms → ms[j]? = some (some (.own true (.list ds))))
    (step : ∀ (k : Nat) (hk : k < ds.length) (ms : MS), I k ms → ∃ ms1 ms2, g ds[k] ms = .nx ms1 ∧ (b ms1 = .nx ms2 ∨ b ms1 = .ct ms2) ∧ I (k + 1) ms2) :
    ∀ (m k n : Nat) (ms : MS), k + m = ds.length → m < n → I k ms → ∃ ms', loopL g b j n k ms = .nx ms' ∧ I ds.length ms' := by
  intro m
  induction m with
  | zero =>
    intro k n ms hk hn hi
    obtain ⟨n, rfl⟩ : ∃ n', n = n' + 1 := ⟨n - 1, by omega⟩
    have e : ds[k]? = none := List.getElem?_eq_none (by omega)
    exact ⟨ms, by simp [loopL, hI k ms hi, e], by rw [← hk]; exact hi⟩
  | succ m ih =>
    intro k n ms hk hn hi
    obtain ⟨n, rfl⟩ : ∃ n', n = n' + 1 := ⟨n - 1, by omega⟩
    have hlt : k < ds.length := by omega
    obtain ⟨ms1, ms2, e1, e2, h2⟩ := step k hlt ms hi
    obtain ⟨ms', e3, h3⟩ := ih (k + 1) n ms2 (by omega) (by omega) h2
    refine ⟨ms', ?_, h3⟩
    have e : ds[k]? = some ds[k] := List.getElem?_eq_getElem hlt
    have s : loopL g b j (n + 1) k ms = (g ds[k] ms).then fun ms1 => again (b ms1) (loopL g b j n (k + 1)) := by simp [loopL, hI k ms hi, e]
    rw [s, e1, SO.then_nx]
    rcases e2 with e2 | e2 <;> rw [e2] <;> exact e3
theorem forV_inv {g : PyData → MS → SO} {b : MX} {j : Nat} {ds : List PyData} {l : Bool} {ms : MS} (h : ms[j]? = some (some (.own l (.list ds)))) (hz : ds.length < 1000000) (I : Nat → MS → Prop) (h0 : I 0 (ms.set j (some (.own true (.list ds))))) (hI : ∀ k ms, I k ms → ms[j]? = some (some (.own true (.list ds))))
    (step : ∀ (k : Nat) (hk : k < ds.length) (ms : MS), I k ms → ∃ ms1 ms2, g ds[k] ms = .nx ms1 ∧ (b ms1 = .nx ms2 ∨ b ms1 = .ct ms2) ∧ I (k + 1) ms2) :
    ∃ ms', mForV j g b ms = .nx (ms'.set j (some (.own l (.list ds)))) ∧ I ds.length ms' := by
  obtain ⟨ms', e, h2⟩ := loopL_inv I hI step ds.length 0 lcN _ (by omega) (by unfold lcN; omega) h0
  refine ⟨ms', ?_, h2⟩
  have s : mForV j g b ms = back j l (loopL g b j lcN 0 (ms.set j (some (.own true (.list ds))))) := by simp [mForV, h]
  rw [s, e]
  show SO.nx (flagM ms' j l) = _
  rw [flag_self (hI _ _ h2)]
theorem rings_perm {ys zs : List Str} (h : ys.Perm zs) : ringsL ys = ringsL zs := by
  have h1 : sets ys = sets zs := by unfold sets; rw [srtS_perm_eq h]
  have h2 : ∀ T, sets (wo ys T) = sets (wo zs T) := fun T => by
    have q : (wo ys T).Perm (wo zs T) := h.filter _
    unfold sets
    rw [srtS_perm_eq q]
  unfold ringsL threes
  rw [h1]
  congr 1
  funext T
  rw [h2]
/-- a comprehension whose own names are wiped first -/
theorem lc_mp2 {ms ms1 ms2 : MS} {f : ME} {vs : List Nat} {fi : MS → Out Src} {g : PyData → MS → SO} {ds : List PyData} (F : PyData → PyData) (h1 : fi ms = .ok (.fix ds) ms1) (hw : wipeM ms1 vs = ms2) (hz : ds.length < 1000000) (hs : ∀ d ∈ ds, Turn1 vs g mYes f ms2 d true (F d)) :
    mLc vs fi g mYes f ms = .ok (.new (.list (ds.map F))) ms2 := by
  have hz' : ds.length < SZ := Nat.lt_trans hz (by decide)
  refine mlc_eq h1 ?_
  show lcF vs g mYes f ds [] (wipeM ms1 vs) = _
  rw [hw, lcF_fm (fun _ => true) F ds [] (by simpa using hz') hs, List.nil_append, List.filter_eq_self.mpr (fun _ _ => rfl)]
theorem lc_no2 {ms ms1 ms2 : MS} {f : ME} {vs : List Nat} {fi : MS → Out Src} {g : PyData → MS → SO} {t : MT} {ds : List PyData} (h1 : fi ms = .ok (.fix ds) ms1) (hw : wipeM ms1 vs = ms2) (hz : ds.length < 1000000) (hs : ∀ d ∈ ds, Turn1 vs g t f ms2 d false d) :
    mLc vs fi g t f ms = .ok (.new (.list [])) ms2 := by
  have hz' : ds.length < SZ := Nat.lt_trans hz (by decide)
  refine mlc_eq h1 ?_
  show lcF vs g t f ds [] (wipeM ms1 vs) = _
  rw [hw, lcF_fm (fun _ => false) id ds [] (by simpa using hz') hs]
  simp
end Lw

/-! Sr7 -/
set_option Elab.async false
set_option linter.all false
set_option maxRecDepth 100000
set_option maxHeartbeats 1000000
/-! the law: its rings are counted -/
namespace Lw
open PySem PySem.Spec PyProof.Rows L2 Pl
def isL : Option SV → Bool
  | some (.own true _) => true
  | _ => false
section
variable {fa fb f : ME} {ms ms1 ms2 : MS} {a b d : PyData} {r ra : Rv} {i j : Nat}
theorem isLent_of {x : Option SV} (h : ms[i]? = some x) : isLent ms i = isL x := by
  unfold isLent isL
  rw [h]
  rcases x with _ | (_ | ⟨_ | _, _⟩) <;> rfl
theorem set_same {x : Option SV} (h : ms[i]? = some x) : ms.set i x = ms := by
  apply List.ext_getElem?
  intro k
  by_cases hk : i = k
  · subst hk
    rw [List.getElem?_set_self (List.getElem?_eq_some_iff.mp h).1, h]
  · rw [List.getElem?_set_ne hk]
theorem callP_d {F : Pl.Fn} {l : Bool} {p p' : PyData} (hi : ms[i]? = some (some (.own l p))) (hf : f ms = .ok (.dat d) ms) (hF : F [.lnt p, .dat d] = .ret r [p']) : mCall F (mCons (mVar i) (mOne f)) ms = .ok r (ms.set i (some (.own l p'))) := by
  simp [mCall, mCons, mOne, mVar, hi, hf, Pl.settle, callOut, lentOf, nodupB, toArgs, toArg, hF, putBack]
theorem callP_v {F : Pl.Fn} {l l2 : Bool} {p p' : PyData} (hi : ms[i]? = some (some (.own l p))) (hj : ms[j]? = some (some (.own l2 d))) (hij : i ≠ j) (hF : F [.lnt p, .lnt d] = .ret r [p', d]) : mCall F (mCons (mVar i) (mOne (mVar j))) ms = .ok r (ms.set i (some (.own l p'))) := by
  have h2 : (ms.set i (some (.own l p')))[j]? = some (some (.own l2 d)) := by rw [List.getElem?_set_ne hij]; exact hj
  have h3 := set_same h2
  simp [mCall, mCons, mOne, mVar, hi, hj, Pl.settle, callOut, lentOf, nodupB, hij, toArgs, toArg, hF, putBack, h2, h3]
theorem put_ok {l : Bool} {dk dv d' : PyData} {fk fv : ME} (hv : fv ms = .ok (.dat dv) ms) (hi : ms[i]? = some (some (.own l d))) (hk : fk ms = .ok (.dat dk) ms) (hg : gPut d dk dv = some d') : mPut i fk fv ms = .nx (ms.set i (some (.own l d'))) := by
  simp [mPut, hv, SO.of_ok, frz, hi, hk, hg]
theorem ne_self {n : Nat} (h : Sh n d) (hn : n < 60) : pNe d d = dB false := by
  rw [ne_of h h hn hn, PySem.SeqAt.eqv_refl_plain d h.1]
  rfl
end
theorem sh_lets (S : List Let) : Sh 3 (.list (S.map letD)) := sh_list (n := 2) (fun x hx => by obtain ⟨l, _, rfl⟩ := List.mem_map.mp hx; exact sh_letD l)
theorem sh_rings (R : List Rg) : Sh 3 (.list (R.map ringD)) := sh_list (n := 2) (fun x hx => by obtain ⟨l, _, rfl⟩ := List.mem_map.mp hx; exact sh_ringD l)
theorem sh_strs (zs : List Str) : Sh 1 (.list (zs.map .str)) := sh_list (n := 0) (fun x hx => by obtain ⟨l, _, rfl⟩ := List.mem_map.mp hx; exact sh_str _ _)
/-- the state in which rings are walked -/
def OS (y0 y1 y2 y3 y4 y5 y6 : Option SV) (RD : List PyData) (fl : Bool) (E : List Let) (c : Let → Nat) (x9 x10 x11 x12 x13 : Option SV) : MS :=
  [y0, y1, y2, y3, y4, y5, y6, some (.own fl (.list RD)), some (.own false (cD E c)), x9, x10, x11, x12, x13]
def bIn : MX := (mPut 8 (mVar 9) (mOp2 pAdd (mOp2 pIx (mVar 8) (mVar 9)) (mC (.int 1))))
def bOut : MX := (mSeq (mSet 12 (mCall F_ring_lets (mCons (mVar 10) (mOne (mVar 11)))))
    (mSeq (mIf (mOr (mNot (mTru (mIsi ["list"] (mVar 12)))) (mB (mOp2 pNe (mVar 12) (mCall F__law_ring (mCons (mVar 10) (mOne (mVar 11))))))) (mRet (mC (.bool false))) mSkip)
    (mSeq (mForV 12 (gNm 9) bIn)
    (mSeq (mDrop (mMut "list" gClear 12 mNil))
    (mIf (mB (mOp2 pNe (mCall F_ring_lets (mCons (mVar 10) (mOne (mVar 11)))) (mCall F__law_ring (mCons (mVar 10) (mOne (mVar 11)))))) (mRet (mC (.bool false))) mSkip)))))
section
variable {y0 y1 y2 y3 y4 y5 y6 x13 : Option SV} {RD : List PyData} {E : List Let}
theorem in_step {c : Let → Nat} {l : Let} {x10 x11 x12 : Option SV} (hl : l ∈ E) (hz : E.length < 1000000) :
    bIn (OS y0 y1 y2 y3 y4 y5 y6 RD true E c (some (.dat (letD l))) x10 x11 x12 x13) = .nx (OS y0 y1 y2 y3 y4 y5 y6 RD true E (fun m => if m = l then c l + 1 else c m) (some (.dat (letD l))) x10 x11 x12 x13) := by
  obtain ⟨N, hN⟩ : ∃ N : MS, N = OS y0 y1 y2 y3 y4 y5 y6 RD true E c (some (.dat (letD l))) x10 x11 x12 x13 := ⟨_, rfl⟩
  rw [← hN]
  have n8 : N[8]? = some (some (.own false (cD E c))) := by rw [hN]; rfl
  have n9 : N[9]? = some (some (.dat (letD l))) := by rw [hN]; rfl
  have e1 := op2_ev (g := pIx) (ev_own n8) (ev_dat n9) (look_cD hl)
  have e2 := op2_ev (g := pAdd) (r := .dat (.int ((c l + 1 : Nat) : Int))) (Ev.of e1) (ev_c (d := .int 1)) (by rw [Int.natCast_add]; rfl)
  unfold bIn
  rw [put_ok e2 n8 (var_d n9) (put_cD hl hz), hN]
  rfl
theorem in_loop {c : Let → Nat} {S : List Let} {x9 x10 x11 : Option SV} (h9 : isL x9 = false) (hS : ∀ l ∈ S, l ∈ E) (hz : E.length < 1000000) (hs : S.length < 1000000) :
    ∃ x9', mForV 12 (gNm 9) bIn (OS y0 y1 y2 y3 y4 y5 y6 RD true E c x9 x10 x11 (some (.own false (.list (S.map letD)))) x13) = .nx (OS y0 y1 y2 y3 y4 y5 y6 RD true E (fun m => c m + S.count m) x9' x10 x11 (some (.own false (.list (S.map letD)))) x13) ∧ isL x9' = false := by
  obtain ⟨ms', h, x9', e, h9'⟩ := forV_inv (g := gNm 9) (b := bIn) (j := 12) (ds := S.map letD) (l := false) (ms := OS y0 y1 y2 y3 y4 y5 y6 RD true E c x9 x10 x11 (some (.own false (.list (S.map letD)))) x13) rfl (by rw [List.length_map]; exact hs)
    (fun k ms => ∃ x9, ms = OS y0 y1 y2 y3 y4 y5 y6 RD true E (fun m => c m + (S.take k).count m) x9 x10 x11 (some (.own true (.list (S.map letD)))) x13 ∧ isL x9 = false) ⟨x9, by simp [OS], h9⟩ (by rintro k ms ⟨x9, rfl, _⟩; rfl) (by
      rintro k hk ms ⟨x9, rfl, h9⟩
      rw [List.length_map] at hk
      rw [List.getElem_map]
      refine ⟨OS y0 y1 y2 y3 y4 y5 y6 RD true E (fun m => c m + (S.take k).count m) (some (.dat (letD S[k]))) x10 x11 (some (.own true (.list (S.map letD)))) x13, _, gNm_ok (by rw [isLent_of (x := x9) rfl]; exact h9), .inl (in_step (hS _ (List.getElem_mem _)) hz), some (.dat (letD S[k])), ?_, rfl⟩
      have ef : (fun m => if m = S[k] then c S[k] + (S.take k).count S[k] + 1 else c m + (S.take k).count m) = fun m => c m + (S.take (k + 1)).count m := by
        funext m
        rw [take_snoc hk, List.count_append, List.count_singleton]
        by_cases e : m = S[k]
        · subst e; simp; omega
        · have : ¬ S[k] = m := fun z => e z.symm
          simp [e, this]
      rw [ef])
  rw [List.length_map, List.take_length] at e
  refine ⟨x9', ?_, h9'⟩
  rw [h, e]
  rfl
end
end Lw

/-! Sr8 -/
set_option Elab.async false
set_option linter.all false
set_option maxRecDepth 100000
set_option maxHeartbeats 1000000
/-! the law: the walk over the rings -/
namespace Lw
open PySem PySem.Spec PyProof.Rows L2 Pl
section
variable {y0 y1 y2 y3 y4 y5 y6 x13 : Option SV} {RD : List PyData} {E : List Let}
theorem clear_at {ms : MS} {i : Nat} {l : Bool} {ds : List PyData} (hi : ms[i]? = some (some (.own l (.list ds)))) : mDrop (mMut "list" gClear i mNil) ms = .nx (ms.set i (some (.own l (.list [])))) := by
  refine drop_nx (r := .dat .none) ?_
  simp [mMut, isOwnT, hi, tyN, mNil, frzs, gClear]
theorem out_step {c : Let → Nat} {i j k : Str} {A : List Str} {x9 x12 : Option SV} (h9 : isL x9 = false) (h12 : isL x12 = false) (hA : A.length ≤ 100) (hS : ∀ l ∈ six ([i, j, k], A), l ∈ E) (hz : E.length < 1000000) :
    ∃ x9', bOut (OS y0 y1 y2 y3 y4 y5 y6 RD true E c x9 (some (.dat (tS [i, j, k]))) (some (.dat (tS A))) x12 x13) = .nx (OS y0 y1 y2 y3 y4 y5 y6 RD true E (fun m => c m + (six ([i, j, k], A)).count m) x9' (some (.dat (tS [i, j, k]))) (some (.dat (tS A))) (some (.own false (.list []))) x13) ∧ isL x9' = false := by
  obtain ⟨S, hSe⟩ : ∃ S, S = six ([i, j, k], A) := ⟨_, rfl⟩
  have r1 := ring_lets_spec (i := i) (j := j) (k := k) hA
  have r2 := law_ring_spec (i := i) (j := j) (k := k) hA
  rw [← hSe] at r1 r2 hS ⊢
  have hs : S.length < 1000000 := by rw [hSe]; show 6 < 1000000; decide
  obtain ⟨T, hT⟩ : ∃ T, T = tS [i, j, k] := ⟨_, rfl⟩
  obtain ⟨B, hB⟩ : ∃ B, B = tS A := ⟨_, rfl⟩
  rw [← hT, ← hB] at r1 r2 ⊢
  have call1 : ∀ ms : MS, ms[10]? = some (some (.dat T)) → ms[11]? = some (some (.dat B)) → mCall F_ring_lets (mCons (mVar 10) (mOne (mVar 11))) ms = .ok (.new (.list (S.map letD))) ms := fun ms h1 h2 => call2_v h1 h2 (by decide) r1
  have call2 : ∀ ms : MS, ms[10]? = some (some (.dat T)) → ms[11]? = some (some (.dat B)) → mCall F__law_ring (mCons (mVar 10) (mOne (mVar 11))) ms = .ok (.new (.list (S.map letD))) ms := fun ms h1 h2 => call2_v h1 h2 (by decide) r2
  unfold bOut
  rw [seq_nx (ms1 := OS y0 y1 y2 y3 y4 y5 y6 RD true E c x9 (some (.dat T)) (some (.dat B)) (some (.own false (.list (S.map letD)))) x13) (by
    rw [set_n (call1 _ rfl rfl) (by rw [isLent_of (x := x12) rfl]; exact h12)]; rfl)]
  obtain ⟨N, hN⟩ : ∃ N : MS, N = OS y0 y1 y2 y3 y4 y5 y6 RD true E c x9 (some (.dat T)) (some (.dat B)) (some (.own false (.list (S.map letD)))) x13 := ⟨_, rfl⟩
  have n12 : N[12]? = some (some (.own false (.list (S.map letD)))) := by rw [hN]; rfl
  have t : (mOr (mNot (mTru (mIsi ["list"] (mVar 12)))) (mB (mOp2 pNe (mVar 12) (mCall F__law_ring (mCons (mVar 10) (mOne (mVar 11))))))) N = .ok false N := by
    rw [or_r (not_of (k := true) (tru_of (isi_of (ev_own n12) rfl)))]
    exact b_of (op2_ev (ev_own n12) (Ev.new (call2 N (by rw [hN]; rfl) (by rw [hN]; rfl))) (ne_self (sh_lets S) (by decide)))
  rw [← hN, seq_nx (ms1 := N) (by rw [if_f t]; rfl), hN]
  obtain ⟨x9', e, h9'⟩ := in_loop (y0 := y0) (y1 := y1) (y2 := y2) (y3 := y3) (y4 := y4) (y5 := y5) (y6 := y6) (x13 := x13) (RD := RD) (c := c) (S := S) (x9 := x9) (x10 := some (.dat T)) (x11 := some (.dat B)) h9 hS hz hs
  rw [seq_nx e]
  obtain ⟨N2, hN2⟩ : ∃ N : MS, N = OS y0 y1 y2 y3 y4 y5 y6 RD true E (fun m => c m + S.count m) x9' (some (.dat T)) (some (.dat B)) (some (.own false (.list []))) x13 := ⟨_, rfl⟩
  rw [seq_nx (ms1 := N2) (by rw [clear_at (l := false) (ds := S.map letD) rfl, hN2]; rfl)]
  have t2 : (mB (mOp2 pNe (mCall F_ring_lets (mCons (mVar 10) (mOne (mVar 11)))) (mCall F__law_ring (mCons (mVar 10) (mOne (mVar 11)))))) N2 = .ok false N2 :=
    b_of (op2_ev (Ev.new (call1 N2 (by rw [hN2]; rfl) (by rw [hN2]; rfl))) (Ev.new (call2 N2 (by rw [hN2]; rfl) (by rw [hN2]; rfl))) (ne_self (sh_lets S) (by decide)))
  refine ⟨x9', ?_, h9'⟩
  rw [if_f t2, hN2]
  rfl
theorem out_loop {R : List Rg} {x9 x10 x11 x12 : Option SV} (h9 : isL x9 = false) (h10 : isL x10 = false) (h11 : isL x11 = false) (h12 : isL x12 = false)
    (hR : ∀ r ∈ R, (∃ i j k, r.1 = [i, j, k]) ∧ r.2.length ≤ 100 ∧ ∀ l ∈ six r, l ∈ E) (hl : R.length < 1000000) (hz : E.length < 1000000) :
    ∃ x9' x10' x11' x12', mForV 7 (gSeq 2 (gsCons (gNm 10) (gsCons (gNm 11) gsNil))) bOut (OS y0 y1 y2 y3 y4 y5 y6 (R.map ringD) false E (fun _ => 0) x9 x10 x11 x12 x13) = .nx (OS y0 y1 y2 y3 y4 y5 y6 (R.map ringD) false E (fun m => (R.flatMap six).count m) x9' x10' x11' x12' x13) ∧ isL x9' = false ∧ isL x10' = false ∧ isL x11' = false ∧ isL x12' = false := by
  obtain ⟨ms', h, x9', x10', x11', x12', e, q9, q10, q11, q12⟩ := forV_inv (g := gSeq 2 (gsCons (gNm 10) (gsCons (gNm 11) gsNil))) (b := bOut) (j := 7) (ds := R.map ringD) (l := false) (ms := OS y0 y1 y2 y3 y4 y5 y6 (R.map ringD) false E (fun _ => 0) x9 x10 x11 x12 x13) rfl (by rw [List.length_map]; exact hl)
    (fun k ms => ∃ x9 x10 x11 x12, ms = OS y0 y1 y2 y3 y4 y5 y6 (R.map ringD) true E (fun m => ((R.take k).flatMap six).count m) x9 x10 x11 x12 x13 ∧ isL x9 = false ∧ isL x10 = false ∧ isL x11 = false ∧ isL x12 = false) ⟨x9, x10, x11, x12, by simp [OS], h9, h10, h11, h12⟩ (by rintro k ms ⟨x9, x10, x11, x12, rfl, _⟩; rfl) (by
      rintro k hk ms ⟨x9, x10, x11, x12, rfl, h9, h10, h11, h12⟩
      rw [List.length_map] at hk
      rw [List.getElem_map]
      obtain ⟨⟨i, j, m, hT⟩, hA, hS⟩ := hR R[k] (List.getElem_mem _)
      obtain ⟨A, hAe⟩ : ∃ A, A = R[k].2 := ⟨_, rfl⟩
      have hr : R[k] = ([i, j, m], A) := by rw [hAe, ← hT]
      rw [hr] at hS hA ⊢
      obtain ⟨x9', e, h9'⟩ := out_step (y0 := y0) (y1 := y1) (y2 := y2) (y3 := y3) (y4 := y4) (y5 := y5) (y6 := y6) (x13 := x13) (RD := R.map ringD) (E := E) (c := fun m => ((R.take k).flatMap six).count m) (i := i) (j := j) (k := m) (A := A) h9 h12 hA hS hz
      refine ⟨_, _, ?_, .inl e, x9', some (.dat (tS [i, j, m])), some (.dat (tS A)), some (.own false (.list [])), ?_, h9', rfl, rfl, rfl⟩
      · show (gNm 10 (tS [i, j, m]) _).then (gsCons (gNm 11) gsNil [tS A]) = _
        rw [gNm_ok (by rw [isLent_of (x := x10) rfl]; exact h10)]
        show (gNm 11 (tS A) (OS y0 y1 y2 y3 y4 y5 y6 (R.map ringD) true E (fun m => ((R.take k).flatMap six).count m) x9 (some (.dat (tS [i, j, m]))) x11 x12 x13)).then (gsNil []) = _
        rw [gNm_ok (by rw [isLent_of (x := x11) rfl]; exact h11)]
        rfl
      · have ef : (fun m' => ((R.take k).flatMap six).count m' + (six ([i, j, m], A)).count m') = fun m' => ((R.take (k + 1)).flatMap six).count m' := by
          funext m'
          rw [take_snoc hk, List.flatMap_append, List.count_append, hr]
          simp
        rw [ef])
  rw [List.length_map, List.take_length] at e
  refine ⟨x9', x10', x11', x12', ?_, q9, q10, q11, q12⟩
  rw [h, e]
  rfl
end
end Lw

/-! Sr9 -/
set_option Elab.async false
set_option linter.all false
set_option maxRecDepth 100000
set_option maxHeartbeats 1000000
/-! the law k23 -/
namespace Lw
open PySem PySem.Spec PyProof.Rows L2 Pl
theorem cutD_to {α : Type} (xs : List α) (k : Nat) : Pl.cutD xs none (some (k : Int)) = xs.take k := by
  unfold Pl.cutD
  rw [HT.sIx_nat, HT.sIx_none, List.drop_zero, Nat.sub_zero]
  by_cases h : k ≤ xs.length
  · rw [Nat.min_eq_left h]
  · rw [Nat.min_eq_right (by omega), List.take_of_length_le (by omega), List.take_of_length_le (by omega)]
theorem pen_spec (ns : List Int) : ∃ p, F__law_pen [.dat (roD (ns.map .int))] = .ret (.new p) [] ∧ Pn 0 p := by
  refine ⟨penD (ns.take 63) 0 0, ?_, ns.take 63, 0, 0, rfl, Nat.le_refl _, by rw [List.length_take]; omega⟩
  have e1 : mSl (mVar 0) mNoPart (mPart (mC (.int 63))) [some (.dat (roD (ns.map .int)))] = .ok (.new (.list ((ns.take 63).map .int))) [some (.dat (roD (ns.map .int)))] := by
    refine sl_ev (ev_dat rfl) sl_none (sl_part (z := 63) ev_c) ?_
    show some (Rv.new (.list (Pl.cutD (ns.map PyData.int) none (some ((63 : Nat) : Int))))) = _
    rw [cutD_to, List.map_take]
  have e2 : mFun pList (mOne (mSl (mVar 0) mNoPart (mPart (mC (.int 63))))) [some (.dat (roD (ns.map .int)))] = .ok (.new (.list ((ns.take 63).map .int))) [some (.dat (roD (ns.map .int)))] := fun1_n e1 rfl
  unfold F__law_pen
  refine run1 (x := .dat (roD (ns.map .int))) (r := .new (penD (ns.take 63) 0 0)) (ms' := [some (.dat (roD (ns.map .int)))]) ?_ rfl rfl
  show b__law_pen [some (.dat (roD (ns.map .int)))] = _
  unfold b__law_pen
  refine ret_of ?_
  simp only [mDict, mPCons, mC, Out.bind_ok, frz, e2, mPNil]
  rfl
def LS (s p x2 x3 x4 x5 x6 x7 x8 x9 x10 x11 x12 x13 : Option SV) : MS := [s, p, x2, x3, x4, x5, x6, x7, x8, x9, x10, x11, x12, x13]
def k3 : MX := mSet 3 (mOp2 pAdd (mC (.int 1)) (mCall F__law_draw (mCons (mVar 1) (mOne (mC (.int 8))))))
def k4 : MX := mSet 4 (mCall F__law_hands (mCons (mVar 1) (mOne (mVar 3))))
def k5 : MX := mSet 5 (mCall F__law_listed (mCons (mVar 1) (mOne (mVar 4))))
def k6 : MX := mSet 6 (mFun pList (mOne (mVar 5)))
def k10 : MX := mSet 8 (mFun pDict (mOne (mLc [9] (fun ms => ((mCall F__law_every_let (mOne (mVar 4))) ms).bind srcOf) (gNm 9) mYes (mTup (mCons (mVar 9) (mOne (mC (.int 0))))))))
def k11 : MX := mForV 7 (gSeq 2 (gsCons (gNm 10) (gsCons (gNm 11) gsNil))) bOut
def k12 : MX := mIf (mB (mOp2 pNe (mLc [9] (fun ms => ((mVar 8) ms).bind srcKz) (gNm 9) (mB (mOp2 pNe (mOp2 pIx (mVar 8) (mVar 9)) (mOp2 pSub (mVar 3) (mC (.int 2))))) (mVar 9)) (mLst mNil))) (mRet (mC (.bool false))) mSkip
def k13 : MX := mSet 13 (mFun pList (mOne (mVar 7)))
def k14 : MX := mDrop (mMut "list" gAppend 7 (mOne (mC .none)))
section
variable {s x2 x3 x4 x5 x6 x7 x8 x9 x10 x11 x12 x13 : Option SV} {n m : Nat} {p d : PyData} {zs ys : List Str}
theorem k3_ok (hp : Pn n p) (hn : n < 100000) (h3 : isL x3 = false) : ∃ (m : Nat) (p' : PyData), k3 (LS s (some (.own false p)) x2 x3 x4 x5 x6 x7 x8 x9 x10 x11 x12 x13) = .nx (LS s (some (.own false p')) x2 (some (.dat (.int (m : Int)))) x4 x5 x6 x7 x8 x9 x10 x11 x12 x13) ∧ 1 ≤ m ∧ m ≤ 8 ∧ Pn (n + 1) p' := by
  obtain ⟨z, p', h, hz, hp'⟩ := draw_at (ms := LS s (some (.own false p)) x2 x3 x4 x5 x6 x7 x8 x9 x10 x11 x12 x13) (i := 1) (m := 8) (f := mC (.int 8)) rfl rfl hp (by omega) (by omega) (by omega)
  refine ⟨z + 1, p', ?_, by omega, by omega, hp'⟩
  have e := op2_d (g := pAdd) (fa := mC (.int 1)) (a := .int 1) (r := .dat (.int ((z + 1 : Nat) : Int))) rfl h (by show some (Rv.dat (.int (1 + (z : Int)))) = _; congr 3; omega)
  unfold k3
  rw [set_d e (by rw [isLent_of (x := x3) rfl]; exact h3)]
  rfl
theorem k4_ok (hp : Pn n p) (hn : n < 100000) (hm : m ≤ 8) (h4 : isL x4 = false) : ∃ (zs : List Str) (p' : PyData), k4 (LS s (some (.own false p)) x2 (some (.dat (.int (m : Int)))) x4 x5 x6 x7 x8 x9 x10 x11 x12 x13) = .nx (LS s (some (.own false p')) x2 (some (.dat (.int (m : Int)))) (some (.own false (.list (zs.map .str)))) x5 x6 x7 x8 x9 x10 x11 x12 x13) ∧ zs.length = m ∧ Hands zs ∧ Pn (n + 13) p' := by
  obtain ⟨zs, p', h, hz, hh, hp'⟩ := hands_spec (m := m) hp (by omega) hm
  refine ⟨zs, p', ?_, hz, hh, hp'⟩
  unfold k4
  rw [set_n (callP_d (i := 1) (l := false) rfl (var_d (i := 3) rfl) h) (by rw [isLent_of (x := x4) rfl]; exact h4)]
  rfl
theorem k5_ok (hp : Pn n p) (hn : n < 100000) (hl : zs.length ≤ 8) (h5 : isL x5 = false) : ∃ (p' d : PyData) (ys : List Str), k5 (LS s (some (.own false p)) x2 x3 (some (.own false (.list (zs.map .str)))) x5 x6 x7 x8 x9 x10 x11 x12 x13) = .nx (LS s (some (.own false p')) x2 x3 (some (.own false (.list (zs.map .str)))) (some (.dat d)) x6 x7 x8 x9 x10 x11 x12 x13) ∧ Hd ys d ∧ ys.Perm zs ∧ Pn (n + zs.length + 1) p' := by
  obtain ⟨p', d, ys, h, hd, hy, hp'⟩ := listed_spec (zs := zs) hp (by omega) (by omega)
  refine ⟨p', d, ys, ?_, hd, hy, hp'⟩
  unfold k5
  rw [set_d (callP_v (i := 1) (j := 4) (l := false) (l2 := false) rfl rfl (by decide) h) (by rw [isLent_of (x := x5) rfl]; exact h5)]
  rfl
theorem list_of {ms : MS} {i : Nat} (h : ms[i]? = some (some (.dat d))) (hd : Hd ys d) : mFun pList (mOne (mVar i)) ms = .ok (.new (.list (ys.map .str))) ms := by
  refine fun1 (ev_dat h) ?_
  rcases hd with rfl | rfl <;> rfl
theorem k6_ok (hd : Hd ys d) (h6 : isL x6 = false) : k6 (LS s (some (.own false p)) x2 x3 x4 (some (.dat d)) x6 x7 x8 x9 x10 x11 x12 x13) = .nx (LS s (some (.own false p)) x2 x3 x4 (some (.dat d)) (some (.own false (.list (ys.map .str)))) x7 x8 x9 x10 x11 x12 x13) := by
  unfold k6
  rw [set_n (list_of (i := 5) rfl hd) (by rw [isLent_of (x := x6) rfl]; exact h6)]
  rfl
theorem k10_ok (nd : zs.Nodup) (hl : zs.length ≤ 8) (h8 : isL x8 = false) : k10 (LS s (some (.own false p)) x2 x3 (some (.own false (.list (zs.map .str)))) x5 x6 x7 x8 x9 x10 x11 x12 x13) = .nx (LS s (some (.own false p)) x2 x3 (some (.own false (.list (zs.map .str)))) x5 x6 x7 (some (.own false (cD (every zs) fun _ => 0))) none x10 x11 x12 x13) := by
  have hE : (every zs).length < 1000000 := by
    have h1 : every zs = evTo zs (twos (srtS zs)).length := by unfold evTo every; rw [List.take_length]; rfl
    have h2 := evTo_small hl (twos (srtS zs)).length
    rw [h1]; omega
  obtain ⟨M, hM⟩ : ∃ M : MS, M = LS s (some (.own false p)) x2 x3 (some (.own false (.list (zs.map .str)))) x5 x6 x7 x8 x9 x10 x11 x12 x13 := ⟨_, rfl⟩
  obtain ⟨N, hN⟩ : ∃ M : MS, M = LS s (some (.own false p)) x2 x3 (some (.own false (.list (zs.map .str)))) x5 x6 x7 x8 none x10 x11 x12 x13 := ⟨_, rfl⟩
  have c1 : mCall F__law_every_let (mOne (mVar 4)) M = .ok (.new (.list ((every zs).map letD))) M := call1_v (i := 4) (x := .own false (.list (zs.map .str))) (by rw [hM]; rfl) (every_spec (x := .lnt (.list (zs.map .str))) (.inl rfl) hl)
  have n9 : N[9]? = some none := by rw [hN]; rfl
  have c2 := lc_mp2 (ms := M) (ms1 := M) (ms2 := N) (vs := [9]) (fi := fun ms => ((mCall F__law_every_let (mOne (mVar 4))) ms).bind srcOf) (g := gNm 9) (f := mTup (mCons (mVar 9) (mOne (mC (.int 0))))) (fun d => .tuple [d, .int 0]) (src_new c1) (by rw [hM, hN]; rfl) (by rw [List.length_map]; exact hE) (fun d hd => by
    have hlt : 9 < N.length := (List.getElem?_eq_some_iff.mp n9).1
    refine t1 n9 rfl fun _ => ⟨.dat (.tuple [d, .int 0]), ?_, rfl⟩
    exact tup_of (cons_d (var_d (List.getElem?_set_self hlt)) (one_d rfl)) rfl (by show 2 ≤ SZ; decide))
  rw [List.map_map] at c2
  have c3 : mFun pDict (mOne (mLc [9] (fun ms => ((mCall F__law_every_let (mOne (mVar 4))) ms).bind srcOf) (gNm 9) mYes (mTup (mCons (mVar 9) (mOne (mC (.int 0))))))) M = .ok (.new (cD (every zs) fun _ => 0)) N := fun1_n c2 (dict_cD (every_nodup nd))
  unfold k10
  rw [← hM, set_n c3 (by rw [hN, isLent_of (x := x8) rfl]; exact h8), hN]
  rfl
theorem k12_ok {E : List Let} {c : Let → Nat} (hc : ∀ l ∈ E, (c l : Int) = (m : Int) - 2) (hE : E.length < 1000000) : k12 (LS s (some (.own false p)) x2 (some (.dat (.int (m : Int)))) x4 x5 x6 x7 (some (.own false (cD E c))) x9 x10 x11 x12 x13) = .nx (LS s (some (.own false p)) x2 (some (.dat (.int (m : Int)))) x4 x5 x6 x7 (some (.dat (cD E c))) none x10 x11 x12 x13) := by
  obtain ⟨M, hM⟩ : ∃ M : MS, M = LS s (some (.own false p)) x2 (some (.dat (.int (m : Int)))) x4 x5 x6 x7 (some (.own false (cD E c))) x9 x10 x11 x12 x13 := ⟨_, rfl⟩
  obtain ⟨M1, hM1⟩ : ∃ M : MS, M = LS s (some (.own false p)) x2 (some (.dat (.int (m : Int)))) x4 x5 x6 x7 (some (.dat (cD E c))) x9 x10 x11 x12 x13 := ⟨_, rfl⟩
  obtain ⟨N, hN⟩ : ∃ M : MS, M = LS s (some (.own false p)) x2 (some (.dat (.int (m : Int)))) x4 x5 x6 x7 (some (.dat (cD E c))) none x10 x11 x12 x13 := ⟨_, rfl⟩
  have m8 : M[8]? = some (some (.own false (.dict (cE E c)))) := by rw [hM]; rfl
  have hk : keysK (cE E c) = true := by
    unfold keysK cE
    rw [List.all_eq_true]
    intro q hq
    obtain ⟨l, _, rfl⟩ := List.mem_map.mp hq
    exact kind1_letD l
  have e1 : ((mVar 8) M).bind srcKz = .ok (.fix (E.map letD)) M1 := by
    have : mVar 8 M = .ok (.slot 8) M := by simp [mVar, m8]
    rw [this, Out.bind_ok]
    simp only [srcKz, m8]
    rw [if_pos hk]
    have e2 : (cE E c).map (·.1) = E.map letD := by unfold cE; rw [List.map_map]; rfl
    rw [e2, hM, hM1]
    rfl
  have n9 : N[9]? = some none := by rw [hN]; rfl
  have hlt : 9 < N.length := (List.getElem?_eq_some_iff.mp n9).1
  have c2 := lc_no2 (ms := M) (ms1 := M1) (ms2 := N) (vs := [9]) (fi := fun ms => ((mVar 8) ms).bind srcKz) (g := gNm 9) (t := mB (mOp2 pNe (mOp2 pIx (mVar 8) (mVar 9)) (mOp2 pSub (mVar 3) (mC (.int 2))))) (f := mVar 9) e1 (by rw [hM1, hN]; rfl) (by rw [List.length_map]; exact hE) (fun d hd => by
    obtain ⟨l, hl, rfl⟩ := List.mem_map.mp hd
    refine t1 n9 ?_ (fun z => by cases z)
    obtain ⟨N2, hN2⟩ : ∃ M : MS, M = N.set 9 (some (.dat (letD l))) := ⟨_, rfl⟩
    rw [← hN2]
    have q8 : Ev (mVar 8) N2 (cD E c) := ev_dat (by rw [hN2, hN]; rfl)
    have q9 : Ev (mVar 9) N2 (letD l) := ev_dat (by rw [hN2, hN]; rfl)
    have q3 : Ev (mVar 3) N2 (.int (m : Int)) := ev_dat (by rw [hN2, hN]; rfl)
    have f1 := op2_ev (g := pIx) q8 q9 (look_cD hl)
    have f2 := op2_ev (g := pSub) (r := .dat (.int ((m : Int) - 2))) q3 (ev_c (d := .int 2)) rfl
    rw [← hc l hl] at f2
    exact b_of (op2_ev (Ev.of f1) (Ev.of f2) (ne_self (sh_int 0 _) (by decide))))
  have c3 : mB (mOp2 pNe (mLc [9] (fun ms => ((mVar 8) ms).bind srcKz) (gNm 9) (mB (mOp2 pNe (mOp2 pIx (mVar 8) (mVar 9)) (mOp2 pSub (mVar 3) (mC (.int 2))))) (mVar 9)) (mLst mNil)) M = .ok false N := by
    refine b_of (ms1 := N) ?_
    simp only [mOp2, c2, Out.bind_ok, ev_nil, app2, view, ne_nil_nil]
    rfl
  unfold k12
  rw [← hM, if_f c3, ← hN]
  rfl
theorem k13_ok {R : List PyData} (h13 : isL x13 = false) : k13 (LS s (some (.own false p)) x2 x3 x4 x5 x6 (some (.own false (.list R))) x8 x9 x10 x11 x12 x13) = .nx (LS s (some (.own false p)) x2 x3 x4 x5 x6 (some (.own false (.list R))) x8 x9 x10 x11 x12 (some (.own false (.list R)))) := by
  have e : mFun pList (mOne (mVar 7)) (LS s (some (.own false p)) x2 x3 x4 x5 x6 (some (.own false (.list R))) x8 x9 x10 x11 x12 x13) = .ok (.new (.list R)) (LS s (some (.own false p)) x2 x3 x4 x5 x6 (some (.own false (.list R))) x8 x9 x10 x11 x12 x13) := fun1 (ev_own (l := false) (d := .list R) rfl) rfl
  unfold k13
  rw [set_n e (by rw [isLent_of (x := x13) rfl]; exact h13)]
  rfl
theorem k14_ok {R : List PyData} (hl : R.length < 1000000) : k14 (LS s (some (.own false p)) x2 x3 x4 x5 x6 (some (.own false (.list R))) x8 x9 x10 x11 x12 x13) = .nx (LS s (some (.own false p)) x2 x3 x4 x5 x6 (some (.own false (.list (R ++ [.none])))) x8 x9 x10 x11 x12 x13) := by
  unfold k14
  rw [drop_nx (mut_one (T := "list") (g := gAppend) (i := 7) (l := false) (d := .list R) (f := mC .none) rfl rfl rfl rfl (gApp_at (Nat.lt_trans hl (by decide))))]
  rfl
end
end Lw

/-! St1 -/
set_option Elab.async false
set_option linter.all false
set_option maxRecDepth 100000
set_option maxHeartbeats 1000000
/-! the program's look at hands: good ones pass -/
namespace Lw
open PySem PySem.Spec PyProof.Rows L2 Pl
theorem l26_mem {c : Nat} (h1 : 97 ≤ c) (h2 : c ≤ 122) : c ∈ L26.cps.toList := by
  have e : L26.cps.toList = (List.range 26).map (97 + ·) := by decide +kernel
  rw [e, List.mem_map]
  exact ⟨c - 97, List.mem_range.mpr (by omega), by omega⟩
theorem chain_tt {g g' : PyData → PyData → Option Rv} {fa fb fc : ME} {ms : MS} {a b c : PyData} (ha : Ev fa ms a) (hb : Ev fb ms b) (hc : Ev fc ms c) (h1 : g a b = dB true) (h2 : g' b c = dB true) : mChain g g' fa fb fc ms = .ok (.dat (.bool true)) ms := by
  obtain ⟨r1, e1, v1⟩ := ha
  obtain ⟨r2, e2, v2⟩ := hb
  obtain ⟨r3, e3, v3⟩ := hc
  simp [mChain, e1, e2, e3, app2, v1, v2, v3, h1, h2, dB, asB]
theorem all_true {n : Nat} {xs : List PyData} (h : xs = List.replicate n (.bool true)) : pAll [.list xs] = dB true := by
  subst h
  have : ∀ n, boolsOf (List.replicate n (PyData.bool true)) = some (List.replicate n true) := by
    intro n
    induction n with
    | zero => rfl
    | succ n ih => simp [List.replicate_succ, boolsOf, ih]
  simp [pAll, this, dB]
theorem map_const {α β : Type} (l : List α) (b : β) : (l.map fun _ => b) = List.replicate l.length b := by
  induction l with
  | nil => rfl
  | cons a l ih => rw [List.map_cons, ih]; rfl
theorem qLe_int (i j : Int) : qLe (.int i) (.int j) = dB (decide (i ≤ j)) := rfl
theorem is_hand_spec {z : Str} (h : IsHand z) : F_is_hand [.dat (.str z)] = .ret (.dat (.bool true)) [] := by
  unfold F_is_hand
  obtain ⟨M, hM⟩ : ∃ M : MS, M = [some (.dat (.str z)), none] := ⟨_, rfl⟩
  refine run1 (x := .dat (.str z)) (r := .dat (.bool true)) (ms' := M) ?_ (by rw [hM]; rfl) rfl
  show b_is_hand [some (.dat (.str z)), none] = _
  rw [← hM]
  have v0 : M[0]? = some (some (.dat (.str z))) := by rw [hM]; rfl
  have hz : z.cps.size ≤ SZ := Nat.le_trans h.2.1 (by decide)
  have e1 : mFun pLenS (mOne (mVar 0)) M = .ok (.dat (.int (z.cps.size : Int))) M := fun1 (ev_dat v0) (by simp [pLenS, pLen, Str.length, hz, dI])
  have h1 := h.1
  have h2 := h.2.1
  have c1 : mChain qLe qLe (mC (.int 1)) (mFun pLenS (mOne (mVar 0))) (mC (.int 8)) M = .ok (.dat (.bool true)) M :=
    chain_tt (ev_c (d := .int 1)) (Ev.of e1) (ev_c (d := .int 8)) (by rw [qLe_int, decide_eq_true (by omega)]) (by rw [qLe_int, decide_eq_true (by omega)])
  unfold b_is_hand
  rw [seq_nx (ms1 := M) (by
    rw [if_f]
    · rfl
    · rw [or_r (not_of (k := true) (tru_of (isi_of (ev_dat v0) rfl)))]
      exact not_of (k := true) (b_of c1))]
  have c2 := lc_mp (ms := M) (vs := [1]) (fi := fun ms => ((mVar 0) ms).bind srcOf) (g := gNm 1) (f := mOp2 pIn (mVar 1) (mC (.str "abcdefghijklmnopqrstuvwxyz"))) (src := .fix (Pl.signs z)) (ds := Pl.signs z) (fun _ => .bool true) (by rw [hM]; rfl) (.fix _) (by rw [hM]; rfl) (by simp [Pl.signs]; omega) (fun d hd => by
    obtain ⟨c, hc, rfl⟩ := List.mem_map.mp hd
    refine t1 (by rw [hM]; rfl) rfl fun _ => ⟨.dat (.bool true), ?_, rfl⟩
    refine op2_ev (a := .str ⟨#[c]⟩) (b := .str L26) (ev_dat (by rw [hM]; rfl)) ⟨_, rfl, rfl⟩ ?_
    have := h.2.2 c hc
    simp only [pIn, hasIn]
    rw [decide_eq_true (l26_mem this.1 this.2)]
    rfl)
  rw [map_const] at c2
  exact ret_of (fun1_n c2 (all_true rfl))
/-- a set of texts is made -/
theorem set_cm {ms : MS} {i : Nat} {zs : List Str} (h0 : ms[i]? = some none) (nd : zs.Nodup) (hl : zs.length < 1000) : cmF [i] (gNm i) mYes (stepS (mVar i)) (zs.map .str) (stD []) ms = .ok (stD (zs.map .str)) ms := by
  have key : ∀ (r a : List Str), (a ++ r).Nodup → (a ++ r).length < 1000 → cmF [i] (gNm i) mYes (stepS (mVar i)) (r.map .str) (stD (a.map .str)) ms = .ok (stD ((a ++ r).map .str)) ms := by
    intro r
    induction r with
    | nil => intro a _ _; simp [cmF]
    | cons z r ih =>
      intro a nd hl
      have hlt : i < ms.length := (List.getElem?_eq_some_iff.mp h0).1
      have mi : (ms.set i (some (.dat (.str z))))[i]? = some (some (.dat (.str z))) := List.getElem?_set_self hlt
      have ha : z ∉ a := fun hz => (List.nodup_append.mp nd).2.2 z hz z (by simp) rfl
      have hadd : addS (a.map .str) (.str z) = (a ++ [z]).map .str := by
        unfold addS
        rw [if_neg (by rw [any_eqv]; simpa using ha)]
        simp
      have hlen : (a.map PyData.str).length < 4000 := by rw [List.length_map]; simp at hl; omega
      have hstep : stepS (mVar i) (stD (a.map .str)) (ms.set i (some (.dat (.str z)))) = .ok (stD ((a ++ [z]).map .str)) (ms.set i (some (.dat (.str z)))) := by
        simp only [stepS, var_d mi, Out.bind_ok, frz]
        show (if kind0 (.str z) = true ∧ (a.map PyData.str).length < 4000 then Out.ok (stD (addS (a.map .str) (.str z))) _ else _) = _
        rw [if_pos ⟨rfl, hlen⟩, hadd]
      show (cmTurn [i] (gNm i) mYes (stepS (mVar i)) (.str z) (stD (a.map .str)) ms).bind _ = _
      have ht : cmTurn [i] (gNm i) mYes (stepS (mVar i)) (.str z) (stD (a.map .str)) ms = .ok (stD ((a ++ [z]).map .str)) ms := by
        unfold cmTurn
        rw [gNm_ok (by simp [isLent, h0]), ofSO_nx]
        simp only [mYes, noExc_ok, Out.bind_ok, if_true, hstep]
        show Out.ok _ ((ms.set i (some (.dat (.str z)))).set i none) = _
        rw [set_back h0]
      rw [ht, Out.bind_ok, ih (a ++ [z]) (by simpa using nd) (by simpa using hl)]
      simp
  exact key zs [] (by simpa using nd) (by simpa using hl)
theorem unlike_spec {d : PyData} {zs : List Str} (h : Hd zs d) (nd : zs.Nodup) (hl : zs.length < 1000) : F_are_unlike [.dat d] = .ret (.dat (.bool true)) [] := by
  unfold F_are_unlike
  obtain ⟨M, hM⟩ : ∃ M : MS, M = [some (.dat d), none] := ⟨_, rfl⟩
  refine run1 (x := .dat d) (r := .dat (.bool true)) (ms' := M) ?_ (by rw [hM]; rfl) rfl
  show b_are_unlike [some (.dat d), none] = _
  rw [← hM]
  unfold b_are_unlike
  have v0 : M[0]? = some (some (.dat d)) := by rw [hM]; rfl
  have s0 : ((mVar 0) M).bind srcFz = .ok (.fix (zs.map .str)) M := by
    rw [var_d v0, Out.bind_ok]
    rcases h with rfl | rfl <;> rfl
  have c1 : mCm [1] (fun ms => ((mVar 0) ms).bind srcFz) (gNm 1) mYes (stepS (mVar 1)) (stD []) M = .ok (.new (stD (zs.map .str))) M := by
    have hw : wipeM M [1] = M := by rw [hM]; rfl
    unfold mCm
    simp only [s0, Out.bind_ok, cmS, hw]
    rw [set_cm (by rw [hM]; rfl) nd hl]
    rfl
  have e1 := fun1_n (g := pLenS) (r := .dat (.int (zs.length : Int))) c1 (by simp [pLenS, stD, dI])
  have e2 : mFun pLenS (mOne (mVar 0)) M = .ok (.dat (.int (zs.length : Int))) M := fun1 (ev_dat v0) (by rcases h with rfl | rfl <;> simp [pLenS, pLen, dI])
  refine ret_of (op2_ev (Ev.of e1) (Ev.of e2) ?_)
  rw [eq_of (sh_int 0 _) (sh_int 0 _) (by decide) (by decide), PySem.SeqAt.eqv_refl_plain _ rfl]
  rfl
theorem are_hands_spec {d : PyData} {zs : List Str} (h : Hd zs d) (hh : Hands zs) (h1 : 1 ≤ zs.length) (h8 : zs.length ≤ 8) : F_are_hands [.dat d] = .ret (.dat (.bool true)) [] := by
  unfold F_are_hands
  obtain ⟨M, hM⟩ : ∃ M : MS, M = [some (.dat d), none] := ⟨_, rfl⟩
  refine run1 (x := .dat d) (r := .dat (.bool true)) (ms' := M) ?_ (by rw [hM]; rfl) rfl
  show b_are_hands [some (.dat d), none] = _
  rw [← hM]
  unfold b_are_hands
  have v0 : M[0]? = some (some (.dat d)) := by rw [hM]; rfl
  have e2 : mFun pLenS (mOne (mVar 0)) M = .ok (.dat (.int (zs.length : Int))) M := fun1 (ev_dat v0) (by rcases h with rfl | rfl <;> simp [pLenS, pLen, dI])
  have c1 : mChain qLe qLe (mC (.int 1)) (mFun pLenS (mOne (mVar 0))) (mC (.int 8)) M = .ok (.dat (.bool true)) M :=
    chain_tt (ev_c (d := .int 1)) (Ev.of e2) (ev_c (d := .int 8)) (by rw [qLe_int, decide_eq_true (by omega)]) (by rw [qLe_int, decide_eq_true (by omega)])
  have ty : pIsi ["list", "tuple"] d = some true := by rcases h with rfl | rfl <;> rfl
  rw [seq_nx (ms1 := M) (by
    rw [if_f]
    · rfl
    · rw [or_r (not_of (k := true) (tru_of (isi_of (ev_dat v0) ty)))]
      exact not_of (k := true) (b_of c1))]
  have s0 : ((mVar 0) M).bind srcOf = .ok (.fix (zs.map .str)) M := by
    rw [var_d v0, Out.bind_ok]
    rcases h with rfl | rfl <;> rfl
  have c2 := lc_mp (ms := M) (vs := [1]) (fi := fun ms => ((mVar 0) ms).bind srcOf) (g := gNm 1) (f := mCall F_is_hand (mOne (mVar 1))) (src := .fix (zs.map .str)) (ds := zs.map .str) (fun _ => .bool true) s0 (.fix _) (by rw [hM]; rfl) (by rw [List.length_map]; omega) (fun d hd => by
    obtain ⟨z, hz, rfl⟩ := List.mem_map.mp hd
    refine t1 (by rw [hM]; rfl) rfl fun _ => ⟨.dat (.bool true), ?_, rfl⟩
    exact call1_v (i := 1) (x := .dat (.str z)) (by rw [hM]; rfl) (is_hand_spec (hh.ok z hz)))
  rw [map_const] at c2
  have e3 := fun1_n (g := pAll) c2 (all_true rfl)
  have e4 : mCall F_are_unlike (mOne (mVar 0)) M = .ok (.dat (.bool true)) M := call1_v (i := 0) (x := .dat d) v0 (unlike_spec h hh.nd (by omega))
  refine ret_of ?_
  simp [mAndV, e3, asB, e4]
theorem need_hands_spec {d : PyData} {zs : List Str} (h : Hd zs d) (hh : Hands zs) (h1 : 1 ≤ zs.length) (h8 : zs.length ≤ 8) : F_need_hands [.dat d] = .ret (.dat (tS (srtS zs))) [] := by
  unfold F_need_hands
  obtain ⟨M, hM⟩ : ∃ M : MS, M = [some (.dat d)] := ⟨_, rfl⟩
  refine run1 (x := .dat d) (r := .dat (tS (srtS zs))) (ms' := M) ?_ (by rw [hM]; rfl) rfl
  show b_need_hands [some (.dat d)] = _
  rw [← hM]
  unfold b_need_hands
  have v0 : M[0]? = some (some (.dat d)) := by rw [hM]; rfl
  have e1 : mCall F_are_hands (mOne (mVar 0)) M = .ok (.dat (.bool true)) M := call1_v (i := 0) (x := .dat d) v0 (are_hands_spec h hh h1 h8)
  rw [seq_nx (ms1 := M) (by rw [if_f (not_of (k := true) (tru_of e1))]; rfl)]
  exact ret_of (fun1_n (srt_var (x := .dat d) v0 h) rfl)
end Lw

/-! St2 -/
set_option Elab.async false
set_option linter.all false
set_option maxRecDepth 100000
set_option maxHeartbeats 1000000
/-! rows: exchanging two, the let that this wants, spots -/
namespace Lw
open PySem PySem.Spec PyProof.Rows L2 Pl
def swapAt (r : List Str) (k : Nat) : List Str := r.take k ++ ([r.getD (k + 1) "", r.getD k ""] ++ r.drop (k + 2))
theorem swapAt_perm {r : List Str} {k : Nat} (h : k + 1 < r.length) : (swapAt r k).Perm r := by
  have e : r = r.take k ++ ([r.getD k "", r.getD (k + 1) ""] ++ r.drop (k + 2)) := by
    have h1 : r.drop k = r[k] :: r.drop (k + 1) := List.drop_eq_getElem_cons (by omega)
    have h2 : r.drop (k + 1) = r[k + 1] :: r.drop (k + 2) := List.drop_eq_getElem_cons h
    have h3 : r.getD k "" = r[k] := by simp [show k < r.length by omega]
    have h4 : r.getD (k + 1) "" = r[k + 1] := by simp [h]
    rw [h3, h4]
    show r = r.take k ++ (r[k] :: r[k + 1] :: r.drop (k + 2))
    rw [← h2, ← h1, List.take_append_drop]
  have : (swapAt r k).Perm (r.take k ++ ([r.getD k "", r.getD (k + 1) ""] ++ r.drop (k + 2))) := by
    unfold swapAt
    exact List.Perm.append_left _ (List.Perm.append_right _ (List.Perm.swap _ _ _))
  rw [← e] at this
  exact this
theorem cutD_both {α : Type} (xs : List α) (i j : Nat) (h : i ≤ j) : Pl.cutD xs (some (i : Int)) (some (j : Int)) = (xs.drop i).take (j - i) := by
  unfold Pl.cutD
  rw [HT.sIx_nat, HT.sIx_nat]
  by_cases h1 : j ≤ xs.length
  · rw [Nat.min_eq_left h1, Nat.min_eq_left (by omega)]
  · by_cases h2 : i ≤ xs.length
    · rw [Nat.min_eq_right (by omega), Nat.min_eq_left h2, List.take_of_length_le (by simp), List.take_of_length_le (by simp; omega)]
    · rw [Nat.min_eq_right (by omega), Nat.min_eq_right (by omega), List.drop_of_length_le (by simp), List.drop_of_length_le (by omega)]
      simp
theorem cutD_upto {α : Type} (xs : List α) (k : Nat) : Pl.cutD xs none (some (k : Int)) = xs.take k := by
  unfold Pl.cutD
  rw [HT.sIx_nat, HT.sIx_none, List.drop_zero, Nat.sub_zero]
  by_cases h : k ≤ xs.length
  · rw [Nat.min_eq_left h]
  · rw [Nat.min_eq_right (by omega), List.take_of_length_le (by omega), List.take_of_length_le (by omega)]
theorem slT (r : List Str) (lo hi : Option Int) : pSl (tS r) lo hi = some (.dat (.tuple (Pl.cutD (r.map .str) lo hi))) := rfl
theorem int1 (k : Nat) : pAdd (.int (k : Int)) (.int 1) = some (.dat (.int ((k + 1 : Nat) : Int))) := by rw [Int.natCast_add]; rfl
theorem int2 (k : Nat) : pAdd (.int (k : Int)) (.int 2) = some (.dat (.int ((k + 2 : Nat) : Int))) := by rw [Int.natCast_add]; rfl
theorem ixS {r : List Str} {k : Nat} (h : k < r.length) : pIx (tS r) (.int (k : Int)) = some (.dat (.str (r.getD k ""))) := by
  have := ix_tuple (r.map PyData.str) k (by rw [List.length_map]; exact h)
  unfold tS
  rw [this, List.getElem_map]
  simp [h]
theorem changed_spec {r : List Str} {k : Nat} (h : k + 1 < r.length) (hl : r.length ≤ 100) : F__law_changed [.dat (tS r), .dat (.int (k : Int))] = .ret (.dat (tS (swapAt r k))) [] := by
  unfold F__law_changed
  obtain ⟨M, hM⟩ : ∃ M : MS, M = [some (.dat (tS r)), some (.dat (.int (k : Int)))] := ⟨_, rfl⟩
  refine run2 (x := .dat (tS r)) (y := .dat (.int (k : Int))) (r := .dat (tS (swapAt r k))) (ms' := M) ?_ (by rw [hM]; rfl) (by rw [hM]; rfl) rfl
  show b__law_changed [some (.dat (tS r)), some (.dat (.int (k : Int)))] = _
  rw [← hM]
  unfold b__law_changed
  have v0 : M[0]? = some (some (.dat (tS r))) := by rw [hM]; rfl
  have v1 : M[1]? = some (some (.dat (.int (k : Int)))) := by rw [hM]; rfl
  have a1 := op2_ev (g := pAdd) (ev_dat v1) (ev_c (d := .int 1)) (int1 k)
  have a2 := op2_ev (g := pAdd) (ev_dat v1) (ev_c (d := .int 2)) (int2 k)
  have s1 : mSl (mVar 0) mNoPart (mPart (mVar 1)) M = .ok (.dat (.tuple ((r.take k).map .str))) M := sl_ev (ev_dat v0) sl_none (sl_part (ev_dat v1)) (by rw [slT, cutD_upto, List.map_take])
  have s2 : mSl (mVar 0) (mPart (mOp2 pAdd (mVar 1) (mC (.int 2)))) mNoPart M = .ok (.dat (.tuple ((r.drop (k + 2)).map .str))) M := sl_ev (ev_dat v0) (sl_part (Ev.of a2)) sl_none (by rw [slT, cutD_from, List.map_drop])
  have i1 := op2_ev (g := pIx) (ev_dat v0) (Ev.of a1) (ixS h)
  have i0 := op2_ev (g := pIx) (ev_dat v0) (ev_dat v1) (ixS (show k < r.length by omega))
  have t : mTup (mCons (mOp2 pIx (mVar 0) (mOp2 pAdd (mVar 1) (mC (.int 1)))) (mOne (mOp2 pIx (mVar 0) (mVar 1)))) M = .ok (.dat (.tuple [.str (r.getD (k + 1) ""), .str (r.getD k "")])) M := tup_of (cons_d i1 (one_d i0)) rfl (by show 2 ≤ SZ; decide)
  have b1 := op2_ev (g := pAdd) (Ev.of s1) (Ev.of t) (addT (by simp; omega))
  have b2 := op2_ev (g := pAdd) (Ev.of b1) (Ev.of s2) (addT (by simp; omega))
  refine (ret_of b2).trans ?_
  congr 3
  unfold swapAt
  simp
def letAt (r : List Str) (k : Nat) : Let := ((srtS ((r.drop k).take 2)).getD 0 "", (srtS ((r.drop k).take 2)).getD 1 "", srtS (r.take k))
theorem let_at_eq {r : List Str} {k : Nat} (h : k + 1 < r.length) (hl : r.length ≤ 100) : F__law_let_at [.dat (tS r), .dat (.int (k : Int))] = .ret (.dat (letD (letAt r k))) [] := by
  obtain ⟨M, hM⟩ : ∃ M : MS, M = [some (.dat (tS r)), some (.dat (.int (k : Int)))] := ⟨_, rfl⟩
  have v0 : M[0]? = some (some (.dat (tS r))) := by rw [hM]; rfl
  have v1 : M[1]? = some (some (.dat (.int (k : Int)))) := by rw [hM]; rfl
  have a2 := op2_ev (g := pAdd) (ev_dat v1) (ev_c (d := .int 2)) (int2 k)
  have s1 : mSl (mVar 0) mNoPart (mPart (mVar 1)) M = .ok (.dat (.tuple ((r.take k).map .str))) M := sl_ev (ev_dat v0) sl_none (sl_part (ev_dat v1)) (by rw [slT, cutD_upto, List.map_take])
  have s2 : mSl (mVar 0) (mPart (mVar 1)) (mPart (mOp2 pAdd (mVar 1) (mC (.int 2)))) M = .ok (.dat (.tuple (((r.drop k).take 2).map .str))) M := sl_ev (ev_dat v0) (sl_part (ev_dat v1)) (sl_part (Ev.of a2)) (by rw [slT, cutD_both _ _ _ (by omega), show k + 2 - k = 2 from by omega, List.map_take, List.map_drop])
  obtain ⟨x, y, hxy⟩ : ∃ x y, srtS ((r.drop k).take 2) = [x, y] := by
    have hl2 : (srtS ((r.drop k).take 2)).length = 2 := by rw [srtS_length]; simp; omega
    match srtS ((r.drop k).take 2), hl2 with
    | [x, y], _ => exact ⟨x, y, rfl⟩
  have e1 := fun1_d (g := pSorted) s2 (sorted_strsT ((r.drop k).take 2))
  rw [hxy] at e1
  have e2 := fun1_n (g := pTuple) (r := .dat (.tuple [.str x, .str y])) e1 rfl
  have e3 := call1_d (F := F__law_set) s1 (law_set_spec (zs := r.take k) (.inr rfl))
  have e4 : mTup (mOne (mCall F__law_set (mOne (mSl (mVar 0) mNoPart (mPart (mVar 1)))))) M = .ok (.dat (.tuple [tS (srtS (r.take k))])) M := tup_of (one_d e3) rfl (by show 1 ≤ SZ; decide)
  have e5 := op2_ev (g := pAdd) (r := .dat (letD (x, y, srtS (r.take k)))) (Ev.of e2) (Ev.of e4) (by rw [addT (by show 3 ≤ 1000; decide)]; rfl)
  have el : letAt r k = (x, y, srtS (r.take k)) := by
    unfold letAt
    rw [hxy]
    rfl
  rw [el]
  unfold F__law_let_at
  refine run2 (x := .dat (tS r)) (y := .dat (.int (k : Int))) (r := .dat (letD (x, y, srtS (r.take k)))) (ms' := M) ?_ (by rw [hM]; rfl) (by rw [hM]; rfl) rfl
  show b__law_let_at [some (.dat (tS r)), some (.dat (.int (k : Int)))] = _
  rw [← hM]
  unfold b__law_let_at
  exact ret_of e5
theorem let_at_spec {r : List Str} {k : Nat} (h : k + 1 < r.length) (hl : r.length ≤ 100) : ∃ l : Let, F__law_let_at [.dat (tS r), .dat (.int (k : Int))] = .ret (.dat (letD l)) [] := ⟨_, let_at_eq h hl⟩
/-! where a hand stands -/
theorem idx_str {r : List Str} {a : Str} : idxD (r.map .str) (.str a) = r.idxOf a := by
  unfold idxD
  rw [List.map_map]
  induction r with
  | nil => rfl
  | cons b r ih =>
    rw [List.map_cons, List.idxOf_cons, List.idxOf_cons, ih]
    have : ((fun z => PyData.eqv z (PyData.str a)) ∘ PyData.str) b = (b == a) := by
      rw [Bool.eq_iff_iff]
      simp only [Function.comp_def, beq_iff_eq]
      rw [eqv_iff (c := .str b) rfl]
      simp
    rw [this]
    cases h : (b == a) <;> simp
theorem index_at {r : List Str} {a : Str} (h : a ∈ r) : gIndex (tS r) [.str a] = dI (r.idxOf a) := by
  have hd := dep_tS r
  unfold tS at hd ⊢
  simp only [gIndex]
  rw [hd, dep_str, any_eqv, decide_eq_true h, idx_str]
  rfl
def spE (r : List Str) (n : Nat) : List (PyData × PyData) := (r.zipIdx n).map fun p => (.str p.1, .int (p.2 : Int))
def spD (r : List Str) : PyData := .dict (spE r 0)
theorem kind0_sp (r : List Str) (n : Nat) : (spE r n).all (fun p => kind0 p.1) = true := by
  rw [List.all_eq_true]
  intro p hp
  obtain ⟨q, _, rfl⟩ := List.mem_map.mp hp
  rfl
theorem find_sp {r : List Str} {a : Str} (h : a ∈ r) (n : Nat) : dLook (spE r n) (.str a) = some (.int ((n + r.idxOf a : Nat) : Int)) := by
  induction r generalizing n with
  | nil => cases h
  | cons b r ih =>
    have e1 : spE (b :: r) n = (.str b, .int (n : Int)) :: spE r (n + 1) := by simp [spE, List.zipIdx_cons]
    unfold dLook at ih ⊢
    rw [e1, List.find?_cons, List.idxOf_cons]
    by_cases e : b = a
    · subst e
      have : PyData.eqv (.str b) (.str b) = true := (eqv_iff (c := .str b) rfl).mpr rfl
      simp [this]
    · have h0 : PyData.eqv (.str b) (.str a) = false := by
        rw [← Bool.not_eq_true, eqv_iff (c := .str b) rfl]
        simpa using e
      have hm : a ∈ r := by
        rcases List.mem_cons.mp h with q | q
        · exact absurd q.symm e
        · exact q
      have hb : (b == a) = false := by simpa using e
      simp only [h0, hb]
      have := ih hm (n + 1)
      rw [this]
      simp
      omega
theorem look_sp {r : List Str} {a : Str} (h : a ∈ r) : pIx (spD r) (.str a) = some (.dat (.int (r.idxOf a : Int))) := by
  have e1 : pIx (spD r) (.str a) = if dOk (spE r 0) (.str a) = true then (dLook (spE r 0) (.str a)).map .dat else none := rfl
  have ok : dOk (spE r 0) (.str a) = true := by
    have := kind0_sp r 0
    simp only [dOk, this]
    rfl
  rw [e1, if_pos ok, find_sp h, Nat.zero_add]
  rfl
end Lw

/-! St3 -/
set_option Elab.async false
set_option linter.all false
set_option maxRecDepth 100000
set_option maxHeartbeats 1000000
/-! pairs that all rows have in one order: what they are -/
namespace Lw
open PySem PySem.Spec PyProof.Rows L2 Pl
open PySem.W (dataLt dataLt_pair dataLt_str)
/-- rows of the same hands -/
structure RowsOk (zs : List Str) (R : List (List Str)) : Prop where
  ne : R ≠ []
  pm : ∀ r ∈ R, r.Perm zs
def allB (R : List (List Str)) (a b : Str) : Bool := R.all fun r => decide (r.idxOf a < r.idxOf b)
def bndOf (S : List Str) (R : List (List Str)) (a : Str) : List (Str × Str) := (S.filter fun b => decide (a ≠ b) && allB R a b).map fun b => (a, b)
def bnd (zs : List Str) (R : List (List Str)) : List (Str × Str) := (srtS zs).flatMap (bndOf (srtS zs) R)
theorem mem_bnd {zs : List Str} {R : List (List Str)} {a b : Str} : (a, b) ∈ bnd zs R ↔ a ∈ zs ∧ b ∈ zs ∧ a ≠ b ∧ ∀ r ∈ R, r.idxOf a < r.idxOf b := by
  unfold bnd bndOf allB
  rw [List.mem_flatMap]
  constructor
  · rintro ⟨a', h1, h2⟩
    obtain ⟨b', h3, e⟩ := List.mem_map.mp h2
    cases e
    obtain ⟨m1, m2⟩ := List.mem_filter.mp h3
    simp at m2
    exact ⟨mem_srtS.mp h1, mem_srtS.mp m1, m2.1, m2.2⟩
  · rintro ⟨h1, h2, h3, h4⟩
    exact ⟨a, mem_srtS.mpr h1, List.mem_map.mpr ⟨b, List.mem_filter.mpr ⟨mem_srtS.mpr h2, by simp [h3]; exact h4⟩, rfl⟩⟩
/-- two lists of rows with the same rows -/
theorem bnd_same {zs : List Str} {R R' : List (List Str)} (h : ∀ r, r ∈ R ↔ r ∈ R') : bnd zs R = bnd zs R' := by
  have e : ∀ a b, allB R a b = allB R' a b := fun a b => by
    unfold allB
    rw [Bool.eq_iff_iff, List.all_eq_true, List.all_eq_true]
    exact ⟨fun q r hr => q r ((h r).mpr hr), fun q r hr => q r ((h r).mp hr)⟩
  unfold bnd bndOf
  simp only [e]
/-! order of pairs -/
def ltP (p q : Str × Str) : Bool := dataLt (prD p) (prD q)
theorem ltP_eq (p q : Str × Str) : ltP p q = (ltS p.1 q.1 || (decide (p.1 = q.1) && ltS p.2 q.2)) := by
  unfold ltP prD
  rw [dataLt_pair rfl rfl, dataLt_str, dataLt_str]
  by_cases h : p.1 = q.1
  · have e1 : PyData.eqv (.str p.1) (.str q.1) = true := (eqv_iff (c := .str p.1) rfl).mpr (by rw [h])
    rw [if_pos e1]
    by_cases h2 : p.2 = q.2
    · have e2 : PyData.eqv (.str p.2) (.str q.2) = true := (eqv_iff (c := .str p.2) rfl).mpr (by rw [h2])
      rw [if_pos e2, h, h2, ltS_irr, ltS_irr]
      simp
    · have e2 : ¬ PyData.eqv (.str p.2) (.str q.2) = true := fun z => h2 (by have := (eqv_iff (c := .str p.2) rfl).mp z; injection this)
      rw [if_neg e2, h, ltS_irr]
      simp [ltS]
  · have e1 : ¬ PyData.eqv (.str p.1) (.str q.1) = true := fun z => h (by have := (eqv_iff (c := .str p.1) rfl).mp z; injection this)
    rw [if_neg e1]
    simp [h, ltS]
def leP (p q : Str × Str) : Bool := !ltP q p
theorem leP_anti {p q : Str × Str} (h1 : leP p q = true) (h2 : leP q p = true) : p = q := by
  simp only [leP, Bool.not_eq_true', ltP_eq, Bool.or_eq_false_iff, Bool.and_eq_false_iff, decide_eq_false_iff_not] at h1 h2
  have e1 : p.1 = q.1 := by
    rcases ltS_tot p.1 q.1 with z | z | z
    · rw [h2.1] at z; cases z
    · exact z
    · rw [h1.1] at z; cases z
  have e2 : p.2 = q.2 := by
    rcases ltS_tot p.2 q.2 with z | z | z
    · rcases h2.2 with w | w
      · exact absurd e1 w
      · rw [w] at z; cases z
    · exact z
    · rcases h1.2 with w | w
      · exact absurd e1.symm w
      · rw [w] at z; cases z
  exact Prod.ext e1 e2
theorem ltP_trans {a b c : Str × Str} (h1 : ltP a b = true) (h2 : ltP b c = true) : ltP a c = true := (PyProof.Rows.listOrd PyProof.Rows.itemOrd).trans (PySem.W.keyToks (prD a)) (PySem.W.keyToks (prD b)) (PySem.W.keyToks (prD c)) h1 h2
theorem leP_trans (a b c : Str × Str) (h1 : leP a b = true) (h2 : leP b c = true) : leP a c = true := by
  simp only [leP, Bool.not_eq_true'] at *
  cases q : ltP c a
  · rfl
  · rcases (PyProof.Rows.listOrd PyProof.Rows.itemOrd).negTrans (PySem.W.keyToks (prD c)) (PySem.W.keyToks (prD b)) (PySem.W.keyToks (prD a)) q with w | w
    · have w : ltP c b = true := w
      rw [h2] at w; cases w
    · have w : ltP b a = true := w
      rw [h1] at w; cases w
theorem ltP_irr (a : Str × Str) : ltP a a = false := (PyProof.Rows.listOrd PyProof.Rows.itemOrd).irrefl (PySem.W.keyToks (prD a))
theorem leP_total (a b : Str × Str) : (leP a b || leP b a) = true := by
  unfold leP
  cases h : ltP b a
  · rfl
  · cases h2 : ltP a b
    · rfl
    · have := ltP_trans h h2
      rw [ltP_irr] at this; cases this
theorem ltP_le {a b : Str × Str} (h : ltP a b = true) : leP a b = true := by
  unfold leP
  cases q : ltP b a
  · rfl
  · have := ltP_trans h q
    rw [ltP_irr] at this; cases this
def srtP (L : List (Str × Str)) : List (Str × Str) := L.mergeSort leP
theorem sh_prD (p : Str × Str) : Sh 1 (prD p) := sh_tuple (n := 0) (fun x hx => by
  simp only [List.mem_cons, List.not_mem_nil, or_false] at hx
  rcases hx with rfl | rfl <;> exact sh_str _ _)
theorem sorted_pairs (L : List (Str × Str)) : pSorted [.list (L.map prD)] = some (.new (.list ((srtP L).map prD))) := by
  simp only [pSorted]
  rw [if_pos (by
    unfold sortOk
    simp only [Bool.and_eq_true, List.all_eq_true]
    refine ⟨⟨?_, ?_⟩, ?_⟩
    · intro x hx y hy
      obtain ⟨a, _, rfl⟩ := List.mem_map.mp hx
      obtain ⟨b, _, rfl⟩ := List.mem_map.mp hy
      rfl
    · intro x hx
      obtain ⟨a, _, rfl⟩ := List.mem_map.mp hx
      have := (sh_prD a).2
      simp; omega
    · intro x hx
      obtain ⟨a, _, rfl⟩ := List.mem_map.mp hx
      rfl)]
  unfold sortD srtP
  rw [List.map_mergeSort]
  intro a _ b _
  rfl
theorem srtP_eq {L B : List (Str × Str)} (hp : L.Perm B) (hs : B.Pairwise fun a b => ltP a b = true) : srtP L = B := by
  have h1 : (srtP L).Pairwise fun a b => leP a b = true := List.pairwise_mergeSort leP_trans leP_total L
  have h2 : B.Pairwise fun a b => leP a b = true := List.Pairwise.imp (fun q => ltP_le q) hs
  exact ((List.mergeSort_perm L leP).trans hp).eq_of_pairwise (fun a b _ _ q1 q2 => leP_anti q1 q2) h1 h2
theorem bnd_strict {zs : List Str} (nd : zs.Nodup) (R : List (List Str)) : (bnd zs R).Pairwise fun a b => ltP a b = true := by
  unfold bnd bndOf
  rw [List.pairwise_flatMap]
  refine ⟨fun a _ => ?_, ?_⟩
  · rw [List.pairwise_map]
    refine List.Pairwise.imp (fun {x y} q => ?_) (List.Pairwise.filter _ (SS.srt nd))
    rw [ltP_eq]
    simp [q]
  · refine List.Pairwise.imp (fun {a b} q => ?_) (SS.srt nd)
    intro x hx y hy
    obtain ⟨c, _, rfl⟩ := List.mem_map.mp hx
    obtain ⟨d, _, rfl⟩ := List.mem_map.mp hy
    rw [ltP_eq]
    simp [q]
theorem bnd_nodup {zs : List Str} (nd : zs.Nodup) (R : List (List Str)) : (bnd zs R).Nodup :=
  List.Pairwise.imp (fun {a b} q e => by subst e; rw [ltP_irr] at q; cases q) (bnd_strict nd R)
/-! as the law finds them -/
def lbOf (f : List Str) (R : List (List Str)) (j : Nat) : List (Str × Str) := ((f.drop (j + 1)).filter fun h => R.all fun r => !decide (r.idxOf h < r.idxOf (f.getD j ""))).map fun h => (f.getD j "", h)
def lbTo (f : List Str) (R : List (List Str)) (k : Nat) : List (Str × Str) := (List.range k).flatMap (lbOf f R)
theorem idx_ne {r : List Str} {a b : Str} (ha : a ∈ r) (hb : b ∈ r) (h : a ≠ b) : r.idxOf a ≠ r.idxOf b := fun e => by
  have h1 := List.getElem_idxOf (List.idxOf_lt_length_of_mem ha)
  have h2 := List.getElem_idxOf (List.idxOf_lt_length_of_mem hb)
  apply h
  rw [← h1, ← h2]
  simp only [e]
theorem idx_get {f : List Str} (nd : f.Nodup) {j : Nat} (h : j < f.length) : f.idxOf f[j] = j := by
  have h1 := List.idxOf_lt_length_of_mem (List.getElem_mem h)
  exact nodup_inj nd h1 h (List.getElem_idxOf h1)
theorem lb_perm {zs f : List Str} {R : List (List Str)} (nd : zs.Nodup) (hR : RowsOk zs R) (hf : f ∈ R) : (lbTo f R f.length).Perm (bnd zs R) := by
  have pf := hR.pm f hf
  have nf : f.Nodup := pf.nodup_iff.mpr nd
  have key : ∀ (a b : Str), (a, b) ∈ lbTo f R f.length ↔ a ∈ zs ∧ b ∈ zs ∧ a ≠ b ∧ ∀ r ∈ R, r.idxOf a < r.idxOf b := by
    intro a b
    unfold lbTo lbOf
    rw [List.mem_flatMap]
    constructor
    · rintro ⟨j, hj, h2⟩
      have hj := List.mem_range.mp hj
      obtain ⟨h, h3, e⟩ := List.mem_map.mp h2
      have ej : f.getD j "" = f[j] := by simp [hj]
      rw [ej] at e h3
      cases e
      obtain ⟨m1, m2⟩ := List.mem_filter.mp h3
      have mb : b ∈ f := List.mem_of_mem_drop m1
      have ma : f[j] ∈ f := List.getElem_mem _
      have ne : f[j] ≠ b := by
        intro e
        obtain ⟨i, hi, hb⟩ := List.getElem_of_mem m1
        rw [List.getElem_drop] at hb
        have := nodup_inj nf hj (by simp at hi; omega) (e.trans hb.symm)
        omega
      refine ⟨pf.mem_iff.mp ma, pf.mem_iff.mp mb, ne, fun r hr => ?_⟩
      have q := List.all_eq_true.mp m2 r hr
      have pr := hR.pm r hr
      have n2 := idx_ne (pr.mem_iff.mpr (pf.mem_iff.mp ma)) (pr.mem_iff.mpr (pf.mem_iff.mp mb)) ne
      simp at q
      omega
    · rintro ⟨h1, h2, h3, h4⟩
      have ma := pf.mem_iff.mpr h1
      have mb := pf.mem_iff.mpr h2
      have la := List.idxOf_lt_length_of_mem ma
      have lb := List.idxOf_lt_length_of_mem mb
      have lt := h4 f hf
      have ea : f.getD (f.idxOf a) "" = a := by simp [la, List.getElem_idxOf la]
      refine ⟨f.idxOf a, List.mem_range.mpr la, List.mem_map.mpr ⟨b, List.mem_filter.mpr ⟨?_, ?_⟩, by rw [ea]⟩⟩
      · rw [List.mem_iff_getElem]
        refine ⟨f.idxOf b - (f.idxOf a + 1), by simp; omega, ?_⟩
        rw [List.getElem_drop]
        have : f.idxOf a + 1 + (f.idxOf b - (f.idxOf a + 1)) = f.idxOf b := by omega
        simp only [this]
        exact List.getElem_idxOf lb
      · rw [List.all_eq_true]
        intro r hr
        have := h4 r hr
        rw [ea]
        simp
        omega
  have ndL : (lbTo f R f.length).Nodup := by
    unfold lbTo lbOf
    rw [List.nodup_iff_pairwise_ne, List.pairwise_flatMap]
    refine ⟨fun j _ => ?_, ?_⟩
    · rw [List.pairwise_map]
      refine List.Pairwise.imp (fun q e => q (by cases e; rfl)) (List.Pairwise.filter _ (List.Pairwise.sublist (List.drop_sublist _ _) nf))
    · refine List.Pairwise.imp_of_mem (fun {i j} hi hj hne => ?_) (List.nodup_range (n := f.length))
      intro x hx y hy e
      subst e
      obtain ⟨c, _, rfl⟩ := List.mem_map.mp hx
      obtain ⟨d, _, e⟩ := List.mem_map.mp hy
      injection e with e _
      have hi := List.mem_range.mp hi
      have hj := List.mem_range.mp hj
      apply hne
      refine nodup_inj nf hi hj ?_
      simpa [hi, hj] using e.symm
  refine (List.perm_ext_iff_of_nodup ndL (bnd_nodup nd R)).mpr fun p => ?_
  obtain ⟨a, b⟩ := p
  rw [key, mem_bnd]
theorem lb_sorted {zs f : List Str} {R : List (List Str)} (nd : zs.Nodup) (hR : RowsOk zs R) (hf : f ∈ R) : srtP (lbTo f R f.length) = bnd zs R := srtP_eq (lb_perm nd hR hf) (bnd_strict nd R)
end Lw

/-! St4 -/
set_option Elab.async false
set_option linter.all false
set_option maxRecDepth 100000
set_option maxHeartbeats 1000000
/-! bound, the law's bound, keeps: what they tell -/
namespace Lw
open PySem PySem.Spec PyProof.Rows L2 Pl
def unS : PyData → List Str
  | .tuple ds => ds.filterMap fun d => match d with
    | .str s => some s
    | _ => none
  | _ => []
theorem unS_tS (r : List Str) : unS (tS r) = r := by
  unfold unS tS
  simp only
  rw [List.filterMap_map]
  induction r with
  | nil => rfl
  | cons a r ih => simpa using ih
def unSp : PyData → List Str
  | .dict es => es.filterMap fun p => match p.1 with
    | .str s => some s
    | _ => none
  | _ => []
theorem unSp_spD (r : List Str) : unSp (spD r) = r := by
  have : ∀ n, (spE r n).filterMap (fun p => match p.1 with
    | .str s => some s
    | _ => none) = r := by
    induction r with
    | nil => intro n; rfl
    | cons a r ih =>
      intro n
      have e1 : spE (a :: r) n = (.str a, .int (n : Int)) :: spE r (n + 1) := by simp [spE, List.zipIdx_cons]
      rw [e1, List.filterMap_cons]
      simp only
      rw [ih]
  exact this 0
theorem all_bools (bs : List Bool) : pAll [.list (bs.map .bool)] = dB (bs.all id) := by
  have : boolsOf (bs.map PyData.bool) = some bs := by
    induction bs with
    | nil => rfl
    | cons b bs ih => simp [boolsOf, ih]
  simp [pAll, this, dB]
theorem qLt_nat (i j : Nat) : qLt (.int (i : Int)) (.int (j : Int)) = dB (decide (i < j)) := by
  show dB (decide ((i : Int) < j)) = _
  congr 1
  rw [Bool.eq_iff_iff]
  simp
theorem ne_strs (a b : Str) : pNe (.str a) (.str b) = dB (decide (a ≠ b)) := by
  rw [ne_of (sh_str 0 _) (sh_str 0 _) (by decide) (by decide)]
  have : PyData.eqv (.str a) (.str b) = decide (a = b) := by
    rw [Bool.eq_iff_iff, eqv_iff (c := .str a) rfl]
    simp
  rw [this]
  simp
theorem app_at {ms : MS} {i : Nat} {l : Bool} {ds : List PyData} {d : PyData} {f : ME} (hi : ms[i]? = some (some (.own l (.list ds)))) (hf : f ms = .ok (.dat d) ms) (hl : ds.length < 1000000) : mDrop (mMut "list" gAppend i (mOne f)) ms = .nx (ms.set i (some (.own l (.list (ds ++ [d]))))) :=
  drop_nx (mut_one (T := "list") (g := gAppend) (i := i) (l := l) (d := .list ds) (by simp [isOwnT, hi, tyN]) hf hi rfl (gApp_at (Nat.lt_trans hl (by decide))))
def rowsD (R : List (List Str)) : PyData := .list (R.map tS)
/-- a loop over told texts that adds to what was found -/
theorem gather_loop {α : Type} {i : Nat} {body : MX} (S : List α → Option SV → MS) (G : Str → List α) (hlen : ∀ P x, i < (S P x).length) (hset : ∀ P x y, (S P x).set i y = S P y) (hget : ∀ P x, (S P x)[i]? = some x) (zs : List Str)
    (step : ∀ (P : List α) (z : Str), z ∈ zs → (∃ k, P = (zs.take k).flatMap G) → body (S P (some (.dat (.str z)))) = .nx (S (P ++ G z) (some (.dat (.str z))))) (x0 : Option SV) (h0 : isL x0 = false) :
    ∃ x', loopF (gNm i) body (zs.map .str) (S [] x0) = .nx (S (zs.flatMap G) x') ∧ isL x' = false := by
  obtain ⟨ms', h, x', e, h'⟩ := for_inv (g := gNm i) (b := body) (fun k ms => ∃ x, ms = S ((zs.take k).flatMap G) x ∧ isL x = false) (zs.map .str) 0 (S [] x0) ⟨x0, rfl, h0⟩ (by
    rintro j hj ms ⟨x, rfl, hx⟩
    simp only [List.length_map] at hj
    rw [Nat.zero_add]
    refine ⟨S ((zs.take j).flatMap G) (some (.dat (.str zs[j]))), _, ?_, .inl (step _ zs[j] (List.getElem_mem _) ⟨j, rfl⟩), some (.dat (.str zs[j])), ?_, rfl⟩
    · rw [List.getElem_map, gNm_ok (by rw [isLent_of (hget _ _)]; exact hx), hset]
    · rw [take_snoc hj, List.flatMap_append]
      simp)
  refine ⟨x', ?_, h'⟩
  rw [h, e, Nat.zero_add, List.length_map, List.take_length]
theorem flatMap_take_le {α : Type} {zs : List Str} {G : Str → List α} {c k : Nat} (hc : ∀ z, (G z).length ≤ c) (hl : zs.length ≤ 8) : ((zs.take k).flatMap G).length ≤ 8 * c := by
  have h1 := flat_le (f := G) (c := c) (l := zs.take k) (fun z _ => hc z)
  have h2 : (zs.take k).length ≤ 8 := by rw [List.length_take]; omega
  exact Nat.le_trans h1 (Nat.mul_le_mul_right _ h2)
theorem t1' {i : Nat} {ms : MS} {f : ME} {d x : PyData} (h0 : ms[i]? = some none) (hf : ∃ r, f (ms.set i (some (.dat d))) = .ok r (ms.set i (some (.dat d))) ∧ frz (ms.set i (some (.dat d))) r = some (x, ms.set i (some (.dat d)))) : Turn1 [i] (gNm i) mYes f ms d true x := t1 h0 rfl fun _ => hf
theorem filter_snoc {S : List Str} {p : Str → Bool} {F : Str → Str × Str} {k : Nat} (h : k < S.length) : ((S.take (k + 1)).filter p).map F = ((S.take k).filter p).map F ++ (if p S[k] = true then [F S[k]] else []) := by
  rw [take_snoc h, List.filter_append, List.map_append]
  by_cases e : p S[k] = true <;> simp [e]
def bSt (x : Pl.Arg) (R : List (List Str)) (x2 : Option SV) (P : List (Str × Str)) (x4 x5 x6 : Option SV) : MS := [some (svA x), some (.own false (.list (R.map spD))), x2, some (.own false (.list (P.map prD))), x4, x5, x6]
def bIf : MX := (mIf (mAnd (mB (mOp2 pNe (mVar 4) (mVar 5))) (mTru (mFun pAll (mOne (mLc [6] (fun ms => ((mVar 1) ms).bind srcOf) (gNm 6) mYes (mOp2 qLt (mOp2 pIx (mVar 6) (mVar 4)) (mOp2 pIx (mVar 6) (mVar 5)))))))) (mDrop (mMut "list" gAppend 3 (mOne (mTup (mCons (mVar 4) (mOne (mVar 5))))))) mSkip)
theorem bIf_ok {x : Pl.Arg} {R : List (List Str)} {P : List (Str × Str)} {a b : Str} (hab : ∀ r ∈ R, a ∈ r ∧ b ∈ r) (hl : R.length ≤ 1000) (hP : P.length ≤ 1000) :
    bIf (bSt x R none P (some (.dat (.str a))) (some (.dat (.str b))) none) = .nx (bSt x R none (P ++ if (decide (a ≠ b) && allB R a b) = true then [(a, b)] else []) (some (.dat (.str a))) (some (.dat (.str b))) none) := by
  obtain ⟨N, hN⟩ : ∃ N : MS, N = bSt x R none P (some (.dat (.str a))) (some (.dat (.str b))) none := ⟨_, rfl⟩
  rw [← hN]
  have n1 : N[1]? = some (some (.own false (.list (R.map spD)))) := by rw [hN]; rfl
  have n3 : N[3]? = some (some (.own false (.list (P.map prD)))) := by rw [hN]; rfl
  have n4 : N[4]? = some (some (.dat (.str a))) := by rw [hN]; rfl
  have n5 : N[5]? = some (some (.dat (.str b))) := by rw [hN]; rfl
  have n6 : N[6]? = some none := by rw [hN]; rfl
  have t1 : mB (mOp2 pNe (mVar 4) (mVar 5)) N = .ok (decide (a ≠ b)) N := b_of (op2_ev (ev_dat n4) (ev_dat n5) (ne_strs a b))
  have t2 : mTru (mFun pAll (mOne (mLc [6] (fun ms => ((mVar 1) ms).bind srcOf) (gNm 6) mYes (mOp2 qLt (mOp2 pIx (mVar 6) (mVar 4)) (mOp2 pIx (mVar 6) (mVar 5)))))) N = .ok (allB R a b) N := by
    obtain ⟨src, e1, e2⟩ := src_var (x := .own false (.list (R.map spD))) (ds := R.map spD) n1 (.inl rfl)
    have c := lc_mp (ms := N) (vs := [6]) (fi := fun ms => ((mVar 1) ms).bind srcOf) (g := gNm 6) (f := mOp2 qLt (mOp2 pIx (mVar 6) (mVar 4)) (mOp2 pIx (mVar 6) (mVar 5))) (fun d => .bool (decide ((unSp d).idxOf a < (unSp d).idxOf b))) e1 e2 (by
      show N.set 6 none = N
      exact set_same n6) (by rw [List.length_map]; omega) (fun d hd => by
      obtain ⟨r, hr, rfl⟩ := List.mem_map.mp hd
      obtain ⟨h1, h2⟩ := hab r hr
      refine t1' n6 ?_
      have hlt : 6 < N.length := (List.getElem?_eq_some_iff.mp n6).1
      have m6 : (N.set 6 (some (.dat (spD r))))[6]? = some (some (.dat (spD r))) := List.getElem?_set_self hlt
      have m4 : (N.set 6 (some (.dat (spD r))))[4]? = some (some (.dat (.str a))) := by rw [List.getElem?_set_ne (by decide)]; exact n4
      have m5 : (N.set 6 (some (.dat (spD r))))[5]? = some (some (.dat (.str b))) := by rw [List.getElem?_set_ne (by decide)]; exact n5
      have f1 := op2_ev (g := pIx) (ev_dat m6) (ev_dat m4) (look_sp h1)
      have f2 := op2_ev (g := pIx) (ev_dat m6) (ev_dat m5) (look_sp h2)
      have f3 := op2_ev (g := qLt) (Ev.of f1) (Ev.of f2) (qLt_nat _ _)
      rw [unSp_spD]
      exact ⟨_, f3, rfl⟩)
    have c2 : mLc [6] (fun ms => ((mVar 1) ms).bind srcOf) (gNm 6) mYes (mOp2 qLt (mOp2 pIx (mVar 6) (mVar 4)) (mOp2 pIx (mVar 6) (mVar 5))) N = .ok (.new (.list ((R.map fun r => decide (r.idxOf a < r.idxOf b)).map .bool))) N := by
      rw [c, List.map_map, List.map_map]
      congr 4
      funext r
      simp [unSp_spD]
    refine tru_of (fun1_n c2 ?_)
    rw [all_bools]
    unfold allB
    congr 1
    rw [List.all_map]
    rfl
  unfold bIf
  by_cases h : a = b
  · rw [if_f (and_l (by rw [t1, decide_eq_false (by simp [h])]))]
    rw [if_neg (by simp [h]), List.append_nil, hN]
    rfl
  · have ht : (mAnd (mB (mOp2 pNe (mVar 4) (mVar 5))) (mTru (mFun pAll (mOne (mLc [6] (fun ms => ((mVar 1) ms).bind srcOf) (gNm 6) mYes (mOp2 qLt (mOp2 pIx (mVar 6) (mVar 4)) (mOp2 pIx (mVar 6) (mVar 5)))))))) N = .ok (allB R a b) N := by
      rw [and_r (by rw [t1, decide_eq_true h])]
      exact t2
    by_cases hA : allB R a b = true
    · rw [hA] at ht
      rw [if_t ht, if_pos (by simp [h, hA])]
      have e := tup_of (fa := mCons (mVar 4) (mOne (mVar 5))) (ms := N) (ds := [.str a, .str b]) (cons_d (var_d n4) (one_d (var_d n5))) rfl (by show 2 ≤ SZ; decide)
      rw [app_at n3 e (by rw [List.length_map]; omega), hN]
      simp [bSt, prD]
    · have hA' : allB R a b = false := by simpa using hA
      rw [hA'] at ht
      rw [if_f ht, if_neg (by simp [hA']), List.append_nil, hN]
      rfl
end Lw

/-! St5 -/
set_option Elab.async false
set_option linter.all false
set_option maxRecDepth 100000
set_option maxHeartbeats 1000000
/-! bound, the law's bound, keeps: whole -/
namespace Lw
open PySem PySem.Spec PyProof.Rows L2 Pl
theorem flat_ite {S : List Str} {p : Str → Bool} {F : Str → Str × Str} : (S.flatMap fun b => if p b = true then [F b] else []) = (S.filter p).map F := by
  induction S with
  | nil => rfl
  | cons a S ih =>
    rw [List.flatMap_cons, ih]
    by_cases e : p a = true
    · rw [if_pos e, List.filter_cons_of_pos e]; rfl
    · rw [if_neg e, List.filter_cons_of_neg e]; rfl
theorem bndOf_le {S : List Str} {R : List (List Str)} {a : Str} : (bndOf S R a).length ≤ S.length := by
  unfold bndOf
  rw [List.length_map]
  exact List.length_filter_le _ _
theorem rows_src {x : Pl.Arg} {R : List (List Str)} {ms : MS} (hx : aD x = rowsD R) (h0 : ms[0]? = some (some (svA x))) : ∃ src, ((mVar 0) ms).bind srcOf = .ok src ms ∧ SrcIs ms src (R.map tS) :=
  src_var h0 (.inl (by rw [svD_svA]; exact hx))
theorem first_at {x : Pl.Arg} {R : List (List Str)} {ms : MS} (hx : aD x = rowsD R) (h0 : ms[0]? = some (some (svA x))) (hR : 0 < R.length) : mOp2 pIx (mVar 0) (mC (.int 0)) ms = .ok (.dat (tS R[0])) ms := by
  refine op2_ev (a := rowsD R) (by rw [← hx, ← svD_svA]; exact ev_sv h0) (ev_c (d := .int 0)) ?_
  have := ix_list (R.map tS) 0 (by rw [List.length_map]; exact hR)
  rw [List.getElem_map] at this
  exact this
section
variable {x : Pl.Arg} {zs : List Str} {R : List (List Str)}
theorem need_at {ms : MS} (hx : aD x = rowsD R) (h0 : ms[0]? = some (some (svA x))) (hh : Hands zs) (h1 : 1 ≤ zs.length) (h8 : zs.length ≤ 8) (hR : RowsOk zs R) : (fun ms => (mCall F_need_hands (mOne (mOp2 pIx (mVar 0) (mC (.int 0)))) ms).bind srcFz) ms = .ok (.fix ((srtS zs).map .str)) ms := by
  have hl : 0 < R.length := by
    have := hR.ne
    cases R with
    | nil => exact absurd rfl this
    | cons a R => simp
  have pf := hR.pm R[0] (List.getElem_mem _)
  have e := call1_d (F := F_need_hands) (first_at hx h0 hl) (need_hands_spec (zs := R[0]) (.inr rfl) (hh.perm pf) (by rw [pf.length_eq]; exact h1) (by rw [pf.length_eq]; exact h8))
  rw [srtS_perm_eq pf] at e
  show (mCall F_need_hands (mOne (mOp2 pIx (mVar 0) (mC (.int 0)))) ms).bind srcFz = _
  rw [e]
  rfl
/-! as the law finds them -/
def lbSt (x : Pl.Arg) (f : List Str) (P : List (Str × Str)) (x3 x4 : Option SV) : MS := [some (svA x), some (.dat (tS f)), some (.own false (.list (P.map prD))), x3, x4, none]
def lIf : MX := (mIf (mB (mOp2 pEq (mLc [5] (fun ms => ((mVar 0) ms).bind srcOf) (gNm 5) (mB (mOp2 qLt (mMeth ["list", "tuple"] gIndex (mVar 5) (mOne (mVar 4))) (mMeth ["list", "tuple"] gIndex (mVar 5) (mOne (mOp2 pIx (mVar 1) (mVar 3)))))) (mVar 5)) (mLst mNil))) (mDrop (mMut "list" gAppend 2 (mOne (mTup (mCons (mOp2 pIx (mVar 1) (mVar 3)) (mOne (mVar 4))))))) mSkip)
theorem index_ev {ms : MS} {i : Nat} {r : List Str} {a : Str} {f : ME} (hi : ms[i]? = some (some (.dat (tS r)))) (hf : f ms = .ok (.dat (.str a)) ms) (ha : a ∈ r) : mMeth ["list", "tuple"] gIndex (mVar i) (mOne f) ms = .ok (.dat (.int (r.idxOf a : Int))) ms :=
  meth1 (t := "tuple") (ev_dat hi) rfl (one_d hf) rfl (index_at ha)
theorem lIf_ok (hx : aD x = rowsD R) {f : List Str} {P : List (Str × Str)} {k : Nat} {h : Str} (hk : k < f.length) (hab : ∀ r ∈ R, f.getD k "" ∈ r ∧ h ∈ r) (hl : R.length ≤ 1000) (hP : P.length ≤ 1000) :
    lIf (lbSt x f P (some (.dat (.int (k : Int)))) (some (.dat (.str h)))) = .nx (lbSt x f (P ++ if (R.all fun r => !decide (r.idxOf h < r.idxOf (f.getD k ""))) = true then [(f.getD k "", h)] else []) (some (.dat (.int (k : Int)))) (some (.dat (.str h)))) := by
  obtain ⟨N, hN⟩ : ∃ N : MS, N = lbSt x f P (some (.dat (.int (k : Int)))) (some (.dat (.str h))) := ⟨_, rfl⟩
  rw [← hN]
  obtain ⟨u, hu⟩ : ∃ u, u = f.getD k "" := ⟨_, rfl⟩
  have ixu := ixS hk
  rw [← hu] at hab ixu ⊢
  have n0 : N[0]? = some (some (svA x)) := by rw [hN]; rfl
  have n1 : N[1]? = some (some (.dat (tS f))) := by rw [hN]; rfl
  have n2 : N[2]? = some (some (.own false (.list (P.map prD)))) := by rw [hN]; rfl
  have n3 : N[3]? = some (some (.dat (.int (k : Int)))) := by rw [hN]; rfl
  have n4 : N[4]? = some (some (.dat (.str h))) := by rw [hN]; rfl
  have n5 : N[5]? = some none := by rw [hN]; rfl
  obtain ⟨src, s1, s2⟩ := rows_src (ms := N) hx n0
  have c := lc_fm (ms := N) (vs := [5]) (fi := fun ms => ((mVar 0) ms).bind srcOf) (g := gNm 5) (t := mB (mOp2 qLt (mMeth ["list", "tuple"] gIndex (mVar 5) (mOne (mVar 4))) (mMeth ["list", "tuple"] gIndex (mVar 5) (mOne (mOp2 pIx (mVar 1) (mVar 3)))))) (f := mVar 5) (fun d => decide ((unS d).idxOf h < (unS d).idxOf u)) id s1 s2 (by
    show N.set 5 none = N
    exact set_same n5) (by rw [List.length_map]; omega) (fun d hd => by
    obtain ⟨r, hr, rfl⟩ := List.mem_map.mp hd
    obtain ⟨q1, q2⟩ := hab r hr
    have hlt : 5 < N.length := (List.getElem?_eq_some_iff.mp n5).1
    have m5 : (N.set 5 (some (.dat (tS r))))[5]? = some (some (.dat (tS r))) := List.getElem?_set_self hlt
    have m4 : (N.set 5 (some (.dat (tS r))))[4]? = some (some (.dat (.str h))) := by rw [List.getElem?_set_ne (by decide)]; exact n4
    have m3 : (N.set 5 (some (.dat (tS r))))[3]? = some (some (.dat (.int (k : Int)))) := by rw [List.getElem?_set_ne (by decide)]; exact n3
    have m1 : (N.set 5 (some (.dat (tS r))))[1]? = some (some (.dat (tS f))) := by rw [List.getElem?_set_ne (by decide)]; exact n1
    have f0 := op2_ev (g := pIx) (ev_dat m1) (ev_dat m3) ixu
    have f1 := index_ev m5 (var_d m4) q2
    have f2 := index_ev m5 f0 q1
    refine t1 n5 ?_ (fun _ => ⟨.dat (tS r), var_d m5, rfl⟩)
    rw [unS_tS]
    exact b_of (op2_ev (Ev.of f1) (Ev.of f2) (qLt_nat _ _)))
  have e0 : ((R.map tS).filter fun d => decide ((unS d).idxOf h < (unS d).idxOf u)).map id = (R.filter fun r => decide (r.idxOf h < r.idxOf u)).map tS := by
    rw [List.map_id, List.filter_map]
    congr 2
    funext r
    simp [unS_tS]
  rw [e0] at c
  have hd : decide ((R.filter fun r => decide (r.idxOf h < r.idxOf u)).map tS = []) = R.all fun r => !decide (r.idxOf h < r.idxOf u) := by
    rw [Bool.eq_iff_iff, decide_eq_true_eq, List.map_eq_nil_iff, List.filter_eq_nil_iff, List.all_eq_true]
    constructor
    · intro q r hr
      have := q r hr
      simpa using this
    · intro q r hr
      have := q r hr
      simpa using this
  have t := b_of (op2_ev (g := pEq) (Ev.new c) (Ev.new (ev_nil N)) (eq_nil (n := 1) (fun y hy => by obtain ⟨r, _, rfl⟩ := List.mem_map.mp hy; exact sh_tS r) (by decide)))
  rw [hd] at t
  unfold lIf
  by_cases hA : (R.all fun r => !decide (r.idxOf h < r.idxOf u)) = true
  · rw [hA] at t
    rw [if_t t, if_pos hA]
    have f0 := op2_ev (g := pIx) (ev_dat n1) (ev_dat n3) ixu
    have e := tup_of (fa := mCons (mOp2 pIx (mVar 1) (mVar 3)) (mOne (mVar 4))) (ms := N) (ds := [.str u, .str h]) (cons_d f0 (one_d (var_d n4))) rfl (by show 2 ≤ SZ; decide)
    rw [app_at n2 e (by rw [List.length_map]; omega), hN]
    simp [lbSt, prD]
  · have hA' : (R.all fun r => !decide (r.idxOf h < r.idxOf u)) = false := by simpa using hA
    rw [hA'] at t
    rw [if_f t, if_neg hA, List.append_nil, hN]
    rfl
end
end Lw

/-! St6 -/
set_option Elab.async false
set_option linter.all false
set_option maxRecDepth 100000
set_option maxHeartbeats 1000000
/-! raw lets, a lot by going -/
namespace Lw
open PySem PySem.Spec PyProof.Rows L2 Pl
theorem nodup_le {α : Type} [DecidableEq α] : ∀ {F L : List α}, F.Nodup → (∀ a ∈ F, a ∈ L) → F.length ≤ L.length
  | [], _, _, _ => Nat.zero_le _
  | a :: F, L, nd, h => by
    have nd' := List.nodup_cons.mp nd
    have ha := h a (by simp)
    have := nodup_le (F := F) (L := L.erase a) nd'.2 (fun b hb => (List.mem_erase_of_ne (fun e => by subst e; exact nd'.1 hb)).mpr (h b (by simp [hb])))
    rw [List.length_erase_of_mem ha] at this
    have hp : 0 < L.length := List.length_pos_of_mem ha
    rw [List.length_cons]
    omega
def allL (row : List Str) : Nat → List (List Str)
  | 0 => [[]]
  | n + 1 => row.flatMap fun a => (allL row n).map (a :: ·)
theorem mem_allL {row : List Str} : ∀ {r : List Str}, (∀ a ∈ r, a ∈ row) → r ∈ allL row r.length
  | [], _ => by simp [allL]
  | a :: r, h => by
    rw [List.length_cons, allL, List.mem_flatMap]
    exact ⟨a, h a (by simp), List.mem_map.mpr ⟨r, mem_allL (fun b hb => h b (by simp [hb])), rfl⟩⟩
theorem allL_len {row : List Str} (h : row.length ≤ 4) : ∀ {n : Nat}, n ≤ 4 → (allL row n).length ≤ 4 ^ n
  | 0, _ => Nat.le_refl _
  | n + 1, hn => by
    rw [allL]
    have h1 := flat_le (f := fun a => (allL row n).map (a :: ·)) (c := 4 ^ n) (l := row) (fun a _ => by rw [List.length_map]; exact allL_len h (by omega))
    have h2 : row.length * 4 ^ n ≤ 4 * 4 ^ n := Nat.mul_le_mul_right _ h
    rw [Nat.pow_succ]
    omega
theorem perms_le {row : List Str} {F : List (List Str)} (nd : F.Nodup) (hp : ∀ r ∈ F, r.Perm row) (h : row.length ≤ 4) : F.length ≤ 256 := by
  have h1 := nodup_le nd (L := allL row row.length) (fun r hr => by
    have := mem_allL (row := row) (r := r) (fun a ha => (hp r hr).mem_iff.mp ha)
    rwa [(hp r hr).length_eq] at this)
  have h2 := allL_len h h
  have h3 : 4 ^ row.length ≤ 4 ^ 4 := Nat.pow_le_pow_right (by decide) h
  omega
/-! dicts whose values are all True -/
def tE (K : List PyData) : List (PyData × PyData) := K.map fun d => (d, .bool true)
theorem dOk_tE {K : List PyData} (hK : ∀ d ∈ K, kind1 d = true) {d : PyData} (h : kind1 d = true) : dOk (tE K) d = true := by
  have : (tE K).all (fun p => kind1 p.1) = true := by
    rw [List.all_eq_true]
    intro p hp
    obtain ⟨m, hm, rfl⟩ := List.mem_map.mp hp
    exact hK m hm
  simp only [dOk, h, this]
  simp
theorem look_tE {K : List PyData} (hK : ∀ d ∈ K, stB d = true) (d : PyData) : (dLook (tE K) d).isSome = K.any (fun e => PyData.eqv e d) := by
  unfold dLook tE
  induction K with
  | nil => rfl
  | cons e K ih =>
    rw [List.map_cons, List.find?_cons, List.any_cons]
    by_cases h : PyData.eqv e d = true
    · simp [h]
    · have h' : PyData.eqv e d = false := by simpa using h
      simp only [h', Bool.false_or]
      exact ih (fun x hx => hK x (by simp [hx]))
theorem in_tE {K : List PyData} (hK : ∀ d ∈ K, stB d = true ∧ kind1 d = true) {d : PyData} (h : kind1 d = true) : hasIn d (.dict (tE K)) = some (K.any fun e => PyData.eqv e d) := by
  show (if dOk (tE K) d = true then some (dLook (tE K) d).isSome else none) = _
  rw [if_pos (dOk_tE (fun d hd => (hK d hd).2) h), look_tE (fun d hd => (hK d hd).1)]
theorem put_tE {K : List PyData} (hK : ∀ d ∈ K, stB d = true ∧ kind1 d = true) {d : PyData} (h : kind1 d = true) (hz : K.length < 1000000) : gPut (.dict (tE K)) d (.bool true) = some (.dict (tE (if (K.any fun e => PyData.eqv e d) = true then K else K ++ [d]))) := by
  have hz' : (tE K).length < SZ := by unfold tE; rw [List.length_map]; exact Nat.lt_trans hz (by decide)
  show (if dOk (tE K) d = true ∧ (tE K).length < SZ then some (PyData.dict (dPut (tE K) d (.bool true))) else none) = _
  rw [if_pos ⟨dOk_tE (fun d hd => (hK d hd).2) h, hz'⟩]
  congr 2
  have ha : ((tE K).any fun p => PyData.eqv p.1 d) = K.any fun e => PyData.eqv e d := by
    unfold tE
    rw [List.any_map]
    rfl
  unfold dPut
  rw [ha]
  by_cases e : (K.any fun e => PyData.eqv e d) = true
  · rw [if_pos e, if_pos e]
    unfold tE
    rw [List.map_map]
    apply List.map_congr_left
    intro x _
    simp only [Function.comp_def]
    by_cases q : PyData.eqv x d = true <;> simp [q]
  · rw [if_neg e, if_neg e]
    simp [tE]
theorem kind1_tS (A : List Str) : kind1 (tS A) = true := by
  simp [tS, kind1, Pl.keyOf, keysOf_map, NestedKey.depth, depthAll_text]
theorem any_tS (F : List (List Str)) (r : List Str) : ((F.map tS).any fun e => PyData.eqv e (tS r)) = decide (r ∈ F) := by
  rw [Bool.eq_iff_iff, List.any_eq_true, decide_eq_true_eq]
  constructor
  · rintro ⟨d, hd, he⟩
    obtain ⟨q, hq, rfl⟩ := List.mem_map.mp hd
    exact tS_inj ((eqv_iff (st_tS q)).mp he) ▸ hq
  · intro h
    exact ⟨_, List.mem_map.mpr ⟨r, h, rfl⟩, (eqv_iff (st_tS r)).mpr rfl⟩
theorem kS {F : List (List Str)} : ∀ d ∈ F.map tS, stB d = true ∧ kind1 d = true := fun d hd => by
  obtain ⟨r, _, rfl⟩ := List.mem_map.mp hd
  exact ⟨st_tS r, kind1_tS r⟩
theorem kL {L : List Let} : ∀ d ∈ L.map letD, stB d = true ∧ kind1 d = true := fun d hd => by
  obtain ⟨r, _, rfl⟩ := List.mem_map.mp hd
  exact ⟨st_letD r, kind1_letD r⟩
/-! a lot -/
def lotSt (L : List Let) (row : List Str) (F : List (List Str)) (at' : Nat) (x5 x6 : Option SV) : MS := [some (.dat (.dict (tE (L.map letD)))), some (.dat (tS row)), some (.own false (rowsD F)), some (.own false (.dict (tE (F.map tS)))), some (.dat (.int (at' : Int))), x5, x6]
def lotIn : MX := (mSeq (mSet 6 (mCall F__law_changed (mCons (mOp2 pIx (mVar 2) (mVar 4)) (mOne (mVar 5)))))
    (mIf (mAnd (mB (mOp2 pNotIn (mVar 6) (mVar 3))) (mB (mOp2 pIn (mCall F__law_let_at (mCons (mOp2 pIx (mVar 2) (mVar 4)) (mOne (mVar 5)))) (mVar 0)))) (mSeq (mPut 3 (mVar 6) (mC (.bool true)))
    (mDrop (mMut "list" gAppend 2 (mOne (mVar 6))))) mSkip))
structure LotOk (row : List Str) (F : List (List Str)) : Prop where
  ne : F ≠ []
  nd : F.Nodup
  pm : ∀ r ∈ F, r.Perm row
theorem lotIn_ok {L : List Let} {row : List Str} {F : List (List Str)} {at' k : Nat} {x6 : Option SV} (hF : LotOk row F) (hr : row.length ≤ 4) (ha : at' < F.length) (hk : k + 1 < row.length) (h6 : isL x6 = false) :
    ∃ F' x6', lotIn (lotSt L row F at' (some (.dat (.int (k : Int)))) x6) = .nx (lotSt L row F' at' (some (.dat (.int (k : Int)))) x6') ∧ LotOk row F' ∧ F.length ≤ F'.length ∧ isL x6' = false := by
  have pr := hF.pm F[at'] (List.getElem_mem _)
  have hk' : k + 1 < F[at'].length := by rw [pr.length_eq]; exact hk
  have hl : F[at'].length ≤ 100 := by rw [pr.length_eq]; omega
  have hc := changed_spec (r := F[at']) hk' hl
  obtain ⟨l, hlt⟩ := let_at_spec (r := F[at']) hk' hl
  obtain ⟨o, ho⟩ : ∃ o, o = swapAt F[at'] k := ⟨_, rfl⟩
  have po : o.Perm row := by rw [ho]; exact (swapAt_perm hk').trans pr
  rw [← ho] at hc
  have bF := perms_le hF.nd hF.pm hr
  obtain ⟨M, hM⟩ : ∃ M : MS, M = lotSt L row F at' (some (.dat (.int (k : Int)))) x6 := ⟨_, rfl⟩
  have ix : ∀ N : MS, N[2]? = some (some (.own false (rowsD F))) → N[4]? = some (some (.dat (.int (at' : Int)))) → mOp2 pIx (mVar 2) (mVar 4) N = .ok (.dat (tS F[at'])) N := fun N n2 n4 => by
    have := op2_ev (g := pIx) (ev_own n2) (ev_dat n4) (ix_list (F.map tS) at' (by rw [List.length_map]; exact ha))
    rw [List.getElem_map] at this
    exact this
  have c1 : mCall F__law_changed (mCons (mOp2 pIx (mVar 2) (mVar 4)) (mOne (mVar 5))) M = .ok (.dat (tS o)) M := by
    refine call_ok (args := [.dat (tS F[at']), .dat (.int (k : Int))]) (cons_d (ix M (by rw [hM]; rfl) (by rw [hM]; rfl)) (one_d (var_d (d := .int (k : Int)) (by rw [hM]; rfl)))) rfl rfl hc
  obtain ⟨N, hN⟩ : ∃ N : MS, N = lotSt L row F at' (some (.dat (.int (k : Int)))) (some (.dat (tS o))) := ⟨_, rfl⟩
  unfold lotIn
  rw [← hM, seq_nx (ms1 := N) (by rw [set_d c1 (by rw [hM, isLent_of (x := x6) rfl]; exact h6), hM, hN]; rfl)]
  have n0 : N[0]? = some (some (.dat (.dict (tE (L.map letD))))) := by rw [hN]; rfl
  have n2 : N[2]? = some (some (.own false (rowsD F))) := by rw [hN]; rfl
  have n3 : N[3]? = some (some (.own false (.dict (tE (F.map tS))))) := by rw [hN]; rfl
  have n4 : N[4]? = some (some (.dat (.int (at' : Int)))) := by rw [hN]; rfl
  have n5 : N[5]? = some (some (.dat (.int (k : Int)))) := by rw [hN]; rfl
  have n6 : N[6]? = some (some (.dat (tS o))) := by rw [hN]; rfl
  have t1 : mB (mOp2 pNotIn (mVar 6) (mVar 3)) N = .ok (!decide (o ∈ F)) N := b_of (op2_ev (ev_dat n6) (ev_own n3) (by unfold pNotIn; rw [in_tE kS (kind1_tS o), any_tS]; rfl))
  have c2 : mCall F__law_let_at (mCons (mOp2 pIx (mVar 2) (mVar 4)) (mOne (mVar 5))) N = .ok (.dat (letD l)) N :=
    call_ok (args := [.dat (tS F[at']), .dat (.int (k : Int))]) (cons_d (ix N n2 n4) (one_d (var_d n5))) rfl rfl hlt
  obtain ⟨b, hb⟩ : ∃ b, b = ((L.map letD).any fun e => PyData.eqv e (letD l)) := ⟨_, rfl⟩
  have t2 : mB (mOp2 pIn (mCall F__law_let_at (mCons (mOp2 pIx (mVar 2) (mVar 4)) (mOne (mVar 5)))) (mVar 0)) N = .ok b N := b_of (op2_ev (Ev.of c2) (ev_dat n0) (by unfold pIn; rw [in_tE kL (kind1_letD l), ← hb]; rfl))
  by_cases hm : o ∈ F
  · refine ⟨F, some (.dat (tS o)), ?_, hF, Nat.le_refl _, rfl⟩
    rw [if_f (and_l (by rw [t1, decide_eq_true hm]; rfl)), hN]
    rfl
  · have t : (mAnd (mB (mOp2 pNotIn (mVar 6) (mVar 3))) (mB (mOp2 pIn (mCall F__law_let_at (mCons (mOp2 pIx (mVar 2) (mVar 4)) (mOne (mVar 5)))) (mVar 0)))) N = .ok b N := by
      rw [and_r (by rw [t1, decide_eq_false hm]; rfl)]
      exact t2
    cases b with
    | false =>
      refine ⟨F, some (.dat (tS o)), ?_, hF, Nat.le_refl _, rfl⟩
      rw [if_f t, hN]
      rfl
    | true =>
      refine ⟨F ++ [o], some (.dat (tS o)), ?_, ⟨by simp, ?_, ?_⟩, by simp, rfl⟩
      · rw [if_t t]
        have hp := put_tE (K := F.map tS) kS (d := tS o) (kind1_tS o) (by rw [List.length_map]; omega)
        rw [if_neg (by rw [any_tS]; simpa using hm)] at hp
        rw [seq_nx (put_ok (fk := mVar 6) (fv := mC (.bool true)) rfl n3 (var_d n6) hp)]
        rw [app_at (l := false) (ds := F.map tS) (d := tS o) (by rw [hN]; rfl) (var_d (by rw [hN]; rfl)) (by rw [List.length_map]; omega), hN]
        simp [lotSt, rowsD]
      · rw [List.nodup_append]
        exact ⟨hF.nd, by simp, fun x hx y hy e => by simp at hy; subst hy; subst e; exact hm hx⟩
      · intro r hr'
        rcases List.mem_append.mp hr' with q | q
        · exact hF.pm r q
        · simp at q; subst q; exact po
def lotFor : MX := (mFor (fun ms => ((mOne (mOp2 pSub (mFun pLenS (mOne (mVar 1))) (mC (.int 1)))) ms).bind rng1) (gNm 5) lotIn)
theorem lotFor_ok {L : List Let} {row : List Str} {F : List (List Str)} {at' : Nat} {x5 x6 : Option SV} (hF : LotOk row F) (hr : row.length ≤ 4) (h1 : 1 ≤ row.length) (ha : at' < F.length) (h5 : isL x5 = false) (h6 : isL x6 = false) :
    ∃ F' x5' x6', lotFor (lotSt L row F at' x5 x6) = .nx (lotSt L row F' at' x5' x6') ∧ LotOk row F' ∧ F.length ≤ F'.length ∧ isL x5' = false ∧ isL x6' = false := by
  obtain ⟨ms', h, F', x5', x6', e, hF', hle, q5, q6⟩ := for_inv (g := gNm 5) (b := lotIn) (fun k ms => ∃ F' x5 x6, ms = lotSt L row F' at' x5 x6 ∧ LotOk row F' ∧ F.length ≤ F'.length ∧ isL x5 = false ∧ isL x6 = false) (rgInts 0 (row.length - 1)) 0 (lotSt L row F at' x5 x6) ⟨F, x5, x6, rfl, hF, Nat.le_refl _, h5, h6⟩ (by
    rintro j hj ms ⟨F1, x5, x6, rfl, hF1, hle, h5, h6⟩
    simp only [rgInts, List.length_map, List.length_range] at hj
    obtain ⟨F2, x6', e, hF2, hle2, h6'⟩ := lotIn_ok (L := L) (at' := at') (k := j) (x6 := x6) hF1 hr (by omega) (by omega) h6
    refine ⟨_, _, ?_, .inl e, F2, some (.dat (.int (j : Int))), x6', rfl, hF2, by omega, rfl, h6'⟩
    have e : (rgInts 0 (row.length - 1))[j]'(by simpa [rgInts] using hj) = .int (j : Int) := by simp [rgInts]
    rw [e, gNm_ok (by rw [isLent_of (x := x5) rfl]; exact h5)]
    rfl)
  refine ⟨F', x5', x6', ?_, hF', hle, q5, q6⟩
  have e1 := fun1 (g := pLenS) (f := mVar 1) (ms := lotSt L row F at' x5 x6) (a := tS row) (r := .dat (.int (row.length : Int))) (ev_dat rfl) (by unfold tS; rw [len_tuple, List.length_map]; rfl)
  have e2 := op2_ev (g := pSub) (r := .dat (.int ((row.length - 1 : Nat) : Int))) (Ev.of e1) (ev_c (d := .int 1)) (by show some (Rv.dat (.int ((row.length : Int) - 1))) = _; congr 3; omega)
  unfold lotFor
  rw [for_fix (fi := fun ms => ((mOne (mOp2 pSub (mFun pLenS (mOne (mVar 1))) (mC (.int 1)))) ms).bind rng1) (rng_of e2 (by omega)), h, e]
theorem lot_while {L : List Let} {row : List Str} (hr : row.length ≤ 4) (h1 : 1 ≤ row.length) : ∀ (k fuel at' : Nat) (F : List (List Str)) (x5 x6 : Option SV), LotOk row F → at' ≤ F.length → 256 - at' ≤ k → k + 2 ≤ fuel → isL x5 = false → isL x6 = false →
    ∃ F' at2 x5' x6', mWhile fuel (mB (mOp2 qLt (mVar 4) (mFun pLenS (mOne (mVar 2))))) (mSeq lotFor (mSet 4 (mOp2 pAdd (mVar 4) (mC (.int 1))))) (lotSt L row F at' x5 x6) = .nx (lotSt L row F' at2 x5' x6') ∧ LotOk row F' := by
  intro k
  induction k with
  | zero =>
    intro fuel at' F x5 x6 hF ha hk hf h5 h6
    have bF := perms_le hF.nd hF.pm hr
    obtain ⟨fuel, rfl⟩ : ∃ f, fuel = f + 1 := ⟨fuel - 1, by omega⟩
    refine ⟨F, at', x5, x6, ?_, hF⟩
    have e1 := fun1 (g := pLenS) (f := mVar 2) (ms := lotSt L row F at' x5 x6) (a := rowsD F) (r := .dat (.int (F.length : Int))) (ev_own (l := false) rfl) (by unfold rowsD; rw [len_list, List.length_map]; rfl)
    have t := b_of (op2_ev (g := qLt) (ev_dat (i := 4) (d := .int (at' : Int)) rfl) (Ev.of e1) (qLt_nat at' F.length))
    rw [decide_eq_false (by omega)] at t
    exact while_end t
  | succ k ih =>
    intro fuel at' F x5 x6 hF ha hk hf h5 h6
    have bF := perms_le hF.nd hF.pm hr
    obtain ⟨fuel, rfl⟩ : ∃ f, fuel = f + 1 := ⟨fuel - 1, by omega⟩
    have e1 := fun1 (g := pLenS) (f := mVar 2) (ms := lotSt L row F at' x5 x6) (a := rowsD F) (r := .dat (.int (F.length : Int))) (ev_own (l := false) rfl) (by unfold rowsD; rw [len_list, List.length_map]; rfl)
    have t := b_of (op2_ev (g := qLt) (ev_dat (i := 4) (d := .int (at' : Int)) rfl) (Ev.of e1) (qLt_nat at' F.length))
    by_cases hlt : at' < F.length
    · rw [decide_eq_true hlt] at t
      obtain ⟨F1, x5', x6', e, hF1, hle, h5', h6'⟩ := lotFor_ok (L := L) hF hr h1 hlt h5 h6
      obtain ⟨F2, at2, y5, y6, e2, hF2⟩ := ih fuel (at' + 1) F1 x5' x6' hF1 (by omega) (by omega) (by omega) h5' h6'
      refine ⟨F2, at2, y5, y6, ?_, hF2⟩
      rw [while_go t (ms2 := lotSt L row F1 (at' + 1) x5' x6') (by
        rw [seq_nx e]
        have a1 := op2_ev (ms := lotSt L row F1 at' x5' x6') (g := pAdd) (ev_dat (i := 4) rfl) (ev_c (d := .int 1)) (int1 at')
        rw [set_d a1 rfl]
        rfl)]
      exact e2
    · rw [decide_eq_false hlt] at t
      exact ⟨F, at', x5, x6, while_end t, hF⟩
/-! raw lets -/
def rlSt (p : PyData) (s1 : SV) (m : Nat) (L : List Let) (x4 : Option SV) : MS := [some (.own true p), some s1, some (.dat (.int (m : Int))), some (.own false (.dict (tE (L.map letD)))), x4]
theorem any_let (L : List Let) (l : Let) : (if ((L.map letD).any fun e => PyData.eqv e (letD l)) = true then L.map letD else L.map letD ++ [letD l]) = (if l ∈ L then L else L ++ [l]).map letD := by
  have : ((L.map letD).any fun e => PyData.eqv e (letD l)) = decide (l ∈ L) := by
    rw [Bool.eq_iff_iff, List.any_eq_true, decide_eq_true_eq]
    constructor
    · rintro ⟨d, hd, he⟩
      obtain ⟨q, hq, rfl⟩ := List.mem_map.mp hd
      exact letD_inj ((eqv_iff (st_letD q)).mp he) ▸ hq
    · intro h
      exact ⟨_, List.mem_map.mpr ⟨l, h, rfl⟩, (eqv_iff (st_letD l)).mpr rfl⟩
  rw [this]
  by_cases h : l ∈ L <;> simp [h]
theorem raw_spec2 {n : Nat} {p : PyData} {x : Pl.Arg} {zs : List Str} (hp : Pn n p) (hn : n < 700000000) (hx : HdA zs x) (hl : zs.length ≤ 8) : ∃ (L : List Let) (p' : PyData), F__law_raw_lets [.lnt p, x] = .ret (.new (.dict (tE (L.map letD)))) (p' :: aB x) ∧ Pn (n + 16385) p' ∧ (∀ l ∈ L, l ∈ every zs) ∧ L.Nodup := by
  obtain ⟨z, p1, hz, d1, hp1⟩ := pick_at (ms := [some (.own true p), some (svA x), none, none, none]) (i := 0) (l := true) (f := mLst (mCons (mC (.int 2)) (mCons (mC (.int 3)) (mCons (mC (.int 5)) (mOne (mC (.int 9))))))) (r := .new (.list ([2, 3, 5, 9].map fun i : Nat => PyData.int (i : Int)))) (d := .list ([2, 3, 5, 9].map fun i : Nat => PyData.int (i : Int))) (ds := [2, 3, 5, 9].map fun i : Nat => PyData.int (i : Int)) rfl
    (lst_of (cons_d rfl (cons_d rfl (cons_d rfl (one_d rfl)))) rfl (by show 4 ≤ SZ; decide)) rfl hp (by omega) rfl (by decide) (by decide)
  obtain ⟨m, hm⟩ : ∃ m, m = [2, 3, 5, 9][z]'(by simpa using hz) := ⟨_, rfl⟩
  have hm2 : 2 ≤ m ∧ m ≤ 9 := by
    have : m ∈ [2, 3, 5, 9] := by rw [hm]; exact List.getElem_mem _
    simp at this
    omega
  rw [List.getElem_map, ← hm] at d1
  have hE : (every zs).length ≤ 16384 := by
    have h1 : every zs = evTo zs (twos (srtS zs)).length := by unfold evTo every; rw [List.take_length]; rfl
    rw [h1]
    exact evTo_small hl _
  obtain ⟨bd, hbd⟩ : ∃ bd, bd = (mIf (mB (mOp2 pEq (mCall F__law_draw (mCons (mVar 0) (mOne (mVar 2)))) (mC (.int 0)))) (mPut 3 (mVar 4) (mC (.bool true))) mSkip) := ⟨_, rfl⟩
  obtain ⟨ms', h, p', L, x4, e, hp', _, _, hsub, hnd⟩ := for_inv (g := gNm 4) (b := bd) (fun k ms => ∃ p' L x4, ms = rlSt p' (svA x) m L x4 ∧ Pn (n + 1 + k) p' ∧ L.length ≤ k ∧ isL x4 = false ∧ (∀ l ∈ L, l ∈ every zs) ∧ L.Nodup) ((every zs).map letD) 0 (rlSt p1 (svA x) m [] none) ⟨p1, [], none, rfl, hp1, Nat.le_refl _, rfl, by simp, by simp⟩ (by
    rintro j hj ms ⟨p2, L, x4, rfl, hp2, hL, h4, hsub, hnd⟩
    simp only [List.length_map] at hj
    rw [Nat.zero_add] at hp2 hL ⊢
    obtain ⟨l, hl⟩ : ∃ l, l = (every zs)[j] := ⟨_, rfl⟩
    obtain ⟨q, p3, dr, hq, hp3⟩ := draw_at (ms := rlSt p2 (svA x) m L (some (.dat (letD l)))) (i := 0) (l := true) (m := m) (f := mVar 2) rfl (var_d rfl) hp2 (by omega) (by omega) (by omega)
    have t : mB (mOp2 pEq (mCall F__law_draw (mCons (mVar 0) (mOne (mVar 2)))) (mC (.int 0))) (rlSt p2 (svA x) m L (some (.dat (letD l)))) = .ok (decide (q = 0)) (rlSt p3 (svA x) m L (some (.dat (letD l)))) := by
      refine b_of (op2_d dr (b := .int 0) rfl ?_)
      rw [eq_of (sh_int 0 _) (sh_int 0 _) (by decide) (by decide), PyData.eqv]
      have : (((q : Int) == 0) : Bool) = decide (q = 0) := by rw [Bool.eq_iff_iff]; simp
      rw [this]; rfl
    refine ⟨rlSt p2 (svA x) m L (some (.dat (letD l))), rlSt p3 (svA x) m (if q = 0 then (if l ∈ L then L else L ++ [l]) else L) (some (.dat (letD l))), ?_, .inl ?_, p3, _, _, rfl, by rw [show n + 1 + (j + 1) = n + 1 + j + 1 from by omega]; exact hp3, ?_, rfl, ?_, ?_⟩
    · rw [List.getElem_map, ← hl, gNm_ok (by rw [isLent_of (x := x4) rfl]; exact h4)]
      rfl
    · rw [hbd]
      by_cases h0 : q = 0
      · rw [decide_eq_true h0] at t
        rw [if_t t, if_pos h0]
        have hp := put_tE (K := L.map letD) kL (d := letD l) (kind1_letD l) (by rw [List.length_map]; omega)
        rw [any_let] at hp
        rw [put_ok (i := 3) (l := false) (fk := mVar 4) (fv := mC (.bool true)) (ms := rlSt p3 (svA x) m L (some (.dat (letD l)))) rfl rfl (var_d rfl) hp]
        rfl
      · rw [decide_eq_false h0] at t
        rw [if_f t, if_neg h0]
        rfl
    · by_cases h0 : q = 0
      · rw [if_pos h0]
        by_cases h1 : l ∈ L
        · rw [if_pos h1]; omega
        · rw [if_neg h1]; simp; omega
      · rw [if_neg h0]; omega
    · intro l' hl'
      by_cases h0 : q = 0
      · rw [if_pos h0] at hl'
        by_cases h1 : l ∈ L
        · rw [if_pos h1] at hl'; exact hsub l' hl'
        · rw [if_neg h1] at hl'
          rcases List.mem_append.mp hl' with z | z
          · exact hsub l' z
          · rw [List.mem_singleton] at z
            rw [z, hl]
            exact List.getElem_mem _
      · rw [if_neg h0] at hl'; exact hsub l' hl'
    · by_cases h0 : q = 0
      · rw [if_pos h0]
        by_cases h1 : l ∈ L
        · rw [if_pos h1]; exact hnd
        · rw [if_neg h1, List.nodup_append]
          refine ⟨hnd, by simp, fun a ha b hb => ?_⟩
          rw [List.mem_singleton] at hb
          subst hb
          exact fun z => h1 (z ▸ ha)
      · rw [if_neg h0]; exact hnd)
  rw [Nat.zero_add, List.length_map] at hp'
  refine ⟨L, p', ?_, hp'.mono (by omega), hsub, hnd⟩
  have run : b__law_raw_lets [some (.own true p), some (svA x), none, none, none] = .rt (.slot 3) (rlSt p' (svA x) m L x4) := by
    unfold b__law_raw_lets
    rw [seq_nx (par_of (is := [2, 3]) (keep_d d1 (keep_n (f := mDict0) rfl (keep_nil _))) (ms2 := rlSt p1 (svA x) m [] none) rfl)]
    have c0 : mCall F__law_every_let (mOne (mVar 1)) (rlSt p1 (svA x) m [] none) = .ok (.new (.list ((every zs).map letD))) (rlSt p1 (svA x) m [] none) := call1_v (i := 1) (x := svA x) rfl (by rw [argOf_svA]; exact every_spec hx hl)
    rw [hbd] at h
    rw [seq_nx ((for_fix (srcFz_new c0)).trans h), e]
    exact ret_of rfl
  unfold F__law_raw_lets runF
  rw [show initMS 5 [.lnt p, x] = [some (.own true p), some (svA x), none, none, none] from by cases x <;> rfl, run]
  cases x <;> rfl
theorem raw_spec {n : Nat} {p hd : PyData} {zs : List Str} (hp : Pn n p) (hn : n < 700000000) (hx : Hd zs hd) (hl : zs.length ≤ 8) : ∃ (L : List Let) (p' : PyData), F__law_raw_lets [.lnt p, .dat hd] = .ret (.new (.dict (tE (L.map letD)))) [p'] ∧ Pn (n + 16385) p' := by
  obtain ⟨L, p', h, h2, _⟩ := raw_spec2 (x := .dat hd) hp hn (HdA.tup hx) hl
  exact ⟨L, p', h, h2⟩
end Lw

/-! Su1 -/
set_option Elab.async false
set_option linter.all false
set_option maxRecDepth 100000
set_option maxHeartbeats 1000000
/-! the program's looks at sets, rings, lets: good ones pass -/
namespace Lw
open PySem PySem.Spec PyProof.Rows L2 Pl
section
variable {fa fb f g : ME} {ms ms1 ms2 : MS} {a b d : PyData} {r ra : Rv} {i : Nat}
theorem andV_t (h : f ms = .ok (.dat (.bool true)) ms1) : mAndV f g ms = g ms1 := by simp [mAndV, h, asB]
theorem andV_f (h : f ms = .ok (.dat (.bool false)) ms1) : mAndV f g ms = .ok (.dat (.bool false)) ms1 := by simp [mAndV, h, asB, vB]
end
theorem sSS_le {zs A : List Str} (hA : A.Nodup) (hs : ∀ a ∈ A, a ∈ zs) : A.length ≤ zs.length := nodup_le hA hs
theorem pis_set_spec {x : Pl.Arg} {zs A : List Str} (hx : Hd zs (aD x)) (hA : SS A) (hs : ∀ a ∈ A, a ∈ zs) (hl : A.length ≤ 100) : F_is_set [x, .dat (tS A)] = .ret (.dat (.bool true)) (backs [x, .dat (tS A)]) := by
  unfold F_is_set
  obtain ⟨M, hM⟩ : ∃ M : MS, M = [some (svA x), some (.dat (tS A)), none] := ⟨_, rfl⟩
  refine run2 (y := .dat (tS A)) (r := .dat (.bool true)) (ms' := M) ?_ (by rw [hM]; rfl) (by rw [hM]; rfl) rfl
  show b_is_set [some (svA x), some (.dat (tS A)), none] = _
  rw [← hM]
  unfold b_is_set
  have v1 : M[1]? = some (some (.dat (tS A))) := by rw [hM]; rfl
  have c1 := lc_mp (ms := M) (vs := [2]) (fi := fun ms => ((mVar 1) ms).bind srcOf) (g := gNm 2) (f := mAndV (mIsi ["str"] (mVar 2)) (mOp2 pIn (mVar 2) (mVar 0))) (src := .fix (A.map .str)) (ds := A.map .str) (fun _ => .bool true) (by rw [hM]; rfl) (.fix _) (by rw [hM]; rfl) (by rw [List.length_map]; omega) (fun d hd => by
    obtain ⟨a, ha, rfl⟩ := List.mem_map.mp hd
    refine t1 (by rw [hM]; rfl) rfl fun _ => ⟨.dat (.bool true), ?_, rfl⟩
    rw [andV_t (isi_of (d := .str a) (ev_dat (by rw [hM]; rfl)) rfl)]
    refine op2_ev (a := .str a) (b := aD x) (ev_dat (by rw [hM]; rfl)) (by rw [← svD_svA]; exact ev_sv (by rw [hM]; rfl)) ?_
    rw [pIn_of hx]
    simp [hs a ha, dB])
  rw [map_const] at c1
  have c2 := fun1_n (g := pAll) c1 (all_true rfl)
  rw [seq_nx (ms1 := M) (by
    rw [if_f]
    · rfl
    · rw [or_r (not_of (k := true) (tru_of (isi_of (ev_dat v1) rfl)))]
      exact not_of (k := true) (tru_of c2))]
  have c3 : mCall F_are_unlike (mOne (mVar 1)) M = .ok (.dat (.bool true)) M := call1_v (i := 1) (x := .dat (tS A)) v1 (unlike_spec (.inr rfl) hA.nodup (by omega))
  have c4 : mCall F_set_of (mOne (mVar 1)) M = .ok (.dat (tS (srtS A))) M := call1_v (i := 1) (x := .dat (tS A)) v1 (set_of_spec (.inr rfl))
  refine ret_of ?_
  rw [andV_t c3]
  refine op2_ev (ev_dat v1) (Ev.of c4) ?_
  rw [hA.srt_eq, eq_of (sh_tS A) (sh_tS A) (by decide) (by decide), (eqv_iff (st_tS A)).mpr rfl]
  rfl
theorem dat_Hd (A : List Str) : Hd A (tS A) := .inr rfl
theorem pis_ring_spec {z T A : List Str} (hT : SS T ∧ (∀ a ∈ T, a ∈ z) ∧ T.length = 3) (hA : SS A) (hs : ∀ a ∈ A, a ∈ z ∧ a ∉ T) (hl : A.length ≤ 100) (hz : z.length ≤ 100) : F_is_ring [.dat (tS z), .dat (tS T), .dat (tS A)] = .ret (.dat (.bool true)) [] := by
  unfold F_is_ring
  obtain ⟨M, hM⟩ : ∃ M : MS, M = [some (.dat (tS z)), some (.dat (tS T)), some (.dat (tS A))] := ⟨_, rfl⟩
  refine run3 (x := .dat (tS z)) (y := .dat (tS T)) (z := .dat (tS A)) (r := .dat (.bool true)) (ms' := M) ?_ (by rw [hM]; rfl) (by rw [hM]; rfl) (by rw [hM]; rfl) rfl
  show b_is_ring [some (.dat (tS z)), some (.dat (tS T)), some (.dat (tS A))] = _
  rw [← hM]
  unfold b_is_ring
  have v0 : M[0]? = some (some (.dat (tS z))) := by rw [hM]; rfl
  have v1 : M[1]? = some (some (.dat (tS T))) := by rw [hM]; rfl
  have v2 : M[2]? = some (some (.dat (tS A))) := by rw [hM]; rfl
  have c1 : mCall F_is_set (mCons (mVar 0) (mOne (mVar 1))) M = .ok (.dat (.bool true)) M := call2_v (x := .dat (tS z)) (y := .dat (tS T)) v0 v1 (by decide) (pis_set_spec (x := .dat (tS z)) (dat_Hd z) hT.1 hT.2.1 (by omega))
  have c2 : mOp2 pEq (mFun pLenS (mOne (mVar 1))) (mC (.int 3)) M = .ok (.dat (.bool true)) M := by
    refine op2_ev (a := .int 3) (Ev.of (fun1 (a := tS T) (ev_dat v1) (by unfold tS; rw [len_tuple, List.length_map, hT.2.2]; rfl))) (ev_c (d := .int 3)) rfl
  have c3 : mCall F_without (mCons (mVar 0) (mOne (mVar 1))) M = .ok (.dat (tS (wo z T))) M := call2_v (x := .dat (tS z)) (y := .dat (tS T)) v0 v1 (by decide) (without_spec (x := .dat (tS z)) (y := .dat (tS T)) (.inr ⟨⟨_, rfl⟩, rfl⟩) (dat_Hd T) hz)
  have c4 : mCall F_is_set (mCons (mCall F_without (mCons (mVar 0) (mOne (mVar 1)))) (mOne (mVar 2))) M = .ok (.dat (.bool true)) M := by
    refine call_ok (args := [.dat (tS (wo z T)), .dat (tS A)]) (cons_d c3 (one_d (var_d v2))) rfl rfl ?_
    exact pis_set_spec (x := .dat (tS (wo z T))) (dat_Hd _) hA (fun a ha => mem_wo.mpr (hs a ha)) hl
  refine ret_of ?_
  rw [andV_t c1, andV_t c2]
  exact c4
theorem is_let_spec {z : List Str} (hz : z.length ≤ 100) {l : Let} (hp : l.1 ∈ z) (hq : l.2.1 ∈ z) (hpq : ltS l.1 l.2.1 = true) (hB : SS l.2.2) (hs : ∀ k ∈ l.2.2, k ∈ z ∧ k ≠ l.1 ∧ k ≠ l.2.1) (hl : l.2.2.length ≤ 100) : F_is_let [.dat (tS z), .dat (letD l)] = .ret (.dat (.bool true)) [] := by
  obtain ⟨p, q, B⟩ := l
  unfold F_is_let
  obtain ⟨M, hM⟩ : ∃ M : MS, M = [some (.dat (tS z)), some (.dat (letD (p, q, B))), some (.dat (tS [p, q]))] := ⟨_, rfl⟩
  obtain ⟨N, hN⟩ : ∃ N : MS, N = [some (.dat (tS z)), some (.dat (letD (p, q, B))), none] := ⟨_, rfl⟩
  refine run2 (x := .dat (tS z)) (y := .dat (letD (p, q, B))) (r := .dat (.bool true)) (ms' := M) ?_ (by rw [hM]; rfl) (by rw [hM]; rfl) rfl
  show b_is_let [some (.dat (tS z)), some (.dat (letD (p, q, B))), none] = _
  rw [← hN]
  unfold b_is_let
  have n1 : N[1]? = some (some (.dat (letD (p, q, B)))) := by rw [hN]; rfl
  have c0 : mB (mOp2 pNe (mFun pLenS (mOne (mVar 1))) (mC (.int 3))) N = .ok false N := b_of (op2_ev (a := .int 3) (Ev.of (fun1 (a := letD (p, q, B)) (ev_dat n1) rfl)) (ev_c (d := .int 3)) rfl)
  rw [seq_nx (ms1 := N) (by
    rw [if_f]
    · rfl
    · rw [or_r (not_of (k := true) (tru_of (isi_of (ev_dat n1) rfl)))]
      exact c0)]
  have s1 : mSl (mVar 1) mNoPart (mPart (mC (.int 2))) N = .ok (.dat (tS [p, q])) N := sl_ev (ev_dat n1) sl_none (sl_part (z := 2) ev_c) rfl
  rw [seq_nx (ms1 := M) (by rw [set_d s1 (by rw [hN]; rfl), hN, hM]; rfl)]
  have v0 : M[0]? = some (some (.dat (tS z))) := by rw [hM]; rfl
  have v1 : M[1]? = some (some (.dat (letD (p, q, B)))) := by rw [hM]; rfl
  have v2 : M[2]? = some (some (.dat (tS [p, q]))) := by rw [hM]; rfl
  have hpair : SS [p, q] := by simp only [SS, List.pairwise_cons, List.mem_singleton, forall_eq, List.not_mem_nil, false_implies, implies_true, List.Pairwise.nil, and_true]; exact hpq
  have c1 : mCall F_is_set (mCons (mVar 0) (mOne (mVar 2))) M = .ok (.dat (.bool true)) M := call2_v (x := .dat (tS z)) (y := .dat (tS [p, q])) v0 v2 (by decide) (pis_set_spec (x := .dat (tS z)) (dat_Hd z) hpair (fun a ha => by
    simp only [List.mem_cons, List.not_mem_nil, or_false] at ha
    rcases ha with rfl | rfl <;> assumption) (by show 2 ≤ 100; decide))
  have c3 : mCall F_without (mCons (mVar 0) (mOne (mVar 2))) M = .ok (.dat (tS (wo z [p, q]))) M := call2_v (x := .dat (tS z)) (y := .dat (tS [p, q])) v0 v2 (by decide) (without_spec (x := .dat (tS z)) (y := .dat (tS [p, q])) (.inr ⟨⟨_, rfl⟩, rfl⟩) (dat_Hd [p, q]) hz)
  have c5 : mOp2 pIx (mVar 1) (mC (.int 2)) M = .ok (.dat (tS B)) M := op2_ev (ev_dat v1) (ev_c (d := .int 2)) rfl
  have c4 : mCall F_is_set (mCons (mCall F_without (mCons (mVar 0) (mOne (mVar 2)))) (mOne (mOp2 pIx (mVar 1) (mC (.int 2))))) M = .ok (.dat (.bool true)) M := by
    refine call_ok (args := [.dat (tS (wo z [p, q])), .dat (tS B)]) (cons_d c3 (one_d c5)) rfl rfl ?_
    exact pis_set_spec (x := .dat (tS (wo z [p, q]))) (dat_Hd _) hB (fun a ha => mem_wo.mpr ⟨(hs a ha).1, by
      have := hs a ha
      simp [this.2.1, this.2.2]⟩) hl
  refine ret_of ?_
  rw [andV_t c1]
  exact c4
theorem is_let_every {zs : List Str} (nd : zs.Nodup) (hz : zs.length ≤ 8) {l : Let} (h : l ∈ every zs) : F_is_let [.dat (tS (srtS zs)), .dat (letD l)] = .ret (.dat (.bool true)) [] := by
  obtain ⟨p, q, B⟩ := l
  obtain ⟨⟨h1, h2, h3⟩, h4, h5⟩ := (mem_every nd).mp h
  have := sSS_le h4.nodup (fun k hk => (h5 k hk).1)
  exact is_let_spec (by rw [srtS_length]; omega) (mem_srtS.mpr h1) (mem_srtS.mpr h2) h3 h4 (fun k hk => ⟨mem_srtS.mpr (h5 k hk).1, (h5 k hk).2⟩) (by show B.length ≤ 100; omega)
end Lw

/-! Su2 -/
set_option Elab.async false
set_option linter.all false
set_option maxRecDepth 100000
set_option maxHeartbeats 1000000
/-! books: made, asked for their hands, looked at for marks -/
namespace Lw
open PySem PySem.Spec PyProof.Rows L2 Pl
/-- each let once, in the order told -/
def ddup (L : List Let) : List Let := L.foldl (fun acc l => if l ∈ acc then acc else acc ++ [l]) []
theorem dd_snoc (L : List Let) (l : Let) : ddup (L ++ [l]) = if l ∈ ddup L then ddup L else ddup L ++ [l] := by
  unfold ddup; rw [List.foldl_append]; rfl
theorem mem_ddup {L : List Let} {l : Let} : l ∈ ddup L ↔ l ∈ L := by
  refine snoc_ind (P := fun L => l ∈ ddup L ↔ l ∈ L) (by simp [ddup]) (fun L m ih => ?_) L
  rw [dd_snoc]
  by_cases h : m ∈ ddup L
  · rw [if_pos h, ih, List.mem_append, List.mem_singleton]
    refine ⟨.inl, fun z => z.elim id fun z => ?_⟩
    subst z; exact ih.mp h
  · rw [if_neg h, List.mem_append, List.mem_append, ih]
theorem ddup_nodup (L : List Let) : (ddup L).Nodup := by
  refine snoc_ind (P := fun L => (ddup L).Nodup) (by simp [ddup]) (fun L m ih => ?_) L
  rw [dd_snoc]
  by_cases h : m ∈ ddup L
  · rw [if_pos h]; exact ih
  · rw [if_neg h, List.nodup_append]
    refine ⟨ih, by simp, fun a ha b hb => ?_⟩
    rw [List.mem_singleton] at hb
    subst hb
    exact fun z => h (z ▸ ha)
theorem ddup_len (L : List Let) : (ddup L).length ≤ L.length := nodup_le (ddup_nodup L) fun _ h => mem_ddup.mp h
/-- a book as data -/
def bookD (z : List Str) (K : List Let) : PyData := Pl.insD "Book" [("known", tS z), ("own", .dict (tE (K.map letD)))]
section
variable {fv f : ME} {ms ms1 : MS} {dv d : PyData} {i : Nat} {l : Bool} {es : List (Str × PyData)} {c fl : Str} {cs : List Str}
theorem fld_d (hv : fv ms = .ok (.dat dv) ms1) (hi : ms1[i]? = some (some (.own l (Pl.insD c es)))) (hc : c ∈ cs) (hz : es.length < 1000) : mFld cs i fl fv ms = .nx (ms1.set i (some (.own l (Pl.insD c (putE fl dv es))))) := by
  simp only [mFld, hv, SO.of_ok, frz, hi, unIns_ins]
  rw [if_pos ⟨hc, hz⟩]
theorem fld_n (hv : fv ms = .ok (.new dv) ms1) (hi : ms1[i]? = some (some (.own l (Pl.insD c es)))) (hc : c ∈ cs) (hz : es.length < 1000) : mFld cs i fl fv ms = .nx (ms1.set i (some (.own l (Pl.insD c (putE fl dv es))))) := by
  simp only [mFld, hv, SO.of_ok, frz, hi, unIns_ins]
  rw [if_pos ⟨hc, hz⟩]
theorem attr_ins (hc : c ∈ cs) : pAttr cs fl (Pl.insD c es) = (es.lookup fl).map .dat := by
  unfold pAttr
  rw [unIns_ins]
  simp only
  rw [if_pos hc]
theorem un_ev {g : PyData → Option Rv} {r : Rv} (h : Ev f ms d) (hg : g d = some r) : mUn g f ms = .ok r ms := by
  obtain ⟨r1, e1, v1⟩ := h
  simp [mUn, e1, v1, hg]
end
theorem known_ne_own : (("own" : Str) == ("known" : Str)) = false := by decide
theorem known_at (z : List Str) (K : List Let) : pAttr ["Book"] "known" (bookD z K) = some (.dat (tS z)) := by
  unfold bookD
  rw [attr_ins (by simp)]
  rfl
theorem own_at (z : List Str) (K : List Let) : pAttr ["Book"] "own" (bookD z K) = some (.dat (.dict (tE (K.map letD)))) := by
  unfold bookD
  rw [attr_ins (by simp), List.lookup_cons, known_ne_own]
  rfl
theorem book_hands_spec {x : Pl.Arg} {z : List Str} {K : List Let} (hx : aD x = bookD z K) : F_Book_hands [x] = .ret (.dat (tS z)) (backs [x]) := by
  unfold F_Book_hands
  refine run1 (r := .dat (tS z)) (ms' := [some (svA x)]) ?_ rfl rfl
  show b_Book_hands [some (svA x)] = _
  unfold b_Book_hands
  exact ret_of (un_ev (d := bookD z K) (by rw [← hx, ← svD_svA]; exact ev_sv rfl) (known_at z K))
/-- lets handed in: a list or a tuple of good ones -/
def LtD (L : List Let) (d : PyData) : Prop := d = .list (L.map letD) ∨ d = .tuple (L.map letD)
theorem LtD.src {L : List Let} {d : PyData} {ms : MS} {i : Nat} (h : LtD L d) (hi : ms[i]? = some (some (.dat d))) : ((mVar i) ms).bind srcOf = .ok (.fix (L.map letD)) ms := by
  rw [var_d hi, Out.bind_ok]
  rcases h with rfl | rfl <;> rfl
theorem LtD.srcF {L : List Let} {d : PyData} {ms : MS} {i : Nat} (h : LtD L d) (hi : ms[i]? = some (some (.dat d))) : ((mVar i) ms).bind srcFz = .ok (.fix (L.map letD)) ms := by
  rw [var_d hi, Out.bind_ok]
  rcases h with rfl | rfl <;> rfl
/-- {one: True for one in lets} -/
theorem own_cm {ms : MS} {i : Nat} {L : List Let} (h0 : ms[i]? = some none) (hl : L.length < 900000) : cmF [i] (gNm i) mYes (stepD (mVar i) (mC (.bool true))) (L.map letD) (.dict []) ms = .ok (.dict (tE ((ddup L).map letD))) ms := by
  have key : ∀ (b a : List Let), (a ++ b).length < 900000 → cmF [i] (gNm i) mYes (stepD (mVar i) (mC (.bool true))) (b.map letD) (.dict (tE ((ddup a).map letD))) ms = .ok (.dict (tE ((ddup (a ++ b)).map letD))) ms := by
    intro b
    induction b with
    | nil => intro a _; simp [cmF]
    | cons l b ih =>
      intro a hl
      have hlt : i < ms.length := (List.getElem?_eq_some_iff.mp h0).1
      have mi : (ms.set i (some (.dat (letD l))))[i]? = some (some (.dat (letD l))) := List.getElem?_set_self hlt
      have hn := ddup_len a
      have hp := put_tE (K := (ddup a).map letD) kL (d := letD l) (kind1_letD l) (by rw [List.length_map]; simp at hl; omega)
      rw [any_let, ← dd_snoc] at hp
      have hp' : putIn (.dict (tE ((ddup a).map letD))) (letD l) (.bool true) (ms.set i (some (.dat (letD l)))) = .ok (.dict (tE ((ddup (a ++ [l])).map letD))) (ms.set i (some (.dat (letD l)))) := by
        have e : gPut (.dict (tE ((ddup a).map letD))) (letD l) (.bool true) = if dOk (tE ((ddup a).map letD)) (letD l) = true ∧ (tE ((ddup a).map letD)).length < SZ then some (PyData.dict (dPut (tE ((ddup a).map letD)) (letD l) (.bool true))) else none := rfl
        rw [e] at hp
        split at hp
        · rename_i ok
          injection hp with hp
          show (if dOk (tE ((ddup a).map letD)) (letD l) = true ∧ (tE ((ddup a).map letD)).length < SZ then Out.ok (PyData.dict (dPut (tE ((ddup a).map letD)) (letD l) (.bool true))) _ else _) = _
          rw [if_pos ok, hp]
        · cases hp
      have hstep : stepD (mVar i) (mC (.bool true)) (.dict (tE ((ddup a).map letD))) (ms.set i (some (.dat (letD l)))) = .ok (.dict (tE ((ddup (a ++ [l])).map letD))) (ms.set i (some (.dat (letD l)))) := by
        simp only [stepD, var_d mi, Out.bind_ok, frz, mC]
        exact hp'
      rw [List.map_cons]
      show (cmTurn [i] (gNm i) mYes (stepD (mVar i) (mC (.bool true))) (letD l) (.dict (tE ((ddup a).map letD))) ms).bind _ = _
      have ht : cmTurn [i] (gNm i) mYes (stepD (mVar i) (mC (.bool true))) (letD l) (.dict (tE ((ddup a).map letD))) ms = .ok (.dict (tE ((ddup (a ++ [l])).map letD))) ms := by
        unfold cmTurn
        rw [gNm_ok (by simp [isLent, h0]), ofSO_nx]
        simp only [mYes, noExc_ok, Out.bind_ok, if_true, hstep]
        show Out.ok _ ((ms.set i (some (.dat (letD l)))).set i none) = _
        rw [set_back h0]
      rw [ht, Out.bind_ok, ih (a ++ [l]) (by simpa using hl)]
      simp
  exact key L [] (by simpa using hl)
theorem book_init_spec {hd ld : PyData} {ys : List Str} {L : List Let} (h : Hd ys hd) (hh : Hands ys) (h1 : 1 ≤ ys.length) (h8 : ys.length ≤ 8) (hL : LtD L ld) (hs : ∀ l ∈ L, l ∈ every ys) (hz : L.length < 900000) :
    F_Book___init__ [.lnt (Pl.insD "Book" []), .dat hd, .dat ld] = .ret (.dat .none) [bookD (srtS ys) (ddup L)] := by
  obtain ⟨z, hz'⟩ : ∃ z, z = srtS ys := ⟨_, rfl⟩
  obtain ⟨B, hB⟩ : ∃ B, B = Pl.insD "Book" [("known", tS z)] := ⟨_, rfl⟩
  obtain ⟨M, hM⟩ : ∃ M : MS, M = [some (.own true (Pl.insD "Book" [])), some (.dat hd), some (.dat ld), none] := ⟨_, rfl⟩
  obtain ⟨st, hst⟩ : ∃ st : Option SV → MS, st = fun x3 => [some (.own true B), some (.dat hd), some (.dat ld), x3] := ⟨_, rfl⟩
  have e1 : mCall F_need_hands (mOne (mVar 1)) M = .ok (.dat (tS z)) M := by rw [hz']; exact call1_v (i := 1) (x := .dat hd) (by rw [hM]; rfl) (need_hands_spec h hh h1 h8)
  have s1 : mFld ["Book"] 0 "known" (mCall F_need_hands (mOne (mVar 1))) M = .nx (st none) := by
    rw [fld_d e1 (i := 0) (l := true) (c := "Book") (es := []) (by rw [hM]; rfl) (by simp) (by decide), hM, hst, hB]
    rfl
  have ty : pIsi ["list", "tuple"] ld = some true := by rcases hL with rfl | rfl <;> rfl
  have t2 : ∀ x3, (st x3)[2]? = some (some (.dat ld)) := fun x3 => by rw [hst]; rfl
  have s2 : mIf (mNot (mTru (mIsi ["list", "tuple"] (mVar 2)))) mBadX mSkip (st none) = .nx (st none) := by
    rw [if_f (not_of (k := true) (tru_of (isi_of (ev_dat (t2 none)) ty)))]; rfl
  obtain ⟨bd, hbd⟩ : ∃ bd, bd = mIf (mNot (mTru (mCall F_is_let (mCons (mUn (pAttr ["Book"] "known") (mVar 0)) (mOne (mVar 3)))))) mBadX mSkip := ⟨_, rfl⟩
  have step : ∀ l ∈ L, bd (st (some (.dat (letD l)))) = .nx (st (some (.dat (letD l)))) := fun l hl => by
    have a1 : mUn (pAttr ["Book"] "known") (mVar 0) (st (some (.dat (letD l)))) = .ok (.dat (tS z)) (st (some (.dat (letD l)))) := by
      refine un_ev (d := B) (ev_own (l := true) (by rw [hst]; rfl)) ?_
      rw [hB, attr_ins (by simp)]
      rfl
    have a2 : mCall F_is_let (mCons (mUn (pAttr ["Book"] "known") (mVar 0)) (mOne (mVar 3))) (st (some (.dat (letD l)))) = .ok (.dat (.bool true)) (st (some (.dat (letD l)))) := by
      refine call_ok (args := [.dat (tS z), .dat (letD l)]) (cons_d a1 (one_d (var_d (by rw [hst]; rfl)))) rfl rfl ?_
      rw [hz']
      exact is_let_every hh.nd h8 (hs l hl)
    rw [hbd, if_f (not_of (k := true) (tru_of a2))]
    rfl
  obtain ⟨ms', hlp, x3, e, h3⟩ := for_inv (g := gNm 3) (b := bd) (fun k ms => ∃ x3, ms = st x3 ∧ isL x3 = false) (L.map letD) 0 (st none) ⟨none, rfl, rfl⟩ (by
    rintro j hj ms ⟨x3, rfl, h3⟩
    simp only [List.length_map] at hj
    refine ⟨st (some (.dat (letD L[j]))), _, ?_, .inl (step _ (List.getElem_mem _)), some (.dat (letD L[j])), rfl, rfl⟩
    rw [List.getElem_map, gNm_ok (by rw [isLent_of (x := x3) (by rw [hst]; rfl)]; exact h3), hst]
    rfl)
  rw [e] at hlp
  have s3 : mForV 2 (gNm 3) bd (st none) = .nx (st x3) := by
    have : mForV 2 (gNm 3) bd (st none) = mFor (fun ms => (mVar 2 ms).bind srcOf) (gNm 3) bd (st none) := by simp [mForV, t2 none]
    rw [this]
    exact (for_fix (hL.src (t2 none))).trans hlp
  have s4 : mFld ["Book"] 0 "own" (mCm [3] (fun ms => ((mVar 2) ms).bind srcFz) (gNm 3) mYes (stepD (mVar 3) (mC (.bool true))) (.dict [])) (st x3) = .nx [some (.own true (bookD z (ddup L))), some (.dat hd), some (.dat ld), none] := by
    have hw : wipeM (st x3) [3] = st none := by rw [hst]; rfl
    have c : mCm [3] (fun ms => ((mVar 2) ms).bind srcFz) (gNm 3) mYes (stepD (mVar 3) (mC (.bool true))) (.dict []) (st x3) = .ok (.new (.dict (tE ((ddup L).map letD)))) (st none) := by
      unfold mCm
      simp only [hL.srcF (t2 x3), Out.bind_ok, cmS, hw]
      rw [own_cm (by rw [hst]; rfl) hz]
      rfl
    rw [fld_n c (i := 0) (l := true) (c := "Book") (es := [("known", tS z)]) (by rw [hst, hB]; rfl) (by simp) (by show 1 < 1000; decide), hst]
    have : putE "own" (.dict (tE ((ddup L).map letD))) [("known", tS z)] = ([("known", tS z), ("own", .dict (tE ((ddup L).map letD)))] : List (Str × PyData)) := by
      unfold putE
      rw [if_neg (by decide)]
      rfl
    rw [this]
    rfl
  unfold F_Book___init__ runF
  have run : b_Book___init__ M = .nx [some (.own true (bookD z (ddup L))), some (.dat hd), some (.dat ld), none] := by
    unfold b_Book___init__
    rw [hbd] at s3
    rw [seq_nx s1, seq_nx s2, seq_nx s3, s4]
  rw [show initMS 4 [.lnt (Pl.insD "Book" []), .dat hd, .dat ld] = M from by rw [hM]; rfl, run, ← hz']
  rfl
/-! marks -/
theorem in_own {K : List Let} (l : Let) : pIn (letD l) (.dict (tE (K.map letD))) = dB (decide (l ∈ K)) := by
  unfold pIn
  rw [in_tE kL (kind1_letD l)]
  have : ((K.map letD).any fun e => PyData.eqv e (letD l)) = decide (l ∈ K) := by
    rw [Bool.eq_iff_iff, List.any_eq_true, decide_eq_true_eq]
    constructor
    · rintro ⟨d, hd, he⟩
      obtain ⟨q, hq, rfl⟩ := List.mem_map.mp hd
      exact letD_inj ((eqv_iff (st_letD q)).mp he) ▸ hq
    · intro h
      exact ⟨_, List.mem_map.mpr ⟨l, h, rfl⟩, (eqv_iff (st_letD l)).mpr rfl⟩
  rw [this]
  rfl
def bl (K : List Let) (d : PyData) : PyData := match pIn d (.dict (tE (K.map letD))) with
  | some (.dat b) => b
  | _ => .none
theorem bl_let (K : List Let) (l : Let) : bl K (letD l) = .bool (decide (l ∈ K)) := by
  unfold bl; rw [in_own]; rfl
def marksD (K : List Let) (r : Rg) : PyData := .tuple ((six r).map fun l => .bool (decide (l ∈ K)))
theorem plain_marks_spec {x : Pl.Arg} {z A : List Str} {i j k : Str} {K : List Let} (hx : aD x = bookD z K) (hl : A.length ≤ 100) : F_plain_marks [x, .dat (tS [i, j, k]), .dat (tS A)] = .ret (.dat (marksD K ([i, j, k], A))) (backs [x]) := by
  unfold F_plain_marks
  obtain ⟨M, hM⟩ : ∃ M : MS, M = [some (svA x), some (.dat (tS [i, j, k])), some (.dat (tS A)), none] := ⟨_, rfl⟩
  have hb : backs [x] = backs [x, .dat (tS [i, j, k]), .dat (tS A)] := by simp [backs, aB]
  rw [hb]
  refine run3 (y := .dat (tS [i, j, k])) (z := .dat (tS A)) (r := .dat (marksD K ([i, j, k], A))) (ms' := M) ?_ (by rw [hM]; rfl) (by rw [hM]; rfl) (by rw [hM]; rfl) rfl
  show b_plain_marks [some (svA x), some (.dat (tS [i, j, k])), some (.dat (tS A)), none] = _
  rw [← hM]
  unfold b_plain_marks
  have c1 : mCall F_ring_lets (mCons (mVar 1) (mOne (mVar 2))) M = .ok (.new (.list ((six ([i, j, k], A)).map letD))) M := call2_v (x := .dat (tS [i, j, k])) (y := .dat (tS A)) (by rw [hM]; rfl) (by rw [hM]; rfl) (by decide) (ring_lets_spec hl)
  have c2 := lc_mp (ms := M) (vs := [3]) (fi := fun ms => ((mCall F_ring_lets (mCons (mVar 1) (mOne (mVar 2)))) ms).bind srcOf) (g := gNm 3) (f := mOp2 pIn (mVar 3) (mUn (pAttr ["Book"] "own") (mVar 0))) (bl K) (src_new c1) (.fix _) (by rw [hM]; rfl) (by rw [List.length_map]; show 6 < 1000000; decide) (fun d hd => by
    obtain ⟨l, hl, rfl⟩ := List.mem_map.mp hd
    rw [bl_let]
    refine t1 (by rw [hM]; rfl) rfl fun _ => ⟨.dat (.bool (decide (l ∈ K))), ?_, rfl⟩
    refine op2_ev (a := letD l) (b := .dict (tE (K.map letD))) (ev_dat (by rw [hM]; rfl)) (Ev.of (un_ev (d := bookD z K) (by rw [← hx, ← svD_svA]; exact ev_sv (by rw [hM]; rfl)) (own_at z K))) (in_own l))
  have e : ((six ([i, j, k], A)).map letD).map (bl K) = (six ([i, j, k], A)).map fun l => .bool (decide (l ∈ K)) := by
    rw [List.map_map]
    exact List.map_congr_left fun l _ => bl_let K l
  rw [e] at c2
  exact ret_of (fun1_n c2 rfl)
theorem meth0_ok {x : SV} {c m : Str} {F : Pl.Fn} {es : List (Str × PyData)} {r : Rv} {ms : MS} {i : Nat} (h : ms[i]? = some (some x)) (hd : svD x = Pl.insD c es) (hm : es.lookup m = none) (hF : F [argOf x] = .ret r (backs [argOf x])) : mMethC c m F (mVar i) mNil ms = .ok r ms := by
  have hv : view ms (rvOf i x) = some (Pl.insD c es) := by
    rw [← hd]
    cases x <;> simp [rvOf, view, h, svD]
  have hs : Pl.settle (rvOf i x) = rvOf i x := by cases x <;> rfl
  unfold mMethC
  rw [var_ok h, Out.bind_ok, hv]
  simp only [unIns_ins]
  rw [if_pos ⟨trivial, hm⟩]
  have hh := toArg_rv h
  show callOut F [Pl.settle (rvOf i x)] ms = _
  rw [hs]
  unfold callOut
  have h3 : nodupB (lentOf ms [rvOf i x]) = true := by cases x <;> simp [lentOf, rvOf, h, nodupB]
  rw [if_pos h3]
  have h2 : toArgs ms [rvOf i x] = some [argOf x] := by simp [toArgs, hh]
  rw [h2]
  simp only [hF, putBack_same h2]
theorem no_meth {m : Str} {a b : PyData} (h1 : (m == ("known" : Str)) = false) (h2 : (m == ("own" : Str)) = false) : List.lookup m ([("known", a), ("own", b)] : List (Str × PyData)) = none := by
  rw [List.lookup_cons, h1, List.lookup_cons, h2]
  rfl
theorem marks_spec {x : Pl.Arg} {z A : List Str} {i j k : Str} {K : List Let} (hx : aD x = bookD z K) (hT : SS [i, j, k] ∧ (∀ a ∈ [i, j, k], a ∈ z)) (hA : SS A) (hs : ∀ a ∈ A, a ∈ z ∧ a ∉ [i, j, k]) (hl : A.length ≤ 100) (hz : z.length ≤ 100) : F_marks [x, .dat (tS [i, j, k]), .dat (tS A)] = .ret (.dat (marksD K ([i, j, k], A))) (backs [x]) := by
  unfold F_marks
  obtain ⟨M, hM⟩ : ∃ M : MS, M = [some (svA x), some (.dat (tS [i, j, k])), some (.dat (tS A))] := ⟨_, rfl⟩
  have hb : backs [x] = backs [x, .dat (tS [i, j, k]), .dat (tS A)] := by simp [backs, aB]
  rw [hb]
  refine run3 (y := .dat (tS [i, j, k])) (z := .dat (tS A)) (r := .dat (marksD K ([i, j, k], A))) (ms' := M) ?_ (by rw [hM]; rfl) (by rw [hM]; rfl) (by rw [hM]; rfl) rfl
  show b_marks [some (svA x), some (.dat (tS [i, j, k])), some (.dat (tS A))] = _
  rw [← hM]
  unfold b_marks
  have v0 : M[0]? = some (some (svA x)) := by rw [hM]; rfl
  have v1 : M[1]? = some (some (.dat (tS [i, j, k]))) := by rw [hM]; rfl
  have v2 : M[2]? = some (some (.dat (tS A))) := by rw [hM]; rfl
  have c0 : mMethC "Book" "hands" F_Book_hands (mVar 0) mNil M = .ok (.dat (tS z)) M := by
    refine meth0_ok v0 (by rw [svD_svA, hx]; rfl) (no_meth (by decide) (by decide)) ?_
    rw [argOf_svA]
    exact book_hands_spec hx
  have c1 : mCall F_is_ring (mCons (mMethC "Book" "hands" F_Book_hands (mVar 0) mNil) (mCons (mVar 1) (mOne (mVar 2)))) M = .ok (.dat (.bool true)) M := by
    refine call_ok (args := [.dat (tS z), .dat (tS [i, j, k]), .dat (tS A)]) (cons_d c0 (cons_d (var_d v1) (one_d (var_d v2)))) rfl rfl ?_
    exact pis_ring_spec ⟨hT.1, hT.2, rfl⟩ hA hs hl hz
  rw [seq_nx (ms1 := M) (by rw [if_f (not_of (k := true) (tru_of c1))]; rfl)]
  refine ret_of ?_
  refine call_ok (args := [argOf (svA x), .dat (tS [i, j, k]), .dat (tS A)]) (cons_v v0 (cons_d (var_d v1) (one_d (var_d v2)))) (toArgs_cons (toArg_rv v0) rfl) ?_ ?_
  · cases x <;> simp only [svA] at v0 <;> simp [lentOf, rvOf, svA, v0, nodupB]
  · rw [argOf_svA, plain_marks_spec hx hl]
    simp [backs, aB]
end Lw

/-! Su3 -/
set_option Elab.async false
set_option linter.all false
set_option maxRecDepth 100000
set_option maxHeartbeats 1000000
/-! what is drawn: books, sets, rings -/
namespace Lw
open PySem PySem.Spec PyProof.Rows L2 Pl
open PySem.W (dataLt alike alikeAll)
theorem alike_letD (l m : Let) : alike (letD l) (letD m) = true := by simp [letD, alike, alikeAll, alike_tS]
def leLet (l m : Let) : Bool := !dataLt (letD m) (letD l)
def srtL (L : List Let) : List Let := L.mergeSort leLet
theorem srtL_perm (L : List Let) : (srtL L).Perm L := List.mergeSort_perm _ _
theorem keysA_tE (L : List Let) : keysA (tE (L.map letD)) = true := by
  unfold keysA
  rw [List.all_eq_true]
  intro e he
  obtain ⟨d, hd, rfl⟩ := List.mem_map.mp he
  obtain ⟨l, _, rfl⟩ := List.mem_map.mp hd
  rfl
theorem sortOk_lets (L : List Let) : sortOk (L.map letD) = true := by
  unfold sortOk
  simp only [Bool.and_eq_true, List.all_eq_true]
  refine ⟨⟨?_, ?_⟩, ?_⟩
  · intro x hx y hy
    obtain ⟨a, _, rfl⟩ := List.mem_map.mp hx
    obtain ⟨b, _, rfl⟩ := List.mem_map.mp hy
    exact alike_letD a b
  · intro x hx
    obtain ⟨a, _, rfl⟩ := List.mem_map.mp hx
    have := (sh_letD a).2
    simp; omega
  · intro x hx
    obtain ⟨a, _, rfl⟩ := List.mem_map.mp hx
    rfl
theorem sortD_lets (L : List Let) : sortD (L.map letD) = (srtL L).map letD := by
  unfold sortD srtL
  rw [List.map_mergeSort]
  intro a _ b _
  rfl
theorem sorted_letsD (L : List Let) : pSorted [.dict (tE (L.map letD))] = some (.new (.list ((srtL L).map letD))) := by
  have e : (tE (L.map letD)).map (·.1) = L.map letD := by
    unfold tE
    rw [List.map_map]
    exact List.map_id'' (fun _ => rfl) _
  show (if keysA (tE (L.map letD)) = true ∧ sortOk ((tE (L.map letD)).map (·.1)) = true then some (Rv.new (.list (sortD ((tE (L.map letD)).map (·.1))))) else none) = _
  rw [e, if_pos ⟨keysA_tE L, sortOk_lets L⟩, sortD_lets]
section
variable {fa fb f g : ME} {ms ms1 ms2 : MS} {a b d : PyData} {r ra : Rv} {i : Nat}
theorem op2_nn {g : PyData → PyData → Option Rv} (h1 : fa ms = .ok (.new a) ms1) (h2 : fb ms1 = .ok (.new b) ms2) (hg : g a b = some r) : mOp2 g fa fb ms = .ok r ms2 := by
  simp [mOp2, h1, h2, app2, view, hg]
theorem sl_own {l : Bool} {lo hi : Option Int} {pl ph : MP} {ds : List PyData} (h0 : ms[i]? ≠ none ∧ ∃ d l', ms[i]? = some (some (.own l' d))) (h1 : pl ms = .ok lo ms1) (h2 : ph ms1 = .ok hi ms2) (h : ms2[i]? = some (some (.own l (.list ds)))) : mSl (mVar i) pl ph ms = .ok (.new (.list (Pl.cutD ds lo hi))) ms2 := by
  obtain ⟨_, d, l', e⟩ := h0
  simp [mSl, mVar, e, h1, h2, view, h, pSl]
theorem part_st {z : Int} (h : f ms = .ok (.dat (.int z)) ms1) : mPart f ms = .ok (some z) ms1 := by simp [mPart, h, view]
theorem make2 {c : Str} {F : Pl.Fn} {fa : MA} {d' : PyData} (h1 : fa ms = .ok [.dat a, .dat b] ms1) (hF : F [.lnt (Pl.insD c []), .dat a, .dat b] = .ret (.dat .none) [d']) : mMake c F fa ms = .ok (.new d') ms1 := by
  have e0 : (ms1 ++ [some (.own false (Pl.insD c []))])[ms1.length]? = some (some (.own false (Pl.insD c []))) := by simp
  have e1 : (ms1 ++ [some (SV.own false d')])[ms1.length]? = some (some (.own false d')) := by simp
  have e2 : (ms1 ++ [some (SV.own false (Pl.insD c []))]).set ms1.length (some (.own false d')) = ms1 ++ [some (.own false d')] := by simp
  unfold mMake
  rw [h1, Out.bind_ok]
  have l1 : lentOf (ms1 ++ [some (SV.own false (Pl.insD c []))]) [.slot ms1.length, .dat a, .dat b] = [ms1.length] := by simp [lentOf]
  have t1 : toArgs (ms1 ++ [some (SV.own false (Pl.insD c []))]) [.slot ms1.length, .dat a, .dat b] = some [.lnt (Pl.insD c []), .dat a, .dat b] := by simp [toArgs, toArg]
  have c1 : callOut F [.slot ms1.length, .dat a, .dat b] (ms1 ++ [some (.own false (Pl.insD c []))]) = .ok (.dat .none) (ms1 ++ [some (.own false d')]) := by
    unfold callOut
    rw [l1, if_pos (show nodupB [ms1.length] = true by simp [nodupB]), t1]
    simp only [hF, putBack, e0, e2]
  rw [c1]
  simp only [e1]
  rw [List.take_left]
theorem callP_n {F : Pl.Fn} {l : Bool} {p p' : PyData} (hi : ms[i]? = some (some (.own l p))) (hf : f ms = .ok (.new d) ms) (hF : F [.lnt p, .dat d] = .ret r [p']) : mCall F (mCons (mVar i) (mOne f)) ms = .ok r (ms.set i (some (.own l p'))) := by
  simp [mCall, mCons, mOne, mVar, hi, hf, Pl.settle, callOut, lentOf, nodupB, toArgs, toArg, hF, putBack]
end
/-- a let of sets of hands -/
theorem told_mem {S : List Let} {at' k : Nat} {l : Let} : l ∈ (S.drop at' ++ S.take at') ++ S.take k ↔ l ∈ S := by
  rw [List.mem_append, List.mem_append]
  constructor
  · rintro ((h | h) | h)
    · exact List.mem_of_mem_drop h
    · exact List.mem_of_mem_take h
    · exact List.mem_of_mem_take h
  · intro h
    rw [← List.take_append_drop at' S, List.mem_append] at h
    rcases h with h | h
    · exact .inl (.inr h)
    · exact .inl (.inl h)
theorem every_small {zs : List Str} (h : zs.length ≤ 8) : (every zs).length ≤ 16384 := by
  have h1 : every zs = evTo zs (twos (srtS zs)).length := by unfold evTo every; rw [List.take_length]; rfl
  rw [h1]
  exact evTo_small h _
theorem every_perm {ys zs : List Str} (h : ys.Perm zs) (nz : zs.Nodup) {l : Let} : l ∈ every zs → l ∈ every ys := by
  obtain ⟨p, q, B⟩ := l
  rw [mem_every nz, mem_every (h.nodup_iff.mpr nz)]
  simp only [h.mem_iff]
  exact id
theorem law_book_spec {n : Nat} {p : PyData} {zs : List Str} {L : List Let} (hp : Pn n p) (hn : n < 100000000) (hh : Hands zs) (h1 : 1 ≤ zs.length) (h8 : zs.length ≤ 8) (hL : ∀ l ∈ L, l ∈ every zs) (nd : L.Nodup) :
    ∃ (p' : PyData) (K : List Let), F__law_book [.lnt p, .lnt (.list (zs.map .str)), .lnt (.dict (tE (L.map letD)))] = .ret (.new (bookD (srtS zs) K)) [p', .list (zs.map .str), .dict (tE (L.map letD))] ∧ (∀ l, l ∈ K ↔ l ∈ L) ∧ K.Nodup ∧ Pn (n + 20) p' := by
  obtain ⟨Z, hZ⟩ : ∃ Z, Z = zs.map PyData.str := ⟨_, rfl⟩
  obtain ⟨D, hD⟩ : ∃ D, D = PyData.dict (tE (L.map letD)) := ⟨_, rfl⟩
  obtain ⟨S, hS⟩ : ∃ S, S = srtL L := ⟨_, rfl⟩
  have hSl : S.length ≤ 16384 := by
    rw [hS, (srtL_perm L).length_eq]
    exact Nat.le_trans (nodup_le nd hL) (every_small h8)
  have hSm : ∀ l, l ∈ S ↔ l ∈ L := fun l => by rw [hS]; exact (srtL_perm L).mem_iff
  obtain ⟨st, hst⟩ : ∃ st : PyData → Option SV → Option SV → Option SV → MS, st = fun q x3 x4 x5 => [some (.own true q), some (.own true (.list Z)), some (.own true D), x3, x4, x5] := ⟨_, rfl⟩
  obtain ⟨s3, hs3⟩ : ∃ s3 : Option SV, s3 = some (.own false (.list (S.map letD))) := ⟨_, rfl⟩
  have e1 : mSet 3 (mFun pSorted (mOne (mVar 2))) (st p none none none) = .nx (st p s3 none none) := by
    have : mFun pSorted (mOne (mVar 2)) (st p none none none) = .ok (.new (.list (S.map letD))) (st p none none none) := fun1 (a := D) (ev_own (l := true) (by rw [hst]; rfl)) (by rw [hD, hS]; exact sorted_letsD L)
    rw [set_n this (by rw [hst]; rfl), hst, hs3]
    rfl
  have f1 : mOp2 pAdd (mFun pLenS (mOne (mVar 3))) (mC (.int 1)) (st p s3 none none) = .ok (.dat (.int ((S.length + 1 : Nat) : Int))) (st p s3 none none) := by
    refine op2_ev (a := .int (S.length : Int)) (Ev.of (fun1 (a := .list (S.map letD)) (ev_own (l := false) (by rw [hst, hs3]; rfl)) (by rw [len_list, List.length_map]; rfl))) (ev_c (d := .int 1)) (int1 _)
  obtain ⟨at', p1, d1, ha, hp1⟩ := draw_at (ms := st p s3 none none) (i := 0) (l := true) (n := n) (m := S.length + 1) (by rw [hst]; rfl) f1 hp (by omega) (by omega) (by omega)
  have q1 : (st p s3 none none).set 0 (some (.own true p1)) = st p1 s3 none none := by rw [hst]; rfl
  rw [q1] at d1
  obtain ⟨s4, hs4⟩ : ∃ s4 : Option SV, s4 = some (.dat (.int (at' : Int))) := ⟨_, rfl⟩
  have e2 : mSet 4 (mCall F__law_draw (mCons (mVar 0) (mOne (mOp2 pAdd (mFun pLenS (mOne (mVar 3))) (mC (.int 1)))))) (st p s3 none none) = .nx (st p1 s3 s4 none) := by
    rw [set_d d1 (by rw [hst]; rfl), hst, hs4]
    rfl
  obtain ⟨k, p2, d2, hk, hp2⟩ := draw_at (ms := st p1 s3 s4 none) (i := 0) (l := true) (n := n + 1) (m := 2) (f := mC (.int 2)) (by rw [hst]; rfl) rfl hp1 (by omega) (by omega) (by omega)
  have q2 : (st p1 s3 s4 none).set 0 (some (.own true p2)) = st p2 s3 s4 none := by rw [hst]; rfl
  rw [q2] at d2
  have g3 : ∀ q x5, (st q s3 s4 x5)[3]? = some (some (.own false (.list (S.map letD)))) := fun q x5 => by rw [hst, hs3]; rfl
  have g4 : ∀ q x5, mVar 4 (st q s3 s4 x5) = .ok (.dat (.int (at' : Int))) (st q s3 s4 x5) := fun q x5 => var_d (by rw [hst, hs4]; rfl)
  have sl1 : mSl (mVar 3) (mPart (mVar 4)) mNoPart (st p1 s3 s4 none) = .ok (.new (.list ((S.drop at').map letD))) (st p1 s3 s4 none) := by
    rw [sl_own ⟨by rw [g3]; simp, _, _, g3 _ _⟩ (part_st (g4 _ _)) sl_none (g3 _ _), cutD_from, List.map_drop]
  have sl2 : mSl (mVar 3) mNoPart (mPart (mVar 4)) (st p1 s3 s4 none) = .ok (.new (.list ((S.take at').map letD))) (st p1 s3 s4 none) := by
    rw [sl_own ⟨by rw [g3]; simp, _, _, g3 _ _⟩ sl_none (part_st (g4 _ _)) (g3 _ _), cutD_upto, List.map_take]
  have sl3 : mSl (mVar 3) mNoPart (mPart (mCall F__law_draw (mCons (mVar 0) (mOne (mC (.int 2)))))) (st p1 s3 s4 none) = .ok (.new (.list ((S.take k).map letD))) (st p2 s3 s4 none) := by
    rw [sl_own ⟨by rw [g3]; simp, _, _, g3 _ _⟩ sl_none (part_st d2) (g3 _ _), cutD_upto, List.map_take]
  obtain ⟨T, hT⟩ : ∃ T : List Let, T = (S.drop at' ++ S.take at') ++ S.take k := ⟨_, rfl⟩
  have hTl : T.length ≤ 40000 := by rw [hT]; simp; omega
  have a1 := op2_nn (g := pAdd) sl1 sl2 (addL (by simp; omega))
  have a2 := op2_nn (g := pAdd) a1 sl3 (addL (by simp; omega))
  rw [← List.map_append, ← List.map_append, ← hT] at a2
  obtain ⟨s5, hs5⟩ : ∃ s5 : Option SV, s5 = some (.own false (.list (T.map letD))) := ⟨_, rfl⟩
  obtain ⟨s6, hs6⟩ : ∃ s6 : Option SV, s6 = some (.dat (.list (T.map letD))) := ⟨_, rfl⟩
  have e3 : mSet 5 (mOp2 pAdd (mOp2 pAdd (mSl (mVar 3) (mPart (mVar 4)) mNoPart) (mSl (mVar 3) mNoPart (mPart (mVar 4)))) (mSl (mVar 3) mNoPart (mPart (mCall F__law_draw (mCons (mVar 0) (mOne (mC (.int 2)))))))) (st p1 s3 s4 none) = .nx (st p2 s3 s4 s5) := by
    rw [set_n a2 (by rw [hst]; rfl), hst, hs5]
    rfl
  obtain ⟨p3, hd, ys, hl, hy, py, hp3⟩ := listed_spec (zs := zs) hp2 (by omega) (by omega)
  have q3 : (st p2 s3 s4 s5).set 0 (some (.own true p3)) = st p3 s3 s4 s5 := by rw [hst]; rfl
  have c1 : mCall F__law_listed (mCons (mVar 0) (mOne (mVar 1))) (st p2 s3 s4 s5) = .ok (.dat hd) (st p3 s3 s4 s5) := by
    rw [← q3]
    exact callP_v (d := .list Z) (l := true) (l2 := true) (by rw [hst]; rfl) (by rw [hst]; rfl) (by decide) (by rw [hZ]; exact hl)
  obtain ⟨z, p4, d4, hz, hp4⟩ := draw_at (ms := st p3 s3 s4 s6) (i := 0) (l := true) (n := n + 1 + 1 + zs.length + 1) (m := 2) (f := mC (.int 2)) (by rw [hst]; rfl) rfl hp3 (by omega) (by omega) (by omega)
  have q4 : (st p3 s3 s4 s6).set 0 (some (.own true p4)) = st p4 s3 s4 s6 := by rw [hst]; rfl
  rw [q4] at d4
  have c2 : mLst (mCons (mVar 5) (mOne (mFun pTuple (mOne (mVar 5))))) (st p3 s3 s4 s5) = .ok (.new (.list [.list (T.map letD), .tuple (T.map letD)])) (st p3 s3 s4 s6) := by
    refine lst_of (ms1 := st p3 s3 s4 s5) (rs := [.slot 5, .dat (.tuple (T.map letD))]) (ds := [.list (T.map letD), .tuple (T.map letD)]) ?_ ?_ (by show 2 ≤ SZ; decide)
    · rw [hst, hs5]; rfl
    · rw [hst, hs5, hs6]; rfl
  obtain ⟨ld, hld⟩ : ∃ ld, ld = [PyData.list (T.map letD), .tuple (T.map letD)][z]'(by simpa using hz) := ⟨_, rfl⟩
  have c3 := op2_n (g := pIx) c2 d4 (ix_list _ z (by simpa using hz))
  rw [← hld] at c3
  have hLt : LtD T ld := by
    have : z = 0 ∨ z = 1 := by omega
    rcases this with rfl | rfl
    · exact .inl (by rw [hld]; rfl)
    · exact .inr (by rw [hld]; rfl)
  have hTm : ∀ l, l ∈ T ↔ l ∈ L := fun l => by rw [hT, told_mem]; exact hSm l
  have hin := book_init_spec (hd := hd) (ld := ld) (ys := ys) (L := T) hy (hh.perm py) (by rw [py.length_eq]; exact h1) (by rw [py.length_eq]; exact h8) hLt (fun l hl => every_perm py hh.nd (hL l ((hTm l).mp hl))) (by omega)
  rw [srtS_perm_eq py] at hin
  have c4 := make2 (c := "Book") (fa := mCons (mCall F__law_listed (mCons (mVar 0) (mOne (mVar 1)))) (mOne (mOp2 pIx (mLst (mCons (mVar 5) (mOne (mFun pTuple (mOne (mVar 5)))))) (mCall F__law_draw (mCons (mVar 0) (mOne (mC (.int 2)))))))) (cons_d c1 (one_d c3)) hin
  refine ⟨p4, ddup T, ?_, fun l => by rw [mem_ddup]; exact hTm l, ddup_nodup T, hp4.mono (by omega)⟩
  have run : b__law_book (st p none none none) = .rt (.new (bookD (srtS zs) (ddup T))) (st p4 s3 s4 s6) := by
    unfold b__law_book
    rw [seq_nx e1, seq_nx e2, seq_nx e3]
    exact ret_of c4
  rw [← hZ, ← hD]
  unfold F__law_book runF
  rw [show initMS 6 [.lnt p, .lnt (.list Z), .lnt D] = st p none none none from by rw [hst]; rfl, run, hst]
  rfl
/-! a drawn set, a drawn ring -/
theorem some_lc (D : Option SV) : ∀ (ys acc : List Str) (p : PyData) (n : Nat), Pn n p → n + ys.length < 100000000 → acc.length + ys.length < 1000 → ∃ (p' : PyData) (as : List Str),
    lcF [2] (gNm 2) (mB (mOp2 pEq (mCall F__law_draw (mCons (mVar 0) (mOne (mC (.int 2))))) (mC (.int 0)))) (mVar 2) (ys.map .str) (acc.map .str) [some (.own true p), D, none] = .ok ((acc ++ as).map .str) [some (.own true p'), D, none] ∧ as.Sublist ys ∧ Pn (n + ys.length) p' := by
  intro ys
  induction ys with
  | nil => intro acc p n hp _ _; exact ⟨p, [], by simp [lcF], .slnil, hp⟩
  | cons y ys ih =>
    intro acc p n hp hn hl
    simp only [List.length_cons] at hn hl ⊢
    obtain ⟨q, p1, dr, hq, hp1⟩ := draw_at (ms := [some (.own true p), D, some (.dat (.str y))]) (i := 0) (l := true) (m := 2) (f := mC (.int 2)) rfl rfl hp (by omega) (by omega) (by omega)
    have t : mB (mOp2 pEq (mCall F__law_draw (mCons (mVar 0) (mOne (mC (.int 2))))) (mC (.int 0))) [some (.own true p), D, some (.dat (.str y))] = .ok (decide (q = 0)) [some (.own true p1), D, some (.dat (.str y))] := by
      refine b_of (op2_d dr (b := .int 0) rfl ?_)
      rw [eq_of (sh_int 0 _) (sh_int 0 _) (by decide) (by decide), PyData.eqv]
      have : (((q : Int) == 0) : Bool) = decide (q = 0) := by rw [Bool.eq_iff_iff]; simp
      rw [this]; rfl
    have hg : gNm 2 (.str y) [some (.own true p), D, none] = .nx [some (.own true p), D, some (.dat (.str y))] := rfl
    have turn : lcTurn [2] (gNm 2) (mB (mOp2 pEq (mCall F__law_draw (mCons (mVar 0) (mOne (mC (.int 2))))) (mC (.int 0)))) (mVar 2) (.str y) (acc.map .str) [some (.own true p), D, none] = .ok ((if q = 0 then acc ++ [y] else acc).map .str) [some (.own true p1), D, none] := by
      unfold lcTurn
      rw [hg, ofSO_nx, t, noExc_ok, Out.bind_ok]
      have hz : acc.length < SZ := Nat.lt_of_lt_of_le (show acc.length < 1000 by omega) (by decide)
      by_cases h0 : q = 0
      · simp [h0, mVar, grown, frz, hz, wipeM]
      · simp [h0, wipeM]
    obtain ⟨p', as, h, hs, hp'⟩ := ih (if q = 0 then acc ++ [y] else acc) p1 (n + 1) hp1 (by omega) (by by_cases h0 : q = 0 <;> simp [h0] <;> omega)
    refine ⟨p', if q = 0 then y :: as else as, ?_, ?_, by rw [show n + (ys.length + 1) = n + 1 + ys.length from by omega]; exact hp'⟩
    · rw [List.map_cons]
      show (lcTurn [2] (gNm 2) (mB (mOp2 pEq (mCall F__law_draw (mCons (mVar 0) (mOne (mC (.int 2))))) (mC (.int 0)))) (mVar 2) (.str y) (acc.map .str) [some (.own true p), D, none]).bind _ = _
      rw [turn, Out.bind_ok, h]
      by_cases h0 : q = 0 <;> simp [h0]
    · by_cases h0 : q = 0
      · rw [if_pos h0]; exact hs.cons_cons y
      · rw [if_neg h0]; exact hs.cons y
theorem law_some_spec {n : Nat} {p : PyData} {ys : List Str} (hp : Pn n p) (hn : n < 99000000) (hl : ys.length ≤ 100) (nd : ys.Nodup) : ∃ (p' : PyData) (A : List Str), F__law_some [.lnt p, .dat (.list (ys.map .str))] = .ret (.dat (tS A)) [p'] ∧ SS A ∧ (∀ a ∈ A, a ∈ ys) ∧ Pn (n + ys.length) p' := by
  obtain ⟨D, hD⟩ : ∃ D : Option SV, D = some (.dat (.list (ys.map .str))) := ⟨_, rfl⟩
  obtain ⟨p', as, h, hs, hp'⟩ := some_lc D ys [] p n hp (by omega) (by simp; omega)
  refine ⟨p', srtS as, ?_, SS.srt (nd.sublist hs), fun a ha => hs.subset (mem_srtS.mp ha), hp'⟩
  have c1 := mlc_fix (vs := [2]) (fi := fun ms => ((mVar 1) ms).bind srcOf) (g := gNm 2) (ms := [some (.own true p), D, none]) (ms1 := [some (.own true p), D, none]) (ds := ys.map .str) (by rw [hD]; rfl) h
  have e : mCall F__law_set (mOne (mLc [2] (fun ms => ((mVar 1) ms).bind srcOf) (gNm 2) (mB (mOp2 pEq (mCall F__law_draw (mCons (mVar 0) (mOne (mC (.int 2))))) (mC (.int 0)))) (mVar 2))) [some (.own true p), D, none] = .ok (.dat (tS (srtS as))) [some (.own true p'), D, none] := by
    have hF := law_set_spec (d := .list (as.map .str)) (zs := as) (.inl rfl)
    rw [List.nil_append] at c1
    simp [mCall, mOne, c1, Pl.settle, callOut, lentOf, nodupB, toArgs, toArg, hF, putBack]
  have run : b__law_some [some (.own true p), D, none] = .rt (.dat (tS (srtS as))) [some (.own true p'), D, none] := by
    unfold b__law_some
    exact ret_of e
  unfold F__law_some runF
  rw [show initMS 3 [.lnt p, .dat (.list (ys.map .str))] = [some (.own true p), D, none] from by rw [hD]; rfl, run, hD]
  rfl
theorem ring_drawn_spec {n : Nat} {p : PyData} {zs : List Str} (hp : Pn n p) (hn : n < 90000000) (h3 : 3 ≤ zs.length) (h8 : zs.length ≤ 8) (nd : zs.Nodup) :
    ∃ (p' : PyData) (T A : List Str), F__law_ring_drawn [.lnt p, .lnt (.list (zs.map .str))] = .ret (.dat (ringD (T, A))) [p', .list (zs.map .str)] ∧ (SS T ∧ (∀ a ∈ T, a ∈ zs) ∧ T.length = 3) ∧ SS A ∧ (∀ a ∈ A, a ∈ zs ∧ a ∉ T) ∧ Pn (n + 20) p' := by
  obtain ⟨p1, ws, h1, hw, hp1⟩ := shuffled_spec (x := .lnt (.list (zs.map .str))) (ds := zs.map .str) hp (.inl rfl) (by rw [List.length_map]; omega) (by rw [List.length_map]; omega) (fun y hy => by
    obtain ⟨a, _, rfl⟩ := List.mem_map.mp hy; exact sh_str _ _)
  obtain ⟨ys, py, rfl⟩ := perm_map_inv PyData.str hw _ rfl
  rw [List.length_map] at hp1
  have ny : ys.Nodup := py.nodup_iff.mpr nd
  have ly : ys.length = zs.length := py.length_eq
  obtain ⟨p2, A, hA, sA, mA, hp2⟩ := law_some_spec (ys := ys.drop 3) hp1 (by omega) (by simp; omega) (ny.sublist (List.drop_sublist 3 ys))
  obtain ⟨Z, hZ⟩ : ∃ Z, Z = PyData.list (zs.map PyData.str) := ⟨_, rfl⟩
  rw [← hZ] at h1 ⊢
  obtain ⟨st, hst⟩ : ∃ st : PyData → Option SV → MS, st = fun q x2 => [some (.own true q), some (.own true Z), x2] := ⟨_, rfl⟩
  obtain ⟨s2, hs2⟩ : ∃ s2 : Option SV, s2 = some (.own false (.list (ys.map .str))) := ⟨_, rfl⟩
  have e1 : mSet 2 (mCall F__law_shuffled (mCons (mVar 0) (mOne (mVar 1)))) (st p none) = .nx (st p1 s2) := by
    have := callP_v (F := F__law_shuffled) (ms := st p none) (i := 0) (j := 1) (l := true) (l2 := true) (d := Z) (by rw [hst]; rfl) (by rw [hst]; rfl) (by decide) h1
    rw [set_n this (by rw [hst]; rfl), hst, hs2]
    rfl
  have g2 : ∀ q, (st q s2)[2]? = some (some (.own false (.list (ys.map .str)))) := fun q => by rw [hst, hs2]; rfl
  have sl1 : mSl (mVar 2) mNoPart (mPart (mC (.int 3))) (st p1 s2) = .ok (.new (.list ((ys.take 3).map .str))) (st p1 s2) := by
    rw [sl_own ⟨by rw [g2]; simp, _, _, g2 _⟩ sl_none (part_st (f := mC (.int 3)) (ms := st p1 s2) (ms1 := st p1 s2) (z := ((3 : Nat) : Int)) rfl) (g2 _), cutD_upto, List.map_take]
  have sl2 : mSl (mVar 2) (mPart (mC (.int 3))) mNoPart (st p1 s2) = .ok (.new (.list ((ys.drop 3).map .str))) (st p1 s2) := by
    rw [sl_own ⟨by rw [g2]; simp, _, _, g2 _⟩ (part_st (f := mC (.int 3)) (ms := st p1 s2) (ms1 := st p1 s2) (z := ((3 : Nat) : Int)) rfl) sl_none (g2 _), cutD_from, List.map_drop]
  have c1 : mCall F__law_set (mOne (mSl (mVar 2) mNoPart (mPart (mC (.int 3))))) (st p1 s2) = .ok (.dat (tS (srtS (ys.take 3)))) (st p1 s2) := call1_n sl1 (law_set_spec (.inl rfl))
  have c2 : mCall F__law_some (mCons (mVar 0) (mOne (mSl (mVar 2) (mPart (mC (.int 3))) mNoPart))) (st p1 s2) = .ok (.dat (tS A)) (st p2 s2) := by
    rw [callP_n (i := 0) (l := true) (p := p1) (by rw [hst]; rfl) sl2 hA, hst]
    rfl
  refine ⟨p2, srtS (ys.take 3), A, ?_, ⟨SS.srt (ny.sublist (List.take_sublist 3 ys)), fun a ha => py.mem_iff.mp (List.mem_of_mem_take (mem_srtS.mp ha)), by rw [srtS_length, List.length_take]; omega⟩, sA, fun a ha => ⟨py.mem_iff.mp (List.mem_of_mem_drop (mA a ha)), fun ht => ?_⟩, hp2.mono (by simp; omega)⟩
  · have run : b__law_ring_drawn (st p none) = .rt (.dat (ringD (srtS (ys.take 3), A))) (st p2 s2) := by
      unfold b__law_ring_drawn
      rw [seq_nx e1]
      exact ret_of (tup_of (cons_d c1 (one_d c2)) rfl (by show 2 ≤ SZ; decide))
    unfold F__law_ring_drawn runF
    rw [show initMS 3 [.lnt p, .lnt Z] = st p none from by rw [hst]; rfl, run, hst]
    rfl
  · have h1 := mem_srtS.mp ht
    have h2 := mA a ha
    rw [← List.take_append_drop 3 ys] at ny
    exact (List.nodup_append.mp ny).2.2 a h1 a h2 rfl
end Lw

/-! Su4 -/
set_option Elab.async false
set_option linter.all false
set_option maxRecDepth 100000
set_option maxHeartbeats 1000000
/-! a row comes round to itself by six changes at a ring's two places -/
namespace Lw
open PySem PySem.Spec PyProof.Rows L2 Pl
theorem swap_at {X R : List Str} {a b : Str} {k : Nat} (h : X.length = k) : swapAt (X ++ a :: b :: R) k = X ++ b :: a :: R := by
  subst h
  unfold swapAt
  simp [List.getD, List.getElem?_append_right]
theorem letAt_at {X R : List Str} {a b : Str} {k : Nat} (h : X.length = k) : letAt (X ++ a :: b :: R) k = ((srtS [a, b]).getD 0 "", (srtS [a, b]).getD 1 "", srtS X) := by
  subst h
  unfold letAt
  simp
theorem srt_up {a b : Str} (h : ltS a b = true) : srtS [a, b] = [a, b] := SS.srt_eq (by simp only [SS, List.pairwise_cons, List.mem_singleton, forall_eq, List.not_mem_nil, false_implies, implies_true, List.Pairwise.nil, and_true]; exact h)
theorem srt_down {a b : Str} (h : ltS a b = true) : srtS [b, a] = [a, b] := by
  rw [srtS_perm_eq (List.Perm.swap a b [])]
  exact srt_up h
theorem letUp {X R : List Str} {a b : Str} {k : Nat} (h : X.length = k) (hab : ltS a b = true) : letAt (X ++ a :: b :: R) k = (a, b, srtS X) := by rw [letAt_at h, srt_up hab]; rfl
theorem letDown {X R : List Str} {a b : Str} {k : Nat} (h : X.length = k) (hab : ltS a b = true) : letAt (X ++ b :: a :: R) k = (a, b, srtS X) := by rw [letAt_at h, srt_down hab]; rfl
/-- the rows, and the lets that the changes want -/
def rowK (n : Nat) (r : List Str) : Nat → List Str
  | 0 => r
  | k + 1 => swapAt (rowK n r k) (n + k % 2)
def letK (n : Nat) (r : List Str) (k : Nat) : List Let := (List.range k).map fun j => letAt (rowK n r j) (n + j % 2)
theorem rowK_len {n : Nat} {r : List Str} (h : n + 2 < r.length) : ∀ k, (rowK n r k).length = r.length
  | 0 => rfl
  | k + 1 => by
    have := rowK_len h k
    rw [rowK, (swapAt_perm (r := rowK n r k) (k := n + k % 2) (by omega)).length_eq, this]
section
variable {X O A : List Str} {i j k : Str}
theorem six_rows (hij : ltS i j = true) (hik : ltS i k = true) (hjk : ltS j k = true) (hA : SS A) (hX : X.Perm A) : rowK X.length (X ++ i :: j :: k :: O) 6 = X ++ i :: j :: k :: O ∧ letK X.length (X ++ i :: j :: k :: O) 6 = six ([i, j, k], A) := by
  obtain ⟨n, hn⟩ : ∃ n, n = X.length := ⟨_, rfl⟩
  rw [← hn]
  have sh : ∀ (a b c : Str), X ++ a :: b :: c :: O = (X ++ [a]) ++ b :: c :: O := fun a b c => by simp
  have l1 : ∀ a : Str, (X ++ [a]).length = n + 1 := fun a => by simp [hn]
  have sw0 : ∀ a b c, swapAt (X ++ a :: b :: c :: O) (n + 0) = X ++ b :: a :: c :: O := fun a b c => swap_at (by rw [hn]; rfl)
  have sw1 : ∀ a b c, swapAt (X ++ a :: b :: c :: O) (n + 1) = X ++ a :: c :: b :: O := fun a b c => by rw [sh, swap_at (l1 a)]; simp
  have r1 : rowK n (X ++ i :: j :: k :: O) 1 = X ++ j :: i :: k :: O := sw0 i j k
  have r2 : rowK n (X ++ i :: j :: k :: O) 2 = X ++ j :: k :: i :: O := by
    show swapAt (rowK n (X ++ i :: j :: k :: O) 1) (n + 1) = _
    rw [r1, sw1]
  have r3 : rowK n (X ++ i :: j :: k :: O) 3 = X ++ k :: j :: i :: O := by
    show swapAt (rowK n (X ++ i :: j :: k :: O) 2) (n + 0) = _
    rw [r2, sw0]
  have r4 : rowK n (X ++ i :: j :: k :: O) 4 = X ++ k :: i :: j :: O := by
    show swapAt (rowK n (X ++ i :: j :: k :: O) 3) (n + 1) = _
    rw [r3, sw1]
  have r5 : rowK n (X ++ i :: j :: k :: O) 5 = X ++ i :: k :: j :: O := by
    show swapAt (rowK n (X ++ i :: j :: k :: O) 4) (n + 0) = _
    rw [r4, sw0]
  have r6 : rowK n (X ++ i :: j :: k :: O) 6 = X ++ i :: j :: k :: O := by
    show swapAt (rowK n (X ++ i :: j :: k :: O) 5) (n + 1) = _
    rw [r5, sw1]
  refine ⟨r6, ?_⟩
  have eX : srtS X = A := by rw [srtS_perm_eq hX, hA.srt_eq]
  have eI : ∀ a : Str, srtS (X ++ [a]) = ins A a := fun a => srtS_perm_eq (hX.append_right [a])
  have e : letK n (X ++ i :: j :: k :: O) 6 = [letAt (rowK n (X ++ i :: j :: k :: O) 0) (n + 0), letAt (rowK n (X ++ i :: j :: k :: O) 1) (n + 1), letAt (rowK n (X ++ i :: j :: k :: O) 2) (n + 0), letAt (rowK n (X ++ i :: j :: k :: O) 3) (n + 1), letAt (rowK n (X ++ i :: j :: k :: O) 4) (n + 0), letAt (rowK n (X ++ i :: j :: k :: O) 5) (n + 1)] := rfl
  rw [e, r1, r2, r3, r4, r5]
  have a0 : letAt (rowK n (X ++ i :: j :: k :: O) 0) (n + 0) = (i, j, A) := by
    show letAt (X ++ i :: j :: k :: O) (n + 0) = _
    rw [letUp (by rw [hn]; rfl) hij, eX]
  have a1 : letAt (X ++ j :: i :: k :: O) (n + 1) = (i, k, ins A j) := by rw [sh, letUp (l1 j) hik, eI]
  have a2 : letAt (X ++ j :: k :: i :: O) (n + 0) = (j, k, A) := by rw [letUp (by rw [hn]; rfl) hjk, eX]
  have a3 : letAt (X ++ k :: j :: i :: O) (n + 1) = (i, j, ins A k) := by rw [sh, letDown (l1 k) hij, eI]
  have a4 : letAt (X ++ k :: i :: j :: O) (n + 0) = (i, k, A) := by rw [letDown (by rw [hn]; rfl) hik, eX]
  have a5 : letAt (X ++ i :: k :: j :: O) (n + 1) = (j, k, ins A i) := by rw [sh, letDown (l1 i) hjk, eI]
  rw [a0, a1, a2, a3, a4, a5]
  rfl
end
/-! the def -/
def crSt (y0 y1 y2 y4 y5 y6 : Option SV) (A : List Str) (row : List Str) (F : List Let) (x9 x10 : Option SV) : MS := [y0, y1, y2, some (.dat (tS A)), y4, y5, y6, some (.dat (tS row)), some (.own false (.list (F.map letD))), x9, x10]
def crBd : MX := (mSeq (mSet 10 (mOp2 pAdd (mFun pLenS (mOne (mVar 3))) (mOp2 pMod (mVar 9) (mC (.int 2)))))
    (mSeq (mDrop (mMut "list" gAppend 8 (mOne (mCall F__law_let_at (mCons (mVar 7) (mOne (mVar 10)))))))
    (mSet 7 (mCall F__law_changed (mCons (mVar 7) (mOne (mVar 10)))))))
theorem cr_step {y0 y1 y2 y4 y5 y6 x10 : Option SV} {A row : List Str} {F : List Let} {k : Nat} (h10 : isL x10 = false) (hr : A.length + 2 < row.length) (hl : row.length ≤ 100) (hF : F.length < 1000) :
    crBd (crSt y0 y1 y2 y4 y5 y6 A row F (some (.dat (.int (k : Int)))) x10) = .nx (crSt y0 y1 y2 y4 y5 y6 A (swapAt row (A.length + k % 2)) (F ++ [letAt row (A.length + k % 2)]) (some (.dat (.int (k : Int)))) (some (.dat (.int ((A.length + k % 2 : Nat) : Int))))) := by
  obtain ⟨q, hq⟩ : ∃ q, q = A.length + k % 2 := ⟨_, rfl⟩
  have hq' : q + 1 < row.length := by omega
  rw [← hq]
  obtain ⟨st, hst⟩ : ∃ st : List Str → List Let → Option SV → MS, st = fun row F x10 => crSt y0 y1 y2 y4 y5 y6 A row F (some (.dat (.int (k : Int)))) x10 := ⟨_, rfl⟩
  have e0 : mOp2 pAdd (mFun pLenS (mOne (mVar 3))) (mOp2 pMod (mVar 9) (mC (.int 2))) (st row F x10) = .ok (.dat (.int (q : Int))) (st row F x10) := by
    have a1 : mFun pLenS (mOne (mVar 3)) (st row F x10) = .ok (.dat (.int (A.length : Int))) (st row F x10) := fun1 (a := tS A) (ev_dat (by rw [hst]; rfl)) (by unfold tS; rw [len_tuple, List.length_map]; rfl)
    have a2 : mOp2 pMod (mVar 9) (mC (.int 2)) (st row F x10) = .ok (.dat (.int ((k % 2 : Nat) : Int))) (st row F x10) := op2_ev (a := .int (k : Int)) (ev_dat (by rw [hst]; rfl)) (ev_c (d := .int 2)) (by rw [modP (by decide)]; rfl)
    refine op2_ev (Ev.of a1) (Ev.of a2) ?_
    rw [hq, Int.natCast_add]
    rfl
  have e1 : mSet 10 (mOp2 pAdd (mFun pLenS (mOne (mVar 3))) (mOp2 pMod (mVar 9) (mC (.int 2)))) (st row F x10) = .nx (st row F (some (.dat (.int (q : Int))))) := by
    rw [set_d e0 (by rw [isLent_of (x := x10) (by rw [hst]; rfl)]; exact h10), hst]
    rfl
  obtain ⟨s10, hs10⟩ : ∃ s10 : Option SV, s10 = some (.dat (.int (q : Int))) := ⟨_, rfl⟩
  rw [← hs10] at e1
  have v7 : ∀ F, mVar 7 (st row F s10) = .ok (.dat (tS row)) (st row F s10) := fun F => var_d (by rw [hst]; rfl)
  have v10 : ∀ F, mVar 10 (st row F s10) = .ok (.dat (.int (q : Int))) (st row F s10) := fun F => var_d (by rw [hst, hs10]; rfl)
  have c1 : mCall F__law_let_at (mCons (mVar 7) (mOne (mVar 10))) (st row F s10) = .ok (.dat (letD (letAt row q))) (st row F s10) := call_ok (args := [.dat (tS row), .dat (.int (q : Int))]) (cons_d (v7 F) (one_d (v10 F))) rfl rfl (let_at_eq hq' hl)
  have e2 : mDrop (mMut "list" gAppend 8 (mOne (mCall F__law_let_at (mCons (mVar 7) (mOne (mVar 10)))))) (st row F s10) = .nx (st row (F ++ [letAt row q]) s10) := by
    have := mut_one (T := "list") (g := gAppend) (i := 8) (l := false) (d := .list (F.map letD)) (d' := .list (F.map letD ++ [letD (letAt row q)])) (y := .none) (ms := st row F s10) (by rw [hst]; rfl) c1 (by rw [hst]; rfl) rfl (gApp_at (by rw [List.length_map]; exact Nat.lt_of_lt_of_le (show F.length < 1000 by omega) (by decide)))
    rw [drop_nx this, hst]
    simp [crSt]
  have c2 : mCall F__law_changed (mCons (mVar 7) (mOne (mVar 10))) (st row (F ++ [letAt row q]) s10) = .ok (.dat (tS (swapAt row q))) (st row (F ++ [letAt row q]) s10) := call_ok (args := [.dat (tS row), .dat (.int (q : Int))]) (cons_d (v7 _) (one_d (v10 _))) rfl rfl (changed_spec hq' hl)
  have e3 : mSet 7 (mCall F__law_changed (mCons (mVar 7) (mOne (mVar 10)))) (st row (F ++ [letAt row q]) s10) = .nx (st (swapAt row q) (F ++ [letAt row q]) s10) := by
    rw [set_d c2 (by rw [hst]; rfl), hst]
    rfl
  have eq0 : crSt y0 y1 y2 y4 y5 y6 A row F (some (.dat (.int (k : Int)))) x10 = st row F x10 := by rw [hst]
  rw [eq0]
  unfold crBd
  rw [seq_nx e1, seq_nx e2, e3, hst, hs10]
theorem cr_loop {y0 y1 y2 y4 y5 y6 : Option SV} {A row : List Str} (hr : A.length + 2 < row.length) (hl : row.length ≤ 100) :
    ∃ x9 x10, loopF (gNm 9) crBd (rgInts 0 6) (crSt y0 y1 y2 y4 y5 y6 A row [] none none) = .nx (crSt y0 y1 y2 y4 y5 y6 A (rowK A.length row 6) (letK A.length row 6) x9 x10) := by
  obtain ⟨ms', h, x9, x10, e, _, _⟩ := for_inv (g := gNm 9) (b := crBd) (fun k ms => ∃ x9 x10, ms = crSt y0 y1 y2 y4 y5 y6 A (rowK A.length row k) (letK A.length row k) x9 x10 ∧ isL x9 = false ∧ isL x10 = false) (rgInts 0 6) 0 (crSt y0 y1 y2 y4 y5 y6 A row [] none none) ⟨none, none, rfl, rfl, rfl⟩ (by
    rintro j hj ms ⟨x9, x10, rfl, h9, h10⟩
    have hj' : j < 6 := by simpa [rgInts] using hj
    rw [Nat.zero_add]
    have el : (rowK A.length row j).length = row.length := rowK_len hr j
    refine ⟨crSt y0 y1 y2 y4 y5 y6 A (rowK A.length row j) (letK A.length row j) (some (.dat (.int (j : Int)))) x10, _, ?_, .inl (cr_step h10 (by omega) (by omega) (by unfold letK; simp; omega)), some (.dat (.int (j : Int))), some (.dat (.int ((A.length + j % 2 : Nat) : Int))), ?_, rfl, rfl⟩
    · have e : (rgInts 0 6)[j]'(by simpa [rgInts] using hj') = .int (j : Int) := by simp [rgInts]
      rw [e, gNm_ok (by rw [isLent_of (x := x9) rfl]; exact h9)]
      rfl
    · have : letK A.length row (j + 1) = letK A.length row j ++ [letAt (rowK A.length row j) (A.length + j % 2)] := by
        unfold letK
        rw [List.range_succ, List.map_append]
        rfl
      rw [this]
      rfl)
  exact ⟨x9, x10, by rw [h, e]; rfl⟩
theorem comes_round_spec {n : Nat} {p : PyData} {zs T A : List Str} (hp : Pn n p) (hn : n < 90000000) (h8 : zs.length ≤ 8) (nd : zs.Nodup) (hT : SS T ∧ (∀ a ∈ T, a ∈ zs) ∧ T.length = 3) (hA : SS A) (hs : ∀ a ∈ A, a ∈ zs ∧ a ∉ T) :
    ∃ p', F__law_comes_round [.lnt p, .lnt (.list (zs.map .str)), .dat (tS T), .dat (tS A)] = .ret (.dat (.bool true)) [p', .list (zs.map .str)] ∧ Pn (n + 20) p' := by
  obtain ⟨i, j, k, rfl, hij, hik, hjk⟩ := hT.1.three hT.2.2
  obtain ⟨O, hO⟩ : ∃ O, O = zs.filter fun h => !decide (h ∈ [i, j, k]) && !decide (h ∈ A) := ⟨_, rfl⟩
  have lA : A.length ≤ 8 := Nat.le_trans (sSS_le hA.nodup fun a ha => (hs a ha).1) h8
  have lO : O.length ≤ 8 := by rw [hO]; exact Nat.le_trans (List.length_filter_le _ _) h8
  obtain ⟨Z, hZ⟩ : ∃ Z, Z = PyData.list (zs.map PyData.str) := ⟨_, rfl⟩
  obtain ⟨T, hT'⟩ : ∃ T, T = tS [i, j, k] := ⟨_, rfl⟩
  obtain ⟨st, hst⟩ : ∃ st : PyData → Option SV → Option SV → Option SV → Option SV → MS, st = fun q x4 x6 x7 x8 => [some (.own true q), some (.own true Z), some (.dat T), some (.dat (tS A)), x4, none, x6, x7, x8, none, none] := ⟨_, rfl⟩
  obtain ⟨s4, hs4⟩ : ∃ s4 : Option SV, s4 = some (.own false (.list (O.map .str))) := ⟨_, rfl⟩
  have e1 : mSet 4 (mLc [5] (fun ms => ((mVar 1) ms).bind srcOf) (gNm 5) (mAnd (mB (mOp2 pNotIn (mVar 5) (mVar 2))) (mB (mOp2 pNotIn (mVar 5) (mVar 3)))) (mVar 5)) (st p none none none none) = .nx (st p s4 none none none) := by
    obtain ⟨src, q1, q2⟩ := src_var (ms := st p none none none none) (i := 1) (x := .own true Z) (ds := zs.map .str) (by rw [hst]; rfl) (.inl (by rw [hZ]; rfl))
    have c := lc_fm (vs := [5]) (fi := fun ms => ((mVar 1) ms).bind srcOf) (g := gNm 5) (t := mAnd (mB (mOp2 pNotIn (mVar 5) (mVar 2))) (mB (mOp2 pNotIn (mVar 5) (mVar 3)))) (f := mVar 5) (fun d => pNo [i, j, k] d && pNo A d) id q1 q2 (by rw [hst]; rfl) (by rw [List.length_map]; omega) (fun d hd => by
      obtain ⟨a, ha, rfl⟩ := List.mem_map.mp hd
      obtain ⟨N, hN⟩ : ∃ N, N = (st p none none none none).set 5 (some (.dat (.str a))) := ⟨_, rfl⟩
      have n5 : N[5]? = some (some (.dat (.str a))) := by rw [hN, hst]; rfl
      have b1 : mB (mOp2 pNotIn (mVar 5) (mVar 2)) N = .ok (!decide (a ∈ [i, j, k])) N := b_of (op2_ev (ev_dat n5) (ev_dat (d := T) (by rw [hN, hst]; rfl)) (by rw [hT']; exact pNotIn_of (.inr rfl)))
      have b2 : mB (mOp2 pNotIn (mVar 5) (mVar 3)) N = .ok (!decide (a ∈ A)) N := b_of (op2_ev (ev_dat n5) (ev_dat (d := tS A) (by rw [hN, hst]; rfl)) (pNotIn_of (.inr rfl)))
      refine t1 (by rw [hst]; rfl) ?_ fun _ => ⟨.dat (.str a), var_d (by rw [← hN]; exact n5), rfl⟩
      rw [← hN]
      show _ = Out.ok (!decide (a ∈ [i, j, k]) && !decide (a ∈ A)) N
      cases hb : !decide (a ∈ [i, j, k]) with
      | false => rw [hb] at b1; rw [and_l b1]; rfl
      | true => rw [hb] at b1; rw [and_r b1, b2]; rfl)
    have e : ((zs.map PyData.str).filter fun d => pNo [i, j, k] d && pNo A d).map id = O.map .str := by
      rw [List.map_id, List.filter_map, hO]
      rfl
    rw [e] at c
    rw [set_n c (by rw [hst]; rfl), hst, hs4]
    rfl
  obtain ⟨p1, ws, h1, hw, hp1⟩ := shuffled_at (ms := st p s4 none none none) (i := 0) (l := true) (f := mVar 3) (r := .dat (tS A)) (d := tS A) (ds := A.map .str) (by rw [hst]; rfl) (var_d (by rw [hst]; rfl)) rfl hp (.inr rfl) (by rw [List.length_map]; omega) (by rw [List.length_map]; omega) (fun y hy => by
    obtain ⟨a, _, rfl⟩ := List.mem_map.mp hy; exact sh_str _ _)
  obtain ⟨X, pX, rfl⟩ := perm_map_inv PyData.str hw _ rfl
  rw [List.length_map] at hp1
  have t1' : (st p s4 none none none).set 0 (some (.own true p1)) = st p1 s4 none none none := by rw [hst]; rfl
  rw [t1'] at h1
  obtain ⟨p2, vs, h2, hv, hp2⟩ := shuffled_spec (n := n + A.length) (p := p1) (x := .lnt (.list (O.map .str))) (ds := O.map .str) hp1 (.inl rfl) (by rw [List.length_map]; omega) (by rw [List.length_map]; omega) (fun y hy => by
    obtain ⟨a, _, rfl⟩ := List.mem_map.mp hy; exact sh_str _ _)
  obtain ⟨Y, pY, rfl⟩ := perm_map_inv PyData.str hv _ rfl
  rw [List.length_map] at hp2
  have h2' : mCall F__law_shuffled (mCons (mVar 0) (mOne (mVar 4))) (st p1 s4 none none none) = .ok (.new (.list (Y.map .str))) (st p2 s4 none none none) := by
    rw [callP_v (F := F__law_shuffled) (ms := st p1 s4 none none none) (i := 0) (j := 4) (l := true) (l2 := false) (d := .list (O.map .str)) (by rw [hst]; rfl) (by rw [hst, hs4]; rfl) (by decide) h2, hst]
    rfl
  have lX : X.length = A.length := pX.length_eq
  have lY : Y.length = O.length := pY.length_eq
  obtain ⟨R, hR⟩ : ∃ R, R = X ++ i :: j :: k :: Y := ⟨_, rfl⟩
  have lR : R.length = A.length + 3 + O.length := by rw [hR]; simp; omega
  have f1 := fun1_n (g := pTuple) (r := .dat (tS X)) h1 rfl
  have f2 := fun1_n (g := pTuple) (r := .dat (tS Y)) h2' rfl
  have f3 : mOp2 pAdd (mFun pTuple (mOne (mCall F__law_shuffled (mCons (mVar 0) (mOne (mVar 3)))))) (mVar 2) (st p s4 none none none) = .ok (.dat (.tuple (X.map .str ++ [.str i, .str j, .str k]))) (st p1 s4 none none none) := op2_d f1 (var_d (d := T) (by rw [hst]; rfl)) (by
    rw [hT']
    exact addT (by simp; omega))
  have f4 : mOp2 pAdd (mOp2 pAdd (mFun pTuple (mOne (mCall F__law_shuffled (mCons (mVar 0) (mOne (mVar 3)))))) (mVar 2)) (mFun pTuple (mOne (mCall F__law_shuffled (mCons (mVar 0) (mOne (mVar 4)))))) (st p s4 none none none) = .ok (.dat (tS R)) (st p2 s4 none none none) := by
    have := op2_d (g := pAdd) f3 f2 (addT (by simp; omega))
    rw [this, hR]
    simp [tS]
  obtain ⟨s6, hs6⟩ : ∃ s6 : Option SV, s6 = some (.dat (tS R)) := ⟨_, rfl⟩
  have e2 : mSet 6 (mOp2 pAdd (mOp2 pAdd (mFun pTuple (mOne (mCall F__law_shuffled (mCons (mVar 0) (mOne (mVar 3)))))) (mVar 2)) (mFun pTuple (mOne (mCall F__law_shuffled (mCons (mVar 0) (mOne (mVar 4))))))) (st p s4 none none none) = .nx (st p2 s4 s6 none none) := by
    rw [set_d f4 (by rw [hst]; rfl), hst, hs6]
    rfl
  obtain ⟨C, hC⟩ : ∃ C : MS, C = crSt (some (.own true p2)) (some (.own true Z)) (some (.dat T)) s4 none s6 A R [] none none := ⟨_, rfl⟩
  have e3 : mPar [7, 8] (mKeep (mVar 6) (mKeep (mLst mNil) mKNil)) (st p2 s4 s6 none none) = .nx C := by
    refine par_of (keep_d (var_d (d := tS R) (by rw [hst, hs6]; rfl)) (keep_n (ev_nil _) (keep_nil _))) ?_
    rw [hst, hC]
    rfl
  obtain ⟨x9, x10, h5⟩ := cr_loop (y0 := some (.own true p2)) (y1 := some (.own true Z)) (y2 := some (.dat T)) (y4 := s4) (y5 := none) (y6 := s6) (A := A) (row := R) (by omega) (by omega)
  have q6 := six_rows (O := Y) hij hik hjk hA pX
  rw [lX, ← hR] at q6
  rw [q6.1, q6.2] at h5
  obtain ⟨E, hE⟩ : ∃ E : MS, E = crSt (some (.own true p2)) (some (.own true Z)) (some (.dat T)) s4 none s6 A R (six ([i, j, k], A)) x9 x10 := ⟨_, rfl⟩
  rw [← hE] at h5
  have e4 : mFor (fun ms => ((mOne (mC (.int 6))) ms).bind rng1) (gNm 9) crBd C = .nx E := by
    rw [hC]
    exact (for_fix (fi := fun ms => ((mOne (mC (.int 6))) ms).bind rng1) (g := gNm 9) (b := crBd) (rng_of (z := 6) rfl (by decide))).trans h5
  have g1 : mOp2 pEq (mVar 7) (mVar 6) E = .ok (.dat (.bool true)) E := by
    refine op2_ev (ev_dat (d := tS R) (by rw [hE]; rfl)) (ev_dat (d := tS R) (by rw [hE, hs6]; rfl)) ?_
    rw [eq_of (sh_tS R) (sh_tS R) (by decide) (by decide), (eqv_iff (st_tS R)).mpr rfl]
    rfl
  have g2 : mCall F_ring_lets (mCons (mVar 2) (mOne (mVar 3))) E = .ok (.new (.list ((six ([i, j, k], A)).map letD))) E := call2_v (x := .dat T) (y := .dat (tS A)) (by rw [hE]; rfl) (by rw [hE]; rfl) (by decide) (by rw [hT']; exact ring_lets_spec (by omega))
  have g3 : mOp2 pEq (mCall F_ring_lets (mCons (mVar 2) (mOne (mVar 3)))) (mVar 8) E = .ok (.dat (.bool true)) E := by
    refine op2_ev (Ev.new g2) (ev_own (l := false) (d := .list ((six ([i, j, k], A)).map letD)) (by rw [hE]; rfl)) ?_
    rw [eq_of (sh_lets _) (sh_lets _) (by decide) (by decide), PySem.SeqAt.eqv_refl_plain _ (sh_lets _).1]
    rfl
  refine ⟨p2, ?_, hp2.mono (by omega)⟩
  have run : b__law_comes_round (st p none none none none) = .rt (.dat (.bool true)) E := by
    unfold b__law_comes_round
    unfold crBd at e4
    rw [seq_nx e1, seq_nx e2, seq_nx e3, seq_nx e4]
    refine ret_of ?_
    rw [andV_t g1]
    exact g3
  rw [← hZ, ← hT']
  unfold F__law_comes_round runF
  rw [show initMS 11 [.lnt p, .lnt Z, .dat T, .dat (tS A)] = st p none none none none from by rw [hst]; rfl, run, hE]
  rfl
end Lw

/-! Su5 -/
set_option Elab.async false
set_option linter.all false
set_option maxRecDepth 100000
set_option maxHeartbeats 1000000
/-! the law k24 -/
namespace Lw
open PySem PySem.Spec PyProof.Rows L2 Pl
section
variable {fa fb f g : ME} {ms ms1 ms2 : MS} {a b d d2 : PyData} {r ra : Rv} {i j j2 u v : Nat}
theorem run4 {n : Nat} {b : MX} {x y z w : Pl.Arg} {ms' : MS} {r' : Rv} (h : b (some (svA x) :: some (svA y) :: some (svA z) :: some (svA w) :: List.replicate (n - 4) none) = .rt r ms') (h0 : ms'[0]? = some (some (svA x))) (h1 : ms'[1]? = some (some (svA y))) (h2 : ms'[2]? = some (some (svA z))) (h3 : ms'[3]? = some (some (svA w))) (ho : outRv ms' r = some r') : runF n b [x, y, z, w] = .ret r' (backs [x, y, z, w]) := by
  unfold runF
  have e : initMS n [x, y, z, w] = some (svA x) :: some (svA y) :: some (svA z) :: some (svA w) :: List.replicate (n - 4) none := by cases x <;> cases y <;> cases z <;> cases w <;> rfl
  rw [e, h]
  cases x <;> cases y <;> cases z <;> cases w <;> simp only [svA] at h0 h1 h2 h3 <;> simp [mutsOf, ho, backs, aB, h0, h1, h2, h3, svA]
theorem callP_s {F : Pl.Fn} {l : Bool} {q p p' : PyData} (h0 : ms[i]? = some (some (.own l q))) (hf : f ms = .ok (.dat d) ms1) (hi : ms1[i]? = some (some (.own l p))) (hF : F [.lnt p, .dat d] = .ret r [p']) : mCall F (mCons (mVar i) (mOne f)) ms = .ok r (ms1.set i (some (.own l p'))) := by
  simp [mCall, mCons, mOne, mVar, h0, hf, Pl.settle, callOut, lentOf, nodupB, toArgs, toArg, hi, hF, putBack]
theorem callP_3 {F : Pl.Fn} {l l2 l3 : Bool} {p p' : PyData} (hi : ms[i]? = some (some (.own l p))) (hj : ms[j]? = some (some (.own l2 d))) (hk : ms[j2]? = some (some (.own l3 d2))) (hij : i ≠ j) (hik : i ≠ j2) (hjk : j ≠ j2) (hF : F [.lnt p, .lnt d, .lnt d2] = .ret r [p', d, d2]) : mCall F (mCons (mVar i) (mCons (mVar j) (mOne (mVar j2)))) ms = .ok r (ms.set i (some (.own l p'))) := by
  have h2 : (ms.set i (some (.own l p')))[j]? = some (some (.own l2 d)) := by rw [List.getElem?_set_ne hij]; exact hj
  have h3 := set_same h2
  have h4 : (ms.set i (some (.own l p')))[j2]? = some (some (.own l3 d2)) := by rw [List.getElem?_set_ne hik]; exact hk
  have h5 := set_same h4
  simp [mCall, mCons, mOne, mVar, hi, hj, hk, Pl.settle, callOut, lentOf, nodupB, hij, hik, hjk, toArgs, toArg, hF, putBack, h2, h3, h4, h5]
theorem callP_4 {F : Pl.Fn} {l l2 : Bool} {p p' : PyData} (hi : ms[i]? = some (some (.own l p))) (hj : ms[j]? = some (some (.own l2 d))) (hu : ms[u]? = some (some (.dat a))) (hv : ms[v]? = some (some (.dat b))) (hij : i ≠ j) (hF : F [.lnt p, .lnt d, .dat a, .dat b] = .ret r [p', d]) : mCall F (mCons (mVar i) (mCons (mVar j) (mCons (mVar u) (mOne (mVar v))))) ms = .ok r (ms.set i (some (.own l p'))) := by
  have h2 : (ms.set i (some (.own l p')))[j]? = some (some (.own l2 d)) := by rw [List.getElem?_set_ne hij]; exact hj
  have h3 := set_same h2
  simp [mCall, mCons, mOne, mVar, hi, hj, hu, hv, Pl.settle, callOut, lentOf, nodupB, hij, toArgs, toArg, hF, putBack, h2, h3]
/-- two lent, two told, nothing changed -/
theorem call_4 {F : Pl.Fn} {l l2 : Bool} (hi : ms[i]? = some (some (.own l d))) (hj : ms[j]? = some (some (.own l2 d2))) (hu : ms[u]? = some (some (.dat a))) (hv : ms[v]? = some (some (.dat b))) (hij : i ≠ j) (hF : F [.lnt d, .lnt d2, .dat a, .dat b] = .ret r [d, d2]) : mCall F (mCons (mVar i) (mCons (mVar j) (mCons (mVar u) (mOne (mVar v))))) ms = .ok r ms := by
  have h3 := set_same hi
  have h4 := set_same hj
  simp [mCall, mCons, mOne, mVar, hi, hj, hu, hv, Pl.settle, callOut, lentOf, nodupB, hij, toArgs, toArg, hF, putBack, h3, h4]
end
theorem notb {K : List Let} {r : Rg} : marksD K r = .tuple ((six r).map fun l => .bool (decide (l ∈ K))) := rfl
theorem sh_bools {L : List Let} {K : List Let} : Sh 1 (.tuple (L.map fun l => .bool (decide (l ∈ K)))) := sh_tuple (n := 0) (fun x hx => by obtain ⟨a, _, rfl⟩ := List.mem_map.mp hx; exact sh_bool _ _)
theorem marked_spec {x y : Pl.Arg} {z A : List Str} {i j k : Str} {K L : List Let} (hx : aD x = bookD z K) (hy : aD y = .dict (tE (L.map letD))) (hKL : ∀ l, l ∈ K ↔ l ∈ L) (hT : SS [i, j, k] ∧ (∀ a ∈ [i, j, k], a ∈ z)) (hA : SS A) (hs : ∀ a ∈ A, a ∈ z ∧ a ∉ [i, j, k]) (hl : A.length ≤ 100) (hz : z.length ≤ 100) :
    F__law_marked [x, y, .dat (tS [i, j, k]), .dat (tS A)] = .ret (.dat (.bool true)) (backs [x, y, .dat (tS [i, j, k]), .dat (tS A)]) := by
  unfold F__law_marked
  obtain ⟨st, hst⟩ : ∃ st : Option SV → MS, st = fun x4 => [some (svA x), some (svA y), some (.dat (tS [i, j, k])), some (.dat (tS A)), x4, none] := ⟨_, rfl⟩
  obtain ⟨Mk, hMk⟩ : ∃ Mk, Mk = marksD K ([i, j, k], A) := ⟨_, rfl⟩
  obtain ⟨s4, hs4⟩ : ∃ s4 : Option SV, s4 = some (.dat Mk) := ⟨_, rfl⟩
  refine run4 (z := .dat (tS [i, j, k])) (w := .dat (tS A)) (r := .dat (.bool true)) (ms' := st s4) ?_ (by rw [hst]; rfl) (by rw [hst]; rfl) (by rw [hst]; rfl) (by rw [hst]; rfl) rfl
  have es : ([some (svA x), some (svA y), some (.dat (tS [i, j, k])), some (.dat (tS A)), none, none] : MS) = st none := by rw [hst]
  show b__law_marked [some (svA x), some (svA y), some (.dat (tS [i, j, k])), some (.dat (tS A)), none, none] = _
  rw [es]
  unfold b__law_marked
  have v0 : ∀ x4, (st x4)[0]? = some (some (svA x)) := fun x4 => by rw [hst]; rfl
  have v1 : ∀ x4, (st x4)[1]? = some (some (svA y)) := fun x4 => by rw [hst]; rfl
  have v2 : ∀ x4, (st x4)[2]? = some (some (.dat (tS [i, j, k]))) := fun x4 => by rw [hst]; rfl
  have v3 : ∀ x4, (st x4)[3]? = some (some (.dat (tS A))) := fun x4 => by rw [hst]; rfl
  have v4 : (st s4)[4]? = some (some (.dat Mk)) := by rw [hst, hs4]; rfl
  have v5 : ∀ x4, (st x4)[5]? = some none := fun x4 => by rw [hst]; rfl
  have c1 : mCall F_marks (mCons (mVar 0) (mCons (mVar 2) (mOne (mVar 3)))) (st none) = .ok (.dat Mk) (st none) := by
    refine call_ok (args := [argOf (svA x), .dat (tS [i, j, k]), .dat (tS A)]) (cons_v (v0 none) (cons_d (var_d (v2 none)) (one_d (var_d (v3 none))))) (toArgs_cons (toArg_rv (v0 none)) rfl) ?_ ?_
    · have := v0 none
      cases x <;> simp only [svA] at this <;> simp [lentOf, rvOf, svA, this, nodupB]
    · rw [argOf_svA, marks_spec hx hT hA hs hl hz, hMk]
      simp [backs, aB]
  rw [seq_nx (ms1 := st s4) (by rw [set_d c1 (by rw [hst]; rfl), hst, hs4]; rfl)]
  have c2 := lc_no (ms := st s4) (vs := [5]) (fi := fun ms => ((mVar 4) ms).bind srcOf) (g := gNm 5) (t := mAnd (mB (mOp2 pIsNot (mVar 5) (mC (.bool true)))) (mB (mOp2 pIsNot (mVar 5) (mC (.bool false))))) (f := mVar 5) (src := .fix ((six ([i, j, k], A)).map fun l => .bool (decide (l ∈ K)))) (by rw [var_d v4, hMk]; rfl) (.fix _) (by rw [hst]; rfl) (by rw [List.length_map]; show 6 < 1000000; decide) (fun d hd => by
    obtain ⟨l, _, rfl⟩ := List.mem_map.mp hd
    refine t1 (v5 s4) ?_ (fun z => by cases z)
    obtain ⟨N, hN⟩ : ∃ N, N = (st s4).set 5 (some (.dat (.bool (decide (l ∈ K))))) := ⟨_, rfl⟩
    have n5 : N[5]? = some (some (.dat (.bool (decide (l ∈ K))))) := by rw [hN]; exact List.getElem?_set_self (List.getElem?_eq_some_iff.mp (v5 s4)).1
    rw [← hN]
    cases hb : decide (l ∈ K) with
    | true =>
      rw [hb] at n5
      exact and_l (b_of (op2_ev (ev_dat n5) (ev_c (d := .bool true)) rfl))
    | false =>
      rw [hb] at n5
      rw [and_r (b_of (op2_ev (ev_dat n5) (ev_c (d := .bool true)) rfl))]
      exact b_of (op2_ev (ev_dat n5) (ev_c (d := .bool false)) rfl))
  rw [seq_nx (ms1 := st s4) (by
    rw [if_f]
    · rfl
    · rw [or_r (not_of (k := true) (tru_of (isi_of (ev_dat v4) (by rw [hMk]; rfl))))]
      exact ne_none' c2)]
  have c3 : mCall F__law_ring (mCons (mVar 2) (mOne (mVar 3))) (st s4) = .ok (.new (.list ((six ([i, j, k], A)).map letD))) (st s4) := call2_v (x := .dat (tS [i, j, k])) (y := .dat (tS A)) (v2 s4) (v3 s4) (by decide) (law_ring_spec hl)
  have c4 := lc_mp (ms := st s4) (vs := [5]) (fi := fun ms => ((mCall F__law_ring (mCons (mVar 2) (mOne (mVar 3)))) ms).bind srcOf) (g := gNm 5) (f := mOp2 pIn (mVar 5) (mVar 1)) (bl L) (src_new c3) (.fix _) (by rw [hst]; rfl) (by rw [List.length_map]; show 6 < 1000000; decide) (fun d hd => by
    obtain ⟨l, hl, rfl⟩ := List.mem_map.mp hd
    rw [bl_let]
    refine t1 (v5 s4) rfl fun _ => ⟨.dat (.bool (decide (l ∈ L))), ?_, rfl⟩
    refine op2_ev (a := letD l) (b := .dict (tE (L.map letD))) (ev_dat (List.getElem?_set_self (List.getElem?_eq_some_iff.mp (v5 s4)).1)) ?_ (in_own l)
    rw [← hy, ← svD_svA]
    exact ev_sv (by rw [List.getElem?_set_ne (by decide)]; exact v1 s4))
  have e : ((six ([i, j, k], A)).map letD).map (bl L) = (six ([i, j, k], A)).map fun l => .bool (decide (l ∈ K)) := by
    rw [List.map_map]
    refine List.map_congr_left fun l _ => ?_
    show bl L (letD l) = _
    rw [bl_let]
    congr 1
    rw [decide_eq_decide]
    exact (hKL l).symm
  rw [e] at c4
  have c5 := fun1_n (g := pTuple) (r := .dat Mk) c4 (by rw [hMk]; rfl)
  refine ret_of (op2_ev (ev_dat v4) (Ev.of c5) ?_)
  have sh : Sh 1 Mk := by rw [hMk]; exact sh_bools
  rw [eq_of sh sh (by decide) (by decide), PySem.SeqAt.eqv_refl_plain _ sh.1]
  rfl
/-! the others -/
theorem pairs_tE : ∀ (E E0 : List Let), (E0 ++ E).Nodup → pairsD (E.map fun l => .tuple [letD l, .bool true]) (tE (E0.map letD)) = some (tE ((E0 ++ E).map letD))
  | [], E0, _ => by simp [pairsD]
  | l :: E, E0, h => by
    rw [List.map_cons, pairsD, if_pos (kind1_letD l)]
    have hn : ¬ (tE (E0.map letD)).any (fun p => PyData.eqv p.1 (letD l)) = true := by
      rw [List.any_eq_true]
      rintro ⟨p, hp, he⟩
      obtain ⟨d, hd, rfl⟩ := List.mem_map.mp hp
      obtain ⟨m, hm, rfl⟩ := List.mem_map.mp hd
      rw [eqv_let, decide_eq_true_eq] at he
      subst he
      exact (List.nodup_append.mp h).2.2 m hm m (by simp) rfl
    have : dPut (tE (E0.map letD)) (letD l) (.bool true) = tE ((E0 ++ [l]).map letD) := by
      unfold dPut
      rw [if_neg hn]
      simp [tE]
    rw [this, pairs_tE E (E0 ++ [l]) (by simpa using h)]
    simp
theorem dict_tE {E : List Let} (h : E.Nodup) : pDict [.list (E.map fun l => .tuple [letD l, .bool true])] = some (.new (.dict (tE (E.map letD)))) := by
  show (pairsD (E.map fun l => .tuple [letD l, .bool true]) []).map _ = _
  have := pairs_tE E [] (by simpa using h)
  have e0 : tE (([] : List Let).map letD) = [] := rfl
  rw [e0] at this
  rw [this]
  rfl
def notD (L : List Let) (d : PyData) : Bool := match pNotIn d (.dict (tE (L.map letD))) with
  | some (.dat (.bool b)) => b
  | _ => false
theorem notin_own {L : List Let} (l : Let) : pNotIn (letD l) (.dict (tE (L.map letD))) = dB (!decide (l ∈ L)) := by
  have := in_own (K := L) l
  unfold pIn at this
  unfold pNotIn
  cases h : hasIn (letD l) (.dict (tE (L.map letD))) with
  | none => rw [h] at this; cases this
  | some b =>
    rw [h] at this
    simp only [dB, Option.map_some, Option.some.injEq, Rv.dat.injEq, PyData.bool.injEq] at this
    rw [this]
    rfl
theorem notD_let (L : List Let) (l : Let) : notD L (letD l) = !decide (l ∈ L) := by
  unfold notD; rw [notin_own]; rfl
def othersOf (zs : List Str) (L : List Let) : List Let := (every zs).filter fun l => !decide (l ∈ L)
def prT (d : PyData) : PyData := .tuple [d, .bool true]
end Lw

/-! Su6 -/
set_option Elab.async false
set_option linter.all false
set_option maxRecDepth 100000
set_option maxHeartbeats 1000000
/-! the law k24, its loops -/
namespace Lw
open PySem PySem.Spec PyProof.Rows L2 Pl
def mi3 : MX := mAsg (gSeq 2 (gsCons (gNm 10) (gsCons (gNm 11) gsNil))) (mCall F__law_ring_drawn (mCons (mVar 1) (mOne (mVar 3))))
def mi4 : MX := (mIf (mOr (mNot (mTru (mCall F__law_comes_round (mCons (mVar 1) (mCons (mVar 3) (mCons (mVar 10) (mOne (mVar 11)))))))) (mNot (mTru (mCall F__law_marked (mCons (mVar 7) (mCons (mVar 4) (mCons (mVar 10) (mOne (mVar 11))))))))) (mRet (mC (.bool false))) mSkip)
def mi5 : MX := (mIf (mOr (mNot (mTru (mCall F__law_marked (mCons (mVar 8) (mCons (mVar 5) (mCons (mVar 10) (mOne (mVar 11)))))))) (mNot (mTru (mCall F__law_marked (mCons (mVar 7) (mCons (mVar 4) (mCons (mVar 10) (mOne (mVar 11))))))))) (mRet (mC (.bool false))) mSkip)
def mo3 : MX := (mSet 3 (mCall F__law_hands (mCons (mVar 1) (mOne (mCall F__law_pick (mCons (mVar 1) (mOne (mLst (mCons (mC (.int 3)) (mCons (mC (.int 3)) (mCons (mC (.int 4)) (mCons (mC (.int 4)) (mCons (mC (.int 5)) (mCons (mC (.int 5)) (mCons (mC (.int 6)) (mOne (mC (.int 8))))))))))))))))))
def mo4 : MX := (mSet 4 (mCall F__law_raw_lets (mCons (mVar 1) (mOne (mVar 3)))))
def mo5 : MX := (mSet 5 (mFun pDict (mOne (mLc [6] (fun ms => ((mCall F__law_every_let (mOne (mVar 3))) ms).bind srcOf) (gNm 6) (mB (mOp2 pNotIn (mVar 6) (mVar 4))) (mTup (mCons (mVar 6) (mOne (mC (.bool true)))))))))
def mo6 : MX := (mPar [7, 8] (mKeep (mCall F__law_book (mCons (mVar 1) (mCons (mVar 3) (mOne (mVar 4))))) (mKeep (mCall F__law_book (mCons (mVar 1) (mCons (mVar 3) (mOne (mVar 5))))) mKNil)))
def mo7 : MX := (mFor (fun ms => ((mOne (mC (.int 4))) ms).bind rng1) (gNm 9) (mSeq mi3 (mSeq mi4 mi5)))
def k24B : MX := mSeq mo3 (mSeq mo4 (mSeq mo5 (mSeq mo6 mo7)))
theorem k24_eq : b_law = mSeq (mSet 1 (mCall F__law_pen (mOne (mVar 0)))) (mSeq (mFor (fun ms => ((mOne (mC (.int 2))) ms).bind rng1) (gNm 2) k24B) (mRet (mC (.bool true)))) := rfl
/-- the state of the law -/
def TS (s p x2 x3 x4 x5 x6 x7 x8 x9 x10 x11 : Option SV) : MS := [s, p, x2, x3, x4, x5, x6, x7, x8, x9, x10, x11]
section
variable {s x2 x3 x4 x5 x6 x7 x8 x9 x10 x11 : Option SV} {p : PyData} {n : Nat} {zs : List Str} {L K O K2 : List Let}
abbrev hL (zs : List Str) : Option SV := some (.own false (.list (zs.map .str)))
abbrev dL (L : List Let) : Option SV := some (.own false (.dict (tE (L.map letD))))
abbrev bL (zs : List Str) (K : List Let) : Option SV := some (.own false (bookD (srtS zs) K))
theorem mark_at {a b : Nat} {T A : List Str} {ms : MS} (hab : a ≠ b) (ha : ms[a]? = some (bL zs K)) (hb : ms[b]? = some (dL L)) (h10 : ms[10]? = some (some (.dat (tS T)))) (h11 : ms[11]? = some (some (.dat (tS A)))) (h8 : zs.length ≤ 8)
    (hKL : ∀ l, l ∈ K ↔ l ∈ L) (hT : SS T ∧ (∀ a ∈ T, a ∈ zs) ∧ T.length = 3) (hA : SS A) (hs : ∀ a ∈ A, a ∈ zs ∧ a ∉ T) : mNot (mTru (mCall F__law_marked (mCons (mVar a) (mCons (mVar b) (mCons (mVar 10) (mOne (mVar 11))))))) ms = .ok false ms := by
  obtain ⟨i, j, k, rfl, _⟩ := hT.1.three hT.2.2
  have lA : A.length ≤ 8 := Nat.le_trans (sSS_le hA.nodup fun a ha => (hs a ha).1) h8
  have := marked_spec (x := .lnt (bookD (srtS zs) K)) (y := .lnt (.dict (tE (L.map letD)))) (z := srtS zs) (A := A) (i := i) (j := j) (k := k) rfl rfl hKL ⟨hT.1, fun a ha => mem_srtS.mpr (hT.2.1 a ha)⟩ hA (fun a ha => ⟨mem_srtS.mpr (hs a ha).1, (hs a ha).2⟩) (by omega) (by rw [srtS_length]; omega)
  exact not_of (k := true) (tru_of (call_4 ha hb h10 h11 hab this))
theorem inner (hp : Pn n p) (hn : n < 1000000) (hh : Hands zs) (h3 : 3 ≤ zs.length) (h8 : zs.length ≤ 8) (hK : ∀ l, l ∈ K ↔ l ∈ L) (hK2 : ∀ l, l ∈ K2 ↔ l ∈ O) (h10 : isL x10 = false) (h11 : isL x11 = false) :
    ∃ p' x10' x11', (mSeq mi3 (mSeq mi4 mi5)) (TS s (some (.own false p)) x2 (hL zs) (dL L) (dL O) x6 (bL zs K) (bL zs K2) x9 x10 x11) = .nx (TS s (some (.own false p')) x2 (hL zs) (dL L) (dL O) x6 (bL zs K) (bL zs K2) x9 x10' x11') ∧ Pn (n + 40) p' ∧ isL x10' = false ∧ isL x11' = false := by
  obtain ⟨p1, T, A, hr, hT, hA, hs, hp1⟩ := ring_drawn_spec hp (by omega) h3 h8 hh.nd
  obtain ⟨st, hst⟩ : ∃ st : PyData → Option SV → Option SV → MS, st = fun q x10 x11 => TS s (some (.own false q)) x2 (hL zs) (dL L) (dL O) x6 (bL zs K) (bL zs K2) x9 x10 x11 := ⟨_, rfl⟩
  have hst' : ∀ q x10 x11, TS s (some (.own false q)) x2 (hL zs) (dL L) (dL O) x6 (bL zs K) (bL zs K2) x9 x10 x11 = st q x10 x11 := fun q x10 x11 => by rw [hst]
  rw [hst']
  obtain ⟨t, ht⟩ : ∃ t : Option SV, t = some (.dat (tS T)) := ⟨_, rfl⟩
  obtain ⟨a, ha⟩ : ∃ a : Option SV, a = some (.dat (tS A)) := ⟨_, rfl⟩
  have c1 : mCall F__law_ring_drawn (mCons (mVar 1) (mOne (mVar 3))) (st p x10 x11) = .ok (.dat (ringD (T, A))) (st p1 x10 x11) := by
    rw [callP_v (i := 1) (j := 3) (l := false) (l2 := false) (d := .list (zs.map .str)) (by rw [hst]; rfl) (by rw [hst]; rfl) (by decide) hr, hst]
    rfl
  have e1 : mi3 (st p x10 x11) = .nx (st p1 t a) := by
    unfold mi3
    simp only [mAsg, c1, SO.of_ok, frz]
    show (gNm 10 (tS T) (st p1 x10 x11)).then (gsCons (gNm 11) gsNil [tS A]) = _
    rw [gNm_ok (by rw [isLent_of (x := x10) (by rw [hst]; rfl)]; exact h10)]
    show (gNm 11 (tS A) ((st p1 x10 x11).set 10 (some (.dat (tS T))))).then (gsNil []) = _
    rw [gNm_ok (by rw [isLent_of (x := x11) (by rw [hst]; rfl)]; exact h11), hst, ht, ha]
    rfl
  obtain ⟨p2, hc, hp2⟩ := comes_round_spec (zs := zs) (T := T) (A := A) hp1 (by omega) h8 hh.nd hT hA hs
  have v10 : ∀ q, (st q t a)[10]? = some (some (.dat (tS T))) := fun q => by rw [hst, ht]; rfl
  have v11 : ∀ q, (st q t a)[11]? = some (some (.dat (tS A))) := fun q => by rw [hst, ha]; rfl
  have c2 : mCall F__law_comes_round (mCons (mVar 1) (mCons (mVar 3) (mCons (mVar 10) (mOne (mVar 11))))) (st p1 t a) = .ok (.dat (.bool true)) (st p2 t a) := by
    rw [callP_4 (i := 1) (j := 3) (l := false) (l2 := false) (d := .list (zs.map .str)) (by rw [hst]; rfl) (by rw [hst]; rfl) (v10 p1) (v11 p1) (by decide) hc, hst]
    rfl
  have m7 := mark_at (a := 7) (b := 4) (ms := st p2 t a) (zs := zs) (K := K) (L := L) (by decide) (by rw [hst]; rfl) (by rw [hst]; rfl) (v10 p2) (v11 p2) h8 hK hT hA hs
  have m8 := mark_at (a := 8) (b := 5) (ms := st p2 t a) (zs := zs) (K := K2) (L := O) (by decide) (by rw [hst]; rfl) (by rw [hst]; rfl) (v10 p2) (v11 p2) h8 hK2 hT hA hs
  have e2 : mi4 (st p1 t a) = .nx (st p2 t a) := by
    unfold mi4
    rw [if_f (ms1 := st p2 t a)]
    · rfl
    · rw [or_r (not_of (k := true) (tru_of c2))]
      exact m7
  have e3 : mi5 (st p2 t a) = .nx (st p2 t a) := by
    unfold mi5
    rw [if_f (ms1 := st p2 t a)]
    · rfl
    · rw [or_r m8]
      exact m7
  refine ⟨p2, t, a, ?_, hp2.mono (by omega), by rw [ht]; rfl, by rw [ha]; rfl⟩
  rw [seq_nx e1, seq_nx e2, e3, hst]
theorem inner_loop (hp : Pn n p) (hn : n < 100000) (hh : Hands zs) (h3 : 3 ≤ zs.length) (h8 : zs.length ≤ 8) (hK : ∀ l, l ∈ K ↔ l ∈ L) (hK2 : ∀ l, l ∈ K2 ↔ l ∈ O) (h9 : isL x9 = false) (h10 : isL x10 = false) (h11 : isL x11 = false) :
    ∃ p' x9' x10' x11', mo7 (TS s (some (.own false p)) x2 (hL zs) (dL L) (dL O) x6 (bL zs K) (bL zs K2) x9 x10 x11) = .nx (TS s (some (.own false p')) x2 (hL zs) (dL L) (dL O) x6 (bL zs K) (bL zs K2) x9' x10' x11') ∧ Pn (n + 160) p' ∧ isL x9' = false ∧ isL x10' = false ∧ isL x11' = false := by
  obtain ⟨bd, hbd⟩ : ∃ bd, bd = (mSeq mi3 (mSeq mi4 mi5)) := ⟨_, rfl⟩
  obtain ⟨ms', h, p', x9', x10', x11', e, hp', q9, q10, q11⟩ := for_inv (g := gNm 9) (b := bd) (fun k ms => ∃ p x9 x10 x11, ms = TS s (some (.own false p)) x2 (hL zs) (dL L) (dL O) x6 (bL zs K) (bL zs K2) x9 x10 x11 ∧ Pn (n + k * 40) p ∧ isL x9 = false ∧ isL x10 = false ∧ isL x11 = false) (rgInts 0 4) 0 (TS s (some (.own false p)) x2 (hL zs) (dL L) (dL O) x6 (bL zs K) (bL zs K2) x9 x10 x11) ⟨p, x9, x10, x11, rfl, by simpa using hp, h9, h10, h11⟩ (by
    rintro j hj ms ⟨p, x9, x10, x11, rfl, hp, h9, h10, h11⟩
    have hj' : j < 4 := by simpa [rgInts] using hj
    rw [Nat.zero_add] at hp ⊢
    obtain ⟨p', x10', x11', e, hp', q10, q11⟩ := inner (s := s) (x2 := x2) (x6 := x6) (x9 := some (.dat ((rgInts 0 4)[j]'hj))) (x10 := x10) (x11 := x11) hp (by omega) hh h3 h8 hK hK2 h10 h11
    refine ⟨_, _, ?_, .inl (by rw [hbd]; exact e), p', _, x10', x11', rfl, by rw [show n + (j + 1) * 40 = n + j * 40 + 40 from by omega]; exact hp', rfl, q10, q11⟩
    rw [gNm_ok (by rw [isLent_of (x := x9) rfl]; exact h9)]
    rfl)
  refine ⟨p', x9', x10', x11', ?_, by simpa [rgInts] using hp', q9, q10, q11⟩
  rw [e] at h
  unfold mo7
  rw [← hbd]
  exact (for_fix (fi := fun ms => ((mOne (mC (.int 4))) ms).bind rng1) (g := gNm 9) (b := bd) (rng_of (z := 4) rfl (by decide))).trans h
theorem mo3_ok (hp : Pn n p) (hn : n < 100000) (h3 : isL x3 = false) : ∃ (zs : List Str) (p' : PyData), mo3 (TS s (some (.own false p)) x2 x3 x4 x5 x6 x7 x8 x9 x10 x11) = .nx (TS s (some (.own false p')) x2 (hL zs) x4 x5 x6 x7 x8 x9 x10 x11) ∧ 3 ≤ zs.length ∧ zs.length ≤ 8 ∧ Hands zs ∧ Pn (n + 20) p' := by
  obtain ⟨st, hst⟩ : ∃ st : PyData → Option SV → MS, st = fun q x3 => TS s (some (.own false q)) x2 x3 x4 x5 x6 x7 x8 x9 x10 x11 := ⟨_, rfl⟩
  have hst' : ∀ q x3, TS s (some (.own false q)) x2 x3 x4 x5 x6 x7 x8 x9 x10 x11 = st q x3 := fun q x3 => by rw [hst]
  rw [hst']
  obtain ⟨z, p1, hz, d1, hp1⟩ := pick_at (ms := st p x3) (i := 1) (l := false) (f := mLst (mCons (mC (.int 3)) (mCons (mC (.int 3)) (mCons (mC (.int 4)) (mCons (mC (.int 4)) (mCons (mC (.int 5)) (mCons (mC (.int 5)) (mCons (mC (.int 6)) (mOne (mC (.int 8))))))))))) (r := .new (.list ([3, 3, 4, 4, 5, 5, 6, 8].map fun i : Nat => PyData.int (i : Int)))) (d := .list ([3, 3, 4, 4, 5, 5, 6, 8].map fun i : Nat => PyData.int (i : Int))) (ds := [3, 3, 4, 4, 5, 5, 6, 8].map fun i : Nat => PyData.int (i : Int)) (by rw [hst]; rfl)
    (lst_of (cons_d rfl (cons_d rfl (cons_d rfl (cons_d rfl (cons_d rfl (cons_d rfl (cons_d rfl (one_d rfl)))))))) rfl (by show 8 ≤ SZ; decide)) rfl hp (by omega) rfl (by decide) (by decide)
  obtain ⟨m, hm⟩ : ∃ m, m = [3, 3, 4, 4, 5, 5, 6, 8][z]'(by simpa using hz) := ⟨_, rfl⟩
  have hm2 : 3 ≤ m ∧ m ≤ 8 := by
    have : m ∈ [3, 3, 4, 4, 5, 5, 6, 8] := by rw [hm]; exact List.getElem_mem _
    simp at this
    omega
  rw [List.getElem_map, ← hm] at d1
  have q1 : (st p x3).set 1 (some (.own false p1)) = st p1 x3 := by rw [hst]; rfl
  rw [q1] at d1
  obtain ⟨zs, p2, hz2, lz, hh, hp2⟩ := hands_spec (m := m) hp1 (by omega) hm2.2
  have c := callP_s (F := F__law_hands) (ms := st p x3) (i := 1) (l := false) (q := p) (p := p1) (by rw [hst]; rfl) d1 (by rw [hst]; rfl) hz2
  refine ⟨zs, p2, ?_, by omega, by omega, hh, hp2.mono (by omega)⟩
  unfold mo3
  rw [set_n c (by rw [isLent_of (x := x3) (by rw [hst]; rfl)]; exact h3), hst]
  rfl
theorem mo4_ok (hp : Pn n p) (hn : n < 100000) (h8 : zs.length ≤ 8) (h4 : isL x4 = false) : ∃ (L : List Let) (p' : PyData), mo4 (TS s (some (.own false p)) x2 (hL zs) x4 x5 x6 x7 x8 x9 x10 x11) = .nx (TS s (some (.own false p')) x2 (hL zs) (dL L) x5 x6 x7 x8 x9 x10 x11) ∧ (∀ l ∈ L, l ∈ every zs) ∧ L.Nodup ∧ Pn (n + 16385) p' := by
  obtain ⟨L, p', h, hp', hs, nd⟩ := raw_spec2 (x := .lnt (.list (zs.map .str))) (zs := zs) hp (by omega) (.inl rfl) h8
  refine ⟨L, p', ?_, hs, nd, hp'⟩
  obtain ⟨st, hst⟩ : ∃ st : PyData → Option SV → MS, st = fun q x4 => TS s (some (.own false q)) x2 (hL zs) x4 x5 x6 x7 x8 x9 x10 x11 := ⟨_, rfl⟩
  have hst' : ∀ q x4, TS s (some (.own false q)) x2 (hL zs) x4 x5 x6 x7 x8 x9 x10 x11 = st q x4 := fun q x4 => by rw [hst]
  rw [hst', hst']
  have c := callP_v (F := F__law_raw_lets) (ms := st p x4) (i := 1) (j := 3) (l := false) (l2 := false) (d := .list (zs.map .str)) (by rw [hst]; rfl) (by rw [hst]; rfl) (by decide) h
  unfold mo4
  rw [set_n c (by rw [isLent_of (x := x4) (by rw [hst]; rfl)]; exact h4), hst]
  rfl
theorem mo5_ok (nd : zs.Nodup) (h8 : zs.length ≤ 8) (h5 : isL x5 = false) : mo5 (TS s (some (.own false p)) x2 (hL zs) (dL L) x5 x6 x7 x8 x9 x10 x11) = .nx (TS s (some (.own false p)) x2 (hL zs) (dL L) (dL (othersOf zs L)) none x7 x8 x9 x10 x11) := by
  obtain ⟨st, hst⟩ : ∃ st : Option SV → Option SV → MS, st = fun x5 x6 => TS s (some (.own false p)) x2 (hL zs) (dL L) x5 x6 x7 x8 x9 x10 x11 := ⟨_, rfl⟩
  have hst' : ∀ x5 x6, TS s (some (.own false p)) x2 (hL zs) (dL L) x5 x6 x7 x8 x9 x10 x11 = st x5 x6 := fun x5 x6 => by rw [hst]
  rw [hst', hst']
  have c0 : mCall F__law_every_let (mOne (mVar 3)) (st x5 x6) = .ok (.new (.list ((every zs).map letD))) (st x5 x6) := call1_v (i := 3) (x := .own false (.list (zs.map .str))) (by rw [hst]; rfl) (every_spec (x := .lnt (.list (zs.map .str))) (.inl rfl) h8)
  have hsz := every_small h8
  have n6 : (st x5 none)[6]? = some none := by rw [hst]; rfl
  have turns : ∀ d ∈ (every zs).map letD, Turn1 [6] (gNm 6) (mB (mOp2 pNotIn (mVar 6) (mVar 4))) (mTup (mCons (mVar 6) (mOne (mC (.bool true))))) (st x5 none) d (notD L d) (prT d) := fun d hd => by
    obtain ⟨l, hl, rfl⟩ := List.mem_map.mp hd
    have m6 : ((st x5 none).set 6 (some (.dat (letD l))))[6]? = some (some (.dat (letD l))) := List.getElem?_set_self (List.getElem?_eq_some_iff.mp n6).1
    refine t1 n6 ?_ fun _ => ⟨.dat (prT (letD l)), tup_of (cons_d (var_d m6) (one_d rfl)) rfl (by show 2 ≤ SZ; decide), rfl⟩
    rw [notD_let]
    refine b_of (op2_ev (ev_dat m6) (ev_own (l := false) (d := .dict (tE (L.map letD))) ?_) (notin_own l))
    rw [List.getElem?_set_ne (by decide), hst]
    rfl
  have c1 : mLc [6] (fun ms => ((mCall F__law_every_let (mOne (mVar 3))) ms).bind srcOf) (gNm 6) (mB (mOp2 pNotIn (mVar 6) (mVar 4))) (mTup (mCons (mVar 6) (mOne (mC (.bool true))))) (st x5 x6) = .ok (.new (.list ((othersOf zs L).map fun l => .tuple [letD l, .bool true]))) (st x5 none) := by
    refine mlc_eq (src_new c0) ?_
    show lcF [6] (gNm 6) (mB (mOp2 pNotIn (mVar 6) (mVar 4))) (mTup (mCons (mVar 6) (mOne (mC (.bool true))))) ((every zs).map letD) [] (wipeM (st x5 x6) [6]) = _
    have hw : wipeM (st x5 x6) [6] = st x5 none := by rw [hst]; rfl
    rw [hw, lcF_fm (notD L) prT _ [] (by rw [List.length_map]; exact Nat.lt_of_le_of_lt (by simpa using hsz) (by decide)) turns, List.nil_append, List.filter_map, List.map_map]
    have ef : (notD L ∘ letD) = fun l => !decide (l ∈ L) := funext fun l => notD_let L l
    rw [ef]
    rfl
  have c2 := fun1_n (g := pDict) c1 (dict_tE (E := othersOf zs L) ((every_nodup nd).filter _))
  unfold mo5
  rw [set_n c2 (by rw [isLent_of (x := x5) (by rw [hst]; rfl)]; exact h5), hst]
  rfl
theorem asgs2 {ms : MS} {i j : Nat} {a b : PyData} (l1 : isLent ms i = false) (l2 : isLent (ms.set i (some (.own false a))) j = false) : asgs [i, j] [.new a, .new b] ms = .nx ((ms.set i (some (.own false a))).set j (some (.own false b))) := by
  simp [asgs, asg, l1, l2, SO.then]
theorem mo6_ok (hp : Pn n p) (hn : n < 100000) (hh : Hands zs) (h3 : 3 ≤ zs.length) (h8 : zs.length ≤ 8) (hL' : ∀ l ∈ L, l ∈ every zs) (ndL : L.Nodup) (hO : ∀ l ∈ O, l ∈ every zs) (ndO : O.Nodup) (h7 : isL x7 = false) (h88 : isL x8 = false) :
    ∃ (K K2 : List Let) (p' : PyData), mo6 (TS s (some (.own false p)) x2 (hL zs) (dL L) (dL O) x6 x7 x8 x9 x10 x11) = .nx (TS s (some (.own false p')) x2 (hL zs) (dL L) (dL O) x6 (bL zs K) (bL zs K2) x9 x10 x11) ∧ (∀ l, l ∈ K ↔ l ∈ L) ∧ (∀ l, l ∈ K2 ↔ l ∈ O) ∧ Pn (n + 40) p' := by
  obtain ⟨p1, K, b1, m1, _, hp1⟩ := law_book_spec (zs := zs) (L := L) hp (by omega) hh (by omega) h8 hL' ndL
  obtain ⟨p2, K2, b2, m2, _, hp2⟩ := law_book_spec (zs := zs) (L := O) hp1 (by omega) hh (by omega) h8 hO ndO
  refine ⟨K, K2, p2, ?_, m1, m2, hp2.mono (by omega)⟩
  obtain ⟨st, hst⟩ : ∃ st : PyData → Option SV → Option SV → MS, st = fun q x7 x8 => TS s (some (.own false q)) x2 (hL zs) (dL L) (dL O) x6 x7 x8 x9 x10 x11 := ⟨_, rfl⟩
  have hst' : ∀ q x7 x8, TS s (some (.own false q)) x2 (hL zs) (dL L) (dL O) x6 x7 x8 x9 x10 x11 = st q x7 x8 := fun q x7 x8 => by rw [hst]
  rw [hst', hst']
  have c1 : mCall F__law_book (mCons (mVar 1) (mCons (mVar 3) (mOne (mVar 4)))) (st p x7 x8) = .ok (.new (bookD (srtS zs) K)) (st p1 x7 x8) := by
    rw [callP_3 (i := 1) (j := 3) (j2 := 4) (l := false) (l2 := false) (l3 := false) (d := .list (zs.map .str)) (d2 := .dict (tE (L.map letD))) (by rw [hst]; rfl) (by rw [hst]; rfl) (by rw [hst]; rfl) (by decide) (by decide) (by decide) b1, hst]
    rfl
  have c2 : mCall F__law_book (mCons (mVar 1) (mCons (mVar 3) (mOne (mVar 5)))) (st p1 x7 x8) = .ok (.new (bookD (srtS zs) K2)) (st p2 x7 x8) := by
    rw [callP_3 (i := 1) (j := 3) (j2 := 5) (l := false) (l2 := false) (l3 := false) (d := .list (zs.map .str)) (d2 := .dict (tE (O.map letD))) (by rw [hst]; rfl) (by rw [hst]; rfl) (by rw [hst]; rfl) (by decide) (by decide) (by decide) b2, hst]
    rfl
  unfold mo6
  refine par_of (is := [7, 8]) (keep_n c1 (keep_n c2 (keep_nil _))) ?_
  have l7 : isLent (st p2 x7 x8) 7 = false := by rw [isLent_of (x := x7) (by rw [hst]; rfl)]; exact h7
  have l8 : isLent ((st p2 x7 x8).set 7 (some (.own false (bookD (srtS zs) K)))) 8 = false := by rw [isLent_of (x := x8) (by rw [hst]; rfl)]; exact h88
  rw [asgs2 l7 l8, hst]
  rfl
end
/-- what stays true of the law's state -/
def LI24 (s : Option SV) (n : Nat) (ms : MS) : Prop := ∃ p x2 x3 x4 x5 x6 x7 x8 x9 x10 x11, ms = TS s (some (.own false p)) x2 x3 x4 x5 x6 x7 x8 x9 x10 x11 ∧ Pn n p ∧
  isL x2 = false ∧ isL x3 = false ∧ isL x4 = false ∧ isL x5 = false ∧ isL x7 = false ∧ isL x8 = false ∧ isL x9 = false ∧ isL x10 = false ∧ isL x11 = false
theorem bout24 {s : Option SV} {n : Nat} {ms : MS} (h : LI24 s n ms) (hn : n < 50000) : ∃ ms', k24B ms = .nx ms' ∧ LI24 s (n + 17000) ms' := by
  obtain ⟨p, x2, x3, x4, x5, x6, x7, x8, x9, x10, x11, rfl, hp, h2, h3, h4, h5, h7, h8, h9, h10, h11⟩ := h
  obtain ⟨zs, p1, e1, l3, l8, hh, hp1⟩ := mo3_ok (s := s) (x2 := x2) (x4 := x4) (x5 := x5) (x6 := x6) (x7 := x7) (x8 := x8) (x9 := x9) (x10 := x10) (x11 := x11) hp (by omega) h3
  obtain ⟨L, p2, e2, sL, nL, hp2⟩ := mo4_ok (s := s) (x2 := x2) (x5 := x5) (x6 := x6) (x7 := x7) (x8 := x8) (x9 := x9) (x10 := x10) (x11 := x11) (zs := zs) hp1 (by omega) l8 h4
  have e3 := mo5_ok (s := s) (p := p2) (x2 := x2) (x6 := x6) (x7 := x7) (x8 := x8) (x9 := x9) (x10 := x10) (x11 := x11) (zs := zs) (L := L) hh.nd l8 h5
  obtain ⟨K, K2, p3, e4, mK, mK2, hp3⟩ := mo6_ok (s := s) (p := p2) (x2 := x2) (x6 := none) (x7 := x7) (x8 := x8) (x9 := x9) (x10 := x10) (x11 := x11) (zs := zs) (L := L) (O := othersOf zs L) hp2 (by omega) hh l3 l8 sL nL (fun l hl => (List.mem_filter.mp hl).1) ((every_nodup hh.nd).filter _) h7 h8
  obtain ⟨p4, y9, y10, y11, e5, hp4, q9, q10, q11⟩ := inner_loop (s := s) (p := p3) (x2 := x2) (x6 := none) (x9 := x9) (x10 := x10) (x11 := x11) (zs := zs) (L := L) (O := othersOf zs L) (K := K) (K2 := K2) hp3 (by omega) hh l3 l8 mK mK2 h9 h10 h11
  refine ⟨_, ?_, p4, x2, hL zs, dL L, dL (othersOf zs L), none, bL zs K, bL zs K2, y9, y10, y11, rfl, hp4.mono (by omega), h2, rfl, rfl, rfl, rfl, rfl, q9, q10, q11⟩
  unfold k24B
  rw [seq_nx e1, seq_nx e2, seq_nx e3, seq_nx e4, e5]
theorem law_true (ns : List Int) : F_law [.dat (roD (ns.map .int))] = .ret (.dat (.bool true)) [] := by
  obtain ⟨p, hpen, hp⟩ := pen_spec ns
  obtain ⟨S, hS⟩ : ∃ S, S = roD (ns.map .int) := ⟨_, rfl⟩
  rw [← hS] at hpen ⊢
  unfold F_law
  obtain ⟨ms', h, hLI⟩ := for_inv (g := gNm 2) (b := k24B) (fun k ms => LI24 (some (.dat S)) (k * 17000) ms) [.int 0, .int 1] 0 (TS (some (.dat S)) (some (.own false p)) none none none none none none none none none none) ⟨p, none, none, none, none, none, none, none, none, none, none, rfl, by simpa using hp, rfl, rfl, rfl, rfl, rfl, rfl, rfl, rfl, rfl⟩ (by
    intro j hj ms hLI
    have hj' : j < 2 := hj
    obtain ⟨p, x2, x3, x4, x5, x6, x7, x8, x9, x10, x11, rfl, hp, h2, h3⟩ := hLI
    have hLI2 : LI24 (some (.dat S)) ((0 + j) * 17000) (TS (some (.dat S)) (some (.own false p)) (some (.dat ([PyData.int 0, .int 1][j]'hj))) x3 x4 x5 x6 x7 x8 x9 x10 x11) := ⟨p, _, x3, x4, x5, x6, x7, x8, x9, x10, x11, rfl, hp, rfl, h3⟩
    obtain ⟨ms', e, h'⟩ := bout24 hLI2 (by omega)
    refine ⟨_, ms', ?_, .inl e, by rw [show (0 + j + 1) * 17000 = (0 + j) * 17000 + 17000 from by omega]; exact h'⟩
    rw [gNm_ok (by rw [isLent_of (x := x2) rfl]; exact h2)]
    rfl)
  obtain ⟨p', x2, x3, x4, x5, x6, x7, x8, x9, x10, x11, rfl, _⟩ := hLI
  refine run1 (x := .dat S) (r := .dat (.bool true)) (ms' := TS (some (.dat S)) (some (.own false p')) x2 x3 x4 x5 x6 x7 x8 x9 x10 x11) ?_ rfl rfl
  show b_law (TS (some (.dat S)) none none none none none none none none none none none) = _
  rw [k24_eq, seq_nx (ms1 := TS (some (.dat S)) (some (.own false p)) none none none none none none none none none none) (by
    rw [set_n (call1_v (x := .dat S) rfl hpen) rfl]; rfl)]
  have hr : ((mOne (mC (.int 2))) (TS (some (.dat S)) (some (.own false p)) none none none none none none none none none none)).bind rng1 = .ok (.fix [.int 0, .int 1]) (TS (some (.dat S)) (some (.own false p)) none none none none none none none none none none) := rfl
  rw [seq_nx ((for_fix (fi := fun ms => ((mOne (mC (.int 2))) ms).bind rng1) (g := gNm 2) (b := k24B) hr).trans h)]
  rfl
end Lw

namespace Lw
open PySem PySem.Spec PyProof.Rows L2 Pl
/-- the promise, whatever the module has written -/
def spA (K : KW) (n : Nat) (F : Fn) : Sp := fun vs H Q E => ∀ mg, spF K mg n F vs H Q E
theorem law_sp {K : KW} {H : Hp} {a : Addr} {ns : List Int} (hl : ns.length ≤ 63) (hS : SqL K.K H a (ns.map V.int)) : spA K 1 F_law [.ref a] H (fun v _ => v = .bl true) fun _ _ _ => False := fun mg => sp_of hS (law_true ns) mg
section
theorem all_mk {P : Program} {w : World} {K : PySem.W.Frag} {h : Heap} {mg : Str → Option Value} {fa : Addr} (X : K.In h) (G0 : h.Ns mainGlobals mg) (hfa : mg "law" = some (.ref fa))
    {C_Book : Addr} (g_Book : PySem.W.nsIn K mainGlobals "Book" = some (some (.ref C_Book))) (pg_Book : PySem.W.plainGet K C_Book Str.empty = true) (hd_Book : PySem.W.hasDictIn K C_Book = true) (po_Book : PySem.W.plainOver K C_Book = true) (sa_Book : PySem.W.findIn K (.ref C_Book) "__setattr__" = some (some (.builtin "object.__setattr__"))) (mk_Book : PySem.W.makesIn K C_Book = true) (kc_Book : PySem.W.keepIn K (.ref C_Book) = true)
    (nf_Book_known : PySem.W.findIn K (.ref C_Book) "known" = some none)
    (nf_Book_own : PySem.W.findIn K (.ref C_Book) "own" = some none)
    {f__law_pen : Addr} {od__law_pen an__law_pen : Option Addr} {sl__law_pen : Array (Option Value)} {oc__law_pen kV__law_pen dc__law_pen pm__law_pen cd__law_pen ct__law_pen : Value}
    (a__law_pen : PySem.W.nsIn K mainGlobals "_law_pen" = some (some (.ref f__law_pen)))
    (l__law_pen : K.lookup f__law_pen = some ⟨oc__law_pen, od__law_pen, .func (PySem.W.fnOf "_law_pen" "_law_pen" (defArgs s__law_pen) (defBody s__law_pen) (defScope s__law_pen) .none kV__law_pen dc__law_pen pm__law_pen an__law_pen cd__law_pen ct__law_pen), sl__law_pen⟩) (c__law_pen : PySem.W.codeIn K cd__law_pen "_law_pen" = true) (k__law_pen : PySem.W.keepIn K (.ref f__law_pen) = true)
    {f__law_draw : Addr} {od__law_draw an__law_draw : Option Addr} {sl__law_draw : Array (Option Value)} {oc__law_draw kV__law_draw dc__law_draw pm__law_draw cd__law_draw ct__law_draw : Value}
    (a__law_draw : PySem.W.nsIn K mainGlobals "_law_draw" = some (some (.ref f__law_draw)))
    (l__law_draw : K.lookup f__law_draw = some ⟨oc__law_draw, od__law_draw, .func (PySem.W.fnOf "_law_draw" "_law_draw" (defArgs s__law_draw) (defBody s__law_draw) (defScope s__law_draw) .none kV__law_draw dc__law_draw pm__law_draw an__law_draw cd__law_draw ct__law_draw), sl__law_draw⟩) (c__law_draw : PySem.W.codeIn K cd__law_draw "_law_draw" = true) (k__law_draw : PySem.W.keepIn K (.ref f__law_draw) = true)
    {f__law_pick : Addr} {od__law_pick an__law_pick : Option Addr} {sl__law_pick : Array (Option Value)} {oc__law_pick kV__law_pick dc__law_pick pm__law_pick cd__law_pick ct__law_pick : Value}
    (a__law_pick : PySem.W.nsIn K mainGlobals "_law_pick" = some (some (.ref f__law_pick)))
    (l__law_pick : K.lookup f__law_pick = some ⟨oc__law_pick, od__law_pick, .func (PySem.W.fnOf "_law_pick" "_law_pick" (defArgs s__law_pick) (defBody s__law_pick) (defScope s__law_pick) .none kV__law_pick dc__law_pick pm__law_pick an__law_pick cd__law_pick ct__law_pick), sl__law_pick⟩) (c__law_pick : PySem.W.codeIn K cd__law_pick "_law_pick" = true) (k__law_pick : PySem.W.keepIn K (.ref f__law_pick) = true)
    {f__law_hands : Addr} {od__law_hands an__law_hands : Option Addr} {sl__law_hands : Array (Option Value)} {oc__law_hands kV__law_hands dc__law_hands pm__law_hands cd__law_hands ct__law_hands : Value}
    (a__law_hands : PySem.W.nsIn K mainGlobals "_law_hands" = some (some (.ref f__law_hands)))
    (l__law_hands : K.lookup f__law_hands = some ⟨oc__law_hands, od__law_hands, .func (PySem.W.fnOf "_law_hands" "_law_hands" (defArgs s__law_hands) (defBody s__law_hands) (defScope s__law_hands) .none kV__law_hands dc__law_hands pm__law_hands an__law_hands cd__law_hands ct__law_hands), sl__law_hands⟩) (c__law_hands : PySem.W.codeIn K cd__law_hands "_law_hands" = true) (k__law_hands : PySem.W.keepIn K (.ref f__law_hands) = true)
    {f__law_twos : Addr} {od__law_twos an__law_twos : Option Addr} {sl__law_twos : Array (Option Value)} {oc__law_twos kV__law_twos dc__law_twos pm__law_twos cd__law_twos ct__law_twos : Value}
    (a__law_twos : PySem.W.nsIn K mainGlobals "_law_twos" = some (some (.ref f__law_twos)))
    (l__law_twos : K.lookup f__law_twos = some ⟨oc__law_twos, od__law_twos, .func (PySem.W.fnOf "_law_twos" "_law_twos" (defArgs s__law_twos) (defBody s__law_twos) (defScope s__law_twos) .none kV__law_twos dc__law_twos pm__law_twos an__law_twos cd__law_twos ct__law_twos), sl__law_twos⟩) (c__law_twos : PySem.W.codeIn K cd__law_twos "_law_twos" = true) (k__law_twos : PySem.W.keepIn K (.ref f__law_twos) = true)
    {f__law_sets : Addr} {od__law_sets an__law_sets : Option Addr} {sl__law_sets : Array (Option Value)} {oc__law_sets kV__law_sets dc__law_sets pm__law_sets cd__law_sets ct__law_sets : Value}
    (a__law_sets : PySem.W.nsIn K mainGlobals "_law_sets" = some (some (.ref f__law_sets)))
    (l__law_sets : K.lookup f__law_sets = some ⟨oc__law_sets, od__law_sets, .func (PySem.W.fnOf "_law_sets" "_law_sets" (defArgs s__law_sets) (defBody s__law_sets) (defScope s__law_sets) .none kV__law_sets dc__law_sets pm__law_sets an__law_sets cd__law_sets ct__law_sets), sl__law_sets⟩) (c__law_sets : PySem.W.codeIn K cd__law_sets "_law_sets" = true) (k__law_sets : PySem.W.keepIn K (.ref f__law_sets) = true)
    {f__law_every_let : Addr} {od__law_every_let an__law_every_let : Option Addr} {sl__law_every_let : Array (Option Value)} {oc__law_every_let kV__law_every_let dc__law_every_let pm__law_every_let cd__law_every_let ct__law_every_let : Value}
    (a__law_every_let : PySem.W.nsIn K mainGlobals "_law_every_let" = some (some (.ref f__law_every_let)))
    (l__law_every_let : K.lookup f__law_every_let = some ⟨oc__law_every_let, od__law_every_let, .func (PySem.W.fnOf "_law_every_let" "_law_every_let" (defArgs s__law_every_let) (defBody s__law_every_let) (defScope s__law_every_let) .none kV__law_every_let dc__law_every_let pm__law_every_let an__law_every_let cd__law_every_let ct__law_every_let), sl__law_every_let⟩) (c__law_every_let : PySem.W.codeIn K cd__law_every_let "_law_every_let" = true) (k__law_every_let : PySem.W.keepIn K (.ref f__law_every_let) = true)
    {f__law_raw_lets : Addr} {od__law_raw_lets an__law_raw_lets : Option Addr} {sl__law_raw_lets : Array (Option Value)} {oc__law_raw_lets kV__law_raw_lets dc__law_raw_lets pm__law_raw_lets cd__law_raw_lets ct__law_raw_lets : Value}
    (a__law_raw_lets : PySem.W.nsIn K mainGlobals "_law_raw_lets" = some (some (.ref f__law_raw_lets)))
    (l__law_raw_lets : K.lookup f__law_raw_lets = some ⟨oc__law_raw_lets, od__law_raw_lets, .func (PySem.W.fnOf "_law_raw_lets" "_law_raw_lets" (defArgs s__law_raw_lets) (defBody s__law_raw_lets) (defScope s__law_raw_lets) .none kV__law_raw_lets dc__law_raw_lets pm__law_raw_lets an__law_raw_lets cd__law_raw_lets ct__law_raw_lets), sl__law_raw_lets⟩) (c__law_raw_lets : PySem.W.codeIn K cd__law_raw_lets "_law_raw_lets" = true) (k__law_raw_lets : PySem.W.keepIn K (.ref f__law_raw_lets) = true)
    {f_are_unlike : Addr} {od_are_unlike an_are_unlike : Option Addr} {sl_are_unlike : Array (Option Value)} {oc_are_unlike kV_are_unlike dc_are_unlike pm_are_unlike cd_are_unlike ct_are_unlike : Value}
    (a_are_unlike : PySem.W.nsIn K mainGlobals "are_unlike" = some (some (.ref f_are_unlike)))
    (l_are_unlike : K.lookup f_are_unlike = some ⟨oc_are_unlike, od_are_unlike, .func (PySem.W.fnOf "are_unlike" "are_unlike" (defArgs s_are_unlike) (defBody s_are_unlike) (defScope s_are_unlike) .none kV_are_unlike dc_are_unlike pm_are_unlike an_are_unlike cd_are_unlike ct_are_unlike), sl_are_unlike⟩) (c_are_unlike : PySem.W.codeIn K cd_are_unlike "are_unlike" = true) (k_are_unlike : PySem.W.keepIn K (.ref f_are_unlike) = true)
    {f_is_hand : Addr} {od_is_hand an_is_hand : Option Addr} {sl_is_hand : Array (Option Value)} {oc_is_hand kV_is_hand dc_is_hand pm_is_hand cd_is_hand ct_is_hand : Value}
    (a_is_hand : PySem.W.nsIn K mainGlobals "is_hand" = some (some (.ref f_is_hand)))
    (l_is_hand : K.lookup f_is_hand = some ⟨oc_is_hand, od_is_hand, .func (PySem.W.fnOf "is_hand" "is_hand" (defArgs s_is_hand) (defBody s_is_hand) (defScope s_is_hand) .none kV_is_hand dc_is_hand pm_is_hand an_is_hand cd_is_hand ct_is_hand), sl_is_hand⟩) (c_is_hand : PySem.W.codeIn K cd_is_hand "is_hand" = true) (k_is_hand : PySem.W.keepIn K (.ref f_is_hand) = true)
    {f_are_hands : Addr} {od_are_hands an_are_hands : Option Addr} {sl_are_hands : Array (Option Value)} {oc_are_hands kV_are_hands dc_are_hands pm_are_hands cd_are_hands ct_are_hands : Value}
    (a_are_hands : PySem.W.nsIn K mainGlobals "are_hands" = some (some (.ref f_are_hands)))
    (l_are_hands : K.lookup f_are_hands = some ⟨oc_are_hands, od_are_hands, .func (PySem.W.fnOf "are_hands" "are_hands" (defArgs s_are_hands) (defBody s_are_hands) (defScope s_are_hands) .none kV_are_hands dc_are_hands pm_are_hands an_are_hands cd_are_hands ct_are_hands), sl_are_hands⟩) (c_are_hands : PySem.W.codeIn K cd_are_hands "are_hands" = true) (k_are_hands : PySem.W.keepIn K (.ref f_are_hands) = true)
    {f_need_hands : Addr} {od_need_hands an_need_hands : Option Addr} {sl_need_hands : Array (Option Value)} {oc_need_hands kV_need_hands dc_need_hands pm_need_hands cd_need_hands ct_need_hands : Value}
    (a_need_hands : PySem.W.nsIn K mainGlobals "need_hands" = some (some (.ref f_need_hands)))
    (l_need_hands : K.lookup f_need_hands = some ⟨oc_need_hands, od_need_hands, .func (PySem.W.fnOf "need_hands" "need_hands" (defArgs s_need_hands) (defBody s_need_hands) (defScope s_need_hands) .none kV_need_hands dc_need_hands pm_need_hands an_need_hands cd_need_hands ct_need_hands), sl_need_hands⟩) (c_need_hands : PySem.W.codeIn K cd_need_hands "need_hands" = true) (k_need_hands : PySem.W.keepIn K (.ref f_need_hands) = true)
    {f_set_of : Addr} {od_set_of an_set_of : Option Addr} {sl_set_of : Array (Option Value)} {oc_set_of kV_set_of dc_set_of pm_set_of cd_set_of ct_set_of : Value}
    (a_set_of : PySem.W.nsIn K mainGlobals "set_of" = some (some (.ref f_set_of)))
    (l_set_of : K.lookup f_set_of = some ⟨oc_set_of, od_set_of, .func (PySem.W.fnOf "set_of" "set_of" (defArgs s_set_of) (defBody s_set_of) (defScope s_set_of) .none kV_set_of dc_set_of pm_set_of an_set_of cd_set_of ct_set_of), sl_set_of⟩) (c_set_of : PySem.W.codeIn K cd_set_of "set_of" = true) (k_set_of : PySem.W.keepIn K (.ref f_set_of) = true)
    {f_is_set : Addr} {od_is_set an_is_set : Option Addr} {sl_is_set : Array (Option Value)} {oc_is_set kV_is_set dc_is_set pm_is_set cd_is_set ct_is_set : Value}
    (a_is_set : PySem.W.nsIn K mainGlobals "is_set" = some (some (.ref f_is_set)))
    (l_is_set : K.lookup f_is_set = some ⟨oc_is_set, od_is_set, .func (PySem.W.fnOf "is_set" "is_set" (defArgs s_is_set) (defBody s_is_set) (defScope s_is_set) .none kV_is_set dc_is_set pm_is_set an_is_set cd_is_set ct_is_set), sl_is_set⟩) (c_is_set : PySem.W.codeIn K cd_is_set "is_set" = true) (k_is_set : PySem.W.keepIn K (.ref f_is_set) = true)
    {f_without : Addr} {od_without an_without : Option Addr} {sl_without : Array (Option Value)} {oc_without kV_without dc_without pm_without cd_without ct_without : Value}
    (a_without : PySem.W.nsIn K mainGlobals "without" = some (some (.ref f_without)))
    (l_without : K.lookup f_without = some ⟨oc_without, od_without, .func (PySem.W.fnOf "without" "without" (defArgs s_without) (defBody s_without) (defScope s_without) .none kV_without dc_without pm_without an_without cd_without ct_without), sl_without⟩) (c_without : PySem.W.codeIn K cd_without "without" = true) (k_without : PySem.W.keepIn K (.ref f_without) = true)
    {f_is_let : Addr} {od_is_let an_is_let : Option Addr} {sl_is_let : Array (Option Value)} {oc_is_let kV_is_let dc_is_let pm_is_let cd_is_let ct_is_let : Value}
    (a_is_let : PySem.W.nsIn K mainGlobals "is_let" = some (some (.ref f_is_let)))
    (l_is_let : K.lookup f_is_let = some ⟨oc_is_let, od_is_let, .func (PySem.W.fnOf "is_let" "is_let" (defArgs s_is_let) (defBody s_is_let) (defScope s_is_let) .none kV_is_let dc_is_let pm_is_let an_is_let cd_is_let ct_is_let), sl_is_let⟩) (c_is_let : PySem.W.codeIn K cd_is_let "is_let" = true) (k_is_let : PySem.W.keepIn K (.ref f_is_let) = true)
    {f_Book___init__ : Addr} {od_Book___init__ an_Book___init__ : Option Addr} {sl_Book___init__ : Array (Option Value)} {oc_Book___init__ kV_Book___init__ dc_Book___init__ pm_Book___init__ cd_Book___init__ ct_Book___init__ : Value}
    {T_Book___init__ : Addr} {ocT_Book___init__ : Value} {odT_Book___init__ : Option Addr} {i0T_Book___init__ : Value} {nT_Book___init__ : Nat} {slT_Book___init__ : Array (Option Value)}
    (a_Book___init__ : PySem.W.findIn K (.ref C_Book) "__init__" = some (some (.ref f_Book___init__))) (i_Book___init__ : PySem.W.isFn K (.ref f_Book___init__) = true)
    (l_Book___init__ : K.lookup f_Book___init__ = some ⟨oc_Book___init__, od_Book___init__, .func (PySem.W.fnOf "__init__" "Book.__init__" (defArgs s_Book___init__) (defBody s_Book___init__) (defScope s_Book___init__) (.ref T_Book___init__) kV_Book___init__ dc_Book___init__ pm_Book___init__ an_Book___init__ cd_Book___init__ ct_Book___init__), sl_Book___init__⟩) (c_Book___init__ : PySem.W.codeIn K cd_Book___init__ "Book.__init__" = true) (k_Book___init__ : PySem.W.keepIn K (.ref f_Book___init__) = true)
    (t_Book___init__ : K.lookup T_Book___init__ = some ⟨ocT_Book___init__, odT_Book___init__, .seq #[i0T_Book___init__] nT_Book___init__, slT_Book___init__⟩)
    {f__law_shuffled : Addr} {od__law_shuffled an__law_shuffled : Option Addr} {sl__law_shuffled : Array (Option Value)} {oc__law_shuffled kV__law_shuffled dc__law_shuffled pm__law_shuffled cd__law_shuffled ct__law_shuffled : Value}
    (a__law_shuffled : PySem.W.nsIn K mainGlobals "_law_shuffled" = some (some (.ref f__law_shuffled)))
    (l__law_shuffled : K.lookup f__law_shuffled = some ⟨oc__law_shuffled, od__law_shuffled, .func (PySem.W.fnOf "_law_shuffled" "_law_shuffled" (defArgs s__law_shuffled) (defBody s__law_shuffled) (defScope s__law_shuffled) .none kV__law_shuffled dc__law_shuffled pm__law_shuffled an__law_shuffled cd__law_shuffled ct__law_shuffled), sl__law_shuffled⟩) (c__law_shuffled : PySem.W.codeIn K cd__law_shuffled "_law_shuffled" = true) (k__law_shuffled : PySem.W.keepIn K (.ref f__law_shuffled) = true)
    {f__law_listed : Addr} {od__law_listed an__law_listed : Option Addr} {sl__law_listed : Array (Option Value)} {oc__law_listed kV__law_listed dc__law_listed pm__law_listed cd__law_listed ct__law_listed : Value}
    (a__law_listed : PySem.W.nsIn K mainGlobals "_law_listed" = some (some (.ref f__law_listed)))
    (l__law_listed : K.lookup f__law_listed = some ⟨oc__law_listed, od__law_listed, .func (PySem.W.fnOf "_law_listed" "_law_listed" (defArgs s__law_listed) (defBody s__law_listed) (defScope s__law_listed) .none kV__law_listed dc__law_listed pm__law_listed an__law_listed cd__law_listed ct__law_listed), sl__law_listed⟩) (c__law_listed : PySem.W.codeIn K cd__law_listed "_law_listed" = true) (k__law_listed : PySem.W.keepIn K (.ref f__law_listed) = true)
    {f__law_book : Addr} {od__law_book an__law_book : Option Addr} {sl__law_book : Array (Option Value)} {oc__law_book kV__law_book dc__law_book pm__law_book cd__law_book ct__law_book : Value}
    (a__law_book : PySem.W.nsIn K mainGlobals "_law_book" = some (some (.ref f__law_book)))
    (l__law_book : K.lookup f__law_book = some ⟨oc__law_book, od__law_book, .func (PySem.W.fnOf "_law_book" "_law_book" (defArgs s__law_book) (defBody s__law_book) (defScope s__law_book) .none kV__law_book dc__law_book pm__law_book an__law_book cd__law_book ct__law_book), sl__law_book⟩) (c__law_book : PySem.W.codeIn K cd__law_book "_law_book" = true) (k__law_book : PySem.W.keepIn K (.ref f__law_book) = true)
    {f__law_set : Addr} {od__law_set an__law_set : Option Addr} {sl__law_set : Array (Option Value)} {oc__law_set kV__law_set dc__law_set pm__law_set cd__law_set ct__law_set : Value}
    (a__law_set : PySem.W.nsIn K mainGlobals "_law_set" = some (some (.ref f__law_set)))
    (l__law_set : K.lookup f__law_set = some ⟨oc__law_set, od__law_set, .func (PySem.W.fnOf "_law_set" "_law_set" (defArgs s__law_set) (defBody s__law_set) (defScope s__law_set) .none kV__law_set dc__law_set pm__law_set an__law_set cd__law_set ct__law_set), sl__law_set⟩) (c__law_set : PySem.W.codeIn K cd__law_set "_law_set" = true) (k__law_set : PySem.W.keepIn K (.ref f__law_set) = true)
    {f__law_some : Addr} {od__law_some an__law_some : Option Addr} {sl__law_some : Array (Option Value)} {oc__law_some kV__law_some dc__law_some pm__law_some cd__law_some ct__law_some : Value}
    (a__law_some : PySem.W.nsIn K mainGlobals "_law_some" = some (some (.ref f__law_some)))
    (l__law_some : K.lookup f__law_some = some ⟨oc__law_some, od__law_some, .func (PySem.W.fnOf "_law_some" "_law_some" (defArgs s__law_some) (defBody s__law_some) (defScope s__law_some) .none kV__law_some dc__law_some pm__law_some an__law_some cd__law_some ct__law_some), sl__law_some⟩) (c__law_some : PySem.W.codeIn K cd__law_some "_law_some" = true) (k__law_some : PySem.W.keepIn K (.ref f__law_some) = true)
    {f__law_ring_drawn : Addr} {od__law_ring_drawn an__law_ring_drawn : Option Addr} {sl__law_ring_drawn : Array (Option Value)} {oc__law_ring_drawn kV__law_ring_drawn dc__law_ring_drawn pm__law_ring_drawn cd__law_ring_drawn ct__law_ring_drawn : Value}
    (a__law_ring_drawn : PySem.W.nsIn K mainGlobals "_law_ring_drawn" = some (some (.ref f__law_ring_drawn)))
    (l__law_ring_drawn : K.lookup f__law_ring_drawn = some ⟨oc__law_ring_drawn, od__law_ring_drawn, .func (PySem.W.fnOf "_law_ring_drawn" "_law_ring_drawn" (defArgs s__law_ring_drawn) (defBody s__law_ring_drawn) (defScope s__law_ring_drawn) .none kV__law_ring_drawn dc__law_ring_drawn pm__law_ring_drawn an__law_ring_drawn cd__law_ring_drawn ct__law_ring_drawn), sl__law_ring_drawn⟩) (c__law_ring_drawn : PySem.W.codeIn K cd__law_ring_drawn "_law_ring_drawn" = true) (k__law_ring_drawn : PySem.W.keepIn K (.ref f__law_ring_drawn) = true)
    {f__law_changed : Addr} {od__law_changed an__law_changed : Option Addr} {sl__law_changed : Array (Option Value)} {oc__law_changed kV__law_changed dc__law_changed pm__law_changed cd__law_changed ct__law_changed : Value}
    (a__law_changed : PySem.W.nsIn K mainGlobals "_law_changed" = some (some (.ref f__law_changed)))
    (l__law_changed : K.lookup f__law_changed = some ⟨oc__law_changed, od__law_changed, .func (PySem.W.fnOf "_law_changed" "_law_changed" (defArgs s__law_changed) (defBody s__law_changed) (defScope s__law_changed) .none kV__law_changed dc__law_changed pm__law_changed an__law_changed cd__law_changed ct__law_changed), sl__law_changed⟩) (c__law_changed : PySem.W.codeIn K cd__law_changed "_law_changed" = true) (k__law_changed : PySem.W.keepIn K (.ref f__law_changed) = true)
    {f__law_let_at : Addr} {od__law_let_at an__law_let_at : Option Addr} {sl__law_let_at : Array (Option Value)} {oc__law_let_at kV__law_let_at dc__law_let_at pm__law_let_at cd__law_let_at ct__law_let_at : Value}
    (a__law_let_at : PySem.W.nsIn K mainGlobals "_law_let_at" = some (some (.ref f__law_let_at)))
    (l__law_let_at : K.lookup f__law_let_at = some ⟨oc__law_let_at, od__law_let_at, .func (PySem.W.fnOf "_law_let_at" "_law_let_at" (defArgs s__law_let_at) (defBody s__law_let_at) (defScope s__law_let_at) .none kV__law_let_at dc__law_let_at pm__law_let_at an__law_let_at cd__law_let_at ct__law_let_at), sl__law_let_at⟩) (c__law_let_at : PySem.W.codeIn K cd__law_let_at "_law_let_at" = true) (k__law_let_at : PySem.W.keepIn K (.ref f__law_let_at) = true)
    {f_ring_lets : Addr} {od_ring_lets an_ring_lets : Option Addr} {sl_ring_lets : Array (Option Value)} {oc_ring_lets kV_ring_lets dc_ring_lets pm_ring_lets cd_ring_lets ct_ring_lets : Value}
    (a_ring_lets : PySem.W.nsIn K mainGlobals "ring_lets" = some (some (.ref f_ring_lets)))
    (l_ring_lets : K.lookup f_ring_lets = some ⟨oc_ring_lets, od_ring_lets, .func (PySem.W.fnOf "ring_lets" "ring_lets" (defArgs s_ring_lets) (defBody s_ring_lets) (defScope s_ring_lets) .none kV_ring_lets dc_ring_lets pm_ring_lets an_ring_lets cd_ring_lets ct_ring_lets), sl_ring_lets⟩) (c_ring_lets : PySem.W.codeIn K cd_ring_lets "ring_lets" = true) (k_ring_lets : PySem.W.keepIn K (.ref f_ring_lets) = true)
    {f__law_comes_round : Addr} {od__law_comes_round an__law_comes_round : Option Addr} {sl__law_comes_round : Array (Option Value)} {oc__law_comes_round kV__law_comes_round dc__law_comes_round pm__law_comes_round cd__law_comes_round ct__law_comes_round : Value}
    (a__law_comes_round : PySem.W.nsIn K mainGlobals "_law_comes_round" = some (some (.ref f__law_comes_round)))
    (l__law_comes_round : K.lookup f__law_comes_round = some ⟨oc__law_comes_round, od__law_comes_round, .func (PySem.W.fnOf "_law_comes_round" "_law_comes_round" (defArgs s__law_comes_round) (defBody s__law_comes_round) (defScope s__law_comes_round) .none kV__law_comes_round dc__law_comes_round pm__law_comes_round an__law_comes_round cd__law_comes_round ct__law_comes_round), sl__law_comes_round⟩) (c__law_comes_round : PySem.W.codeIn K cd__law_comes_round "_law_comes_round" = true) (k__law_comes_round : PySem.W.keepIn K (.ref f__law_comes_round) = true)
    {f_plain_marks : Addr} {od_plain_marks an_plain_marks : Option Addr} {sl_plain_marks : Array (Option Value)} {oc_plain_marks kV_plain_marks dc_plain_marks pm_plain_marks cd_plain_marks ct_plain_marks : Value}
    (a_plain_marks : PySem.W.nsIn K mainGlobals "plain_marks" = some (some (.ref f_plain_marks)))
    (l_plain_marks : K.lookup f_plain_marks = some ⟨oc_plain_marks, od_plain_marks, .func (PySem.W.fnOf "plain_marks" "plain_marks" (defArgs s_plain_marks) (defBody s_plain_marks) (defScope s_plain_marks) .none kV_plain_marks dc_plain_marks pm_plain_marks an_plain_marks cd_plain_marks ct_plain_marks), sl_plain_marks⟩) (c_plain_marks : PySem.W.codeIn K cd_plain_marks "plain_marks" = true) (k_plain_marks : PySem.W.keepIn K (.ref f_plain_marks) = true)
    {f_is_ring : Addr} {od_is_ring an_is_ring : Option Addr} {sl_is_ring : Array (Option Value)} {oc_is_ring kV_is_ring dc_is_ring pm_is_ring cd_is_ring ct_is_ring : Value}
    (a_is_ring : PySem.W.nsIn K mainGlobals "is_ring" = some (some (.ref f_is_ring)))
    (l_is_ring : K.lookup f_is_ring = some ⟨oc_is_ring, od_is_ring, .func (PySem.W.fnOf "is_ring" "is_ring" (defArgs s_is_ring) (defBody s_is_ring) (defScope s_is_ring) .none kV_is_ring dc_is_ring pm_is_ring an_is_ring cd_is_ring ct_is_ring), sl_is_ring⟩) (c_is_ring : PySem.W.codeIn K cd_is_ring "is_ring" = true) (k_is_ring : PySem.W.keepIn K (.ref f_is_ring) = true)
    {f_Book_hands : Addr} {od_Book_hands an_Book_hands : Option Addr} {sl_Book_hands : Array (Option Value)} {oc_Book_hands kV_Book_hands dc_Book_hands pm_Book_hands cd_Book_hands ct_Book_hands : Value}
    (a_Book_hands : PySem.W.findIn K (.ref C_Book) "hands" = some (some (.ref f_Book_hands))) (i_Book_hands : PySem.W.isFn K (.ref f_Book_hands) = true)
    (l_Book_hands : K.lookup f_Book_hands = some ⟨oc_Book_hands, od_Book_hands, .func (PySem.W.fnOf "hands" "Book.hands" (defArgs s_Book_hands) (defBody s_Book_hands) (defScope s_Book_hands) .none kV_Book_hands dc_Book_hands pm_Book_hands an_Book_hands cd_Book_hands ct_Book_hands), sl_Book_hands⟩) (c_Book_hands : PySem.W.codeIn K cd_Book_hands "Book.hands" = true) (k_Book_hands : PySem.W.keepIn K (.ref f_Book_hands) = true)
    {f_marks : Addr} {od_marks an_marks : Option Addr} {sl_marks : Array (Option Value)} {oc_marks kV_marks dc_marks pm_marks cd_marks ct_marks : Value}
    (a_marks : PySem.W.nsIn K mainGlobals "marks" = some (some (.ref f_marks)))
    (l_marks : K.lookup f_marks = some ⟨oc_marks, od_marks, .func (PySem.W.fnOf "marks" "marks" (defArgs s_marks) (defBody s_marks) (defScope s_marks) .none kV_marks dc_marks pm_marks an_marks cd_marks ct_marks), sl_marks⟩) (c_marks : PySem.W.codeIn K cd_marks "marks" = true) (k_marks : PySem.W.keepIn K (.ref f_marks) = true)
    {f__law_ring : Addr} {od__law_ring an__law_ring : Option Addr} {sl__law_ring : Array (Option Value)} {oc__law_ring kV__law_ring dc__law_ring pm__law_ring cd__law_ring ct__law_ring : Value}
    (a__law_ring : PySem.W.nsIn K mainGlobals "_law_ring" = some (some (.ref f__law_ring)))
    (l__law_ring : K.lookup f__law_ring = some ⟨oc__law_ring, od__law_ring, .func (PySem.W.fnOf "_law_ring" "_law_ring" (defArgs s__law_ring) (defBody s__law_ring) (defScope s__law_ring) .none kV__law_ring dc__law_ring pm__law_ring an__law_ring cd__law_ring ct__law_ring), sl__law_ring⟩) (c__law_ring : PySem.W.codeIn K cd__law_ring "_law_ring" = true) (k__law_ring : PySem.W.keepIn K (.ref f__law_ring) = true)
    {f__law_marked : Addr} {od__law_marked an__law_marked : Option Addr} {sl__law_marked : Array (Option Value)} {oc__law_marked kV__law_marked dc__law_marked pm__law_marked cd__law_marked ct__law_marked : Value}
    (a__law_marked : PySem.W.nsIn K mainGlobals "_law_marked" = some (some (.ref f__law_marked)))
    (l__law_marked : K.lookup f__law_marked = some ⟨oc__law_marked, od__law_marked, .func (PySem.W.fnOf "_law_marked" "_law_marked" (defArgs s__law_marked) (defBody s__law_marked) (defScope s__law_marked) .none kV__law_marked dc__law_marked pm__law_marked an__law_marked cd__law_marked ct__law_marked), sl__law_marked⟩) (c__law_marked : PySem.W.codeIn K cd__law_marked "_law_marked" = true) (k__law_marked : PySem.W.keepIn K (.ref f__law_marked) = true)
    {f_law : Addr} {od_law an_law : Option Addr} {sl_law : Array (Option Value)} {oc_law kV_law dc_law pm_law cd_law ct_law : Value}
    (a_law : PySem.W.nsIn K mainGlobals "law" = some (some (.ref f_law)))
    (l_law : K.lookup f_law = some ⟨oc_law, od_law, .func (PySem.W.fnOf "law" "law" (defArgs s_law) (defBody s_law) (defScope s_law) .none kV_law dc_law pm_law an_law cd_law ct_law), sl_law⟩) (c_law : PySem.W.codeIn K cd_law "law" = true) (k_law : PySem.W.keepIn K (.ref f_law) = true)
    (z_list : PySem.W.nsIn K mainGlobals "list" = some none)
    (z_len : PySem.W.nsIn K mainGlobals "len" = some none)
    (z_abs : PySem.W.nsIn K mainGlobals "abs" = some none)
    (z_range : PySem.W.nsIn K mainGlobals "range" = some none)
    (z_sorted : PySem.W.nsIn K mainGlobals "sorted" = some none)
    (z_isinstance : PySem.W.nsIn K mainGlobals "isinstance" = some none)
    (z_str : PySem.W.nsIn K mainGlobals "str" = some none)
    (z_all : PySem.W.nsIn K mainGlobals "all" = some none)
    (z_tuple : PySem.W.nsIn K mainGlobals "tuple" = some none)
    (z_dict : PySem.W.nsIn K mainGlobals "dict" = some none)
    {t_LONGEST_HAND : Tok} (y_LONGEST_HAND : PySem.W.nsIn K mainGlobals "LONGEST_HAND" = some (some (.int 8 t_LONGEST_HAND)))
    {t_LETTERS : Tok} (y_LETTERS : PySem.W.nsIn K mainGlobals "LETTERS" = some (some (.str "abcdefghijklmnopqrstuvwxyz" t_LETTERS)))
    {t_MOST_HANDS : Tok} (y_MOST_HANDS : PySem.W.nsIn K mainGlobals "MOST_HANDS" = some (some (.int 8 t_MOST_HANDS)))
    : ∃ fd : FuncData, (∀ (s : Shared) (v : Value), BindsTo s fd ⟨[v], []⟩ [("script", v)]) ∧ ∀ base : Heap, K.In base → base.Ns mainGlobals mg → GdOk P w K mg base 7 fa fd ["script"] (spA ⟨K, w, P⟩ 1 F_law) := by
  have e := hfa.symm.trans (PySem.W.mg_of X G0 a_law)
  cases e
  have Gx : Gb mg := ⟨PySem.W.mg_none_of X G0 z_list, PySem.W.mg_none_of X G0 z_len, PySem.W.mg_none_of X G0 z_abs, PySem.W.mg_none_of X G0 z_range, PySem.W.mg_none_of X G0 z_sorted, PySem.W.mg_none_of X G0 z_isinstance, PySem.W.mg_none_of X G0 z_str, PySem.W.mg_none_of X G0 z_all, PySem.W.mg_none_of X G0 z_tuple, PySem.W.mg_none_of X G0 z_dict, ⟨_, PySem.W.mg_of X G0 y_LONGEST_HAND⟩, ⟨_, PySem.W.mg_of X G0 y_LETTERS⟩, ⟨_, PySem.W.mg_of X G0 y_MOST_HANDS⟩⟩
  refine ⟨PySem.W.fnOf "law" "law" (defArgs s_law) (defBody s_law) (defScope s_law) .none kV_law dc_law pm_law an_law cd_law ct_law, fun s v => .of_eq rfl, fun base _ _ => ?_⟩
  have cl_Book : ClF K mg "Book" C_Book := ⟨g_Book, PySem.W.mg_of X G0 g_Book, ⟨pg_Book, hd_Book, po_Book, sa_Book⟩⟩
  have Gk : Gc K mg := ⟨⟨C_Book, cl_Book, fun f hf => by
    simp only [List.mem_cons, List.not_mem_nil, or_false] at hf
    rcases hf with rfl | rfl
    · exact nf_Book_known
    · exact nf_Book_own⟩⟩
  have fn__law_pen := fun_mk (st := s__law_pen) l__law_pen c__law_pen k__law_pen
  have C__law_pen : Cal P w K mg base 1 "_law_pen" 1 F__law_pen := ⟨_, _, ["script"], rfl, ok__law_pen Gx fn__law_pen , PySem.W.mg_of X G0 a__law_pen, k__law_pen, fn__law_pen.binds (ps := ["script"]) fun _ _ _ _ _ _ us hl => match us, hl with | [_], _ => rfl⟩
  have fn__law_draw := fun_mk (st := s__law_draw) l__law_draw c__law_draw k__law_draw
  have C__law_draw : Cal P w K mg base 1 "_law_draw" 2 F__law_draw := ⟨_, _, ["pen", "many"], rfl, ok__law_draw Gx fn__law_draw , PySem.W.mg_of X G0 a__law_draw, k__law_draw, fn__law_draw.binds (ps := ["pen", "many"]) fun _ _ _ _ _ _ us hl => match us, hl with | [_, _], _ => rfl⟩
  have fn__law_pick := fun_mk (st := s__law_pick) l__law_pick c__law_pick k__law_pick
  have C__law_pick : Cal P w K mg base 2 "_law_pick" 2 F__law_pick := ⟨_, _, ["pen", "some"], rfl, ok__law_pick Gx fn__law_pick C__law_draw, PySem.W.mg_of X G0 a__law_pick, k__law_pick, fn__law_pick.binds (ps := ["pen", "some"]) fun _ _ _ _ _ _ us hl => match us, hl with | [_, _], _ => rfl⟩
  have fn__law_hands := fun_mk (st := s__law_hands) l__law_hands c__law_hands k__law_hands
  have C__law_hands : Cal P w K mg base 3 "_law_hands" 2 F__law_hands := ⟨_, _, ["pen", "many"], rfl, ok__law_hands Gx fn__law_hands C__law_draw C__law_pick, PySem.W.mg_of X G0 a__law_hands, k__law_hands, fn__law_hands.binds (ps := ["pen", "many"]) fun _ _ _ _ _ _ us hl => match us, hl with | [_, _], _ => rfl⟩
  have fn__law_twos := fun_mk (st := s__law_twos) l__law_twos c__law_twos k__law_twos
  have C__law_twos : Cal P w K mg base 1 "_law_twos" 1 F__law_twos := ⟨_, _, ["hands"], rfl, ok__law_twos Gx fn__law_twos , PySem.W.mg_of X G0 a__law_twos, k__law_twos, fn__law_twos.binds (ps := ["hands"]) fun _ _ _ _ _ _ us hl => match us, hl with | [_], _ => rfl⟩
  have fn__law_sets := fun_mk (st := s__law_sets) l__law_sets c__law_sets k__law_sets
  have C__law_sets : Cal P w K mg base 1 "_law_sets" 1 F__law_sets := ⟨_, _, ["hands"], rfl, ok__law_sets Gx fn__law_sets , PySem.W.mg_of X G0 a__law_sets, k__law_sets, fn__law_sets.binds (ps := ["hands"]) fun _ _ _ _ _ _ us hl => match us, hl with | [_], _ => rfl⟩
  have fn__law_every_let := fun_mk (st := s__law_every_let) l__law_every_let c__law_every_let k__law_every_let
  have C__law_every_let : Cal P w K mg base 2 "_law_every_let" 1 F__law_every_let := ⟨_, _, ["hands"], rfl, ok__law_every_let Gx fn__law_every_let C__law_twos C__law_sets, PySem.W.mg_of X G0 a__law_every_let, k__law_every_let, fn__law_every_let.binds (ps := ["hands"]) fun _ _ _ _ _ _ us hl => match us, hl with | [_], _ => rfl⟩
  have fn__law_raw_lets := fun_mk (st := s__law_raw_lets) l__law_raw_lets c__law_raw_lets k__law_raw_lets
  have C__law_raw_lets : Cal P w K mg base 3 "_law_raw_lets" 2 F__law_raw_lets := ⟨_, _, ["pen", "hands"], rfl, ok__law_raw_lets Gx fn__law_raw_lets C__law_pick C__law_every_let C__law_draw, PySem.W.mg_of X G0 a__law_raw_lets, k__law_raw_lets, fn__law_raw_lets.binds (ps := ["pen", "hands"]) fun _ _ _ _ _ _ us hl => match us, hl with | [_, _], _ => rfl⟩
  have fn_are_unlike := fun_mk (st := s_are_unlike) l_are_unlike c_are_unlike k_are_unlike
  have C_are_unlike : Cal P w K mg base 1 "are_unlike" 1 F_are_unlike := ⟨_, _, ["some"], rfl, ok_are_unlike Gx fn_are_unlike , PySem.W.mg_of X G0 a_are_unlike, k_are_unlike, fn_are_unlike.binds (ps := ["some"]) fun _ _ _ _ _ _ us hl => match us, hl with | [_], _ => rfl⟩
  have fn_is_hand := fun_mk (st := s_is_hand) l_is_hand c_is_hand k_is_hand
  have C_is_hand : Cal P w K mg base 1 "is_hand" 1 F_is_hand := ⟨_, _, ["thing"], rfl, ok_is_hand Gx fn_is_hand , PySem.W.mg_of X G0 a_is_hand, k_is_hand, fn_is_hand.binds (ps := ["thing"]) fun _ _ _ _ _ _ us hl => match us, hl with | [_], _ => rfl⟩
  have fn_are_hands := fun_mk (st := s_are_hands) l_are_hands c_are_hands k_are_hands
  have C_are_hands : Cal P w K mg base 2 "are_hands" 1 F_are_hands := ⟨_, _, ["thing"], rfl, ok_are_hands Gx fn_are_hands C_is_hand C_are_unlike, PySem.W.mg_of X G0 a_are_hands, k_are_hands, fn_are_hands.binds (ps := ["thing"]) fun _ _ _ _ _ _ us hl => match us, hl with | [_], _ => rfl⟩
  have fn_need_hands := fun_mk (st := s_need_hands) l_need_hands c_need_hands k_need_hands
  have C_need_hands : Cal P w K mg base 3 "need_hands" 1 F_need_hands := ⟨_, _, ["thing"], rfl, ok_need_hands Gx fn_need_hands C_are_hands, PySem.W.mg_of X G0 a_need_hands, k_need_hands, fn_need_hands.binds (ps := ["thing"]) fun _ _ _ _ _ _ us hl => match us, hl with | [_], _ => rfl⟩
  have fn_set_of := fun_mk (st := s_set_of) l_set_of c_set_of k_set_of
  have C_set_of : Cal P w K mg base 1 "set_of" 1 F_set_of := ⟨_, _, ["some"], rfl, ok_set_of Gx fn_set_of , PySem.W.mg_of X G0 a_set_of, k_set_of, fn_set_of.binds (ps := ["some"]) fun _ _ _ _ _ _ us hl => match us, hl with | [_], _ => rfl⟩
  have fn_is_set := fun_mk (st := s_is_set) l_is_set c_is_set k_is_set
  have C_is_set : Cal P w K mg base 2 "is_set" 2 F_is_set := ⟨_, _, ["hands", "thing"], rfl, ok_is_set Gx fn_is_set C_are_unlike C_set_of, PySem.W.mg_of X G0 a_is_set, k_is_set, fn_is_set.binds (ps := ["hands", "thing"]) fun _ _ _ _ _ _ us hl => match us, hl with | [_, _], _ => rfl⟩
  have fn_without := fun_mk (st := s_without) l_without c_without k_without
  have C_without : Cal P w K mg base 1 "without" 2 F_without := ⟨_, _, ["hands", "some"], rfl, ok_without Gx fn_without , PySem.W.mg_of X G0 a_without, k_without, fn_without.binds (ps := ["hands", "some"]) fun _ _ _ _ _ _ us hl => match us, hl with | [_, _], _ => rfl⟩
  have fn_is_let := fun_mk (st := s_is_let) l_is_let c_is_let k_is_let
  have C_is_let : Cal P w K mg base 3 "is_let" 2 F_is_let := ⟨_, _, ["hands", "thing"], rfl, ok_is_let Gx fn_is_let C_is_set C_without, PySem.W.mg_of X G0 a_is_let, k_is_let, fn_is_let.binds (ps := ["hands", "thing"]) fun _ _ _ _ _ _ us hl => match us, hl with | [_, _], _ => rfl⟩
  have fn_Book___init__ : FunG K "__init__" "Book.__init__" s_Book___init__ f_Book___init__ _ := ⟨⟨_, _, _, _, _, _, _, _, _, _, rfl, l_Book___init__, c_Book___init__⟩⟩
  have C_Book___init__ : CalI P w K mg base 4 "Book" 2 F_Book___init__ := ⟨C_Book, _, _, ["self", "hands", "lets"], rfl, cl_Book, ⟨mk_Book, a_Book___init__, i_Book___init__, kc_Book⟩, ok_Book___init__ Gx Gk fn_Book___init__ C_need_hands C_is_let, binds_dflt (ps := ["self", "hands", "lets"]) t_Book___init__ rfl fun us hl => match us, hl with | [_, _, _], _ => ⟨_, rfl, rfl⟩⟩
  have fn__law_shuffled := fun_mk (st := s__law_shuffled) l__law_shuffled c__law_shuffled k__law_shuffled
  have C__law_shuffled : Cal P w K mg base 2 "_law_shuffled" 2 F__law_shuffled := ⟨_, _, ["pen", "some"], rfl, ok__law_shuffled Gx fn__law_shuffled C__law_draw, PySem.W.mg_of X G0 a__law_shuffled, k__law_shuffled, fn__law_shuffled.binds (ps := ["pen", "some"]) fun _ _ _ _ _ _ us hl => match us, hl with | [_, _], _ => rfl⟩
  have fn__law_listed := fun_mk (st := s__law_listed) l__law_listed c__law_listed k__law_listed
  have C__law_listed : Cal P w K mg base 3 "_law_listed" 2 F__law_listed := ⟨_, _, ["pen", "hands"], rfl, ok__law_listed Gx fn__law_listed C__law_shuffled C__law_draw, PySem.W.mg_of X G0 a__law_listed, k__law_listed, fn__law_listed.binds (ps := ["pen", "hands"]) fun _ _ _ _ _ _ us hl => match us, hl with | [_, _], _ => rfl⟩
  have fn__law_book := fun_mk (st := s__law_book) l__law_book c__law_book k__law_book
  have C__law_book : Cal P w K mg base 6 "_law_book" 3 F__law_book := ⟨_, _, ["pen", "hands", "lets"], rfl, ok__law_book Gx Gk fn__law_book C__law_draw C_Book___init__ C__law_listed, PySem.W.mg_of X G0 a__law_book, k__law_book, fn__law_book.binds (ps := ["pen", "hands", "lets"]) fun _ _ _ _ _ _ us hl => match us, hl with | [_, _, _], _ => rfl⟩
  have fn__law_set := fun_mk (st := s__law_set) l__law_set c__law_set k__law_set
  have C__law_set : Cal P w K mg base 1 "_law_set" 1 F__law_set := ⟨_, _, ["some"], rfl, ok__law_set Gx fn__law_set , PySem.W.mg_of X G0 a__law_set, k__law_set, fn__law_set.binds (ps := ["some"]) fun _ _ _ _ _ _ us hl => match us, hl with | [_], _ => rfl⟩
  have fn__law_some := fun_mk (st := s__law_some) l__law_some c__law_some k__law_some
  have C__law_some : Cal P w K mg base 2 "_law_some" 2 F__law_some := ⟨_, _, ["pen", "hands"], rfl, ok__law_some Gx fn__law_some C__law_set C__law_draw, PySem.W.mg_of X G0 a__law_some, k__law_some, fn__law_some.binds (ps := ["pen", "hands"]) fun _ _ _ _ _ _ us hl => match us, hl with | [_, _], _ => rfl⟩
  have fn__law_ring_drawn := fun_mk (st := s__law_ring_drawn) l__law_ring_drawn c__law_ring_drawn k__law_ring_drawn
  have C__law_ring_drawn : Cal P w K mg base 3 "_law_ring_drawn" 2 F__law_ring_drawn := ⟨_, _, ["pen", "hands"], rfl, ok__law_ring_drawn Gx fn__law_ring_drawn C__law_shuffled C__law_set C__law_some, PySem.W.mg_of X G0 a__law_ring_drawn, k__law_ring_drawn, fn__law_ring_drawn.binds (ps := ["pen", "hands"]) fun _ _ _ _ _ _ us hl => match us, hl with | [_, _], _ => rfl⟩
  have fn__law_changed := fun_mk (st := s__law_changed) l__law_changed c__law_changed k__law_changed
  have C__law_changed : Cal P w K mg base 1 "_law_changed" 2 F__law_changed := ⟨_, _, ["row", "place"], rfl, ok__law_changed Gx fn__law_changed , PySem.W.mg_of X G0 a__law_changed, k__law_changed, fn__law_changed.binds (ps := ["row", "place"]) fun _ _ _ _ _ _ us hl => match us, hl with | [_, _], _ => rfl⟩
  have fn__law_let_at := fun_mk (st := s__law_let_at) l__law_let_at c__law_let_at k__law_let_at
  have C__law_let_at : Cal P w K mg base 2 "_law_let_at" 2 F__law_let_at := ⟨_, _, ["row", "place"], rfl, ok__law_let_at Gx fn__law_let_at C__law_set, PySem.W.mg_of X G0 a__law_let_at, k__law_let_at, fn__law_let_at.binds (ps := ["row", "place"]) fun _ _ _ _ _ _ us hl => match us, hl with | [_, _], _ => rfl⟩
  have fn_ring_lets := fun_mk (st := s_ring_lets) l_ring_lets c_ring_lets k_ring_lets
  have C_ring_lets : Cal P w K mg base 2 "ring_lets" 2 F_ring_lets := ⟨_, _, ["three", "ahead"], rfl, ok_ring_lets Gx fn_ring_lets C_set_of, PySem.W.mg_of X G0 a_ring_lets, k_ring_lets, fn_ring_lets.binds (ps := ["three", "ahead"]) fun _ _ _ _ _ _ us hl => match us, hl with | [_, _], _ => rfl⟩
  have fn__law_comes_round := fun_mk (st := s__law_comes_round) l__law_comes_round c__law_comes_round k__law_comes_round
  have C__law_comes_round : Cal P w K mg base 3 "_law_comes_round" 4 F__law_comes_round := ⟨_, _, ["pen", "hands", "three", "ahead"], rfl, ok__law_comes_round Gx fn__law_comes_round C__law_shuffled C__law_let_at C__law_changed C_ring_lets, PySem.W.mg_of X G0 a__law_comes_round, k__law_comes_round, fn__law_comes_round.binds (ps := ["pen", "hands", "three", "ahead"]) fun _ _ _ _ _ _ us hl => match us, hl with | [_, _, _, _], _ => rfl⟩
  have fn_plain_marks := fun_mk (st := s_plain_marks) l_plain_marks c_plain_marks k_plain_marks
  have C_plain_marks : Cal P w K mg base 3 "plain_marks" 3 F_plain_marks := ⟨_, _, ["book", "three", "ahead"], rfl, ok_plain_marks Gx Gk fn_plain_marks C_ring_lets, PySem.W.mg_of X G0 a_plain_marks, k_plain_marks, fn_plain_marks.binds (ps := ["book", "three", "ahead"]) fun _ _ _ _ _ _ us hl => match us, hl with | [_, _, _], _ => rfl⟩
  have fn_is_ring := fun_mk (st := s_is_ring) l_is_ring c_is_ring k_is_ring
  have C_is_ring : Cal P w K mg base 3 "is_ring" 3 F_is_ring := ⟨_, _, ["hands", "three", "ahead"], rfl, ok_is_ring Gx fn_is_ring C_is_set C_without, PySem.W.mg_of X G0 a_is_ring, k_is_ring, fn_is_ring.binds (ps := ["hands", "three", "ahead"]) fun _ _ _ _ _ _ us hl => match us, hl with | [_, _, _], _ => rfl⟩
  have fn_Book_hands := fun_mk (st := s_Book_hands) l_Book_hands c_Book_hands k_Book_hands
  have C_Book_hands : CalM P w K mg base 1 "Book" "hands" 0 F_Book_hands := ⟨C_Book, _, _, ["self"], rfl, cl_Book, ⟨a_Book_hands, i_Book_hands, k_Book_hands⟩, ok_Book_hands Gx Gk fn_Book_hands , fn_Book_hands.binds (ps := ["self"]) fun _ _ _ _ _ _ us hl => match us, hl with | [_], _ => rfl⟩
  have fn_marks := fun_mk (st := s_marks) l_marks c_marks k_marks
  have C_marks : Cal P w K mg base 4 "marks" 3 F_marks := ⟨_, _, ["book", "three", "ahead"], rfl, ok_marks Gx Gk fn_marks C_is_ring C_Book_hands C_plain_marks, PySem.W.mg_of X G0 a_marks, k_marks, fn_marks.binds (ps := ["book", "three", "ahead"]) fun _ _ _ _ _ _ us hl => match us, hl with | [_, _, _], _ => rfl⟩
  have fn__law_ring := fun_mk (st := s__law_ring) l__law_ring c__law_ring k__law_ring
  have C__law_ring : Cal P w K mg base 2 "_law_ring" 2 F__law_ring := ⟨_, _, ["three", "ahead"], rfl, ok__law_ring Gx fn__law_ring C__law_set, PySem.W.mg_of X G0 a__law_ring, k__law_ring, fn__law_ring.binds (ps := ["three", "ahead"]) fun _ _ _ _ _ _ us hl => match us, hl with | [_, _], _ => rfl⟩
  have fn__law_marked := fun_mk (st := s__law_marked) l__law_marked c__law_marked k__law_marked
  have C__law_marked : Cal P w K mg base 5 "_law_marked" 4 F__law_marked := ⟨_, _, ["book", "lets", "three", "ahead"], rfl, ok__law_marked Gx fn__law_marked C_marks C__law_ring, PySem.W.mg_of X G0 a__law_marked, k__law_marked, fn__law_marked.binds (ps := ["book", "lets", "three", "ahead"]) fun _ _ _ _ _ _ us hl => match us, hl with | [_, _, _, _], _ => rfl⟩
  have fn_law := fun_mk (st := s_law) l_law c_law k_law
  exact (ok_law Gx fn_law C__law_pen C__law_hands C__law_pick C__law_raw_lets C__law_every_let C__law_book C__law_ring_drawn C__law_comes_round C__law_marked).imp fun _ _ _ _ h => h mg
end
end Lw
open PySem PySem.W PyProof.Rows
set_option maxHeartbeats 0 in
theorem PySem.Challenge.cw_aheadbook_k24_marks_round_a_ring_holds : PySem.Challenge.rw_aheadbook_k24_marks_round_a_ring.Holds := by
  w_on; o_law; k_head; (case hw => w_witness2)
  k_fill
  refine Pl.gd_walk (l := PySem.Challenge.rw_aheadbook_k24_marks_round_a_ring) (n := 63) (k := 7) (x := "script") (sp := fun w => Lw.spA ⟨_, w, PySem.Challenge.rw_aheadbook_k24_marks_round_a_ring.prog⟩ 1 Lw.F_law) rfl (by decide) rfl ⟨rfl, by decide, by decide⟩ (fun w h Y => PySem.W.kIn_of Y) ?F (fun _ _ a ns hl _ hS => Lw.law_sp hl hS) (fun _ _ _ _ _ h => by obtain ⟨_, _, _, _, _, _, _, _, _, _, _, _, z⟩ := h; exact z)
  case F =>
    intro w mg fa h KX G hmg
    refine' Lw.all_mk KX G hmg ?g_Book ?pg_Book ?hd_Book ?po_Book ?sa_Book ?mk_Book ?kc_Book ?nf_Book_known ?nf_Book_own ?a__law_pen ?l__law_pen ?c__law_pen ?k__law_pen ?a__law_draw ?l__law_draw ?c__law_draw ?k__law_draw ?a__law_pick ?l__law_pick ?c__law_pick ?k__law_pick ?a__law_hands ?l__law_hands ?c__law_hands ?k__law_hands ?a__law_twos ?l__law_twos ?c__law_twos ?k__law_twos ?a__law_sets ?l__law_sets ?c__law_sets ?k__law_sets ?a__law_every_let ?l__law_every_let ?c__law_every_let ?k__law_every_let ?a__law_raw_lets ?l__law_raw_lets ?c__law_raw_lets ?k__law_raw_lets ?a_are_unlike ?l_are_unlike ?c_are_unlike ?k_are_unlike ?a_is_hand ?l_is_hand ?c_is_hand ?k_is_hand ?a_are_hands ?l_are_hands ?c_are_hands ?k_are_hands ?a_need_hands ?l_need_hands ?c_need_hands ?k_need_hands ?a_set_of ?l_set_of ?c_set_of ?k_set_of ?a_is_set ?l_is_set ?c_is_set ?k_is_set ?a_without ?l_without ?c_without ?k_without ?a_is_let ?l_is_let ?c_is_let ?k_is_let ?a_Book___init__ ?i_Book___init__ ?l_Book___init__ ?c_Book___init__ ?k_Book___init__ ?t_Book___init__ ?a__law_shuffled ?l__law_shuffled ?c__law_shuffled ?k__law_shuffled ?a__law_listed ?l__law_listed ?c__law_listed ?k__law_listed ?a__law_book ?l__law_book ?c__law_book ?k__law_book ?a__law_set ?l__law_set ?c__law_set ?k__law_set ?a__law_some ?l__law_some ?c__law_some ?k__law_some ?a__law_ring_drawn ?l__law_ring_drawn ?c__law_ring_drawn ?k__law_ring_drawn ?a__law_changed ?l__law_changed ?c__law_changed ?k__law_changed ?a__law_let_at ?l__law_let_at ?c__law_let_at ?k__law_let_at ?a_ring_lets ?l_ring_lets ?c_ring_lets ?k_ring_lets ?a__law_comes_round ?l__law_comes_round ?c__law_comes_round ?k__law_comes_round ?a_plain_marks ?l_plain_marks ?c_plain_marks ?k_plain_marks ?a_is_ring ?l_is_ring ?c_is_ring ?k_is_ring ?a_Book_hands ?i_Book_hands ?l_Book_hands ?c_Book_hands ?k_Book_hands ?a_marks ?l_marks ?c_marks ?k_marks ?a__law_ring ?l__law_ring ?c__law_ring ?k__law_ring ?a__law_marked ?l__law_marked ?c__law_marked ?k__law_marked ?a_law ?l_law ?c_law ?k_law ?z_list ?z_len ?z_abs ?z_range ?z_sorted ?z_isinstance ?z_str ?z_all ?z_tuple ?z_dict ?y_LONGEST_HAND ?y_LETTERS ?y_MOST_HANDS
    (case g_Book => k_is); (case pg_Book => k_is); (case hd_Book => k_is); (case po_Book => k_is); (case sa_Book => k_is); (case mk_Book => k_is); (case kc_Book => k_is); (case nf_Book_known => k_is); (case nf_Book_own => k_is); (case a__law_pen => k_is); (case l__law_pen => k_is); (case c__law_pen => k_is); (case k__law_pen => k_is); (case a__law_draw => k_is); (case l__law_draw => k_is); (case c__law_draw => k_is); (case k__law_draw => k_is); (case a__law_pick => k_is); (case l__law_pick => k_is); (case c__law_pick => k_is); (case k__law_pick => k_is); (case a__law_hands => k_is); (case l__law_hands => k_is); (case c__law_hands => k_is); (case k__law_hands => k_is); (case a__law_twos => k_is); (case l__law_twos => k_is); (case c__law_twos => k_is); (case k__law_twos => k_is); (case a__law_sets => k_is); (case l__law_sets => k_is); (case c__law_sets => k_is); (case k__law_sets => k_is); (case a__law_every_let => k_is); (case l__law_every_let => k_is); (case c__law_every_let => k_is); (case k__law_every_let => k_is); (case a__law_raw_lets => k_is); (case l__law_raw_lets => k_is); (case c__law_raw_lets => k_is); (case k__law_raw_lets => k_is); (case a_are_unlike => k_is); (case l_are_unlike => k_is); (case c_are_unlike => k_is); (case k_are_unlike => k_is); (case a_is_hand => k_is); (case l_is_hand => k_is); (case c_is_hand => k_is); (case k_is_hand => k_is); (case a_are_hands => k_is); (case l_are_hands => k_is); (case c_are_hands => k_is); (case k_are_hands => k_is); (case a_need_hands => k_is); (case l_need_hands => k_is); (case c_need_hands => k_is); (case k_need_hands => k_is); (case a_set_of => k_is); (case l_set_of => k_is); (case c_set_of => k_is); (case k_set_of => k_is); (case a_is_set => k_is); (case l_is_set => k_is); (case c_is_set => k_is); (case k_is_set => k_is); (case a_without => k_is); (case l_without => k_is); (case c_without => k_is); (case k_without => k_is); (case a_is_let => k_is); (case l_is_let => k_is); (case c_is_let => k_is); (case k_is_let => k_is); (case a_Book___init__ => k_is); (case i_Book___init__ => k_is); (case l_Book___init__ => k_is); (case c_Book___init__ => k_is); (case k_Book___init__ => k_is); (case t_Book___init__ => k_is); (case a__law_shuffled => k_is); (case l__law_shuffled => k_is); (case c__law_shuffled => k_is); (case k__law_shuffled => k_is); (case a__law_listed => k_is); (case l__law_listed => k_is); (case c__law_listed => k_is); (case k__law_listed => k_is); (case a__law_book => k_is); (case l__law_book => k_is); (case c__law_book => k_is); (case k__law_book => k_is); (case a__law_set => k_is); (case l__law_set => k_is); (case c__law_set => k_is); (case k__law_set => k_is); (case a__law_some => k_is); (case l__law_some => k_is); (case c__law_some => k_is); (case k__law_some => k_is); (case a__law_ring_drawn => k_is); (case l__law_ring_drawn => k_is); (case c__law_ring_drawn => k_is); (case k__law_ring_drawn => k_is); (case a__law_changed => k_is); (case l__law_changed => k_is); (case c__law_changed => k_is); (case k__law_changed => k_is); (case a__law_let_at => k_is); (case l__law_let_at => k_is); (case c__law_let_at => k_is); (case k__law_let_at => k_is); (case a_ring_lets => k_is); (case l_ring_lets => k_is); (case c_ring_lets => k_is); (case k_ring_lets => k_is); (case a__law_comes_round => k_is); (case l__law_comes_round => k_is); (case c__law_comes_round => k_is); (case k__law_comes_round => k_is); (case a_plain_marks => k_is); (case l_plain_marks => k_is); (case c_plain_marks => k_is); (case k_plain_marks => k_is); (case a_is_ring => k_is); (case l_is_ring => k_is); (case c_is_ring => k_is); (case k_is_ring => k_is); (case a_Book_hands => k_is); (case i_Book_hands => k_is); (case l_Book_hands => k_is); (case c_Book_hands => k_is); (case k_Book_hands => k_is); (case a_marks => k_is); (case l_marks => k_is); (case c_marks => k_is); (case k_marks => k_is); (case a__law_ring => k_is); (case l__law_ring => k_is); (case c__law_ring => k_is); (case k__law_ring => k_is); (case a__law_marked => k_is); (case l__law_marked => k_is); (case c__law_marked => k_is); (case k__law_marked => k_is); (case a_law => k_is); (case l_law => k_is); (case c_law => k_is); (case k_law => k_is); (case z_list => k_is); (case z_len => k_is); (case z_abs => k_is); (case z_range => k_is); (case z_sorted => k_is); (case z_isinstance => k_is); (case z_str => k_is); (case z_all => k_is); (case z_tuple => k_is); (case z_dict => k_is); (case y_LONGEST_HAND => k_is); (case y_LETTERS => k_is); (case y_MOST_HANDS => k_is)
