import PyProof.Rows.All
import Wide.All
import OpenK.AllK
import Wide.FinOn
import HandS.ForMost
import HandS.ForExc
import HandS.IsInst
import HandS.Flow
import HandS.Wide
import HandS.TupAny
import KE.SortData
import KE.DataEq
import KE.KDictSum
import KE.KDictItemsList
import HandS.ListItems
import HandS.More
import KE.KDictZip
import HandS.DictComp
import HandS.Style
import KE.DataMinMax
import KE.DataFind
import HandS.Sort
import KE.Datum
import KE.OsGo
import PySem.Challenge.RW_gladpayers_k11_whole_whoever_is_left
set_option Elab.async false
set_option maxRecDepth 100000
set_option maxHeartbeats 1000000
/-! GV: a layer of plain data over HandS. GV1: makers of plain tuples; what stands for what; the state; the lifts. -/
namespace G
open PySem PySem.Spec PyProof.Rows L2
section
variable {X : Cx} {e : Expr} {es : List Expr} {te : TE} {t : TA} {pos : Pos}
theorem tup_laid {pins : List (Addr × Obj)} {σ : L2.St} {H : Hp} {s : Shared} {tk : Nat} {its : List Value} {xs : List V} (I : Inv X pins σ H s) (r : Vals xs its) (hz : xs.length ≤ sizeLine) :
    Inv X pins σ (upd H s.heap.objs.size (.frz { cls := .type "tuple", data := .seq its.toArray } (.tup xs))) { s with heap := s.heap.push { cls := .type "tuple", data := .seq its.toArray }, toks := tk } :=
  I.laid (t' := tk) (fun b o q => Heap.get?_push_of_some _ q) (Nat.le_refl _) (show ObjOk X.prog X.w _ _ _ (.frz { cls := .type "tuple", data := .seq its.toArray } (.tup xs)) from ⟨Heap.get?_push_size _ rfl, hz, its, r, ⟨_, Heap.get?_push_size _ rfl, rfl, _, rfl⟩⟩)
def tTupP (t : TA) : TE := fun σ H Q => t σ H fun xs H1 => xs.length ≤ sizeLine ∧ ∀ p (o : Obj), H1 p = none → o.dict = none → Q (.ref p) (upd H1 p (.frz o (.tup xs)))
theorem pe_tupP {x1} (h : PA X es t) : PE X (.Tuple es x1 pos) (tTupP t) := by
  refine ⟨fun pins s σ H Q I hq => ?_⟩
  refine wpAny_Tuple_spliced (thn (h.run pos pins s σ H _ I hq) fun us s1 ⟨xs, H1, I1, r, z, q⟩ => ⟨by rw [← r.length]; exact z, ?_⟩)
  exact ⟨.ref s1.heap.objs.size, _, tup_laid (tk := s1.toks) I1 r z, rfl, q _ _ (I1.hok.fresh (Nat.le_refl _)) rfl⟩
def rCatP (K : PySem.W.Frag) : R2 := fun x y H Q => ∃ a b xs ys, x = .ref a ∧ y = .ref b ∧ SqT K H a xs ∧ SqT K H b ys ∧ xs.length + ys.length ≤ sizeLine ∧
  (xs = [] → Q (.ref b) H) ∧ (xs ≠ [] → ys = [] → Q (.ref a) H) ∧ (xs ≠ [] → ys ≠ [] → ∀ p (o : Obj), H p = none → o.dict = none → Q (.ref p) (upd H p (.frz o (.tup (xs ++ ys)))))
theorem op_catP : OpR X (binaryOp .Add) (rCatP X.K) := by
  intro pins s σ H x y v u Q I rx ry h
  obtain ⟨a, b, xs, ys, rfl, rfl, ha, hb, hz, q0, q1, q2⟩ := h
  cases rx
  cases ry
  obtain ⟨its, r1, p1, _⟩ := I.tuple ha
  obtain ⟨its2, r2, p2, _⟩ := I.tuple hb
  by_cases hx : xs = []
  · subst hx
    cases r1
    exact cat_tup0 p1 p2 ⟨.ref b, H, I, rfl, q0 rfl⟩
  · refine HT.cat_tup p1 p2 (fun z => hx (r1.nil_iff.mp z)) (fun z => ⟨.ref a, H, I, rfl, q1 hx (r2.nil_iff.mp z)⟩) (fun z => ?_) (by rw [← r1.length, ← r2.length]; exact hz)
    exact ⟨.ref s.heap.objs.size, _, tup_laid (tk := s.toks) I (r1.append r2) (by rw [List.length_append]; exact hz), rfl, q2 hx (fun w => z (r2.nil_iff.mpr w)) _ _ (I.hok.fresh (Nat.le_refl _)) rfl⟩
def rSlP (K : PySem.W.Frag) : V → Option Int → Option Int → Hp → VK → Prop := fun x lo hi H Q => ∃ a xs, x = .ref a ∧ SqT K H a xs ∧
  (HT.sIx xs.length 0 lo = 0 ∧ HT.sIx xs.length xs.length hi = xs.length → Q (.ref a) H) ∧ (¬ (HT.sIx xs.length 0 lo = 0 ∧ HT.sIx xs.length xs.length hi = xs.length) → ∀ p (o : Obj), H p = none → o.dict = none → Q (.ref p) (upd H p (.frz o (.tup (cutV xs lo hi)))))
theorem sl_tupP : SlR X (rSlP X.K) := by
  intro pins s σ H x v vl vu lo hi sl Q I rx hs pl pu h
  obtain ⟨a, xs, rfl, hx, q1, q2⟩ := h
  cases rx
  obtain ⟨its, r, ht, hz⟩ := I.tuple hx
  have hlen : its.toArray.size = xs.length := by rw [List.size_toArray]; exact r.length.symm
  refine ⟨"tuple", _, PyProof.Rows.slot_tuple_getitem.lookup, ht.typeIs, ?_⟩
  by_cases hw : HT.sIx xs.length 0 lo = 0 ∧ HT.sIx xs.length xs.length hi = xs.length
  · exact getItem_tuple_whole ht hs pl pu (by rw [hlen]; exact hw) ⟨.ref a, H, I, rfl, q1 hw⟩
  · refine HT.getItem_tuple_cut ht hs pl pu (by rw [hlen]; exact hw) ?_ (by rw [hlen]; exact hz)
    rw [hlen]
    exact ⟨.ref s.heap.objs.size, _, tup_laid (tk := s.toks) (xs := cutV xs lo hi) I ((r.drop (HT.sIx xs.length 0 lo)).take (HT.sIx xs.length xs.length hi - HT.sIx xs.length 0 lo)) (Nat.le_trans (cutV_length xs lo hi) hz), rfl, q2 hw _ _ (I.hok.fresh (Nat.le_refl _)) rfl⟩
theorem call_tupleP : CallR X (.type "tuple") (fun xs H Q => ∃ p ys, xs = [.ref p] ∧ ((SqL X.K H p ys ∧ ∀ l (o : Obj), H l = none → o.dict = none → Q (.ref l) (upd H l (.frz o (.tup ys)))) ∨ (SqT X.K H p ys ∧ Q (.ref p) H))) := by
  intro pins s σ H xs us Q I r h
  obtain ⟨p, ys, rfl, h⟩ := h
  obtain ⟨u, rfl, rx⟩ := vals1 r
  cases rx
  rcases h with ⟨hq, q⟩ | ⟨hq, q⟩
  · obtain ⟨its, r', pl, hz⟩ := I.list hq
    have hlen := r'.length
    refine call_tuple_list pl.isList (fun h' kp => ?_) (by simp only [List.size_toArray] <;> omega)
    have I1 : Inv X pins σ H { s with heap := h' } := I.kept (t' := s.toks) kp
    exact ⟨.ref h'.objs.size, _, tup_laid (tk := s.toks) I1 r' hz, rfl, q _ _ (I1.hok.fresh (Nat.le_refl _)) rfl⟩
  · obtain ⟨its, r', pl, hz⟩ := I.tuple hq
    exact call_tuple_same pl ⟨.ref p, H, I, rfl, q⟩
end
end G
namespace G
open PySem PySem.Spec PyProof.Rows L2

/-- what a slot holds: nothing; plain data (never changed); a list or dict of this frame's own; a parameter that is changed in place; any other value -/
inductive Sl where
  | un
  | dat (d : PyData)
  | own (d : PyData)
  | inn (a : Addr) (d : PyData)
  | raw (v : V)
  | scr (ns : List Int)
abbrev Ms := List Sl

def kD : Key → PyData
  | .inl i => .int i
  | .inr x => .str x

/-- a plain tuple: known to its object, which has no dict of its own -/
def TupP (K : PySem.W.Frag) (H : Hp) (a : Addr) (xs : List V) : Prop :=
  (∃ o, H a = some (.frz o (.tup xs)) ∧ o.dict = none) ∨
    ∃ (o : Obj) (its : Array Value) (n : Nat), K.lookup a = some o ∧ o.cls = .type "tuple" ∧ o.dict = none ∧ o.data = .seq its n ∧ its.size ≤ sizeLine ∧ Vals xs its.toList
theorem TupP.sq {K : PySem.W.Frag} {H : Hp} {a : Addr} {xs : List V} (h : TupP K H a xs) : SqT K H a xs := by
  rcases h with ⟨o, h, _⟩ | ⟨o, its, n, h1, h2, _, h4, h5, h6⟩
  · exact .inl (.inr ⟨o, h⟩)
  · exact .inr ⟨o, its, n, h1, h2, h4, h5, h6⟩
theorem TupP.mono {K : PySem.W.Frag} {H H' : Hp} {a : Addr} {xs : List V} (e : Same H H') (h : TupP K H a xs) : TupP K H' a xs := by
  rcases h with ⟨o, h, n⟩ | h
  · exact .inl ⟨o, e _ _ h, n⟩
  · exact .inr h

mutual
inductive Rep (K : PySem.W.Frag) (H : Hp) : V → PyData → Prop
  | non : Rep K H .non .none
  | bl (b : Bool) : Rep K H (.bl b) (.bool b)
  | int (i : Int) : Rep K H (.int i) (.int i)
  | str (x : Str) : Rep K H (.str x) (.str x)
  | lst {a : Addr} {xs : List V} {ds : List PyData} : H a = some (.lst xs) → RepAll K H xs ds → ds.length ≤ sizeLine → Rep K H (.ref a) (.list ds)
  | tup {a : Addr} {xs : List V} {ds : List PyData} : TupP K H a xs → RepAll K H xs ds → ds.length ≤ sizeLine → Rep K H (.ref a) (.tuple ds)
  | dct {a : Addr} {kvs : List (Key × V)} {es : List (PyData × PyData)} : Rd H a (.dK kvs) → RepKV K H kvs es → Rep K H (.ref a) (.dict es)
inductive RepAll (K : PySem.W.Frag) (H : Hp) : List V → List PyData → Prop
  | nil : RepAll K H [] []
  | cons {v : V} {vs : List V} {d : PyData} {ds : List PyData} : Rep K H v d → RepAll K H vs ds → RepAll K H (v :: vs) (d :: ds)
inductive RepKV (K : PySem.W.Frag) (H : Hp) : List (Key × V) → List (PyData × PyData) → Prop
  | nil : RepKV K H [] []
  | cons {k : Key} {v : V} {kvs : List (Key × V)} {d : PyData} {es : List (PyData × PyData)} : Rep K H v d → RepKV K H kvs es → RepKV K H ((k, v) :: kvs) ((kD k, d) :: es)
end

/-- what is frozen stands so in the heap; a dict may be locked -/
def SameW (F H : Hp) : Prop := ∀ a o, F a = some o → H a = some o ∨ ∃ ob kvs, o = .dK kvs ∧ H a = some (.frz ob (.dK kvs))
theorem _root_.L2.Same.w {F H : Hp} (h : Same F H) : SameW F H := fun a o e => .inl (h a o e)
theorem SameW.lst {F H : Hp} (h : SameW F H) {a : Addr} {xs : List V} (e : F a = some (.lst xs)) : H a = some (.lst xs) := by
  rcases h a _ e with h | ⟨_, _, q, _⟩
  · exact h
  · cases q
theorem SameW.frz {F H : Hp} (h : SameW F H) {a : Addr} {o : Obj} {u : HO} (e : F a = some (.frz o u)) : H a = some (.frz o u) := by
  rcases h a _ e with h | ⟨_, _, q, _⟩
  · exact h
  · cases q
theorem SameW.dk {F H : Hp} (h : SameW F H) {a : Addr} {kvs : List (Key × V)} (e : F a = some (.dK kvs)) : Rd H a (.dK kvs) := by
  rcases h a _ e with h | ⟨ob, _, q, h⟩
  · exact .inl h
  · cases q; exact .inr ⟨ob, h⟩
theorem SameW.rd {F H : Hp} (h : SameW F H) {a : Addr} {kvs : List (Key × V)} (e : Rd F a (.dK kvs)) : Rd H a (.dK kvs) := by
  rcases e with e | ⟨o, e⟩
  · exact h.dk e
  · exact .inr ⟨o, h.frz e⟩
theorem SameW.free {F H : Hp} (h : SameW F H) {l : Addr} (e : H l = Option.none) : F l = Option.none := by
  cases q : F l with
  | none => rfl
  | some o =>
    rcases h l o q with z | ⟨_, _, _, z⟩ <;> (rw [z] at e; cases e)
theorem SameW.after {F G H : Hp} (a : Same F G) (b : SameW G H) : SameW F H := fun c o h => b c o (a c o h)
theorem SameW.before {F G H : Hp} (a : SameW F G) (b : Same G H) : SameW F H := fun c o h => by
  rcases a c o h with z | ⟨ob, kvs, e, z⟩
  · exact .inl (b c o z)
  · exact .inr ⟨ob, kvs, e, b c _ z⟩
theorem TupP.monoW {K : PySem.W.Frag} {H H' : Hp} {a : Addr} {xs : List V} (e : SameW H H') (h : TupP K H a xs) : TupP K H' a xs := by
  rcases h with ⟨o, h, n⟩ | h
  · exact .inl ⟨o, e.frz h, n⟩
  · exact .inr h
theorem SameW.seq {K : PySem.W.Frag} {H H' : Hp} {a : Addr} {xs : List V} (e : SameW H H') (h : SqL K H a xs) : SqL K H' a xs := by
  rcases h with (h | ⟨o, h⟩) | h
  · exact .inl (.inl (e.lst h))
  · exact .inl (.inr ⟨o, e.frz h⟩)
  · exact .inr h
section
variable {K : PySem.W.Frag} {H H' : Hp}
mutual
theorem Rep.monoW (e : SameW H H') : ∀ {v : V} {d : PyData}, Rep K H v d → Rep K H' v d
  | _, _, .non => .non
  | _, _, .bl b => .bl b
  | _, _, .int i => .int i
  | _, _, .str x => .str x
  | _, _, .lst h r z => .lst (e.lst h) (RepAll.monoW e r) z
  | _, _, .tup h r z => .tup (h.monoW e) (RepAll.monoW e r) z
  | _, _, .dct h r => .dct (e.rd h) (RepKV.monoW e r)
theorem RepAll.monoW (e : SameW H H') : ∀ {vs : List V} {ds : List PyData}, RepAll K H vs ds → RepAll K H' vs ds
  | _, _, .nil => .nil
  | _, _, .cons h r => .cons (Rep.monoW e h) (RepAll.monoW e r)
theorem RepKV.monoW (e : SameW H H') : ∀ {vs : List (Key × V)} {ds : List (PyData × PyData)}, RepKV K H vs ds → RepKV K H' vs ds
  | _, _, .nil => .nil
  | _, _, .cons h r => .cons (Rep.monoW e h) (RepKV.monoW e r)
end

theorem Rep.mono (e : Same H H') {v : V} {d : PyData} (h : Rep K H v d) : Rep K H' v d := h.monoW e.w
theorem RepAll.mono (e : Same H H') {vs : List V} {ds : List PyData} (h : RepAll K H vs ds) : RepAll K H' vs ds := h.monoW e.w
theorem RepKV.mono (e : Same H H') {vs : List (Key × V)} {ds : List (PyData × PyData)} (h : RepKV K H vs ds) : RepKV K H' vs ds := h.monoW e.w

theorem RepAll.length : ∀ {vs : List V} {ds : List PyData}, RepAll K H vs ds → vs.length = ds.length
  | _, _, .nil => rfl
  | _, _, .cons _ r => by rw [List.length_cons, List.length_cons, RepAll.length r]
theorem RepAll.get : ∀ {vs : List V} {ds : List PyData} {i : Nat} {d : PyData}, RepAll K H vs ds → ds[i]? = some d → ∃ v, vs[i]? = some v ∧ Rep K H v d
  | _, _, _, _, .nil, e => by simp at e
  | _, _, 0, _, .cons h _, e => by simp at e; subst e; exact ⟨_, rfl, h⟩
  | _, _, i + 1, d, .cons _ r, e => by
    obtain ⟨v, h1, h2⟩ := RepAll.get (i := i) (d := d) r (by simpa using e)
    exact ⟨v, by simpa using h1, h2⟩
theorem RepAll.get' : ∀ {vs : List V} {ds : List PyData} {i : Nat} {v : V}, RepAll K H vs ds → vs[i]? = some v → ∃ d, ds[i]? = some d ∧ Rep K H v d
  | _, _, _, _, .nil, e => by simp at e
  | _, _, 0, _, .cons h _, e => by simp at e; subst e; exact ⟨_, rfl, h⟩
  | _, _, i + 1, v, .cons _ r, e => by
    obtain ⟨d, h1, h2⟩ := RepAll.get' (i := i) (v := v) r (by simpa using e)
    exact ⟨d, by simpa using h1, h2⟩
theorem RepAll.append : ∀ {vs ws : List V} {ds es : List PyData}, RepAll K H vs ds → RepAll K H ws es → RepAll K H (vs ++ ws) (ds ++ es)
  | _, _, _, _, .nil, s => s
  | _, _, _, _, .cons h r, s => .cons h (RepAll.append r s)
theorem RepAll.take : ∀ {vs : List V} {ds : List PyData} (n : Nat), RepAll K H vs ds → RepAll K H (vs.take n) (ds.take n)
  | _, _, 0, _ => .nil
  | _, _, _ + 1, .nil => .nil
  | _, _, n + 1, .cons h r => .cons h (RepAll.take n r)
theorem RepAll.drop : ∀ {vs : List V} {ds : List PyData} (n : Nat), RepAll K H vs ds → RepAll K H (vs.drop n) (ds.drop n)
  | _, _, 0, r => r
  | _, _, _ + 1, .nil => .nil
  | _, _, n + 1, .cons _ r => RepAll.drop n r
theorem RepAll.reverse : ∀ {vs : List V} {ds : List PyData}, RepAll K H vs ds → RepAll K H vs.reverse ds.reverse
  | _, _, .nil => .nil
  | _, _, .cons h r => by rw [List.reverse_cons, List.reverse_cons]; exact r.reverse.append (.cons h .nil)
theorem RepAll.set {v : V} {d : PyData} (h : Rep K H v d) : ∀ {vs : List V} {ds : List PyData} (i : Nat), RepAll K H vs ds → RepAll K H (vs.set i v) (ds.set i d)
  | _, _, _, .nil => .nil
  | _, _, 0, .cons _ r => .cons h r
  | _, _, i + 1, .cons q r => .cons q (RepAll.set h i r)
theorem RepAll.eraseIdx : ∀ {vs : List V} {ds : List PyData} (i : Nat), RepAll K H vs ds → RepAll K H (vs.eraseIdx i) (ds.eraseIdx i)
  | _, _, _, .nil => .nil
  | _, _, 0, .cons _ r => r
  | _, _, i + 1, .cons q r => .cons q (RepAll.eraseIdx i r)
theorem RepAll.ints : ∀ (ns : List Int), RepAll K H (ns.map V.int) (ns.map PyData.int)
  | [] => .nil
  | n :: r => .cons (.int n) (RepAll.ints r)
theorem RepAll.ints_of : ∀ {vs : List V} {ns : List Int}, RepAll K H vs (ns.map PyData.int) → vs = ns.map V.int
  | _, [], .nil => rfl
  | _, n :: r, .cons h q => by cases h; rw [RepAll.ints_of q]; rfl
theorem RepAll.bls_of : ∀ {vs : List V} {ns : List Bool}, RepAll K H vs (ns.map PyData.bool) → vs = ns.map V.bl
  | _, [], .nil => rfl
  | _, n :: r, .cons h q => by cases h; rw [RepAll.bls_of q]; rfl
theorem RepAll.strs_of : ∀ {vs : List V} {ns : List Str}, RepAll K H vs (ns.map PyData.str) → vs = ns.map V.str
  | _, [], .nil => rfl
  | _, n :: r, .cons h q => by cases h; rw [RepAll.strs_of q]; rfl

theorem RepKV.length : ∀ {vs : List (Key × V)} {ds : List (PyData × PyData)}, RepKV K H vs ds → vs.length = ds.length
  | _, _, .nil => rfl
  | _, _, .cons _ r => by rw [List.length_cons, List.length_cons, RepKV.length r]
end

/-- the contents of a thing that is changed -/
def Cont (K : PySem.W.Frag) (F H : Hp) (a : Addr) : PyData → Prop
  | .list ds => ∃ xs, H a = some (.lst xs) ∧ RepAll K F xs ds ∧ ds.length ≤ sizeLine
  | .dict es => ∃ kvs, H a = some (.dK kvs) ∧ RepKV K F kvs es
  | _ => False
theorem Cont.some {K : PySem.W.Frag} {F H : Hp} {a : Addr} {d : PyData} (h : Cont K F H a d) : ∃ o, H a = some o := by
  cases d with
  | list ds => obtain ⟨xs, e, _, _⟩ := h; exact ⟨_, e⟩
  | dict es => obtain ⟨kvs, e, _⟩ := h; exact ⟨_, e⟩
  | _ => exact h.elim
theorem Cont.mono {K : PySem.W.Frag} {F H F' H' : Hp} {a : Addr} {d : PyData} (h : Cont K F H a d) (e : Same F F') (q : ∀ o, H a = Option.some o → H' a = Option.some o) : Cont K F' H' a d := by
  cases d with
  | list ds => obtain ⟨xs, h1, h2, h3⟩ := h; exact ⟨xs, q _ h1, h2.mono e, h3⟩
  | dict es => obtain ⟨kvs, h1, h2⟩ := h; exact ⟨kvs, q _ h1, h2.mono e⟩
  | _ => exact h.elim

def SlOk (K : PySem.W.Frag) (Z F H : Hp) (v : Option V) : Sl → Prop
  | .un => True
  | .dat d => ∃ x, v = some x ∧ Rep K F x d
  | .own d => ∃ a, v = some (.ref a) ∧ Z a = none ∧ F a = none ∧ Cont K F H a d
  | .inn a d => v = some (.ref a) ∧ Z a = none ∧ F a = none ∧ Cont K F H a d
  | .raw x => v = some x
  | .scr ns => ∃ a, v = some (.ref a) ∧ SqL K F a (ns.map V.int)
/-- the address of a slot that is changed in place -/
def mutA (v : Option V) (s : Sl) (a : Addr) : Prop := v = some (.ref a) ∧ ((∃ d, s = .own d) ∨ ∃ b d, s = .inn b d)

def at_ (σ : L2.St) (i : Nat) : Option V := (σ[i]?).join

/-- Z: what stands outside and must stay; F: what is frozen; ρ says what the slots σ hold -/
structure Stt (K : PySem.W.Frag) (Z F H : Hp) (σ : L2.St) (ρ : Ms) : Prop where
  fh : SameW F H
  zh : Same Z H
  zf : ∀ a, Z a ≠ none → F a = none
  len : σ.length = ρ.length
  sl : ∀ i s, ρ[i]? = some s → SlOk K Z F H (at_ σ i) s
  ap : ∀ i j s t a, ρ[i]? = some s → ρ[j]? = some t → mutA (at_ σ i) s a → mutA (at_ σ j) t a → i = j

/-- what is wanted of an exception: the names of classes, and the layer's wish -/
structure Wish where
  RE : Str → Prop
  E : XK
def Wish.no : Wish := ⟨fun _ => False, E0⟩
def WOk (mg : Str → Option Value) (W : Wish) (Z F : Hp) : Prop :=
  ∀ n C F' H', W.RE n → mg n = some (.ref C) → Same F F' → SameW F' H' → Same Z H' → (∀ a, Z a ≠ none → F' a = none) → W.E (.ref C) none H'
theorem WOk.mono {mg : Str → Option Value} {W : Wish} {Z F F' : Hp} (h : WOk mg W Z F) (e : Same F F') : WOk mg W Z F' :=
  fun n C F2 H2 r m s => h n C F2 H2 r m (e.trans s)
theorem WOk.no {mg : Str → Option Value} {Z F : Hp} : WOk mg Wish.no Z F := fun _ _ _ _ r => r.elim

abbrev ME := Ms → (PyData → Ms → Prop) → Prop
abbrev MB := Ms → (Bool → Ms → Prop) → Prop
structure PEnd where
  nx : Ms → Prop
  rt : PyData → Ms → Prop
  ro : PyData → Ms → Prop := fun _ _ => False
  bk : Ms → Prop := fun _ => False
  ct : Ms → Prop := fun _ => False
abbrev MS := PEnd → Ms → Prop

section
variable (K : PySem.W.Frag) (mg : Str → Option Value) (W : Wish)
/-- an expression whose value is plain data -/
def lE (t : ME) : TE := fun σ H Q => ∃ Z F ρ R, Stt K Z F H σ ρ ∧ WOk mg W Z F ∧ t ρ R ∧ ∀ d ρ' v F' H', R d ρ' → Same F F' → Stt K Z F' H' σ ρ' → Rep K F' v d → Q v H'
/-- frozen, or a container by itself whose contents are frozen -/
def RepC (K : PySem.W.Frag) (F H : Hp) (v : V) (d : PyData) : Prop := Rep K F v d ∨ ∃ a, v = .ref a ∧ F a = none ∧ Cont K F H a d
def lC (t : ME) : TE := fun σ H Q => ∃ Z F ρ R, Stt K Z F H σ ρ ∧ WOk mg W Z F ∧ t ρ R ∧ ∀ d ρ' v F' H', R d ρ' → Same F F' → Stt K Z F' H' σ ρ' → RepC K F' H' v d → Q v H'
/-- an expression whose value is a new list or dict that nothing else holds -/
def lN (t : ME) : TE := fun σ H Q => ∃ Z F ρ R, Stt K Z F H σ ρ ∧ WOk mg W Z F ∧ t ρ R ∧ ∀ d ρ' a F' H', R d ρ' → Same F F' → Stt K Z F' H' σ ρ' → F' a = none → Z a = none → Cont K F' H' a d →
  (∀ i s, ρ'[i]? = some s → ¬ mutA (at_ σ i) s a) → Q (.ref a) H'
def lB (t : MB) : TT := fun σ H Q => ∃ Z F ρ R, Stt K Z F H σ ρ ∧ WOk mg W Z F ∧ t ρ R ∧ ∀ b ρ' F' H', R b ρ' → Same F F' → Stt K Z F' H' σ ρ' → Q b H'
structure EndsOk (Z F : Hp) (DR : PEnd) (D : Ends) : Prop where
  nx : ∀ ρ' σ' F' H', DR.nx ρ' → Same F F' → Stt K Z F' H' σ' ρ' → D.nx σ' H'
  rt : ∀ d ρ' v σ' F' H', DR.rt d ρ' → Same F F' → Stt K Z F' H' σ' ρ' → Rep K F' v d → D.rt v H'
  ro : ∀ d ρ' a σ' F' H', DR.ro d ρ' → Same F F' → Stt K Z F' H' σ' ρ' → F' a = none → Z a = none → Cont K F' H' a d → (∀ i s, ρ'[i]? = some s → ¬ mutA (at_ σ' i) s a) → D.rt (.ref a) H'
  bk : ∀ ρ' σ' F' H', DR.bk ρ' → Same F F' → Stt K Z F' H' σ' ρ' → D.bk σ' H'
  ct : ∀ ρ' σ' F' H', DR.ct ρ' → Same F F' → Stt K Z F' H' σ' ρ' → D.ct σ' H'
def lS (t : MS) : TS := fun D σ H => ∃ Z F ρ DR, Stt K Z F H σ ρ ∧ WOk mg W Z F ∧ t DR ρ ∧ EndsOk K Z F DR D
end
theorem EndsOk.mono {K : PySem.W.Frag} {Z F F' : Hp} {DR : PEnd} {D : Ends} (h : EndsOk K Z F DR D) (e : Same F F') : EndsOk K Z F' DR D :=
  ⟨fun ρ' σ' F2 H' a b => h.nx ρ' σ' F2 H' a (e.trans b), fun d ρ' v σ' F2 H' a b => h.rt d ρ' v σ' F2 H' a (e.trans b), fun d ρ' v σ' F2 H' a b => h.ro d ρ' v σ' F2 H' a (e.trans b),
    fun ρ' σ' F2 H' a b => h.bk ρ' σ' F2 H' a (e.trans b), fun ρ' σ' F2 H' a b => h.ct ρ' σ' F2 H' a (e.trans b)⟩

theorem PEw {X : Cx} {e : Expr} {t t' : TE} (h : PE X e t) (w : ∀ σ H Q, t' σ H Q → t σ H Q) : PE X e t' := ⟨fun pins s σ H Q I q => h.run pins s σ H Q I (w σ H Q q)⟩
theorem PTw {X : Cx} {e : Expr} {t t' : TT} (h : PT X e t) (w : ∀ σ H Q, t' σ H Q → t σ H Q) : PT X e t' := ⟨fun pins s σ H Q I q => h.run pins s σ H Q I (w σ H Q q)⟩
theorem PAw {X : Cx} {e : List Expr} {t t' : TA} (h : PA X e t) (w : ∀ σ H Q, t' σ H Q → t σ H Q) : PA X e t' := ⟨fun pos pins s σ H Q I q => h.run pos pins s σ H Q I (w σ H Q q)⟩
theorem PSw {X : Cx} {e : Stmt} {t t' : TS} (h : PS X e t) (w : ∀ D σ H, t' D σ H → t D σ H) : PS X e t' := ⟨fun pins s σ H D I q => h.run pins s σ H D I (w D σ H q)⟩
theorem PSsw {X : Cx} {e : List Stmt} {t t' : TS} (h : PSs X e t) (w : ∀ D σ H, t' D σ H → t D σ H) : PSs X e t' := ⟨fun pins s σ H D I q => h.run pins s σ H D I (w D σ H q)⟩

/-! ### the state -/
section
variable {K : PySem.W.Frag} {Z F H : Hp} {σ : L2.St} {ρ : Ms}
theorem at_some {i : Nat} {v : V} (h : at_ σ i = some v) : σ[i]? = some (some v) := by
  unfold at_ at h
  cases e : σ[i]? with
  | none => rw [e] at h; cases h
  | some o => rw [e] at h; exact congrArg some h
theorem at_of {i : Nat} {v : V} (h : σ[i]? = some (some v)) : at_ σ i = some v := by unfold at_; rw [h]; rfl
theorem Stt.lt (S : Stt K Z F H σ ρ) {i : Nat} {s : Sl} (h : ρ[i]? = some s) : i < σ.length := by
  rw [S.len]; exact (List.getElem?_eq_some_iff.mp h).1
theorem SlOk.mut {v : Option V} {s : Sl} {a : Addr} (h : SlOk K Z F H v s) (m : mutA v s a) : Z a = none ∧ F a = none ∧ ∃ o, H a = some o := by
  obtain ⟨e, ⟨d, rfl⟩ | ⟨b, d, rfl⟩⟩ := m
  · obtain ⟨b, e', z, f, c⟩ := h
    rw [e] at e'; cases e'
    exact ⟨z, f, c.some⟩
  · obtain ⟨e', z, f, c⟩ := h
    rw [e] at e'; cases e'
    exact ⟨z, f, c.some⟩
theorem Stt.mut (S : Stt K Z F H σ ρ) {i : Nat} {s : Sl} {a : Addr} (h : ρ[i]? = some s) (m : mutA (at_ σ i) s a) : Z a = none ∧ F a = none ∧ ∃ o, H a = some o := (S.sl i s h).mut m

/-- a slot's word behind a change of the heap that leaves its own thing -/
theorem SlOk.move {Z' F' H' : Hp} {v : Option V} {s : Sl} (h : SlOk K Z F H v s) (e : Same F F') (k : ∀ a o, mutA v s a → H a = some o → H' a = some o) (z : ∀ a, mutA v s a → Z' a = none) (f : ∀ a, mutA v s a → F' a = none) : SlOk K Z' F' H' v s := by
  cases s with
  | un => trivial
  | dat d => obtain ⟨x, h1, h2⟩ := h; exact ⟨x, h1, h2.mono e⟩
  | raw x => exact h
  | scr ns => obtain ⟨a, h1, h2⟩ := h; exact ⟨a, h1, e.seq h2⟩
  | own d =>
    obtain ⟨a, h1, h2, h3, h4⟩ := h
    have m : mutA v (.own d) a := ⟨h1, .inl ⟨d, rfl⟩⟩
    exact ⟨a, h1, z a m, f a m, h4.mono e fun o q => k a o m q⟩
  | inn a d =>
    obtain ⟨h1, h2, h3, h4⟩ := h
    have m : mutA v (.inn a d) a := ⟨h1, .inr ⟨a, d, rfl⟩⟩
    exact ⟨h1, z a m, f a m, h4.mono e fun o q => k a o m q⟩

theorem same_upd {H : Hp} {p : Addr} {o : HO} (h : H p = none) : Same H (upd H p o) := fun b u e => by
  rw [upd_ne (ne_of_none e h)]; exact e
theorem upd_same_upd {F H : Hp} {p : Addr} {o : HO} (h : SameW F H) : SameW (upd F p o) (upd H p o) := fun b u e => by
  by_cases hb : b = p
  · subst hb; rw [upd_same] at e ⊢; exact .inl e
  · rw [upd_ne hb] at e ⊢; exact h b u e

/-- a new frozen thing -/
theorem Stt.new (S : Stt K Z F H σ ρ) {p : Addr} (o : HO) (h : H p = none) : Stt K Z (upd F p o) (upd H p o) σ ρ := by
  have fp : F p = none := S.fh.free h
  have zp : Z p = none := S.zh.free h
  refine ⟨upd_same_upd S.fh, S.zh.trans (same_upd h), fun a q => ?_, S.len, fun i s e => ?_, S.ap⟩
  · rw [upd_ne (fun z => q (by rw [z]; exact zp))]; exact S.zf a q
  · refine (S.sl i s e).move (same_upd fp) (fun a u m q => ?_) (fun a m => (S.mut e m).1) fun a m => ?_
    · rw [upd_ne (ne_of_none q h)]; exact q
    · obtain ⟨_, f, u, q⟩ := S.mut e m
      rw [upd_ne (ne_of_none q h)]; exact f
/-- a new thing, not frozen -/
theorem Stt.lay (S : Stt K Z F H σ ρ) {p : Addr} (o : HO) (h : H p = none) : Stt K Z F (upd H p o) σ ρ := by
  refine ⟨S.fh.before (same_upd h), S.zh.trans (same_upd h), S.zf, S.len, fun i s e => ?_, S.ap⟩
  refine (S.sl i s e).move (Same.refl _) (fun a u m q => ?_) (fun a m => (S.mut e m).1) fun a m => (S.mut e m).2.1
  rw [upd_ne (ne_of_none q h)]; exact q
theorem Stt.newAway (S : Stt K Z F H σ ρ) {p : Addr} (h : H p = none) : ∀ i s, ρ[i]? = some s → ¬ mutA (at_ σ i) s p := fun i s e m => by
  obtain ⟨_, _, o, q⟩ := S.mut e m
  rw [h] at q; cases q

/-- a slot is set to data -/
theorem at_set_self {i : Nat} {v : V} (h : i < σ.length) : at_ (σ.set i (some v)) i = some v := by
  unfold at_; rw [List.getElem?_set_self h]; rfl
theorem at_set_ne {i j : Nat} {v : Option V} (h : i ≠ j) : at_ (σ.set i v) j = at_ σ j := by
  unfold at_; rw [List.getElem?_set_ne h]
theorem Stt.put (S : Stt K Z F H σ ρ) {i : Nat} {v : V} {s : Sl} (h : SlOk K Z F H (some v) s) (ha : ∀ a, mutA (some v) s a → ∀ j t, ρ[j]? = some t → j ≠ i → ¬ mutA (at_ σ j) t a) : Stt K Z F H (σ.set i (some v)) (ρ.set i s) := by
  have key : ∀ j t, (ρ.set i s)[j]? = some t → (j = i ∧ t = s ∧ at_ (σ.set i (some v)) j = some v) ∨ (j ≠ i ∧ ρ[j]? = some t ∧ at_ (σ.set i (some v)) j = at_ σ j) := fun j t e => by
    by_cases hj : i = j
    · subst hj
      have hl : i < (ρ.set i s).length := (List.getElem?_eq_some_iff.mp e).1
      rw [List.length_set] at hl
      rw [List.getElem?_set_self hl] at e
      cases e
      exact .inl ⟨rfl, rfl, at_set_self (by rw [S.len]; exact hl)⟩
    · rw [List.getElem?_set_ne hj] at e
      exact .inr ⟨fun z => hj z.symm, e, at_set_ne hj⟩
  refine ⟨S.fh, S.zh, S.zf, by rw [List.length_set, List.length_set]; exact S.len, fun j t e => ?_, fun j k t u a e1 e2 m1 m2 => ?_⟩
  · rcases key j t e with ⟨_, rfl, z⟩ | ⟨_, q, z⟩
    · rw [z]; exact h
    · rw [z]; exact S.sl j t q
  · rcases key j t e1 with ⟨a1, rfl, z1⟩ | ⟨a1, q1, z1⟩ <;> rcases key k u e2 with ⟨a2, b2, z2⟩ | ⟨a2, q2, z2⟩
    · rw [a1, a2]
    · rw [z1] at m1; rw [z2] at m2
      exact (ha a m1 k u q2 a2 m2).elim
    · subst b2
      rw [z1] at m1; rw [z2] at m2
      exact (ha a m2 j t q1 a1 m1).elim
    · rw [z1] at m1; rw [z2] at m2
      exact S.ap j k t u a q1 q2 m1 m2
theorem noMut_dat {v : Option V} {d : PyData} {a : Addr} : ¬ mutA v (.dat d) a := fun ⟨_, h⟩ => by
  rcases h with ⟨_, h⟩ | ⟨_, _, h⟩ <;> cases h
theorem noMut_un {v : Option V} {a : Addr} : ¬ mutA v .un a := fun ⟨_, h⟩ => by
  rcases h with ⟨_, h⟩ | ⟨_, _, h⟩ <;> cases h
theorem noMut_raw {v : Option V} {x : V} {a : Addr} : ¬ mutA v (.raw x) a := fun ⟨_, h⟩ => by
  rcases h with ⟨_, h⟩ | ⟨_, _, h⟩ <;> cases h
theorem Stt.putDat (S : Stt K Z F H σ ρ) (i : Nat) {v : V} {d : PyData} (h : Rep K F v d) : Stt K Z F H (σ.set i (some v)) (ρ.set i (.dat d)) :=
  S.put ⟨v, rfl, h⟩ fun a m => (noMut_dat m).elim
theorem Stt.putRaw (S : Stt K Z F H σ ρ) (i : Nat) (v : V) : Stt K Z F H (σ.set i (some v)) (ρ.set i (.raw v)) :=
  S.put rfl fun a m => (noMut_raw m).elim
theorem Stt.putOwn (S : Stt K Z F H σ ρ) (i : Nat) {a : Addr} {d : PyData} (f : F a = none) (z : Z a = none) (c : Cont K F H a d) (aw : ∀ i s, ρ[i]? = some s → ¬ mutA (at_ σ i) s a) : Stt K Z F H (σ.set i (some (.ref a))) (ρ.set i (.own d)) :=
  S.put ⟨a, rfl, z, f, c⟩ fun b ⟨e, _⟩ j t q _ => by
    cases e
    exact aw j t q
/-- weaker words of the slots -/
theorem Stt.weak (S : Stt K Z F H σ ρ) {σ' : L2.St} {ρ' : Ms} (l : σ'.length = ρ'.length) (h : ∀ i s, ρ'[i]? = some s → s = .un ∨ (ρ[i]? = some s ∧ at_ σ' i = at_ σ i)) : Stt K Z F H σ' ρ' := by
  refine ⟨S.fh, S.zh, S.zf, l, fun i s e => ?_, fun i j s t a e1 e2 m1 m2 => ?_⟩
  · rcases h i s e with rfl | ⟨q, z⟩
    · trivial
    · rw [z]; exact S.sl i s q
  · rcases h i s e1 with rfl | ⟨q1, z1⟩
    · exact (noMut_un m1).elim
    · rcases h j t e2 with rfl | ⟨q2, z2⟩
      · exact (noMut_un m2).elim
      · rw [z1] at m1; rw [z2] at m2
        exact S.ap i j s t a q1 q2 m1 m2
end
end G


set_option Elab.async false
set_option maxRecDepth 100000
set_option maxHeartbeats 1000000
/-! GV2: expressions. -/
namespace G
open PySem PySem.Spec PyProof.Rows L2
abbrev LE (X : Cx) (W : Wish) (t : ME) : TE := lE X.K X.mg W t
abbrev LC (X : Cx) (W : Wish) (t : ME) : TE := lC X.K X.mg W t
abbrev LN (X : Cx) (W : Wish) (t : ME) : TE := lN X.K X.mg W t
abbrev LB (X : Cx) (W : Wish) (t : MB) : TT := lB X.K X.mg W t
abbrev LS (X : Cx) (W : Wish) (t : MS) : TS := lS X.K X.mg W t

def slot : Ms → Nat → Sl
  | [], _ => .un
  | s :: _, 0 => s
  | _ :: r, i + 1 => slot r i
theorem slot_some : ∀ {ρ : Ms} {i : Nat} {s : Sl}, slot ρ i = s → s ≠ .un → ρ[i]? = some s
  | [], _, _, h, n => (n h.symm).elim
  | s :: _, 0, _, h, _ => congrArg some h
  | _ :: r, i + 1, s, h, n => by
    rw [List.getElem?_cons_succ]
    exact slot_some (ρ := r) (i := i) h n

/-! ### names -/
def mVar (i : Nat) : ME := fun ρ R => match slot ρ i with
  | .dat d => R d ρ
  | _ => False
def mVarC (i : Nat) : ME := fun ρ R => match slot ρ i with
  | .dat d => R d ρ
  | .own d => R d ρ
  | .inn _ d => R d ρ
  | _ => False
def mFz (i : Nat) : ME := fun ρ R => match slot ρ i with
  | .dat d => R d ρ
  | .own d => R d (ρ.set i (.dat d))
  | _ => False
def mC (d : PyData) : ME := fun ρ R => R d ρ

section
variable {X : Cx} {W : Wish} {pos p : Pos} {x : Str}
theorem mVar_eq {i : Nat} {ρ : Ms} {R : PyData → Ms → Prop} (h : mVar i ρ R) : ∃ d, ρ[i]? = some (.dat d) ∧ R d ρ := by
  unfold mVar at h
  split at h
  · rename_i d e
    exact ⟨d, slot_some e (fun q => nomatch q), h⟩
  · exact h.elim
theorem g_var {i : Nat} (h : PE X (.Name x pos) (tVar i)) : PE X (.Name x pos) (LE X W (mVar i)) := by
  refine PEw h ?_
  rintro σ H Q ⟨Z, F, ρ, R, S, w, t, q⟩
  obtain ⟨d, e, r⟩ := mVar_eq t
  obtain ⟨v, e1, e2⟩ := S.sl i _ e
  exact ⟨v, at_some e1, q d ρ v F H r (Same.refl _) S e2⟩
theorem g_varC {i : Nat} (h : PE X (.Name x pos) (tVar i)) : PE X (.Name x pos) (LC X W (mVarC i)) := by
  refine PEw h ?_
  rintro σ H Q ⟨Z, F, ρ, R, S, w, t, q⟩
  unfold mVarC at t
  split at t
  · rename_i d e
    obtain ⟨v, e1, e2⟩ := S.sl i _ (slot_some e (fun q => nomatch q))
    exact ⟨v, at_some e1, q d ρ v F H t (Same.refl _) S (.inl e2)⟩
  · rename_i d e
    obtain ⟨a, e1, z, f, c⟩ := S.sl i _ (slot_some e (fun q => nomatch q))
    exact ⟨.ref a, at_some e1, q d ρ _ F H t (Same.refl _) S (.inr ⟨a, rfl, f, c⟩)⟩
  · rename_i a d e
    obtain ⟨e1, z, f, c⟩ := S.sl i _ (slot_some e (fun q => nomatch q))
    exact ⟨.ref a, at_some e1, q d ρ _ F H t (Same.refl _) S (.inr ⟨a, rfl, f, c⟩)⟩
  · exact t.elim
/-- frozen -/
theorem Stt.freeze {K : PySem.W.Frag} {Z F H : Hp} {σ : L2.St} {ρ : Ms} {i : Nat} {d : PyData} (S : Stt K Z F H σ ρ) (e : ρ[i]? = some (.own d)) :
    ∃ a o, at_ σ i = some (.ref a) ∧ F a = none ∧ H a = some o ∧ Same F (upd F a o) ∧ Stt K Z (upd F a o) H σ (ρ.set i (.dat d)) ∧ Rep K (upd F a o) (.ref a) d := by
  obtain ⟨a, e1, z, f, c⟩ := S.sl i _ e
  obtain ⟨o, ho⟩ := c.some
  have sf : Same F (upd F a o) := same_upd f
  have hr : Rep K (upd F a o) (.ref a) d := by
    cases d with
    | list ds =>
      obtain ⟨xs, h1, h2, h3⟩ := c
      rw [ho] at h1; cases h1
      exact .lst upd_same (h2.mono sf) h3
    | dict es =>
      obtain ⟨kvs, h1, h2⟩ := c
      rw [ho] at h1; cases h1
      exact .dct (.inl upd_same) (h2.mono sf)
    | _ => exact c.elim
  have ma : mutA (at_ σ i) (.own d) a := ⟨e1, .inl ⟨d, rfl⟩⟩
  refine ⟨a, o, e1, f, ho, sf, ⟨fun b u q => ?_, S.zh, fun b q => ?_, by rw [List.length_set]; exact S.len, fun j s q => ?_, fun j k s t b e2 e3 m1 m2 => ?_⟩, hr⟩
  · by_cases hb : b = a
    · subst hb; rw [upd_same] at q; cases q; exact .inl ho
    · rw [upd_ne hb] at q; exact S.fh b u q
  · rw [upd_ne (fun y => q (by rw [y]; exact z))]; exact S.zf b q
  · by_cases hj : i = j
    · subst hj
      rw [List.getElem?_set_self (List.getElem?_eq_some_iff.mp e).1] at q
      cases q
      exact ⟨_, e1, hr⟩
    · rw [List.getElem?_set_ne hj] at q
      refine (S.sl j s q).move sf (fun _ _ _ y => y) (fun b m => (S.mut q m).1) fun b m => ?_
      have hba : b ≠ a := fun y => hj (S.ap i j _ s a e q ma (y ▸ m))
      rw [upd_ne hba]
      exact (S.mut q m).2.1
  · have key : ∀ l y c, (ρ.set i (.dat d))[l]? = some y → mutA (at_ σ l) y c → ρ[l]? = some y := fun l y c q m => by
      by_cases hl : i = l
      · subst hl
        rw [List.getElem?_set_self (List.getElem?_eq_some_iff.mp e).1] at q
        cases q
        exact (noMut_dat m).elim
      · rwa [List.getElem?_set_ne hl] at q
    exact S.ap j k s t b (key j s b e2 m1) (key k t b e3 m2) m1 m2
theorem g_fz {i : Nat} (h : PE X (.Name x pos) (tVar i)) : PE X (.Name x pos) (LE X W (mFz i)) := by
  refine PEw h ?_
  rintro σ H Q ⟨Z, F, ρ, R, S, w, t, q⟩
  unfold mFz at t
  split at t
  · rename_i d e
    obtain ⟨v, e1, e2⟩ := S.sl i _ (slot_some e (fun q => nomatch q))
    exact ⟨v, at_some e1, q d ρ v F H t (Same.refl _) S e2⟩
  · rename_i d e
    obtain ⟨a, o, e1, _, _, sf, S', r⟩ := S.freeze (slot_some e (fun q => nomatch q))
    exact ⟨_, at_some e1, q d _ _ _ H t sf S' r⟩
  · exact t.elim
theorem g_c {e : Expr} {v : V} {d : PyData} (h : PE X e (tC v)) (r : ∀ F, Rep X.K F v d) : PE X e (LE X W (mC d)) := by
  refine PEw h ?_
  rintro σ H Q ⟨Z, F, ρ, R, S, w, t, q⟩
  exact q d ρ v F H t (Same.refl _) S (r F)
theorem g_int {i j pos} : PE X (.Constant (.int i) j pos) (LE X W (mC (.int i))) := g_c pe_int fun _ => .int _
theorem g_bl {i j pos} : PE X (.Constant (.bool i) j pos) (LE X W (mC (.bool i))) := g_c pe_bl fun _ => .bl _
theorem g_non {j pos} : PE X (.Constant .none j pos) (LE X W (mC .none)) := g_c pe_non fun _ => .non
theorem g_str {i j pos} : PE X (.Constant (.str i) j pos) (LE X W (mC (.str i))) := g_c pe_str fun _ => .str _

/-- data stand as containers, too -/
theorem g_C {e : Expr} {t : ME} (h : PE X e (LE X W t)) : PE X e (LC X W t) := by
  refine PEw h ?_
  rintro σ H Q ⟨Z, F, ρ, R, S, w, t, q⟩
  exact ⟨Z, F, ρ, R, S, w, t, fun d ρ' v F' H' r sf S' rv => q d ρ' v F' H' r sf S' (.inl rv)⟩
/-- a new thing, frozen -/
theorem lN_of_lE {t : ME} {σ : L2.St} {H : Hp} {Q : VK} (h : LE X W t σ H Q) : LN X W t σ H Q := by
  obtain ⟨Z, F, ρ, R, S, w, t, q⟩ := h
  refine ⟨Z, F, ρ, R, S, w, t, fun d ρ' a F' H' r sf S' fa za c aw => ?_⟩
  obtain ⟨o, ho⟩ := c.some
  have sf' : Same F' (upd F' a o) := same_upd fa
  have hr : Rep X.K (upd F' a o) (.ref a) d := by
    cases d with
    | list ds =>
      obtain ⟨xs, h1, h2, h3⟩ := c
      rw [ho] at h1; cases h1
      exact .lst upd_same (h2.mono sf') h3
    | dict es =>
      obtain ⟨kvs, h1, h2⟩ := c
      rw [ho] at h1; cases h1
      exact .dct (.inl upd_same) (h2.mono sf')
    | _ => exact c.elim
  refine q d ρ' _ _ H' r (sf.trans sf') ⟨fun b u y => ?_, S'.zh, fun b y => ?_, S'.len, fun j s y => ?_, S'.ap⟩ hr
  · by_cases hb : b = a
    · subst hb; rw [upd_same] at y; cases y; exact .inl ho
    · rw [upd_ne hb] at y; exact S'.fh b u y
  · rw [upd_ne (fun z => y (by rw [z]; exact za))]; exact S'.zf b y
  · refine (S'.sl j s y).move sf' (fun _ _ _ z => z) (fun b m => (S'.mut y m).1) fun b m => ?_
    have hba : b ≠ a := fun z => aw j s y (z ▸ m)
    rw [upd_ne hba]
    exact (S'.mut y m).2.1

theorem g_E {e : Expr} {t : ME} (h : PE X e (LN X W t)) : PE X e (LE X W t) := PEw h fun _ _ _ => lN_of_lE

theorem RepC.rep {K : PySem.W.Frag} {F H : Hp} {v : V} {d : PyData} (h : RepC K F H v d) (sf : SameW F H) : Rep K H v d := by
  rcases h with h | ⟨a, rfl, _, c⟩
  · exact h.monoW sf
  · cases d with
    | list ds => obtain ⟨xs, h1, h2, h3⟩ := c; exact .lst h1 (h2.monoW sf) h3
    | dict es => obtain ⟨kvs, h1, h2⟩ := c; exact .dct (.inl h1) (h2.monoW sf)
    | _ => exact c.elim

/-! ### plain data as the library reads them -/
mutual
theorem Rep.dp {K : PySem.W.Frag} {H : Hp} : ∀ {d : PyData} {v : V}, d.plain = true → Rep K H v d → Dp K H v d
  | .none, _, _, .non => .non
  | .bool b, _, _, .bl _ => .bl b
  | .int i, _, _, .int _ => .int i
  | .str x, _, _, .str _ => .str x
  | .list xs, _, h, .lst s r _ => .lst (SqL.of s) (RepAll.dp (by simpa [PyData.plain] using h) r)
  | .tuple xs, _, h, .tup s r _ => .tup s.sq (RepAll.dp (by simpa [PyData.plain] using h) r)
  | .dict _, _, h, _ => by simp [PyData.plain] at h
theorem RepAll.dp {K : PySem.W.Frag} {H : Hp} : ∀ {ds : List PyData} {vs : List V}, PyData.plainAll ds = true → RepAll K H vs ds → DpAll K H vs ds
  | [], _, _, .nil => .nil
  | d :: ds, _, h, .cons r q => by
    have h' : d.plain = true ∧ PyData.plainAll ds = true := by simpa [PyData.plainAll] using h
    exact .cons (Rep.dp h'.1 r) (RepAll.dp h'.2 q)
end
theorem Rep.reads {pins : List (Addr × Obj)} {σ : L2.St} {H : Hp} {s : Shared} {d : PyData} {v : V} {u : Value} (I : Inv X pins σ H s) (h : d.plain = true) (r : Rep X.K H v d) (q : RelV v u) : ∃ as, Reads s.heap u d as :=
  Dp.reads I d v u (r.dp h) q

/-- plain, not deep -/
structure Gd (n : Nat) (d : PyData) : Prop where
  pl : d.plain = true
  dp : d.depth ≤ n
theorem Gd.mono {n m : Nat} {d : PyData} (h : Gd n d) (e : n ≤ m) : Gd m d := ⟨h.pl, Nat.le_trans h.dp e⟩
theorem gd_int {n : Nat} {i : Int} : Gd n (.int i) := ⟨rfl, Nat.zero_le _⟩
theorem gd_str {n : Nat} {i : Str} : Gd n (.str i) := ⟨rfl, Nat.zero_le _⟩
theorem gd_bool {n : Nat} {i : Bool} : Gd n (.bool i) := ⟨rfl, Nat.zero_le _⟩
theorem gd_none {n : Nat} : Gd n .none := ⟨rfl, Nat.zero_le _⟩
theorem gd_all {n : Nat} : ∀ {xs : List PyData}, (∀ x ∈ xs, Gd n x) → PyData.plainAll xs = true ∧ PyData.depthAll xs ≤ n
  | [], _ => ⟨rfl, Nat.zero_le _⟩
  | x :: xs, h => by
    obtain ⟨h1, h2⟩ := gd_all (xs := xs) fun y hy => h y (List.mem_cons_of_mem _ hy)
    have h3 := h x List.mem_cons_self
    refine ⟨by simp only [PyData.plainAll, h1, h3.pl, Bool.and_self], ?_⟩
    rw [PyData.depthAll]
    exact Nat.max_le.mpr ⟨h3.dp, h2⟩
theorem gd_list {n : Nat} {xs : List PyData} (h : ∀ x ∈ xs, Gd n x) : Gd (n + 1) (.list xs) := by
  obtain ⟨h1, h2⟩ := gd_all h
  exact ⟨by rw [PyData.plain]; exact h1, by rw [PyData.depth]; exact Nat.succ_le_succ h2⟩
theorem gd_tup {n : Nat} {xs : List PyData} (h : ∀ x ∈ xs, Gd n x) : Gd (n + 1) (.tuple xs) := by
  obtain ⟨h1, h2⟩ := gd_all h
  exact ⟨by rw [PyData.plain]; exact h1, by rw [PyData.depth]; exact Nat.succ_le_succ h2⟩

/-! ### operators -/
def mBin (f : PyData → PyData → (PyData → Prop) → Prop) (ta tb : ME) : ME := fun ρ R => ta ρ fun d ρ1 => tb ρ1 fun e ρ2 => f d e fun c => R c ρ2
/-- an operator on frozen data -/
def OpG (X : Cx) (op : Value → Value → Sem Value) (f : PyData → PyData → (PyData → Prop) → Prop) : Prop :=
  ∀ (pins : List (Addr × Obj)) (s : Shared) (σ : L2.St) (Z F H : Hp) (ρ : Ms) (x y : V) (v u : Value) (d e : PyData) (R : PyData → Prop) (Q : VK),
    Inv X pins σ H s → Stt X.K Z F H σ ρ → Rep X.K F x d → Rep X.K F y e → RelV x v → RelV y u → f d e R →
    (∀ c z F' H', R c → Same F F' → Stt X.K Z F' H' σ ρ → Rep X.K F' z c → Q z H') → wpAny (model X.prog X.w) X.A (op v u) (EP X pins σ Q) X.xe s
theorem g_bin {op : Operator} {a b : Expr} {f : PyData → PyData → (PyData → Prop) → Prop} {ta tb : ME} (ho : OpG X (binaryOp op) f) (ha : PE X a (LE X W ta)) (hb : PE X b (LE X W tb)) :
    PE X (.BinOp a op b pos) (LE X W (mBin f ta tb)) := by
  refine ⟨fun pins s σ H Q I h => ?_⟩
  obtain ⟨Z, F, ρ, R, S, w, t, q⟩ := h
  refine wpAny_BinOp (bin (R := fun x y H2 => ∃ F2 ρ2 d e R2, Same F F2 ∧ Stt X.K Z F2 H2 σ ρ2 ∧ Rep X.K F2 x d ∧ Rep X.K F2 y e ∧ f d e R2 ∧ ∀ c, R2 c → R c ρ2) ha hb I ?_ fun v u s2 x y H2 I2 rx ry ⟨F2, ρ2, d, e, R2, sf, S2, r1, r2, hf, hR⟩ => ?_)
  · refine ⟨Z, F, ρ, _, S, w, t, fun d ρ1 x F1 H1 t1 sf1 S1 r1 => ?_⟩
    refine ⟨Z, F1, ρ1, _, S1, w.mono sf1, t1, fun e ρ2 y F2 H2 t2 sf2 S2 r2 => ?_⟩
    exact ⟨F2, ρ2, d, e, _, sf1.trans sf2, S2, r1.mono sf2, r2, t2, fun c hc => hc⟩
  · exact ho pins s2 σ Z F2 H2 ρ2 x y v u d e R2 Q I2 S2 r1 r2 rx ry hf fun c z F' H' hc sf' S' rz => q c ρ2 z F' H' (hR c hc) (sf.trans sf') S' rz
/-- a comparison -/
def CmpG (X : Cx) (op : CmpOp) (f : PyData → PyData → (Bool → Prop) → Prop) : Prop :=
  ∀ (pins : List (Addr × Obj)) (s : Shared) (σ : L2.St) (H : Hp) (x y : V) (v u : Value) (d e : PyData) (R : Bool → Prop),
    Inv X pins σ H s → Rep X.K H x d → Rep X.K H y e → RelV x v → RelV y u → f d e R →
    wpAny (model X.prog X.w) X.A (compareOp op v u) (fun c s' => ∃ b, R b ∧ c = .bool b ∧ Inv X pins σ H s') X.xe s
def mCmp (f : PyData → PyData → (Bool → Prop) → Prop) (ta tb : ME) : ME := fun ρ R => ta ρ fun d ρ1 => tb ρ1 fun e ρ2 => f d e fun c => R (.bool c) ρ2
def mCmpB (f : PyData → PyData → (Bool → Prop) → Prop) (ta tb : ME) : MB := fun ρ R => ta ρ fun d ρ1 => tb ρ1 fun e ρ2 => f d e fun c => R c ρ2
theorem cmp_run {op : CmpOp} {a b : Expr} {f : PyData → PyData → (Bool → Prop) → Prop} {ta tb : ME} (ho : CmpG X op f) (ha : PE X a (LE X W ta)) (hb : PE X b (LC X W tb))
    {pins : List (Addr × Obj)} {s : Shared} {σ : L2.St} {H Z F : Hp} {ρ : Ms} {R : Bool → Ms → Prop} (I : Inv X pins σ H s) (S : Stt X.K Z F H σ ρ) (w : WOk X.mg W Z F) (t : mCmpB f ta tb ρ R) :
    wpAny (model X.prog X.w) X.A (eval a X.env) (fun v s₁ => wpAny (model X.prog X.w) X.A (eval b X.env) (fun u s₂ => wpAny (model X.prog X.w) X.A (compareOp op v u) (fun c s' => ∃ k ρ' F' H', c = .bool k ∧ R k ρ' ∧ Same F F' ∧ Stt X.K Z F' H' σ ρ' ∧ Inv X pins σ H' s') X.xe s₂) X.xe s₁) X.xe s := by
  refine bin (R := fun x y H2 => ∃ F2 ρ2 d e R2, Same F F2 ∧ Stt X.K Z F2 H2 σ ρ2 ∧ Rep X.K H2 x d ∧ Rep X.K H2 y e ∧ f d e R2 ∧ ∀ c, R2 c → R c ρ2) ha hb I ?_ fun v u s2 x y H2 I2 rx ry ⟨F2, ρ2, d, e, R2, sf, S2, r1, r2, hf, hR⟩ => ?_
  · refine ⟨Z, F, ρ, _, S, w, t, fun d ρ1 x F1 H1 t1 sf1 S1 r1 => ?_⟩
    refine ⟨Z, F1, ρ1, _, S1, w.mono sf1, t1, fun e ρ2 y F2 H2 t2 sf2 S2 r2 => ?_⟩
    exact ⟨F2, ρ2, d, e, _, sf1.trans sf2, S2, (r1.mono sf2).monoW S2.fh, r2.rep S2.fh, t2, fun c hc => hc⟩
  · exact thn (ho pins s2 σ H2 x y v u d e R2 I2 r1 r2 rx ry hf) fun c s3 ⟨k, hk, ec, I3⟩ => ⟨k, ρ2, F2, H2, ec, hR k hk, sf, S2, I3⟩
theorem g_cmp {op : CmpOp} {a b : Expr} {f : PyData → PyData → (Bool → Prop) → Prop} {ta tb : ME} (ho : CmpG X op f) (ha : PE X a (LE X W ta)) (hb : PE X b (LC X W tb)) (hm : behindInMarks op b = false) :
    PE X (.Compare a [op] [b] pos) (LE X W (mCmp f ta tb)) := by
  refine ⟨fun pins s σ H Q I h => ?_⟩
  obtain ⟨Z, F, ρ, R, S, w, t, q⟩ := h
  refine wpAny_Compare1 (thn (cmp_run (R := fun k ρ' => R (.bool k) ρ') ho ha hb I S w t) fun v s1 h1 => thn h1 fun u s2 h2 => thn h2 fun c s3 ⟨k, ρ', F', H', ec, hk, sf, S', I3⟩ => ?_) hm
  exact ⟨.bl k, H', I3, ec, q (.bool k) ρ' _ F' H' hk sf S' (.bl k)⟩
theorem gt_cmp {op : CmpOp} {a b : Expr} {f : PyData → PyData → (Bool → Prop) → Prop} {ta tb : ME} (ho : CmpG X op f) (ha : PE X a (LE X W ta)) (hb : PE X b (LC X W tb)) (hm : behindInMarks op b = false) :
    PT X (.Compare a [op] [b] pos) (LB X W (mCmpB f ta tb)) := by
  refine ⟨fun pins s σ H Q I h => ?_⟩
  obtain ⟨Z, F, ρ, R, S, w, t, q⟩ := h
  refine wpAny_isTrue_Compare1 (thn (cmp_run (R := R) ho ha hb I S w t) fun v s1 h1 => thn h1 fun u s2 h2 => thn h2 fun c s3 ⟨k, ρ', F', H', ec, hk, sf, S', I3⟩ => ?_) hm
  subst ec
  exact wpAny_truthy_bool ⟨H', I3, q k ρ' F' H' hk sf S'⟩

/-! ### tests -/
def mT (t : ME) : MB := fun ρ R => t ρ fun d ρ1 => match d with
  | .bool b => R b ρ1
  | _ => False
theorem gt_val {e : Expr} {t : ME} (h : PE X e (LE X W t)) (he : ∀ whole, isTrue e X.env whole = (do let v ← whole; standAt e.pos; holding [v] (truthy v)) := by intro _; rfl) : PT X e (LB X W (mT t)) := by
  refine PTw (pt_val h he) ?_
  rintro σ H Q ⟨Z, F, ρ, R, S, w, t, q⟩
  refine ⟨Z, F, ρ, _, S, w, t, fun d ρ' v F' H' t1 sf S' r => ?_⟩
  cases r with
  | bl b => exact ⟨b, rfl, q b ρ' F' H' t1 sf S'⟩
  | _ => exact t1.elim
def mAnd (t u : MB) : MB := fun ρ R => t ρ fun b ρ1 => if b = true then u ρ1 R else R false ρ1
def mOr (t u : MB) : MB := fun ρ R => t ρ fun b ρ1 => if b = true then R true ρ1 else u ρ1 R
def mNot (t : MB) : MB := fun ρ R => t ρ fun b ρ1 => R (!b) ρ1
variable {a b : Expr} {rest : List Expr} {tA tB : MB} {ta tb : ME}
theorem gw_and1 (h : PT X a (LB X W tA)) : PW X (.BoolOp .And [a] pos) (LB X W tA) := pw_and1 h
theorem gw_or1 (h : PT X a (LB X W tA)) : PW X (.BoolOp .Or [a] pos) (LB X W tA) := pw_or1 h
theorem PWw {X : Cx} {e : Expr} {t t' : TT} (h : PW X e t) (w : ∀ σ H Q, t' σ H Q → t σ H Q) : PW X e t' := ⟨fun wh pins s σ H Q I q => h.run wh pins s σ H Q I (w σ H Q q)⟩
theorem gw_and (ha : PT X a (LB X W tA)) (hb : PW X (.BoolOp .And (b :: rest) pos) (LB X W tB)) : PW X (.BoolOp .And (a :: b :: rest) pos) (LB X W (mAnd tA tB)) := by
  refine PWw (pw_and ha hb) ?_
  rintro σ H Q ⟨Z, F, ρ, R, S, w, t, q⟩
  refine ⟨Z, F, ρ, _, S, w, t, fun b ρ1 F1 H1 t1 sf1 S1 => ?_⟩
  cases b with
  | true =>
    rw [if_pos rfl] at t1 ⊢
    exact ⟨Z, F1, ρ1, R, S1, w.mono sf1, t1, fun b2 ρ2 F2 H2 t2 sf2 S2 => q b2 ρ2 F2 H2 t2 (sf1.trans sf2) S2⟩
  | false =>
    rw [if_neg Bool.false_ne_true] at t1 ⊢
    exact q false ρ1 F1 H1 t1 sf1 S1
theorem gw_or (ha : PT X a (LB X W tA)) (hb : PW X (.BoolOp .Or (b :: rest) pos) (LB X W tB)) : PW X (.BoolOp .Or (a :: b :: rest) pos) (LB X W (mOr tA tB)) := by
  refine PWw (pw_or ha hb) ?_
  rintro σ H Q ⟨Z, F, ρ, R, S, w, t, q⟩
  refine ⟨Z, F, ρ, _, S, w, t, fun b ρ1 F1 H1 t1 sf1 S1 => ?_⟩
  cases b with
  | true =>
    rw [if_pos rfl] at t1 ⊢
    exact q true ρ1 F1 H1 t1 sf1 S1
  | false =>
    rw [if_neg Bool.false_ne_true] at t1 ⊢
    exact ⟨Z, F1, ρ1, R, S1, w.mono sf1, t1, fun b2 ρ2 F2 H2 t2 sf2 S2 => q b2 ρ2 F2 H2 t2 (sf1.trans sf2) S2⟩
theorem gt_not (ha : PT X a (LB X W tA)) : PT X (.UnaryOp .Not a pos) (LB X W (mNot tA)) := by
  refine PTw (pt_not ha) ?_
  rintro σ H Q ⟨Z, F, ρ, R, S, w, t, q⟩
  exact ⟨Z, F, ρ, _, S, w, t, fun b ρ1 F1 H1 t1 sf1 S1 => q (!b) ρ1 F1 H1 t1 sf1 S1⟩
/-- as values -/
def mAndV (t u : ME) : ME := fun ρ R => t ρ fun d ρ1 => match d with
  | .bool b => if b = true then u ρ1 R else R (.bool false) ρ1
  | _ => False
def mOrV (t u : ME) : ME := fun ρ R => t ρ fun d ρ1 => match d with
  | .bool b => if b = true then R (.bool true) ρ1 else u ρ1 R
  | _ => False
def mNotV (t : ME) : ME := fun ρ R => t ρ fun d ρ1 => match d with
  | .bool b => R (.bool (!b)) ρ1
  | _ => False
theorem g_one {op} (h : PE X a (LE X W ta)) : PE X (.BoolOp op [a] pos) (LE X W ta) := pe_one h
theorem g_and (ha : PE X a (LE X W ta)) (hb : PE X (.BoolOp .And (b :: rest) pos) (LE X W tb)) : PE X (.BoolOp .And (a :: b :: rest) pos) (LE X W (mAndV ta tb)) := by
  refine PEw (pe_and ha hb) ?_
  rintro σ H Q ⟨Z, F, ρ, R, S, w, t, q⟩
  refine ⟨Z, F, ρ, _, S, w, t, fun d ρ1 v F1 H1 t1 sf1 S1 r => ?_⟩
  cases r with
  | bl b =>
    refine ⟨b, rfl, ?_⟩
    have t1 : if b = true then tb ρ1 R else R (.bool false) ρ1 := t1
    cases b with
    | true =>
      rw [if_pos rfl] at t1 ⊢
      exact ⟨Z, F1, ρ1, R, S1, w.mono sf1, t1, fun b2 ρ2 v2 F2 H2 t2 sf2 S2 r2 => q b2 ρ2 v2 F2 H2 t2 (sf1.trans sf2) S2 r2⟩
    | false =>
      rw [if_neg Bool.false_ne_true] at t1 ⊢
      exact q _ ρ1 _ F1 H1 t1 sf1 S1 (.bl false)
  | _ => exact t1.elim
theorem g_or (ha : PE X a (LE X W ta)) (hb : PE X (.BoolOp .Or (b :: rest) pos) (LE X W tb)) : PE X (.BoolOp .Or (a :: b :: rest) pos) (LE X W (mOrV ta tb)) := by
  refine PEw (pe_or ha hb) ?_
  rintro σ H Q ⟨Z, F, ρ, R, S, w, t, q⟩
  refine ⟨Z, F, ρ, _, S, w, t, fun d ρ1 v F1 H1 t1 sf1 S1 r => ?_⟩
  cases r with
  | bl b =>
    refine ⟨b, rfl, ?_⟩
    have t1 : if b = true then R (.bool true) ρ1 else tb ρ1 R := t1
    cases b with
    | true =>
      rw [if_pos rfl] at t1 ⊢
      exact q _ ρ1 _ F1 H1 t1 sf1 S1 (.bl true)
    | false =>
      rw [if_neg Bool.false_ne_true] at t1 ⊢
      exact ⟨Z, F1, ρ1, R, S1, w.mono sf1, t1, fun b2 ρ2 v2 F2 H2 t2 sf2 S2 r2 => q b2 ρ2 v2 F2 H2 t2 (sf1.trans sf2) S2 r2⟩
  | _ => exact t1.elim
theorem g_not (ha : PE X a (LE X W ta)) : PE X (.UnaryOp .Not a pos) (LE X W (mNotV ta)) := by
  refine PEw (pe_not ha) ?_
  rintro σ H Q ⟨Z, F, ρ, R, S, w, t, q⟩
  refine ⟨Z, F, ρ, _, S, w, t, fun d ρ1 v F1 H1 t1 sf1 S1 r => ?_⟩
  cases r with
  | bl b => exact ⟨b, rfl, q _ ρ1 _ F1 H1 t1 sf1 S1 (.bl (!b))⟩
  | _ => exact t1.elim
def mIf (c : MB) (t u : ME) : ME := fun ρ R => c ρ fun b ρ1 => if b = true then t ρ1 R else u ρ1 R
theorem g_if {c : Expr} (hc : PT X c (LB X W tA)) (ha : PE X a (LE X W ta)) (hb : PE X b (LE X W tb)) : PE X (.IfExp c a b pos) (LE X W (mIf tA ta tb)) := by
  refine PEw (pe_ifExp hc ha hb) ?_
  rintro σ H Q ⟨Z, F, ρ, R, S, w, t, q⟩
  refine ⟨Z, F, ρ, _, S, w, t, fun b ρ1 F1 H1 t1 sf1 S1 => ?_⟩
  cases b with
  | true =>
    rw [if_pos rfl] at t1 ⊢
    exact ⟨Z, F1, ρ1, R, S1, w.mono sf1, t1, fun b2 ρ2 v2 F2 H2 t2 sf2 S2 r2 => q b2 ρ2 v2 F2 H2 t2 (sf1.trans sf2) S2 r2⟩
  | false =>
    rw [if_neg Bool.false_ne_true] at t1 ⊢
    exact ⟨Z, F1, ρ1, R, S1, w.mono sf1, t1, fun b2 ρ2 v2 F2 H2 t2 sf2 S2 r2 => q b2 ρ2 v2 F2 H2 t2 (sf1.trans sf2) S2 r2⟩
end
end G


set_option Elab.async false
set_option maxRecDepth 100000
set_option maxHeartbeats 1000000
/-! GV3: operators. -/
namespace G
open PySem PySem.Spec PyProof.Rows L2

/-- a number of at most four thousand bits -/
@[irreducible] def Sm (i : Int) : Prop := ∃ n, n ≤ 4000 ∧ i.natAbs < 2 ^ n
theorem sm_of {i : Int} {n : Nat} (h : i.natAbs < 2 ^ n) (hn : n ≤ 4000) : Sm i := by unfold Sm; exact ⟨n, hn, h⟩
theorem Sm.ex {i : Int} (h : Sm i) : ∃ n, n ≤ 4000 ∧ i.natAbs < 2 ^ n := by unfold Sm at h; exact h
theorem Sm.pos {i : Int} (h : Sm i) : ∃ n, 0 < n ∧ n ≤ 4000 ∧ i.natAbs < 2 ^ n := by
  obtain ⟨n, h1, h2⟩ := h.ex
  by_cases e : n = 0
  · subst e
    exact ⟨1, by decide, by decide, Nat.lt_of_lt_of_le h2 (by decide)⟩
  · exact ⟨n, Nat.pos_of_ne_zero e, h1, h2⟩
theorem Sm.mulW {i j : Int} (h : Sm i) (k : Sm j) : CMulW i j := by
  obtain ⟨n, a0, a1, a2⟩ := h.pos
  obtain ⟨m, b0, b1, b2⟩ := k.pos
  exact wide_mul a2 b2 a0 b0 (by omega)
theorem Sm.divW {j : Int} (i : Int) (h : Sm j) (k : 0 < j) : CDivW i j := by
  obtain ⟨n, a0, a1, a2⟩ := h.pos
  exact wide_div k a2 a0 (by omega)
theorem sm_small {i : Int} (h : i.natAbs < 2 ^ 64) : Sm i := sm_of h (by decide)

section
variable {X : Cx}
theorem cmpG_of {op : CmpOp} {r : R2} {f : PyData → PyData → (Bool → Prop) → Prop} (ho : OpR X (compareOp op) r)
    (h : ∀ (H : Hp) (x y : V) (d e : PyData) (R : Bool → Prop), Rep X.K H x d → Rep X.K H y e → f d e R → r x y H (fun v H' => ∃ b, R b ∧ v = .bl b ∧ H' = H)) : CmpG X op f := by
  intro pins s σ H x y v u d e R I r1 r2 rx ry hf
  refine thn (ho pins s σ H x y v u _ I rx ry (h H x y d e R r1 r2 hf)) fun c s' ⟨z, H', I', rz, b, hb, ez, eh⟩ => ?_
  subst ez
  subst eh
  exact ⟨b, hb, rz, I'⟩
theorem opG_of {op : Value → Value → Sem Value} {r : R2} {f : PyData → PyData → (PyData → Prop) → Prop} (ho : OpR X op r)
    (h : ∀ (Z F H : Hp) (σ : L2.St) (ρ : Ms) (x y : V) (d e : PyData) (R : PyData → Prop) (Q : VK), Stt X.K Z F H σ ρ → Rep X.K F x d → Rep X.K F y e → f d e R →
      (∀ c z F' H', R c → Same F F' → Stt X.K Z F' H' σ ρ → Rep X.K F' z c → Q z H') → r x y H Q) : OpG X op f := by
  intro pins s σ Z F H ρ x y v u d e R Q I S r1 r2 rx ry hf q
  exact ho pins s σ H x y v u Q I rx ry (h Z F H σ ρ x y d e R Q S r1 r2 hf q)
theorem OpG.cases {op : Value → Value → Sem Value} {f f' g : PyData → PyData → (PyData → Prop) → Prop} (h : OpG X op f) (h' : OpG X op f') (e : ∀ d e R, g d e R → f d e R ∨ f' d e R) : OpG X op g := by
  intro pins s σ Z F H ρ x y v u d k R Q I S r1 r2 rx ry hf q
  rcases e d k R hf with z | z
  · exact h pins s σ Z F H ρ x y v u d k R Q I S r1 r2 rx ry z q
  · exact h' pins s σ Z F H ρ x y v u d k R Q I S r1 r2 rx ry z q
theorem CmpG.cases {op : CmpOp} {f f' g : PyData → PyData → (Bool → Prop) → Prop} (h : CmpG X op f) (h' : CmpG X op f') (e : ∀ d e R, g d e R → f d e R ∨ f' d e R) : CmpG X op g := by
  intro pins s σ H x y v u d k R I r1 r2 rx ry hf
  rcases e d k R hf with z | z
  · exact h pins s σ H x y v u d k R I r1 r2 rx ry z
  · exact h' pins s σ H x y v u d k R I r1 r2 rx ry z

/-! ### whole numbers -/
theorem opG_ii {op : Value → Value → Sem Value} {C' : Int → Int → Prop} {g' : Int → Int → Int} {f : PyData → PyData → (PyData → Prop) → Prop} (ho : OpR X op (rI C' fun i j => .int (g' i j)))
    (h : ∀ d e R, f d e R → ∃ a b, d = .int a ∧ e = .int b ∧ C' a b ∧ R (.int (g' a b))) : OpG X op f := by
  refine opG_of ho fun Z F H σ ρ x y d e R Q S r1 r2 hf q => ?_
  obtain ⟨a, b, rfl, rfl, hc, hr⟩ := h d e R hf
  cases r1
  cases r2
  exact ⟨a, b, rfl, rfl, hc, q _ _ F H hr (Same.refl _) S (.int _)⟩
theorem OpR.to_rI {op : Value → Value → Sem Value} {g : Int → Int → V} (h : OpR X op (rI0 g)) : OpR X op (rI (fun _ _ => True) g) := by
  intro pins s σ H x y v u Q I rx ry ⟨i, j, e1, e2, _, q⟩
  exact h pins s σ H x y v u Q I rx ry ⟨i, j, e1, e2, q⟩
def subD : PyData → PyData → (PyData → Prop) → Prop
  | .int a, .int b, R => R (.int (a - b))
  | _, _, _ => False
def mulD : PyData → PyData → (PyData → Prop) → Prop
  | .int a, .int b, R => (Sm a ∧ Sm b) ∧ R (.int (a * b))
  | _, _, _ => False
def fdivD : PyData → PyData → (PyData → Prop) → Prop
  | .int a, .int b, R => (0 < b ∧ Sm b) ∧ R (.int (a / b))
  | _, _, _ => False
def modD : PyData → PyData → (PyData → Prop) → Prop
  | .int a, .int b, R => 0 < b ∧ R (.int (a % b))
  | _, _, _ => False
def powD : PyData → PyData → (PyData → Prop) → Prop
  | .int a, .int b, R => (a = 10 ∧ b = 18) ∧ R (.int 1000000000000000000)
  | _, _, _ => False
theorem two_ints {C : Int → Int → (PyData → Prop) → Prop} {f : PyData → PyData → (PyData → Prop) → Prop} (e : ∀ a b R, f (.int a) (.int b) R → C a b R) (n : ∀ d e R, (∀ a b, ¬ (d = .int a ∧ e = .int b)) → ¬ f d e R) : ∀ d e R, f d e R → ∃ a b, d = .int a ∧ e = .int b ∧ C a b R := fun d e' R h => by
  by_cases k : ∃ a b, d = .int a ∧ e' = .int b
  · obtain ⟨a, b, rfl, rfl⟩ := k
    exact ⟨a, b, rfl, rfl, e a b R h⟩
  · exact (n d e' R (fun a b z => k ⟨a, b, z⟩) h).elim
theorem og_sub : OpG X (binaryOp .Sub) subD := opG_ii (OpR.to_rI op_sub) fun d e R h => by
  cases d <;> cases e <;> first | exact h.elim | exact ⟨_, _, rfl, rfl, trivial, h⟩
theorem og_mul : OpG X (binaryOp .Mult) mulD := opG_ii op_mulW fun d e R h => by
  cases d <;> cases e <;> first | exact h.elim | exact ⟨_, _, rfl, rfl, h.1.1.mulW h.1.2, h.2⟩
theorem og_fdiv : OpG X (binaryOp .FloorDiv) fdivD := opG_ii op_fdivW fun d e R h => by
  cases d <;> cases e <;> first | exact h.elim | exact ⟨_, _, rfl, rfl, h.1.2.divW _ h.1.1, h.2⟩
theorem og_mod : OpG X (binaryOp .Mod) modD := opG_ii op_modN fun d e R h => by
  cases d <;> cases e <;> first | exact h.elim | skip
  obtain ⟨h1, h2⟩ := h
  exact ⟨_, _, rfl, rfl, fun z => by omega, by rw [Int.fmod_eq_emod_of_nonneg _ (by omega)]; exact h2⟩
theorem og_pow : OpG X (binaryOp .Pow) powD := opG_ii op_pow fun d e R h => by
  cases d <;> cases e <;> first | exact h.elim | skip
  obtain ⟨⟨rfl, rfl⟩, h⟩ := h
  exact ⟨_, _, rfl, rfl, ⟨by decide, by decide, by decide⟩, h⟩

/-! ### + -/
def addD : PyData → PyData → (PyData → Prop) → Prop
  | .int a, .int b, R => R (.int (a + b))
  | .str a, .str b, R => a.length + b.length ≤ sizeLine ∧ R (.str (a ++ b))
  | .tuple a, .tuple b, R => a.length + b.length ≤ sizeLine ∧ R (.tuple (a ++ b))
  | .list a, .list b, R => a.length + b.length ≤ sizeLine ∧ R (.list (a ++ b))
  | _, _, _ => False
theorem og_add : OpG X (binaryOp .Add) addD := by
  refine opG_of (OpR.or (OpR.to_rI op_add) (OpR.or op_add_str (OpR.or op_catP op_cat))) fun Z F H σ ρ x y d e R Q S r1 r2 hf q => ?_
  cases r1 with
  | int a =>
    cases r2 with
    | int b => exact .inl ⟨a, b, rfl, rfl, trivial, q _ _ F H hf (Same.refl _) S (.int _)⟩
    | _ => exact hf.elim
  | str a =>
    cases r2 with
    | str b => exact .inr (.inl ⟨a, b, rfl, rfl, hf.1, q _ _ F H hf.2 (Same.refl _) S (.str _)⟩)
    | _ => exact hf.elim
  | @tup a xs ds h1 h2 h3 =>
    cases r2 with
    | @tup b ys es k1 k2 k3 =>
      have e1 := h2.length
      have e2 := k2.length
      obtain ⟨hl, hr⟩ := hf
      refine .inr (.inr (.inl ⟨a, b, xs, ys, rfl, rfl, (h1.monoW S.fh).sq, (k1.monoW S.fh).sq, by omega, fun z => ?_, fun z1 z => ?_, fun z1 z2 p o hp ho => ?_⟩))
      · subst z
        cases h2
        exact q _ _ F H hr (Same.refl _) S (.tup k1 k2 k3)
      · subst z
        cases k2
        rw [List.append_nil] at hr
        exact q _ _ F H hr (Same.refl _) S (.tup h1 h2 h3)
      · have sf : Same F (upd F p (.frz o (.tup (xs ++ ys)))) := same_upd (S.fh.free hp)
        exact q _ _ _ _ hr sf (S.new _ hp) (.tup (.inl ⟨o, upd_same, ho⟩) ((h2.mono sf).append (k2.mono sf)) (by rw [List.length_append]; exact hl))
    | _ => exact hf.elim
  | @lst a xs ds h1 h2 h3 =>
    cases r2 with
    | @lst b ys es k1 k2 k3 =>
      have e1 := h2.length
      have e2 := k2.length
      obtain ⟨hl, hr⟩ := hf
      refine .inr (.inr (.inr ⟨a, b, xs, ys, rfl, rfl, S.fh.lst h1, S.fh.lst k1, by omega, fun p hp => ?_⟩))
      have sf : Same F (upd F p (.lst (xs ++ ys))) := same_upd (S.fh.free hp)
      exact q _ _ _ _ hr sf (S.new _ hp) (.lst upd_same ((h2.mono sf).append (k2.mono sf)) (by rw [List.length_append]; exact hl))
    | _ => exact hf.elim
  | _ => exact hf.elim

/-! ### comparisons -/
def ltD : PyData → PyData → (Bool → Prop) → Prop
  | .int a, .int b, R => R (decide (a < b))
  | .str a, .str b, R => R (decide (a.cps.toList < b.cps.toList))
  | _, _, _ => False
def leD : PyData → PyData → (Bool → Prop) → Prop
  | .int a, .int b, R => R (decide (a ≤ b))
  | _, _, _ => False
def gtD : PyData → PyData → (Bool → Prop) → Prop
  | .int a, .int b, R => R (decide (b < a))
  | _, _, _ => False
def geD : PyData → PyData → (Bool → Prop) → Prop
  | .int a, .int b, R => R (decide (b ≤ a))
  | _, _, _ => False
theorem cg_lt : CmpG X .Lt ltD := by
  refine cmpG_of (OpR.or op_lt op_lt_str) fun H x y d e R r1 r2 hf => ?_
  cases r1 with
  | int a =>
    cases r2 with
    | int b => exact .inl ⟨a, b, rfl, rfl, _, hf, rfl, rfl⟩
    | _ => exact hf.elim
  | str a =>
    cases r2 with
    | str b => exact .inr ⟨a, b, rfl, rfl, _, hf, rfl, rfl⟩
    | _ => exact hf.elim
  | _ => exact hf.elim
theorem cg_ii {op : CmpOp} {f : PyData → PyData → (Bool → Prop) → Prop} {g : Int → Int → Bool} (ho : OpR X (compareOp op) (rI0 fun i j => .bl (g i j))) (h : ∀ d e R, f d e R → ∃ a b, d = .int a ∧ e = .int b ∧ R (g a b)) : CmpG X op f := by
  refine cmpG_of ho fun H x y d e R r1 r2 hf => ?_
  obtain ⟨a, b, rfl, rfl, hr⟩ := h d e R hf
  cases r1
  cases r2
  exact ⟨a, b, rfl, rfl, _, hr, rfl, rfl⟩
theorem cg_le : CmpG X .LtE leD := cg_ii op_le fun d e R h => by
  cases d <;> cases e <;> first | exact ⟨_, _, rfl, rfl, h⟩ | exact h.elim
theorem cg_gt : CmpG X .Gt gtD := cg_ii op_gt fun d e R h => by
  cases d <;> cases e <;> first | exact ⟨_, _, rfl, rfl, h⟩ | exact h.elim
theorem cg_ge : CmpG X .GtE geD := cg_ii op_ge fun d e R h => by
  cases d <;> cases e <;> first | exact ⟨_, _, rfl, rfl, h⟩ | exact h.elim
/-- == of data without dicts, at most sixty deep -/
def eqD0 (d e : PyData) (R : Bool → Prop) : Prop := Gd 60 d ∧ Gd 60 e ∧ R (PyData.eqv d e)
def neD0 (d e : PyData) (R : Bool → Prop) : Prop := Gd 60 d ∧ Gd 60 e ∧ R (!PyData.eqv d e)
theorem cg_eq0 (hu : X.A.units + 64 < cLine) : CmpG X .Eq eqD0 := by
  intro pins s σ H x y v u d e R I r1 r2 rx ry ⟨hd, he, hr⟩
  obtain ⟨as, q1⟩ := r1.reads I hd.pl rx
  obtain ⟨bs, q2⟩ := r2.reads I he.pl ry
  refine SeqAt.eq_plain q1 q2 hd.pl he.pl ?_ ⟨_, hr, rfl, I⟩
  have h1 := hd.dp
  have h2 : min d.depth e.depth ≤ d.depth := Nat.min_le_left _ _
  omega
theorem cg_ne0 (hu : X.A.units + 64 < cLine) : CmpG X .NotEq neD0 := by
  intro pins s σ H x y v u d e R I r1 r2 rx ry ⟨hd, he, hr⟩
  obtain ⟨as, q1⟩ := r1.reads I hd.pl rx
  obtain ⟨bs, q2⟩ := r2.reads I he.pl ry
  refine SeqAt.ne_plain q1 q2 hd.pl he.pl ?_ ⟨_, hr, rfl, I⟩
  have h1 := hd.dp
  have h2 : min d.depth e.depth ≤ d.depth := Nat.min_le_left _ _
  omega
/-- a dict's value by a text -/
def dget (es : List (PyData × PyData)) (k : Str) : Option PyData := match es with
  | [] => none
  | (.str x, d) :: r => if x = k then some d else dget r k
  | (_, _) :: r => dget r k
def valK (kvs : List (Key × V)) (k : Str) : Option V := valV kvs (Sum.inr k : Key)
theorem RepKV.look {K : PySem.W.Frag} {H : Hp} {k : Str} : ∀ {kvs : List (Key × V)} {es : List (PyData × PyData)}, RepKV K H kvs es → (dget es k = none ∧ valV kvs (Sum.inr k : Key) = none) ∨ ∃ d v, dget es k = some d ∧ valV kvs (Sum.inr k : Key) = some v ∧ Rep K H v d
  | _, _, .nil => .inl ⟨rfl, rfl⟩
  | _, _, @RepKV.cons _ _ (.inl i) v kvs d es h r => by
    rcases RepKV.look (k := k) r with ⟨h1, h2⟩ | ⟨d', v', h1, h2, h3⟩
    · exact .inl ⟨h1, by simpa [valV] using h2⟩
    · exact .inr ⟨d', v', h1, by simpa [valV] using h2, h3⟩
  | _, _, @RepKV.cons _ _ (.inr x) v kvs d es h r => by
    by_cases e : x = k
    · subst e
      exact .inr ⟨d, v, by simp [dget, kD], by simp [valV], h⟩
    · rcases RepKV.look (k := k) r with ⟨h1, h2⟩ | ⟨d', v', h1, h2, h3⟩
      · exact .inl ⟨by simp [dget, kD, e, h1], by simpa [valV, e] using h2⟩
      · exact .inr ⟨d', v', by simp [dget, kD, e, h1], by simpa [valV, e] using h2, h3⟩
/-- in: a list, a tuple, a dict by a text, one sign in a text -/
def inD0 (neg : Bool) : PyData → PyData → (Bool → Prop) → Prop
  | d, .list xs, R => Gd 60 d ∧ Gd 60 (.list xs) ∧ R (neg ^^ (xs.any fun y => PyData.eqv y d))
  | d, .tuple xs, R => Gd 60 d ∧ Gd 60 (.tuple xs) ∧ R (neg ^^ (xs.any fun y => PyData.eqv y d))
  | .str k, .dict es, R => R (neg ^^ (dget es k).isSome)
  | .str k, .str z, R => ∃ c, k = ⟨#[c]⟩ ∧ R (neg ^^ decide (c ∈ z.cps.toList))
  | _, _, _ => False

theorem inD_any {neg : Bool} {b : Bool} : (if neg = true then !b else b) = (neg ^^ b) := by cases neg <;> cases b <;> rfl
theorem cg_in0 (hu : X.A.units + 64 < cLine) : CmpG X .In (inD0 false) := by
  intro pins s σ H x y v u d e R I r1 r2 rx ry hf
  cases r2 with
  | @lst a ys es h1 h2 h3 =>
    obtain ⟨g1, g2, hr⟩ := (show Gd 60 d ∧ Gd 60 (.list es) ∧ R (false ^^ (es.any fun y => PyData.eqv y d)) from by cases d <;> exact hf)
    obtain ⟨as, q1⟩ := r1.reads I g1.pl rx
    obtain ⟨bs, q2⟩ := (Rep.lst h1 h2 h3).reads I g2.pl ry
    have hp : PyData.plainAll es = true := by simpa [PyData.plain] using g2.pl
    refine SeqAt.in_list_data q2 q1 hp g1.pl ?_ ⟨_, hr, ?_, I⟩
    · have h1 := g1.dp
      have h2 : min (PyData.depthAll es) d.depth ≤ d.depth := Nat.min_le_right _ _
      omega
    · rw [Bool.false_xor]
  | @tup a ys es h1 h2 h3 =>
    obtain ⟨g1, g2, hr⟩ := (show Gd 60 d ∧ Gd 60 (.tuple es) ∧ R (false ^^ (es.any fun y => PyData.eqv y d)) from by cases d <;> exact hf)
    obtain ⟨as, q1⟩ := r1.reads I g1.pl rx
    obtain ⟨bs, q2⟩ := (Rep.tup h1 h2 h3).reads I g2.pl ry
    have hp : PyData.plainAll es = true := by simpa [PyData.plain] using g2.pl
    refine SeqAt.in_tuple_data q2 q1 hp g1.pl ?_ ⟨_, hr, ?_, I⟩
    · have h1 := g1.dp
      have h2 : min (PyData.depthAll es) d.depth ≤ d.depth := Nat.min_le_right _ _
      omega
    · rw [Bool.false_xor]
  | @dct a kvs es h1 h2 =>
    cases r1 with
    | str k =>
      have hr : R (false ^^ (dget es k).isSome) := hf
      obtain rfl : u = Value.ref a := ry
      rcases h2.look (k := k) with ⟨e1, e2⟩ | ⟨d', v', e1, e2, _⟩
      · exact d_in (by omega) I (.inl ⟨_, Sum.inr k, h1, rfl, rfl⟩) rx fun s3 I3 => ⟨_, hr, by rw [e1, e2]; rfl, I3⟩
      · exact d_in (by omega) I (.inl ⟨_, Sum.inr k, h1, rfl, rfl⟩) rx fun s3 I3 => ⟨_, hr, by rw [e1, e2]; rfl, I3⟩
    | _ => exact hf.elim
  | str z =>
    cases r1 with
    | str k =>
      obtain ⟨c, rfl, hr⟩ := hf
      rw [Bool.false_xor] at hr
      refine thn (op_in_sign pins s σ H _ _ v u (fun v' H' => ∃ b, R b ∧ v' = .bl b ∧ H' = H) I rx ry ⟨c, z, rfl, rfl, _, hr, rfl, rfl⟩) fun c' s' ⟨w', H', I', rz, b, hb, ez, eh⟩ => ?_
      subst ez
      subst eh
      exact ⟨b, hb, rz, I'⟩
    | _ => exact hf.elim
  | _ => cases d <;> exact hf.elim
theorem cg_notIn0 (hu : X.A.units + 64 < cLine) : CmpG X .NotIn (inD0 true) := by
  intro pins s σ H x y v u d e R I r1 r2 rx ry hf
  cases r2 with
  | @lst a ys es h1 h2 h3 =>
    obtain ⟨g1, g2, hr⟩ := (show Gd 60 d ∧ Gd 60 (.list es) ∧ R (true ^^ (es.any fun y => PyData.eqv y d)) from by cases d <;> exact hf)
    obtain ⟨as, q1⟩ := r1.reads I g1.pl rx
    obtain ⟨bs, q2⟩ := (Rep.lst h1 h2 h3).reads I g2.pl ry
    have hp : PyData.plainAll es = true := by simpa [PyData.plain] using g2.pl
    refine SeqAt.notIn_list_data q2 q1 hp g1.pl ?_ ⟨_, hr, ?_, I⟩
    · have h1 := g1.dp
      have h2 : min (PyData.depthAll es) d.depth ≤ d.depth := Nat.min_le_right _ _
      omega
    · rw [Bool.true_xor]
  | @tup a ys es h1 h2 h3 =>
    obtain ⟨g1, g2, hr⟩ := (show Gd 60 d ∧ Gd 60 (.tuple es) ∧ R (true ^^ (es.any fun y => PyData.eqv y d)) from by cases d <;> exact hf)
    obtain ⟨as, q1⟩ := r1.reads I g1.pl rx
    obtain ⟨bs, q2⟩ := (Rep.tup h1 h2 h3).reads I g2.pl ry
    have hp : PyData.plainAll es = true := by simpa [PyData.plain] using g2.pl
    refine SeqAt.notIn_tuple_data q2 q1 hp g1.pl ?_ ⟨_, hr, ?_, I⟩
    · have h1 := g1.dp
      have h2 : min (PyData.depthAll es) d.depth ≤ d.depth := Nat.min_le_right _ _
      omega
    · rw [Bool.true_xor]
  | @dct a kvs es h1 h2 =>
    cases r1 with
    | str k =>
      have hr : R (true ^^ (dget es k).isSome) := hf
      obtain rfl : u = Value.ref a := ry
      rcases h2.look (k := k) with ⟨e1, e2⟩ | ⟨d', v', e1, e2, _⟩
      · exact d_notIn (by omega) I (.inl ⟨_, Sum.inr k, h1, rfl, rfl⟩) rx fun s3 I3 => ⟨_, hr, by rw [e1, e2]; rfl, I3⟩
      · exact d_notIn (by omega) I (.inl ⟨_, Sum.inr k, h1, rfl, rfl⟩) rx fun s3 I3 => ⟨_, hr, by rw [e1, e2]; rfl, I3⟩
    | _ => exact hf.elim
  | str z =>
    cases r1 with
    | str k =>
      obtain ⟨c, rfl, hr⟩ := hf
      rw [Bool.true_xor] at hr
      refine thn (op_notIn_sign pins s σ H _ _ v u (fun v' H' => ∃ b, R b ∧ v' = .bl b ∧ H' = H) I rx ry ⟨c, z, rfl, rfl, _, hr, rfl, rfl⟩) fun c' s' ⟨w', H', I', rz, b, hb, ez, eh⟩ => ?_
      subst ez
      subst eh
      exact ⟨b, hb, rz, I'⟩
    | _ => exact hf.elim
  | _ => cases d <;> exact hf.elim
end
@[irreducible] def eqD (d e : PyData) (R : Bool → Prop) : Prop := eqD0 d e R
@[irreducible] def neD (d e : PyData) (R : Bool → Prop) : Prop := neD0 d e R
@[irreducible] def inD (neg : Bool) (d e : PyData) (R : Bool → Prop) : Prop := inD0 neg d e R
theorem eqD_is : eqD = eqD0 := by funext d e R; unfold eqD; rfl
theorem neD_is : neD = neD0 := by funext d e R; unfold neD; rfl
theorem inD_is (n : Bool) : inD n = inD0 n := by funext d e R; unfold inD; rfl
section
variable {X : Cx}
theorem cg_eq (hu : X.A.units + 64 < cLine) : CmpG X .Eq eqD := eqD_is ▸ cg_eq0 hu
theorem cg_ne (hu : X.A.units + 64 < cLine) : CmpG X .NotEq neD := neD_is ▸ cg_ne0 hu
theorem cg_in (hu : X.A.units + 64 < cLine) : CmpG X .In (inD false) := inD_is false ▸ cg_in0 hu
theorem cg_notIn (hu : X.A.units + 64 < cLine) : CmpG X .NotIn (inD true) := inD_is true ▸ cg_notIn0 hu
end
end G


set_option Elab.async false
set_option maxRecDepth 100000
set_option maxHeartbeats 1000000
/-! GV4: argument lists, displays, subscripts, slices, built-in calls. -/
namespace G
open PySem PySem.Spec PyProof.Rows L2
abbrev MA := Ms → (List PyData → Ms → Prop) → Prop
def lA (K : PySem.W.Frag) (mg : Str → Option Value) (W : Wish) (n : Nat) (t : MA) : TA := fun σ H Q => ∃ Z F ρ R, Stt K Z F H σ ρ ∧ WOk mg W Z F ∧ t ρ R ∧
  ∀ ds ρ' vs F' H', R ds ρ' → Same F F' → Stt K Z F' H' σ ρ' → RepAll K F' vs ds → ds.length = n → Q vs H'
abbrev LA (X : Cx) (W : Wish) (n : Nat) (t : MA) : TA := lA X.K X.mg W n t
def mNil : MA := fun ρ R => R [] ρ
def mCons (t : ME) (u : MA) : MA := fun ρ R => t ρ fun d ρ1 => u ρ1 fun ds ρ2 => R (d :: ds) ρ2
def mTup (t : MA) : ME := fun ρ R => t ρ fun ds ρ1 => R (.tuple ds) ρ1
def mLst (t : MA) : ME := fun ρ R => t ρ fun ds ρ1 => R (.list ds) ρ1
section
variable {X : Cx} {W : Wish} {pos p : Pos} {x : Str} {a b e : Expr} {es : List Expr} {ta tb te : ME} {t : MA} {n : Nat}
theorem ga_nil : PA X [] (LA X W 0 mNil) := by
  refine PAw pa_nil ?_
  rintro σ H Q ⟨Z, F, ρ, R, S, w, t, q⟩
  exact q [] ρ [] F H t (Same.refl _) S .nil rfl
theorem ga_cons (ha : PE X e (LE X W te)) (hr : PA X es (LA X W n t)) (hs : starEach (e :: es) X.env = (false, eval e X.env) :: starEach es X.env := by rfl) : PA X (e :: es) (LA X W (n + 1) (mCons te t)) := by
  refine PAw (pa_cons ha hr hs) ?_
  rintro σ H Q ⟨Z, F, ρ, R, S, w, t, q⟩
  refine ⟨Z, F, ρ, _, S, w, t, fun d ρ1 v F1 H1 t1 sf1 S1 r1 => ?_⟩
  refine ⟨Z, F1, ρ1, _, S1, w.mono sf1, t1, fun ds ρ2 vs F2 H2 t2 sf2 S2 r2 hl => ?_⟩
  exact q (d :: ds) ρ2 (v :: vs) F2 H2 t2 (sf1.trans sf2) S2 (.cons (r1.mono sf2) r2) (by rw [List.length_cons, hl])
theorem line1000 {n : Nat} (h : n ≤ 1000) : n ≤ sizeLine := Nat.le_of_lt (small1000 h)
theorem g_tup {x1} (h : PA X es (LA X W n t)) (hn : n ≤ 1000 := by decide) : PE X (.Tuple es x1 pos) (LE X W (mTup t)) := by
  refine PEw (pe_tupP h) ?_
  rintro σ H Q ⟨Z, F, ρ, R, S, w, t, q⟩
  refine ⟨Z, F, ρ, _, S, w, t, fun ds ρ1 vs F1 H1 t1 sf1 S1 r1 hl => ⟨by rw [r1.length, hl]; exact line1000 hn, fun p o hp ho => ?_⟩⟩
  have sf : Same F1 (upd F1 p (.frz o (.tup vs))) := same_upd (S1.fh.free hp)
  exact q _ ρ1 _ _ _ t1 (sf1.trans sf) (S1.new _ hp) (.tup (.inl ⟨o, upd_same, ho⟩) (r1.mono sf) (by rw [hl]; exact line1000 hn))
/-- a new list -/
theorem gn_lst (h : PA X es (LA X W n t)) (hn : n ≤ 1000 := by decide) : PE X (.List es pos) (LN X W (mLst t)) := by
  refine PEw (pe_lst h) ?_
  rintro σ H Q ⟨Z, F, ρ, R, S, w, t, q⟩
  refine ⟨Z, F, ρ, _, S, w, t, fun ds ρ1 vs F1 H1 t1 sf1 S1 r1 hl => ⟨by rw [r1.length, hl]; exact line1000 hn, fun p hp => ?_⟩⟩
  exact q _ ρ1 p F1 _ t1 sf1 (S1.lay _ hp) (S1.fh.free hp) (S1.zh.free hp) ⟨vs, upd_same, r1, by rw [hl]; exact line1000 hn⟩ (S1.newAway hp)

/-! ### subscripts -/
theorem ix_dict (hu : X.A.units + 1 < cLine) : IxR X (fun x y H Q => ∃ a v, x = .ref a ∧ DGet H a y (some v) ∧ Q v H) := by
  intro value slice pins s σ H x y v u Q I rx ry h hs
  obtain ⟨a, z, rfl, g, q⟩ := h
  obtain rfl : v = Value.ref a := rx
  have hT := dict_typeIs I g
  have h₂ : wpAny (model X.prog X.w) X.A (getItem (.ref a) u) (EP X pins σ Q) X.xe s := d_getItem hu I g ry fun w' s3 I3 rw' => ⟨z, H, I3, rw', q⟩
  unfold subscriptTail
  refine wpAny_bind ?_
  rw [getitemInPython_of_ne hT.not_modules]
  refine wpAny_bind (wpAny_specialOf hT PySem.F.slot_dict_getitem.lookup ?_)
  have fin : wpAny (model X.prog X.w) X.A (subscripted slice false (.ref a) u) (fun r s₃ => wpAny (model X.prog X.w) X.A (letTemporaryGo value (.ref a) r >>= fun _ => pure r) (EP X pins σ Q) X.xe s₃) X.xe s := by
    rw [hs]
    exact wpAny_operating (wpAny_mono h₂ (fun r s₃ h₃ => wpAny_bind (wpAny_letTemporaryGo (wpAny_pure h₃))) fun _ _ x => x)
  first
    | exact wpAny_pure (wpAny_bind fin)
    | exact wpAny_bind (wpAny_pure (wpAny_bind fin))
    | exact wpAny_bind fin
def rIxAll (K : PySem.W.Frag) : R2 := fun x y H Q => rIx K x y H Q ∨ ∃ a v, x = .ref a ∧ DGet H a y (some v) ∧ Q v H
theorem ix_all (hu : X.A.units + 64 < cLine) : IxR X (rIxAll X.K) := ix_seq.or (ix_dict (by omega))
def ixD : PyData → PyData → (PyData → Prop) → Prop
  | .list ds, .int i, R => match atI ds i with
    | some d => R d
    | none => False
  | .tuple ds, .int i, R => match atI ds i with
    | some d => R d
    | none => False
  | .dict es, .str k, R => match dget es k with
    | some d => R d
    | none => False
  | _, _, _ => False
theorem RepAll.atI {K : PySem.W.Frag} {H : Hp} {vs : List V} {ds : List PyData} {i : Int} {d : PyData} (h : RepAll K H vs ds) (e : atI ds i = some d) : ∃ v, L2.atI vs i = some v ∧ Rep K H v d := by
  unfold L2.atI at e ⊢
  rw [h.length]
  cases q : ixN ds.length i with
  | none => rw [q] at e; cases e
  | some j =>
    rw [q] at e
    exact h.get (i := j) e
/-- an item of what is frozen, or a container by itself -/
theorem ix_rep {F H : Hp} {x y : V} {c k : PyData} {R : PyData → Prop} {Q : VK} (sf : SameW F H) (hx : RepC X.K F H x c) (hy : Rep X.K F y k) (h : ixD c k R) (q : ∀ d v, R d → Rep X.K F v d → Q v H) : rIxAll X.K x y H Q := by
  unfold ixD at h
  split at h
  · rename_i ds i
    cases hy
    split at h
    · rename_i d e
      rcases hx with hx | ⟨a, rfl, fa, xs, h1, h2, _⟩
      · cases hx with
        | lst h1 h2 _ =>
          obtain ⟨v, e1, e2⟩ := h2.atI e
          exact .inl (.inl ⟨_, _, i, v, rfl, rfl, SqL.of (sf.lst h1), e1, q d v h e2⟩)
      · obtain ⟨v, e1, e2⟩ := h2.atI e
        exact .inl (.inl ⟨_, _, i, v, rfl, rfl, SqL.of h1, e1, q d v h e2⟩)
    · exact h.elim
  · rename_i ds i
    cases hy
    split at h
    · rename_i d e
      rcases hx with hx | ⟨a, rfl, fa, c⟩
      · cases hx with
        | tup h1 h2 _ =>
          obtain ⟨v, e1, e2⟩ := h2.atI e
          exact .inl (.inr (.inl ⟨_, _, i, v, rfl, rfl, (h1.monoW sf).sq, e1, q d v h e2⟩))
      · exact c.elim
    · exact h.elim
  · rename_i es k
    cases hy
    split at h
    · rename_i d e
      have key : ∀ {a : Addr} {kvs : List (Key × V)}, Rd H a (.dK kvs) → RepKV X.K F kvs es → rIxAll X.K (.ref a) (.str k) H Q := fun {a kvs} h1 h2 => by
        rcases h2.look (k := k) with ⟨e1, _⟩ | ⟨d', v, e1, e2, e3⟩
        · rw [e] at e1; cases e1
        · rw [e] at e1; cases e1
          exact .inr ⟨a, v, rfl, .inl ⟨kvs, Sum.inr k, h1, rfl, e2.symm⟩, q d v h e3⟩
      rcases hx with hx | ⟨a, rfl, fa, kvs, h1, h2⟩
      · cases hx with
        | dct h1 h2 => exact key (sf.rd h1) h2
      · exact key (.inl h1) h2
    · exact h.elim
  · exact h.elim
def mIx (ta tb : ME) : ME := fun ρ R => ta ρ fun d ρ1 => tb ρ1 fun e ρ2 => ixD d e fun c => R c ρ2
theorem g_ix (hu : X.A.units + 64 < cLine) (ha : PE X a (LE X W ta)) (hb : PE X b (LE X W tb)) (hs : PlainIx b) : PE X (.Subscript a b pos) (LE X W (mIx ta tb)) := by
  refine PEw (pe_ix (ix_all hu) ha hb hs) ?_
  rintro σ H Q ⟨Z, F, ρ, R, S, w, t, q⟩
  refine ⟨Z, F, ρ, _, S, w, t, fun d ρ1 v F1 H1 t1 sf1 S1 r1 => ?_⟩
  refine ⟨Z, F1, ρ1, _, S1, w.mono sf1, t1, fun e ρ2 u F2 H2 t2 sf2 S2 r2 => ?_⟩
  exact ix_rep S2.fh (.inl (r1.mono sf2)) r2 t2 fun c z hc rz => q c ρ2 z F2 H2 hc (sf1.trans sf2) S2 rz
/-- an item of what a name holds -/
def mIxV (i : Nat) (tb : ME) : ME := fun ρ R => match slot ρ i with
 | .un => False
 | _ => tb ρ fun e ρ1 => match slot ρ1 i with
  | .dat d => ixD d e fun c => R c ρ1
  | .own d => ixD d e fun c => R c ρ1
  | .inn _ d => ixD d e fun c => R c ρ1
  | .scr ns => match e with
    | .int k => match atI ns k with
      | some n => R (.int n) ρ1
      | none => False
    | _ => False
  | _ => False
theorem atI_map {α β : Type} (f : α → β) (l : List α) (i : Int) : atI (l.map f) i = (atI l i).map f := by
  unfold atI
  rw [List.length_map]
  cases ixN l.length i with
  | none => rfl
  | some j => simp
/-- what a slot holds that holds anything -/
theorem SlOk.val {K : PySem.W.Frag} {Z F H : Hp} {v : Option V} {s : Sl} (h : SlOk K Z F H v s) (n : s ≠ .un) : ∃ x, v = some x := by
  cases s with
  | un => exact (n rfl).elim
  | dat d => obtain ⟨x, h1, _⟩ := h; exact ⟨x, h1⟩
  | own d => obtain ⟨a, h1, _⟩ := h; exact ⟨_, h1⟩
  | inn a d => exact ⟨_, h.1⟩
  | raw x => exact ⟨_, h⟩
  | scr ns => obtain ⟨a, h1, _⟩ := h; exact ⟨_, h1⟩
theorem g_ixV {i : Nat} {p2 : Pos} (hu : X.A.units + 64 < cLine) (ha : PE X (.Name x p2) (tVar i)) (hb : PE X b (LE X W tb)) (hs : PlainIx b) : PE X (.Subscript (.Name x p2) b pos) (LE X W (mIxV i tb)) := by
  refine PEw (pe_ix (ix_all hu) ha hb hs) ?_
  rintro σ H Q ⟨Z, F, ρ, R, S, w, t, q⟩
  have t' : slot ρ i ≠ .un ∧ tb ρ fun e ρ1 => match slot ρ1 i with
      | .dat d => ixD d e fun c => R c ρ1
      | .own d => ixD d e fun c => R c ρ1
      | .inn _ d => ixD d e fun c => R c ρ1
      | .scr ns => match e with
        | .int k => match atI ns k with
          | some n => R (.int n) ρ1
          | none => False
        | _ => False
      | _ => False := by
    unfold mIxV at t
    split at t
    · exact t.elim
    · rename_i h
      exact ⟨h, t⟩
  obtain ⟨hn, t⟩ := t'
  obtain ⟨v, hv⟩ := (S.sl i _ (slot_some rfl hn)).val hn
  refine ⟨v, at_some hv, Z, F, ρ, _, S, w, t, fun e ρ1 u F1 H1 t1 sf1 S1 r1 => ?_⟩
  split at t1
  · rename_i d e'
    obtain ⟨y, e1, e2⟩ := S1.sl i _ (slot_some e' (fun q => nomatch q))
    rw [hv] at e1; cases e1
    exact ix_rep S1.fh (.inl e2) r1 t1 fun c z hc rz => q c ρ1 z F1 H1 hc sf1 S1 rz
  · rename_i d e'
    obtain ⟨a, e1, z, f, c⟩ := S1.sl i _ (slot_some e' (fun q => nomatch q))
    rw [hv] at e1; cases e1
    exact ix_rep S1.fh (.inr ⟨a, rfl, f, c⟩) r1 t1 fun c z hc rz => q c ρ1 z F1 H1 hc sf1 S1 rz
  · rename_i a d e'
    obtain ⟨e1, z, f, c⟩ := S1.sl i _ (slot_some e' (fun q => nomatch q))
    rw [hv] at e1; cases e1
    exact ix_rep S1.fh (.inr ⟨a, rfl, f, c⟩) r1 t1 fun c z hc rz => q c ρ1 z F1 H1 hc sf1 S1 rz
  · rename_i ns e'
    obtain ⟨a, e1, z⟩ := S1.sl i _ (slot_some e' (fun q => nomatch q))
    rw [hv] at e1; cases e1
    split at t1
    · rename_i k
      cases r1
      split at t1
      · rename_i n en
        exact .inl (.inl ⟨a, _, k, .int n, rfl, rfl, S1.fh.seq z, by rw [atI_map, en]; rfl, q _ ρ1 _ F1 H1 t1 sf1 S1 (.int n)⟩)
      · exact t1.elim
    · exact t1.elim
  · exact t1.elim

/-! ### slices -/
abbrev MO := Ms → (Option Int → Ms → Prop) → Prop
def lO (K : PySem.W.Frag) (mg : Str → Option Value) (W : Wish) (t : MO) : TO := fun σ H Q => ∃ Z F ρ R, Stt K Z F H σ ρ ∧ WOk mg W Z F ∧ t ρ R ∧
  ∀ o ρ' F' H', R o ρ' → Same F F' → Stt K Z F' H' σ ρ' → Q o H'
def mNo : MO := fun ρ R => R none ρ
def mPart (t : ME) : MO := fun ρ R => t ρ fun d ρ1 => match d with
  | .int i => R (some i) ρ1
  | _ => False
theorem POw {X : Cx} {e : Option Expr} {t t' : TO} (h : PO X e t) (w : ∀ σ H Q, t' σ H Q → t σ H Q) : PO X e t' := ⟨fun pins s σ H Q I q => h.run pins s σ H Q I (w σ H Q q)⟩
theorem go_none : PO X none (lO X.K X.mg W mNo) := by
  refine POw po_none ?_
  rintro σ H Q ⟨Z, F, ρ, R, S, w, t, q⟩
  exact q none ρ F H t (Same.refl _) S
theorem go_some (h : PE X e (LE X W te)) : PO X (some e) (lO X.K X.mg W (mPart te)) := by
  refine POw (po_some h) ?_
  rintro σ H Q ⟨Z, F, ρ, R, S, w, t, q⟩
  refine ⟨Z, F, ρ, _, S, w, t, fun d ρ1 v F1 H1 t1 sf1 S1 r1 => ?_⟩
  cases r1 with
  | int i => exact ⟨i, rfl, q (some i) ρ1 F1 H1 t1 sf1 S1⟩
  | _ => exact t1.elim
def cutD (ds : List PyData) (lo hi : Option Int) : List PyData := (ds.drop (HT.sIx ds.length 0 lo)).take (HT.sIx ds.length ds.length hi - HT.sIx ds.length 0 lo)
theorem cut_le {ds : List PyData} {lo hi : Option Int} (h : ds.length ≤ sizeLine) : (cutD ds lo hi).length ≤ sizeLine := by
  unfold cutD
  rw [List.length_take, List.length_drop]
  omega
def slD : PyData → Option Int → Option Int → (PyData → Prop) → Prop
  | .list ds, lo, hi, R => R (.list (cutD ds lo hi))
  | .tuple ds, lo, hi, R => R (.tuple (cutD ds lo hi))
  | _, _, _, _ => False
def mSl (te : ME) (tl th : MO) : ME := fun ρ R => te ρ fun d ρ1 => tl ρ1 fun l ρ2 => th ρ2 fun u ρ3 => slD d l u fun c => R c ρ3
theorem RepAll.cut {K : PySem.W.Frag} {H : Hp} {vs : List V} {ds : List PyData} (h : RepAll K H vs ds) (lo hi : Option Int) : RepAll K H (cutV vs lo hi) (cutD ds lo hi) := by
  unfold cutV cutD
  rw [h.length]
  exact (h.drop _).take _
theorem g_sl {lo hi : Option Expr} {tl th : MO} {p2 : Pos} (he : PE X e (LE X W te)) (hl : PO X lo (lO X.K X.mg W tl)) (hh : PO X hi (lO X.K X.mg W th)) : PE X (.Subscript e (.Slice lo hi none p2) pos) (LE X W (mSl te tl th)) := by
  refine PEw (pe_slice (SlR.or sl_list sl_tupP) he hl hh) ?_
  rintro σ H Q ⟨Z, F, ρ, R, S, w, t, q⟩
  refine ⟨Z, F, ρ, _, S, w, t, fun d ρ1 v F1 H1 t1 sf1 S1 r1 => ?_⟩
  refine ⟨Z, F1, ρ1, _, S1, w.mono sf1, t1, fun l ρ2 F2 H2 t2 sf2 S2 => ?_⟩
  refine ⟨Z, F2, ρ2, _, S2, (w.mono sf1).mono sf2, t2, fun u ρ3 F3 H3 t3 sf3 S3 => ?_⟩
  have r3 := r1.mono (sf2.trans sf3)
  have sf := sf1.trans (sf2.trans sf3)
  cases r3 with
  | @lst a xs ds h1 h2 h3 =>
    refine .inl ⟨a, xs, rfl, SqL.of (S3.fh.lst h1), fun p hp => ?_⟩
    have sn : Same F3 (upd F3 p (.lst (cutV xs l u))) := same_upd (S3.fh.free hp)
    exact q _ ρ3 _ _ _ t3 (sf.trans sn) (S3.new _ hp) (.lst upd_same ((h2.cut l u).mono sn) (cut_le h3))
  | @tup a xs ds h1 h2 h3 =>
    refine .inr ⟨a, xs, rfl, (h1.monoW S3.fh).sq, fun hw => ?_, fun hw p o hp ho => ?_⟩
    · have e : cutD ds l u = ds := by
        unfold cutD
        rw [h2.length] at hw
        rw [hw.1, hw.2, List.drop_zero, Nat.sub_zero, List.take_length]
      have t3 : R (.tuple (cutD ds l u)) ρ3 := t3
      rw [e] at t3
      exact q _ ρ3 _ _ _ t3 sf S3 (.tup h1 h2 h3)
    · have sn : Same F3 (upd F3 p (.frz o (.tup (cutV xs l u)))) := same_upd (S3.fh.free hp)
      exact q _ ρ3 _ _ _ t3 (sf.trans sn) (S3.new _ hp) (.tup (.inl ⟨o, upd_same, ho⟩) ((h2.cut l u).mono sn) (cut_le h3))
  | _ => exact t3.elim

/-! ### -a, a is None, chains -/
def mNeg (t : ME) : ME := fun ρ R => t ρ fun d ρ1 => match d with
  | .int i => R (.int (-i)) ρ1
  | _ => False
theorem g_neg (h : PE X a (LE X W ta)) : PE X (.UnaryOp .USub a pos) (LE X W (mNeg ta)) := by
  refine PEw (pe_un un_neg h) ?_
  rintro σ H Q ⟨Z, F, ρ, R, S, w, t, q⟩
  refine ⟨Z, F, ρ, _, S, w, t, fun d ρ1 v F1 H1 t1 sf1 S1 r1 => ?_⟩
  cases r1 with
  | int i => exact ⟨i, rfl, q _ ρ1 _ F1 H1 t1 sf1 S1 (.int _)⟩
  | _ => exact t1.elim
def isNoneD : PyData → Bool
  | .none => true
  | _ => false
def mIsN (t : ME) : ME := fun ρ R => t ρ fun d ρ1 => R (.bool (isNoneD d)) ρ1
def mNotN (t : ME) : ME := fun ρ R => t ρ fun d ρ1 => R (.bool (!isNoneD d)) ρ1
theorem Rep.isNone {K : PySem.W.Frag} {H : Hp} {v : V} {d : PyData} (r : Rep K H v d) : decide (v = .non) = isNoneD d := by
  cases r <;> rfl
theorem g_isN {j pos'} (h : PE X a (LE X W ta)) : PE X (.Compare a [.Is] [.Constant .none j pos'] pos) (LE X W (mIsN ta)) := by
  refine PEw (pe_cmp (pc_isN h) rfl) ?_
  rintro σ H Q ⟨Z, F, ρ, R, S, w, t, q⟩
  refine ⟨Z, F, ρ, _, S, w, t, fun d ρ1 v F1 H1 t1 sf1 S1 r1 => ?_⟩
  dsimp only
  rw [r1.isNone]
  exact q _ ρ1 _ F1 H1 t1 sf1 S1 (.bl _)
theorem g_notN {j pos'} (h : PE X a (LE X W ta)) : PE X (.Compare a [.IsNot] [.Constant .none j pos'] pos) (LE X W (mNotN ta)) := by
  refine PEw (pe_cmp (pc_notN h) rfl) ?_
  rintro σ H Q ⟨Z, F, ρ, R, S, w, t, q⟩
  refine ⟨Z, F, ρ, _, S, w, t, fun d ρ1 v F1 H1 t1 sf1 S1 r1 => ?_⟩
  dsimp only
  rw [r1.isNone]
  exact q _ ρ1 _ F1 H1 t1 sf1 S1 (.bl _)
/-- a test of one comparison with None -/
theorem gt_isN {j pos'} (h : PE X a (LE X W ta)) : PT X (.Compare a [.Is] [.Constant .none j pos'] pos) (LB X W (mT (mIsN ta))) := by
  refine PTw (pt_cmp (pc_isN h) rfl) ?_
  rintro σ H Q ⟨Z, F, ρ, R, S, w, t, q⟩
  refine ⟨Z, F, ρ, _, S, w, t, fun d ρ1 v F1 H1 t1 sf1 S1 r1 => ?_⟩
  dsimp only
  rw [r1.isNone]
  exact ⟨_, rfl, q _ ρ1 F1 H1 t1 sf1 S1⟩
theorem gt_notN {j pos'} (h : PE X a (LE X W ta)) : PT X (.Compare a [.IsNot] [.Constant .none j pos'] pos) (LB X W (mT (mNotN ta))) := by
  refine PTw (pt_cmp (pc_notN h) rfl) ?_
  rintro σ H Q ⟨Z, F, ρ, R, S, w, t, q⟩
  refine ⟨Z, F, ρ, _, S, w, t, fun d ρ1 v F1 H1 t1 sf1 S1 r1 => ?_⟩
  dsimp only
  rw [r1.isNone]
  exact ⟨_, rfl, q _ ρ1 F1 H1 t1 sf1 S1⟩
/-- a < b < c, whole numbers -/
def chainR (X : Cx) (op : CmpOp) (f : PyData → PyData → (Bool → Prop) → Prop) : Prop := ∃ r : R2, OpR X (compareOp op) r ∧
  ∀ (H : Hp) (x y : V) (d e : PyData) (R : Bool → Prop) (Q : VK), Rep X.K H x d → Rep X.K H y e → f d e R → (∀ b, R b → Q (.bl b) H) → r x y H Q
theorem ch_le : chainR X .LtE leD := ⟨_, op_le, fun H x y d e R Q r1 r2 hf q => by
  cases r1 <;> cases r2 <;> first | exact ⟨_, _, rfl, rfl, q _ hf⟩ | exact hf.elim⟩
theorem ch_lt : chainR X .Lt ltD := ⟨_, OpR.or op_lt op_lt_str, fun H x y d e R Q r1 r2 hf q => by
  cases r1 <;> cases r2 <;> first | exact .inl ⟨_, _, rfl, rfl, q _ hf⟩ | exact .inr ⟨_, _, rfl, rfl, q _ hf⟩ | exact hf.elim⟩
def mChain (f g : PyData → PyData → (Bool → Prop) → Prop) (ta tb tc : ME) : ME := fun ρ R => ta ρ fun d ρ1 => tb ρ1 fun e ρ2 => f d e fun k =>
  if k = true then tc ρ2 fun c ρ3 => g e c fun k2 => R (.bool k2) ρ3 else R (.bool false) ρ2
variable {c : Expr} {tc : ME}
theorem g_chain {op op' : CmpOp} {f g : PyData → PyData → (Bool → Prop) → Prop} (h : chainR X op f) (h' : chainR X op' g) (ha : PE X a (LE X W ta)) (hb : PE X b (LE X W tb)) (hc : PE X c (LE X W tc))
    (hm : lastMarks [op, op'] [b, c] = false := by with_unfolding_all rfl) : PE X (.Compare a [op, op'] [b, c] pos) (LE X W (mChain f g ta tb tc)) := by
  obtain ⟨r, hr, kr⟩ := h
  obtain ⟨r', hr', kr'⟩ := h'
  refine PEw (pe_chain hr hr' ha hb hc hm) ?_
  rintro σ H Q ⟨Z, F, ρ, R, S, w, t, q⟩
  refine ⟨Z, F, ρ, _, S, w, t, fun d ρ1 x F1 H1 t1 sf1 S1 r1 => ?_⟩
  refine ⟨Z, F1, ρ1, _, S1, w.mono sf1, t1, fun e ρ2 y F2 H2 t2 sf2 S2 r2 => ?_⟩
  refine kr H2 x y d e _ _ ((r1.mono sf2).monoW S2.fh) (r2.monoW S2.fh) t2 fun k hk => ⟨k, rfl, ?_⟩
  cases k with
  | true =>
    rw [if_pos rfl] at hk ⊢
    refine ⟨Z, F2, ρ2, _, S2, (w.mono sf1).mono sf2, hk, fun c ρ3 z F3 H3 t3 sf3 S3 r3 => ?_⟩
    exact kr' H3 y z e c _ _ ((r2.mono sf3).monoW S3.fh) (r3.monoW S3.fh) t3 fun k2 hk2 => q _ ρ3 _ F3 H3 hk2 (sf1.trans (sf2.trans sf3)) S3 (.bl k2)
  | false =>
    rw [if_neg Bool.false_ne_true] at hk ⊢
    exact q _ ρ2 _ F2 H2 hk (sf1.trans sf2) S2 (.bl false)
theorem gt_chain {op op' : CmpOp} {f g : PyData → PyData → (Bool → Prop) → Prop} (h : chainR X op f) (h' : chainR X op' g) (ha : PE X a (LE X W ta)) (hb : PE X b (LE X W tb)) (hc : PE X c (LE X W tc))
    (hm : lastMarks [op, op'] [b, c] = false := by with_unfolding_all rfl) : PT X (.Compare a [op, op'] [b, c] pos) (LB X W (mT (mChain f g ta tb tc))) := by
  obtain ⟨r, hr, kr⟩ := h
  obtain ⟨r', hr', kr'⟩ := h'
  refine PTw (pt_chain hr hr' ha hb hc hm) ?_
  rintro σ H Q ⟨Z, F, ρ, R, S, w, t, q⟩
  refine ⟨Z, F, ρ, _, S, w, t, fun d ρ1 x F1 H1 t1 sf1 S1 r1 => ?_⟩
  refine ⟨Z, F1, ρ1, _, S1, w.mono sf1, t1, fun e ρ2 y F2 H2 t2 sf2 S2 r2 => ?_⟩
  refine kr H2 x y d e _ _ ((r1.mono sf2).monoW S2.fh) (r2.monoW S2.fh) t2 fun k hk => ⟨k, rfl, ?_⟩
  cases k with
  | true =>
    rw [if_pos rfl] at hk ⊢
    refine ⟨Z, F2, ρ2, _, S2, (w.mono sf1).mono sf2, hk, fun c ρ3 z F3 H3 t3 sf3 S3 r3 => ?_⟩
    exact kr' H3 y z e c _ _ ((r2.mono sf3).monoW S3.fh) (r3.monoW S3.fh) t3 fun k2 hk2 => ⟨k2, rfl, q _ ρ3 F3 H3 hk2 (sf1.trans (sf2.trans sf3)) S3⟩
  | false =>
    rw [if_neg Bool.false_ne_true] at hk ⊢
    exact ⟨false, rfl, q _ ρ2 F2 H2 hk (sf1.trans sf2) S2⟩
end
end G


set_option Elab.async false
set_option maxRecDepth 100000
set_option maxHeartbeats 1000000
/-! GV5: calls of what is built in. -/
namespace G
open PySem PySem.Spec PyProof.Rows L2
/-- one argument (data or a container by itself), the answer is data -/
def CallG (X : Cx) (f : Value) (g : PyData → (PyData → Prop) → Prop) : Prop :=
  ∀ (pins : List (Addr × Obj)) (s : Shared) (σ : L2.St) (Z F H : Hp) (ρ : Ms) (x : V) (u : Value) (d : PyData) (R : PyData → Prop) (Q : VK),
    Inv X pins σ H s → Stt X.K Z F H σ ρ → RepC X.K F H x d → RelV x u → g d R →
    (∀ c z F' H', R c → Same F F' → Stt X.K Z F' H' σ ρ → Rep X.K F' z c → Q z H') → wpAny (model X.prog X.w) X.A (call f [u]) (EP X pins σ Q) X.xe s
/-- .. the answer is a new container -/
def CallN (X : Cx) (f : Value) (g : PyData → (PyData → Prop) → Prop) : Prop :=
  ∀ (pins : List (Addr × Obj)) (s : Shared) (σ : L2.St) (Z F H : Hp) (ρ : Ms) (x : V) (u : Value) (d : PyData) (R : PyData → Prop) (Q : VK),
    Inv X pins σ H s → Stt X.K Z F H σ ρ → RepC X.K F H x d → RelV x u → g d R →
    (∀ c a F' H', R c → Same F F' → Stt X.K Z F' H' σ ρ → F' a = none → Z a = none → Cont X.K F' H' a c → (∀ i s, ρ[i]? = some s → ¬ mutA (at_ σ i) s a) → Q (.ref a) H') →
    wpAny (model X.prog X.w) X.A (call f [u]) (EP X pins σ Q) X.xe s
/-- some arguments, data -/
def CallM (X : Cx) (f : Value) (g : List PyData → (PyData → Prop) → Prop) : Prop :=
  ∀ (pins : List (Addr × Obj)) (s : Shared) (σ : L2.St) (Z F H : Hp) (ρ : Ms) (xs : List V) (us : List Value) (ds : List PyData) (R : PyData → Prop) (Q : VK),
    Inv X pins σ H s → Stt X.K Z F H σ ρ → RepAll X.K F xs ds → Vals xs us → g ds R →
    (∀ c z F' H', R c → Same F F' → Stt X.K Z F' H' σ ρ → Rep X.K F' z c → Q z H') → wpAny (model X.prog X.w) X.A (call f us) (EP X pins σ Q) X.xe s
def mCall1 (g : PyData → (PyData → Prop) → Prop) (t : ME) : ME := fun ρ R => t ρ fun d ρ1 => g d fun c => R c ρ1
def mCallM (g : List PyData → (PyData → Prop) → Prop) (t : MA) : ME := fun ρ R => t ρ fun ds ρ1 => g ds fun c => R c ρ1
section
variable {X : Cx} {W : Wish} {pos p : Pos} {x : Str} {e : Expr} {es : List Expr} {te : ME} {t : MA} {n : Nat} {id T : String} {g : PyData → (PyData → Prop) → Prop} {gm : List PyData → (PyData → Prop) → Prop}
theorem run1 {f : Value} (hc : CallG X f g) {pins : List (Addr × Obj)} {σ : L2.St} {H : Hp} {s : Shared} {Q : VK} (he : PE X e (LC X W te)) (I : Inv X pins σ H s) (h : LE X W (mCall1 g te) σ H Q)
    (hs : starEach [e] X.env = (false, eval e X.env) :: starEach [] X.env) : wpAny (model X.prog X.w) X.A (spliced (backTo pos (starEach [e] X.env))) (fun us s1 => wpAny (model X.prog X.w) X.A (call f us) (EP X pins σ Q) X.xe s1) X.xe s := by
  obtain ⟨Z, F, ρ, R, S, w, t, q⟩ := h
  refine thn ((pa_cons he pa_nil hs).run pos pins s σ H (fun vs H1 => ∃ F1 ρ1 d v, vs = [v] ∧ Same F F1 ∧ Stt X.K Z F1 H1 σ ρ1 ∧ RepC X.K F1 H1 v d ∧ g d fun c => R c ρ1) I ?_) fun us s1 ⟨vs, H1, I1, r1, F1, ρ1, d, v, ev, sf1, S1, rc, t1⟩ => ?_
  · exact ⟨Z, F, ρ, _, S, w, t, fun d ρ1 v F1 H1 t1 sf1 S1 r1 => ⟨F1, ρ1, d, v, rfl, sf1, S1, r1, t1⟩⟩
  · subst ev
    obtain ⟨u, rfl, ru⟩ := vals1 r1
    exact hc pins s1 σ Z F1 H1 ρ1 v u d _ Q I1 S1 rc ru t1 fun c z F' H' hc sf' S' rz => q c ρ1 z F' H' hc (sf1.trans sf') S' rz
theorem run1N {f : Value} (hc : CallN X f g) {pins : List (Addr × Obj)} {σ : L2.St} {H : Hp} {s : Shared} {Q : VK} (he : PE X e (LC X W te)) (I : Inv X pins σ H s) (h : LN X W (mCall1 g te) σ H Q)
    (hs : starEach [e] X.env = (false, eval e X.env) :: starEach [] X.env) : wpAny (model X.prog X.w) X.A (spliced (backTo pos (starEach [e] X.env))) (fun us s1 => wpAny (model X.prog X.w) X.A (call f us) (EP X pins σ Q) X.xe s1) X.xe s := by
  obtain ⟨Z, F, ρ, R, S, w, t, q⟩ := h
  refine thn ((pa_cons he pa_nil hs).run pos pins s σ H (fun vs H1 => ∃ F1 ρ1 d v, vs = [v] ∧ Same F F1 ∧ Stt X.K Z F1 H1 σ ρ1 ∧ RepC X.K F1 H1 v d ∧ g d fun c => R c ρ1) I ?_) fun us s1 ⟨vs, H1, I1, r1, F1, ρ1, d, v, ev, sf1, S1, rc, t1⟩ => ?_
  · exact ⟨Z, F, ρ, _, S, w, t, fun d ρ1 v F1 H1 t1 sf1 S1 r1 => ⟨F1, ρ1, d, v, rfl, sf1, S1, r1, t1⟩⟩
  · subst ev
    obtain ⟨u, rfl, ru⟩ := vals1 r1
    exact hc pins s1 σ Z F1 H1 ρ1 v u d _ Q I1 S1 rc ru t1 fun c a F' H' hc sf' S' fa za ct aw => q c ρ1 a F' H' hc (sf1.trans sf') S' fa za ct aw
theorem g_b1 (hc : CallG X (.builtin id) g) (hg : Gl X x) (hm : X.mg x = none) (hv : bootBuiltins x = some (.builtin id)) (he : PE X e (LC X W te)) (hn : x ≠ "__name__" := by decide) (hdb : (x == ("__debug__" : Str)) = false := by decide)
    (hs : starEach [e] X.env = (false, eval e X.env) :: starEach [] X.env := by rfl) (hpl : (backTo pos (starEach [] X.env)).any (·.1) = false := by rfl) : PE X (.Call (.Name x p) [e] [] pos) (LE X W (mCall1 g te)) := by
  refine ⟨fun pins s σ H Q I h => ?_⟩
  refine wpAny_Call_Name_kw (ld_blt I hg hm hv ?_ hn hdb)
  exact PyProof.Rows.callWith_builtin1 (run1 hc he I h hs) hs hpl
theorem g_t1 (hc : CallG X (.type T) g) (hg : Gl X x) (hm : X.mg x = none) (hv : bootBuiltins x = some (.type T)) (he : PE X e (LC X W te)) (hn : x ≠ "__name__" := by decide) (hdb : (x == ("__debug__" : Str)) = false := by decide)
    (hs : starEach [e] X.env = (false, eval e X.env) :: starEach [] X.env := by rfl) (hpl : (backTo pos (starEach [] X.env)).any (·.1) = false := by rfl) : PE X (.Call (.Name x p) [e] [] pos) (LE X W (mCall1 g te)) := by
  refine ⟨fun pins s σ H Q I h => ?_⟩
  refine wpAny_Call_Name_kw (ld_blt I hg hm hv ?_ hn hdb)
  exact PyProof.Rows.callWith_type1 (run1 hc he I h hs) hs hpl
theorem gn_b1 (hc : CallN X (.builtin id) g) (hg : Gl X x) (hm : X.mg x = none) (hv : bootBuiltins x = some (.builtin id)) (he : PE X e (LC X W te)) (hn : x ≠ "__name__" := by decide) (hdb : (x == ("__debug__" : Str)) = false := by decide)
    (hs : starEach [e] X.env = (false, eval e X.env) :: starEach [] X.env := by rfl) (hpl : (backTo pos (starEach [] X.env)).any (·.1) = false := by rfl) : PE X (.Call (.Name x p) [e] [] pos) (LN X W (mCall1 g te)) := by
  refine ⟨fun pins s σ H Q I h => ?_⟩
  refine wpAny_Call_Name_kw (ld_blt I hg hm hv ?_ hn hdb)
  exact PyProof.Rows.callWith_builtin1 (run1N hc he I h hs) hs hpl
theorem gn_t1 (hc : CallN X (.type T) g) (hg : Gl X x) (hm : X.mg x = none) (hv : bootBuiltins x = some (.type T)) (he : PE X e (LC X W te)) (hn : x ≠ "__name__" := by decide) (hdb : (x == ("__debug__" : Str)) = false := by decide)
    (hs : starEach [e] X.env = (false, eval e X.env) :: starEach [] X.env := by rfl) (hpl : (backTo pos (starEach [] X.env)).any (·.1) = false := by rfl) : PE X (.Call (.Name x p) [e] [] pos) (LN X W (mCall1 g te)) := by
  refine ⟨fun pins s σ H Q I h => ?_⟩
  refine wpAny_Call_Name_kw (ld_blt I hg hm hv ?_ hn hdb)
  exact PyProof.Rows.callWith_type1 (run1N hc he I h hs) hs hpl
theorem g_bm (hc : CallM X (.builtin id) gm) (hg : Gl X x) (hm : X.mg x = none) (hv : bootBuiltins x = some (.builtin id)) (ha : PA X (e :: es) (LA X W n t)) (hn : x ≠ "__name__" := by decide) (hdb : (x == ("__debug__" : Str)) = false := by decide)
    (hs : starEach (e :: es) X.env = (false, eval e X.env) :: starEach es X.env := by rfl) (hpl : (backTo pos (starEach es X.env)).any (·.1) = false := by rfl) : PE X (.Call (.Name x p) (e :: es) [] pos) (LE X W (mCallM gm t)) := by
  refine ⟨fun pins s σ H Q I h => ?_⟩
  refine wpAny_Call_Name_kw (ld_blt I hg hm hv ?_ hn hdb)
  obtain ⟨Z, F, ρ, R, S, w, t, q⟩ := h
  refine PyProof.Rows.callWith_builtin1 (thn (ha.run pos pins s σ H (fun vs H1 => ∃ F1 ρ1 ds, Same F F1 ∧ Stt X.K Z F1 H1 σ ρ1 ∧ RepAll X.K F1 vs ds ∧ gm ds fun c => R c ρ1) I ?_) fun us s1 ⟨vs, H1, I1, r1, F1, ρ1, ds, sf1, S1, rc, t1⟩ => ?_) hs hpl
  · exact ⟨Z, F, ρ, _, S, w, t, fun ds ρ1 vs F1 H1 t1 sf1 S1 r1 _ => ⟨F1, ρ1, ds, sf1, S1, r1, t1⟩⟩
  · exact hc pins s1 σ Z F1 H1 ρ1 vs us ds _ Q I1 S1 rc r1 t1 fun c z F' H' hc sf' S' rz => q c ρ1 z F' H' hc (sf1.trans sf') S' rz

/-! ### what they do -/
theorem RepC.cases {K : PySem.W.Frag} {F H : Hp} {v : V} {d : PyData} (h : RepC K F H v d) (sf : SameW F H) :
    (∃ a xs ds, v = .ref a ∧ d = .list ds ∧ H a = some (.lst xs) ∧ RepAll K F xs ds ∧ ds.length ≤ sizeLine) ∨ (∃ a kvs es, v = .ref a ∧ d = .dict es ∧ Rd H a (.dK kvs) ∧ RepKV K F kvs es) ∨ (Rep K F v d ∧ (∀ ds, d ≠ .list ds) ∧ ∀ es, d ≠ .dict es) := by
  rcases h with h | ⟨a, rfl, fa, c⟩
  · cases h with
    | lst h1 h2 h3 => exact .inl ⟨_, _, _, rfl, rfl, sf.lst h1, h2, h3⟩
    | dct h1 h2 => exact .inr (.inl ⟨_, _, _, rfl, rfl, sf.rd h1, h2⟩)
    | non => exact .inr (.inr ⟨.non, (fun _ q => nomatch q), fun _ q => nomatch q⟩)
    | bl b => exact .inr (.inr ⟨.bl b, (fun _ q => nomatch q), fun _ q => nomatch q⟩)
    | int b => exact .inr (.inr ⟨.int b, (fun _ q => nomatch q), fun _ q => nomatch q⟩)
    | str b => exact .inr (.inr ⟨.str b, (fun _ q => nomatch q), fun _ q => nomatch q⟩)
    | tup h1 h2 h3 => exact .inr (.inr ⟨.tup h1 h2 h3, (fun _ q => nomatch q), fun _ q => nomatch q⟩)
  · cases d with
    | list ds => obtain ⟨xs, h1, h2, h3⟩ := c; exact .inl ⟨a, xs, ds, rfl, rfl, h1, h2, h3⟩
    | dict es => obtain ⟨kvs, h1, h2⟩ := c; exact .inr (.inl ⟨a, kvs, es, rfl, rfl, .inl h1, h2⟩)
    | _ => exact c.elim
/-- from a rule that says of one value what it is -/
theorem callG_of {f : Value} {r : List V → Hp → VK → Prop} (hc : CallR X f r)
    (h : ∀ (Z F H : Hp) (σ : L2.St) (ρ : Ms) (x : V) (d : PyData) (R : PyData → Prop) (Q : VK), Stt X.K Z F H σ ρ → RepC X.K F H x d → g d R →
      (∀ c z F' H', R c → Same F F' → Stt X.K Z F' H' σ ρ → Rep X.K F' z c → Q z H') → r [x] H Q) : CallG X f g := by
  intro pins s σ Z F H ρ x u d R Q I S rx rv hg q
  exact hc pins s σ H [x] [u] Q I (.cons rv .nil) (h Z F H σ ρ x d R Q S rx hg q)
def lenD : PyData → (PyData → Prop) → Prop
  | .list ds, R => R (.int ds.length)
  | .tuple ds, R => R (.int ds.length)
  | .dict ds, R => R (.int ds.length)
  | .str z, R => z.length ≤ sizeLine ∧ R (.int z.length)
  | _, _ => False
theorem call_lenR : CallR X (.builtin "len") (fun xs H Q => ∃ a kvs, xs = [V.ref a] ∧ Rd H a (.dK kvs) ∧ Q (.int kvs.length) H) := by
  intro pins s σ H xs us Q I r h
  obtain ⟨a, kvs, rfl, ha, q⟩ := h
  obtain ⟨u, rfl, ru⟩ := vals1 r
  cases ru
  exact d_len I ha fun t s' I' => ⟨.int kvs.length, H, I', ⟨t, rfl⟩, q⟩
theorem cg_len : CallG X (.builtin "len") lenD := by
  refine callG_of (CallR.or call_len_seq (CallR.or call_len_str call_lenR)) fun Z F H σ ρ x d R Q S rx hg q => ?_
  rcases rx.cases S.fh with ⟨a, xs, ds, rfl, rfl, h1, h2, h3⟩ | ⟨a, kvs, es, rfl, rfl, h1, h2⟩ | ⟨r, n1, n2⟩
  · exact .inl ⟨a, xs, rfl, .inl (SqL.of h1), by rw [h2.length]; exact q _ _ F H hg (Same.refl _) S (.int _)⟩
  · exact .inr (.inr ⟨a, kvs, rfl, h1, by rw [h2.length]; exact q _ _ F H hg (Same.refl _) S (.int _)⟩)
  · cases r with
    | tup h1 h2 h3 => exact .inl ⟨_, _, rfl, .inr (h1.monoW S.fh).sq, by rw [h2.length]; exact q _ _ F H hg (Same.refl _) S (.int _)⟩
    | str z => exact .inr (.inl ⟨z, rfl, hg.1, q _ _ F H hg.2 (Same.refl _) S (.int _)⟩)
    | lst h1 h2 h3 => exact (n1 _ rfl).elim
    | dct h1 h2 => exact (n2 _ rfl).elim
    | _ => exact hg.elim
def absD : PyData → (PyData → Prop) → Prop
  | .int i, R => R (.int (if i < 0 then -i else i))
  | _, _ => False
theorem cg_abs : CallG X (.builtin "abs") absD := by
  refine callG_of call_abs fun Z F H σ ρ x d R Q S rx hg q => ?_
  rcases rx.cases S.fh with ⟨a, xs, ds, rfl, rfl, h1, h2, h3⟩ | ⟨a, kvs, es, rfl, rfl, h1, h2⟩ | ⟨r, n1, n2⟩
  · exact hg.elim
  · exact hg.elim
  · cases r with
    | int i => exact ⟨i, rfl, q _ _ F H hg (Same.refl _) S (.int _)⟩
    | _ => exact hg.elim
def intD : PyData → (PyData → Prop) → Prop
  | .int i, R => R (.int i)
  | .bool b, R => R (.int (if b then 1 else 0))
  | _, _ => False
theorem cg_int : CallG X (.type "int") intD := by
  refine callG_of call_int1 fun Z F H σ ρ x d R Q S rx hg q => ?_
  rcases rx.cases S.fh with ⟨a, xs, ds, rfl, rfl, h1, h2, h3⟩ | ⟨a, kvs, es, rfl, rfl, h1, h2⟩ | ⟨r, n1, n2⟩
  · exact hg.elim
  · exact hg.elim
  · cases r with
    | int i => exact .inl ⟨i, rfl, q _ _ F H hg (Same.refl _) S (.int _)⟩
    | bl b => exact .inr ⟨b, rfl, q _ _ F H hg (Same.refl _) S (.int _)⟩
    | _ => exact hg.elim
/-- sum of whole numbers, all of truths -/
def sumD (d : PyData) (R : PyData → Prop) : Prop := ∃ ns : List Int, d = .list (ns.map PyData.int) ∧ R (.int ns.sum)
theorem cg_sum (hc : X.calm = true) : CallG X (.builtin "sum") sumD := by
  refine callG_of (cr_sum hc) fun Z F H σ ρ x d R Q S rx hg q => ?_
  obtain ⟨ns, rfl, hr⟩ := hg
  rcases rx.cases S.fh with ⟨a, xs, ds, rfl, e, h1, h2, h3⟩ | ⟨a, kvs, es, rfl, e, h1, h2⟩ | ⟨r, n1, n2⟩
  · cases e
    rw [h2.ints_of] at h1
    exact ⟨a, ns, rfl, SqL.of h1, q _ _ F H hr (Same.refl _) S (.int _)⟩
  · cases e
  · exact (n1 _ rfl).elim
def allD (d : PyData) (R : PyData → Prop) : Prop := ∃ ns : List Bool, d = .list (ns.map PyData.bool) ∧ R (.bool (ns.all fun b => b))
theorem cg_all (hc : X.calm = true) : CallG X (.builtin "all") allD := by
  refine callG_of (cr_all hc) fun Z F H σ ρ x d R Q S rx hg q => ?_
  obtain ⟨ns, rfl, hr⟩ := hg
  rcases rx.cases S.fh with ⟨a, xs, ds, rfl, e, h1, h2, h3⟩ | ⟨a, kvs, es, rfl, e, h1, h2⟩ | ⟨r, n1, n2⟩
  · cases e
    rw [h2.bls_of] at h1
    exact ⟨a, ns, rfl, SqL.of h1, q _ _ F H hr (Same.refl _) S (.bl _)⟩
  · cases e
  · exact (n1 _ rfl).elim
def tupD : PyData → (PyData → Prop) → Prop
  | .list ds, R => R (.tuple ds)
  | .tuple ds, R => R (.tuple ds)
  | _, _ => False
theorem cg_tuple : CallG X (.type "tuple") tupD := by
  refine callG_of call_tupleP fun Z F H σ ρ x d R Q S rx hg q => ?_
  rcases rx.cases S.fh with ⟨a, xs, ds, rfl, rfl, h1, h2, h3⟩ | ⟨a, kvs, es, rfl, rfl, h1, h2⟩ | ⟨r, n1, n2⟩
  · refine ⟨a, xs, rfl, .inl ⟨SqL.of h1, fun p o hp ho => ?_⟩⟩
    have sf : Same F (upd F p (.frz o (.tup xs))) := same_upd (S.fh.free hp)
    exact q _ _ _ _ hg sf (S.new _ hp) (.tup (.inl ⟨o, upd_same, ho⟩) (h2.mono sf) h3)
  · exact hg.elim
  · cases r with
    | tup h1 h2 h3 => exact ⟨_, _, rfl, .inr ⟨(h1.monoW S.fh).sq, q _ _ F H hg (Same.refl _) S (.tup h1 h2 h3)⟩⟩
    | lst h1 h2 h3 => exact (n1 _ rfl).elim
    | _ => exact hg.elim
def listD : PyData → (PyData → Prop) → Prop
  | .list ds, R => R (.list ds)
  | .tuple ds, R => R (.list ds)
  | _, _ => False
theorem cn_list : CallN X (.type "list") listD := by
  intro pins s σ Z F H ρ x u d R Q I S rx rv hg q
  rcases rx.cases S.fh with ⟨a, xs, ds, rfl, rfl, h1, h2, h3⟩ | ⟨a, kvs, es, rfl, rfl, h1, h2⟩ | ⟨r, n1, n2⟩
  · refine call_list_of pins s σ H [_] [u] Q I (.cons rv .nil) ⟨a, xs, rfl, .inl (SqL.of h1), fun l hl => ?_⟩
    exact q _ l F _ hg (Same.refl _) (S.lay _ hl) (S.fh.free hl) (S.zh.free hl) ⟨xs, upd_same, h2, h3⟩ (S.newAway hl)
  · exact hg.elim
  · cases r with
    | tup h1 h2 h3 =>
      refine call_list_of pins s σ H [_] [u] Q I (.cons rv .nil) ⟨_, _, rfl, .inr (h1.monoW S.fh).sq, fun l hl => ?_⟩
      exact q _ l F _ hg (Same.refl _) (S.lay _ hl) (S.fh.free hl) (S.zh.free hl) ⟨_, upd_same, h2, h3⟩ (S.newAway hl)
    | lst h1 h2 h3 => exact (n1 _ rfl).elim
    | _ => exact hg.elim
/-- two whole numbers -/
def max2D : List PyData → (PyData → Prop) → Prop
  | [.int i, .int j], R => R (.int (if j > i then j else i))
  | _, _ => False
def min2D : List PyData → (PyData → Prop) → Prop
  | [.int i, .int j], R => R (.int (if j < i then j else i))
  | _, _ => False
theorem ii_of {K : PySem.W.Frag} {H : Hp} {xs : List V} {i j : Int} (r : RepAll K H xs [.int i, .int j]) : xs = [.int i, .int j] := by
  cases r with
  | cons a b =>
    cases a
    cases b with
    | cons a b => cases a; cases b; rfl
theorem cm_max2 (hc : X.calm = true) : CallM X (.builtin "max") max2D := by
  intro pins s σ Z F H ρ xs us ds R Q I S rx rv hg q
  unfold max2D at hg
  split at hg
  · rename_i i j
    rw [ii_of rx] at rv
    exact call_max2 hc pins s σ H _ us Q I rv ⟨i, j, rfl, q _ _ F H hg (Same.refl _) S (.int _)⟩
  · exact hg.elim
theorem cm_min2 (hc : X.calm = true) : CallM X (.builtin "min") min2D := by
  intro pins s σ Z F H ρ xs us ds R Q I S rx rv hg q
  unfold min2D at hg
  split at hg
  · rename_i i j
    rw [ii_of rx] at rv
    exact call_min2 hc pins s σ H _ us Q I rv ⟨i, j, rfl, q _ _ F H hg (Same.refl _) S (.int _)⟩
  · exact hg.elim
/-- isinstance of a class that is built in -/
def tyD : PyData → String
  | .none => "NoneType"
  | .bool _ => "bool"
  | .int _ => "int"
  | .str _ => "str"
  | .list _ => "list"
  | .tuple _ => "tuple"
  | .dict _ => "dict"
theorem Rep.tyx {K : PySem.W.Frag} {H : Hp} {v : V} {d : PyData} (r : Rep K H v d) : TyX K H v (.type (tyD d)) := by
  cases r with
  | non => exact .base .non
  | bl b => exact .base (.bl b)
  | int b => exact .base (.int b)
  | str b => exact .base (.str b)
  | lst h _ _ => exact .base (.lst h)
  | dct h _ =>
    rcases h with h | ⟨o, h⟩
    · exact .base (.dK h)
    · exact .fDict h
  | tup h _ _ =>
    rcases h with ⟨o, h, _⟩ | ⟨o, its, n, h, c, _⟩
    · exact .fTuple h
    · exact .kTuple h c
def isiD (T : String) (d : PyData) : Bool := (kitB (tyD d) T).getD false
def mIsi (T : String) (t : ME) : ME := fun ρ R => t ρ fun d ρ1 => R (.bool (isiD T d)) ρ1
theorem isi_ok {T : String} (hT : ["NoneType", "bool", "int", "str", "list", "tuple", "dict"].all (fun z => (kitB z T).isSome) = true) (d : PyData) : kitB (tyD d) T = some (isiD T d) := by
  have key : (kitB (tyD d) T).isSome = true := by
    simp only [List.all_cons, Bool.and_eq_true, List.all_nil, and_true] at hT
    obtain ⟨a1, a2, a3, a4, a5, a6, a7⟩ := hT
    cases d <;> assumption
  unfold isiD
  obtain ⟨b, hb⟩ := Option.isSome_iff_exists.mp key
  rw [hb]; rfl
theorem g_isi {T : String} {y : Str} {p2 : Pos} (hT : ["NoneType", "bool", "int", "str", "list", "tuple", "dict"].all (fun z => (kitB z T).isSome) = true) (hg : Gl X "isinstance") (hm : X.mg "isinstance" = none) (he : PE X e (LE X W te))
    (hgT : Gl X y) (hmT : X.mg y = none) (hvT : bootBuiltins y = some (.type T)) (hn : y ≠ "__name__" := by decide) (hdb : (y == ("__debug__" : Str)) = false := by decide)
    (hs : starEach [e, .Name y p2] X.env = (false, eval e X.env) :: starEach [.Name y p2] X.env := by rfl) (hs2 : starEach [.Name y p2] X.env = (false, eval (.Name y p2) X.env) :: starEach [] X.env := by rfl) (hpl : (backTo pos (starEach [.Name y p2] X.env)).any (·.1) = false := by rfl) :
    PE X (.Call (.Name "isinstance" p) [e, .Name y p2] [] pos) (LE X W (mIsi T te)) := by
  refine PEw (pe_callB call_isi hg hm (by decide +kernel) (pa_cons he (pa_cons (pe_bltn (v := .ty T) hgT hmT hvT rfl hn hdb) pa_nil hs2) hs) (by decide) (by decide) hs hpl) ?_
  rintro σ H Q ⟨Z, F, ρ, R, S, w, t, q⟩
  refine ⟨Z, F, ρ, _, S, w, t, fun d ρ1 v F1 H1 t1 sf1 S1 r1 => ?_⟩
  exact ⟨v, .ty T, _, _, isiD T d, rfl, .ty T, (r1.monoW S1.fh).tyx, kit_ty (isi_ok hT d), q _ ρ1 _ F1 H1 t1 sf1 S1 (.bl _)⟩
end
end G


set_option Elab.async false
set_option maxRecDepth 100000
set_option maxHeartbeats 1000000
/-! GV6: sorted, dict. -/
namespace G
open PySem PySem.Spec PyProof.Rows L2 PySem.W

/-! ### a dict's pairs -/
def isK (d : PyData) (k : Str) : Bool := match d with
  | .str x => decide (x = k)
  | _ => false
def dput (es : List (PyData × PyData)) (k : Str) (d : PyData) : List (PyData × PyData) :=
  if (es.any fun p => isK p.1 k) = true then es.map (fun p => if isK p.1 k = true then (p.1, d) else p) else es ++ [(.str k, d)]
def ddrop (es : List (PyData × PyData)) (k : Str) : List (PyData × PyData) := es.filter fun p => !isK p.1 k
theorem kd_isK {j : Key} {k : Str} : isK (kD j) k = decide (j = (Sum.inr k : Key)) := by
  cases j with
  | inl i => simp [kD, isK]
  | inr x => simp [kD, isK]
section
variable {K : PySem.W.Frag} {H : Hp}
theorem RepKV.any {k : Str} : ∀ {kvs : List (Key × V)} {es : List (PyData × PyData)}, RepKV K H kvs es → (es.any fun p => isK p.1 k) = (kvs.any fun p => decide (p.1 = (Sum.inr k : Key)))
  | _, _, .nil => rfl
  | _, _, .cons h r => by rw [List.any_cons, List.any_cons, RepKV.any r, kd_isK]
theorem RepKV.append : ∀ {kvs ls : List (Key × V)} {es fs : List (PyData × PyData)}, RepKV K H kvs es → RepKV K H ls fs → RepKV K H (kvs ++ ls) (es ++ fs)
  | _, _, _, _, .nil, s => s
  | _, _, _, _, .cons h r, s => .cons h (RepKV.append r s)
theorem RepKV.mapPut {k : Str} {v : V} {d : PyData} (hd : Rep K H v d) : ∀ {kvs : List (Key × V)} {es : List (PyData × PyData)}, RepKV K H kvs es →
    RepKV K H (kvs.map fun kv => if kv.1 = (Sum.inr k : Key) then (kv.1, v) else kv) (es.map fun p => if isK p.1 k = true then (p.1, d) else p)
  | _, _, .nil => .nil
  | _, _, @RepKV.cons _ _ j x kvs e es h r => by
    rw [List.map_cons, List.map_cons]
    have ih := RepKV.mapPut (k := k) hd r
    by_cases q : j = (Sum.inr k : Key)
    · rw [if_pos (show (j, x).1 = (Sum.inr k : Key) from q), if_pos (show isK (kD j, e).1 k = true by rw [kd_isK]; exact decide_eq_true q)]
      exact .cons hd ih
    · rw [if_neg (show ¬ (j, x).1 = (Sum.inr k : Key) from q), if_neg (show ¬ isK (kD j, e).1 k = true by rw [kd_isK, decide_eq_false q]; decide)]
      exact .cons h ih
theorem RepKV.put {k : Str} {v : V} {d : PyData} {kvs : List (Key × V)} {es : List (PyData × PyData)} (r : RepKV K H kvs es) (hd : Rep K H v d) : RepKV K H (putK kvs (Sum.inr k) v) (dput es k d) := by
  unfold putK dput
  rw [r.any]
  by_cases q : (kvs.any fun p => decide (p.1 = (Sum.inr k : Key))) = true
  · rw [if_pos q, if_pos q]; exact r.mapPut hd
  · rw [if_neg q, if_neg q]; exact r.append (.cons (k := Sum.inr k) hd .nil)
theorem RepKV.drop {k : Str} : ∀ {kvs : List (Key × V)} {es : List (PyData × PyData)}, RepKV K H kvs es → RepKV K H (dropK kvs (Sum.inr k)) (ddrop es k)
  | _, _, .nil => .nil
  | _, _, @RepKV.cons _ _ j x kvs e es h r => by
    have ih := RepKV.drop (k := k) r
    by_cases q : j = (Sum.inr k : Key)
    · have e1 : dropK ((j, x) :: kvs) (Sum.inr k) = dropK kvs (Sum.inr k) := by unfold dropK; rw [List.filter_cons, if_neg (by simp [q])]
      have e2 : ddrop ((kD j, e) :: es) k = ddrop es k := by unfold ddrop; rw [List.filter_cons, if_neg (by rw [kd_isK, decide_eq_true q]; decide)]
      rw [e1, e2]; exact ih
    · have e1 : dropK ((j, x) :: kvs) (Sum.inr k) = (j, x) :: dropK kvs (Sum.inr k) := by unfold dropK; rw [List.filter_cons, if_pos (by simp [q])]
      have e2 : ddrop ((kD j, e) :: es) k = (kD j, e) :: ddrop es k := by unfold ddrop; rw [List.filter_cons, if_pos (by rw [kd_isK, decide_eq_false q]; decide)]
      rw [e1, e2]; exact .cons h ih
theorem RepKV.keys : ∀ {kvs : List (Key × V)} {es : List (PyData × PyData)}, RepKV K H kvs es → es.map (·.1) = kvs.map (fun p => kD p.1)
  | _, _, .nil => rfl
  | _, _, .cons h r => by rw [List.map_cons, List.map_cons, RepKV.keys r]
theorem RepAll.keys (F : Hp) : ∀ (ks : List Key), RepAll K F (ks.map kV) (ks.map kD)
  | [] => .nil
  | .inl i :: r => .cons (.int i) (RepAll.keys F r)
  | .inr x :: r => .cons (.str x) (RepAll.keys F r)
end
def mergeD (ps : List (Str × PyData)) : List (PyData × PyData) := ps.foldl (fun acc p => dput acc p.1 p.2) []

/-! ### sorted -/
structure SortOk (ds : List PyData) : Prop where
  al : AllAlike ds
  so : Sortable ds
  dp : ∀ d ∈ ds, d.depth ≤ 60
  ln : ds.length ≤ 1000
noncomputable def sortD (ds : List PyData) : List PyData := ds.mergeSort (dataLe false fun d => d)
theorem plain_alike : ∀ d : PyData, alike d d = true → d.plain = true := by
  have key : ∀ n, (∀ d : PyData, sizeOf d ≤ n → alike d d = true → d.plain = true) := by
    intro n
    induction n with
    | zero => intro d h; cases d <;> simp at h <;> omega
    | succ n ih =>
      have all : ∀ xs : List PyData, sizeOf xs ≤ n → alikeAll xs xs = true → PyData.plainAll xs = true := by
        intro xs
        induction xs with
        | nil => intro _ _; rfl
        | cons x xs ih2 =>
          intro h q
          rw [alikeAll, Bool.and_eq_true] at q
          simp only [List.cons.sizeOf_spec] at h
          rw [PyData.plainAll, ih x (by omega) q.1, ih2 (by omega) q.2]; rfl
      intro d h q
      cases d with
      | list xs => simp only [PyData.list.sizeOf_spec] at h; rw [alike] at q; rw [PyData.plain]; exact all xs (by omega) q
      | tuple xs => simp only [PyData.tuple.sizeOf_spec] at h; rw [alike] at q; rw [PyData.plain]; exact all xs (by omega) q
      | dict kvs => simp [alike] at q
      | _ => rfl
  exact fun d => key (sizeOf d) d (Nat.le_refl _)
mutual
theorem Reads.there {h : Heap} : ∀ (d : PyData) (v : Value) (as : List Addr), d.plain = true → Reads h v d as → ∀ a ∈ as, ∃ o, h.get? a = some o
  | .none, _, _, _, r, a, ha => by cases r; simp at ha
  | .bool _, _, _, _, r, a, ha => by cases r; simp at ha
  | .int _, _, _, _, r, a, ha => by cases r; simp at ha
  | .str _, _, _, _, r, a, ha => by cases r; simp at ha
  | .list xs, _, _, hp, r, a, ha => by
    cases r with
    | list h1 h2 h3 h4 =>
      rcases List.mem_cons.mp ha with e | ha
      · subst e; exact ⟨_, h1⟩
      · exact ReadsAll.there xs _ _ (by simpa [PyData.plain] using hp) h4 a ha
  | .tuple xs, _, _, hp, r, a, ha => by
    cases r with
    | tuple h1 h2 h3 h4 => exact ReadsAll.there xs _ _ (by simpa [PyData.plain] using hp) h4 a ha
  | .dict _, _, _, hp, _, _, _ => by simp [PyData.plain] at hp
theorem ReadsAll.there {h : Heap} : ∀ (ds : List PyData) (vs : List Value) (as : List Addr), PyData.plainAll ds = true → ReadsAll h vs ds as → ∀ a ∈ as, ∃ o, h.get? a = some o
  | [], _, _, _, r, a, ha => by cases r; simp at ha
  | d :: ds, _, _, hp, r, a, ha => by
    have hp' : d.plain = true ∧ PyData.plainAll ds = true := by simpa [PyData.plainAll] using hp
    cases r with
    | cons h1 h2 =>
      rcases List.mem_append.mp ha with ha | ha
      · exact Reads.there d _ _ hp'.1 h1 a ha
      · exact ReadsAll.there ds _ _ hp'.2 h2 a ha
end
section
variable {X : Cx} {pins : List (Addr × Obj)} {σ : L2.St} {H F : Hp} {s : Shared}
theorem each_of : ∀ {xs : List V} {vs : List Value} {ds : List PyData}, Vals xs vs → RepAll X.K F xs ds → EachIs (fun v d => ∃ x, RelV x v ∧ Rep X.K F x d) vs ds
  | _, _, _, .nil, .nil => .nil
  | _, _, _, .cons r t, .cons h u => .cons ⟨_, r, h⟩ (each_of t u)
theorem of_each : ∀ {vs : List Value} {ds : List PyData}, EachIs (fun v d => ∃ x, RelV x v ∧ Rep X.K F x d) vs ds → ∃ xs, Vals xs vs ∧ RepAll X.K F xs ds
  | _, _, .nil => ⟨[], .nil, .nil⟩
  | _, _, .cons ⟨x, r, h⟩ t => by
    obtain ⟨xs, a, b⟩ := of_each t
    exact ⟨x :: xs, .cons r a, .cons h b⟩
theorem each_reads (I : Inv X pins σ H s) (sf : SameW F H) : ∀ {vs : List Value} {ds : List PyData}, (∀ d ∈ ds, d.plain = true) → EachIs (fun v d => ∃ x, RelV x v ∧ Rep X.K F x d) vs ds → EachIs (fun v d => ∃ as, Reads s.heap v d as) vs ds
  | _, _, _, .nil => .nil
  | _, _, hp, .cons ⟨x, r, h⟩ t => .cons ((h.monoW sf).reads I (hp _ List.mem_cons_self) r) (each_reads I sf (fun d hd => hp d (List.mem_cons_of_mem _ hd)) t)
theorem each_mono {α β : Type} {R R' : α → β → Prop} : ∀ {xs : List α} {ys : List β}, EachIs R xs ys → (∀ x y, y ∈ ys → R x y → R' x y) → EachIs R' xs ys
  | _, _, .nil, _ => .nil
  | _, _, .cons h t, f => .cons (f _ _ List.mem_cons_self h) (each_mono t fun x y hy => f x y (List.mem_cons_of_mem _ hy))
/-- sorted(u): what u gives, gathered, sorted -/
theorem sorted_core {u : Value} {Q : VK} (hu : X.A.units + 200 < cLine)
    (hc : wpAny (model X.prog X.w) X.A.in1 (collect u) (fun vs s1 => ∃ xs H1 F1 ds, Inv X pins σ H1 s1 ∧ Vals xs vs ∧ RepAll X.K F1 xs ds ∧ SameW F1 H1 ∧ SortOk ds ∧ ∀ p ys, H1 p = none → RepAll X.K F1 ys (sortD ds) → Q (.ref p) (upd H1 p (.lst ys))) X.xe s) :
    wpAny (model X.prog X.w) X.A (call (.builtin "sorted") [u]) (EP X pins σ Q) X.xe s := by
  refine Calls.call_function_entry PyProof.Rows.kind_sorted PyProof.Rows.plain_sorted PyProof.Rows.entry_sorted (PyProof.Rows.args_sorted1 _) ?_
  unfold Builtin.«sorted»
  refine wpAny_bind (m := checkCount "sorted" 1 1 _) (wpAny_pure ?_)
  refine wpAny_bind (thn hc fun vs s1 ⟨xs, H1, F1, ds, I1, rv, ra, sf, ok, q⟩ => ?_)
  have lv : vs.length = ds.length := by rw [← rv.length, ra.length]
  have lL : vs.length ≤ sizeLine := by rw [lv]; exact line1000 ok.ln
  refine wpAny_bind (wpAny_newList ?_ lL)
  have hoL : (s1.heap.push (seqObj "list" vs.toArray 0)).get? s1.heap.objs.size = some (seqObj "list" vs.toArray 0) := Heap.get?_push_size _ rfl
  show wpAny _ _ _ _ _ { s1 with heap := s1.heap.push (seqObj "list" vs.toArray 0) }
  have hpl : ∀ d ∈ ds, d.plain = true := fun d hd => plain_alike d (ok.al d hd d hd)
  have e1 := each_of rv ra
  have er := each_reads I1 sf hpl e1
  have ids : ds.map (fun d => d) = ds := List.map_id _
  have er2 : EachIs (fun v d => ∃ as, Reads (s1.heap.push (seqObj "list" vs.toArray 0)) v d as ∧ s1.heap.objs.size ∉ as) vs ds := each_mono er fun v d hd ⟨as, r⟩ =>
    ⟨as, PyProof.Rows.Reads.keeps (fun b o e => Heap.get?_push_of_some _ e) r, fun hm => by
      obtain ⟨o, ho⟩ := Reads.there d v as (hpl d hd) r _ hm
      exact absurd (Heap.lt_size ho) (Nat.lt_irrefl _)⟩
  refine wpAny_bind (wpAny_holding (list_sort_data (s := { s1 with heap := s1.heap.push (seqObj "list" vs.toArray 0) }) (enc := fun d => d) hoL e1 er2 (by rw [ids]; exact ok.al) (by rw [ids]; exact ok.so) (line1000 ok.ln) (fun d hd => ?_) fun out ho eo => ?_))
  · have := ok.dp d hd
    show X.A.units + 1 + 1 + d.depth < cLine
    omega
  · obtain ⟨ys, rw', rb⟩ := of_each eo
    obtain ⟨e', he'⟩ := PyProof.Rows.sortedHeap_at (vs := vs) (out := out.toArray) hoL
    have hl : ys.length ≤ sizeLine := by rw [rw'.length, ho]; exact line1000 ok.ln
    refine wpAny_pure ⟨_, rfl, .ref s1.heap.objs.size, upd H1 s1.heap.objs.size (.lst ys), I1.laid (t' := s1.toks) (fun b u e => ?_) (Nat.le_refl _)
      (show ObjOk X.prog X.w _ _ _ (.lst ys) from ⟨hl, out, e', rw', he'⟩), rfl, q _ ys (I1.hok.fresh (Nat.le_refl _)) rb⟩
    have hb : b < s1.heap.objs.size := Heap.lt_size e
    rw [PyProof.Rows.sortedHeap_old (Nat.ne_of_lt hb) (by rw [size_push']; exact Nat.lt_succ_of_lt hb)]
    exact Heap.get?_push_of_some _ e

end
section
variable {X : Cx}
def sortedD : PyData → (PyData → Prop) → Prop
  | .list ds, R => SortOk ds ∧ R (.list (sortD ds))
  | .tuple ds, R => SortOk ds ∧ R (.list (sortD ds))
  | .dict es, R => SortOk (es.map (·.1)) ∧ R (.list (sortD (es.map (·.1))))
  | _, _ => False
theorem ofDict {K : PySem.W.Frag} {H : Hp} {kvs : List (Key × V)} {vs : List (Key × Value)} (rel : KV kvs vs) {acc : List Value} (hl : acc.length = vs.length) (hk : ∀ (j : Nat) v, acc[j]? = some v → ∃ k x, vs[j]? = some (k, x) ∧ keyIs k v = true) :
    Vals (kvs.map fun p => kV p.1) acc := by
  induction rel generalizing acc with
  | nil =>
    cases acc with
    | nil => exact .nil
    | cons => simp at hl
  | @cons p q ps qs h t ih =>
    cases acc with
    | nil => simp at hl
    | cons a acc =>
      refine .cons ?_ (ih (by simpa using hl) fun j v e => ?_)
      · obtain ⟨k, x, e1, e2⟩ := hk 0 a rfl
        simp at e1
        show L2.RelV (kV p.1) a
        rw [h.1, e1]
        exact relV_key e2
      · obtain ⟨k, x, e1, e2⟩ := hk (j + 1) v (by simpa using e)
        exact ⟨k, x, by simpa using e1, e2⟩
theorem cn_sorted (hu : X.A.units + 200 < cLine) (hcalm : X.calm = true) : CallN X (.builtin "sorted") sortedD := by
  intro pins s σ Z F H ρ x u d R Q I S rx rv hg q
  have fin : ∀ {H1 F1 : Hp} {ds : List PyData}, Same F F1 → F1 = F → H1 = H → SortOk ds → R (.list (sortD ds)) → ∀ p ys, H1 p = none → RepAll X.K F1 ys (sortD ds) → Q (.ref p) (upd H1 p (.lst ys)) := fun _ e1 e2 hk hr p ys hp ra => by
    subst e1
    subst e2
    exact q _ p _ _ hr (Same.refl _) (S.lay _ hp) (S.fh.free hp) (S.zh.free hp) ⟨ys, upd_same, ra, by unfold sortD; rw [List.length_mergeSort]; exact line1000 hk.ln⟩ (S.newAway hp)
  rcases rx.cases S.fh with ⟨a, xs, ds, rfl, rfl, h1, h2, h3⟩ | ⟨a, kvs, es, rfl, rfl, h1, h2⟩ | ⟨r, n1, n2⟩
  · obtain ⟨ok, hr⟩ := hg
    obtain rfl : u = Value.ref a := rv
    obtain ⟨hz, its, n, ri, ho⟩ := I.hok a _ h1
    refine sorted_core hu (wpAny_collect_seq a (.inl rfl) ho rfl rfl (fun h' hk => ⟨xs, H, F, ds, I.kept (t' := s.toks) hk, by simpa using ri, h2, S.fh, ok, fin (Same.refl _) rfl rfl ok hr⟩) (by rw [List.size_toArray, ← ri.length]; exact hz))
  · obtain ⟨ok, hr⟩ := hg
    obtain rfl : u = Value.ref a := rv
    obtain ⟨hz, lo, vs, rel, dd⟩ := dk_rd I.hok h1
    obtain ⟨ep, hat⟩ := dd.dictAt
    have lk : kvs.length = vs.length := Paired.length rel
    refine sorted_core hu (PySem.W.kdu_collect (A := X.A.in1) (PySem.W.kdl_dict (knd := mixKind X.prog X.w) (kvs := vs) (ep := ep) lo) (I.ok.hd hcalm) hat (by omega) fun h' tk acc hk hacc => ?_)
    refine ⟨kvs.map fun p => kV p.1, H, F, es.map (·.1), I.kept hk, ofDict (K := X.K) (H := H) rel (by rw [Array.length_toList, hacc.1]) (fun j v e => ?_), ?_, S.fh, ok, fin (Same.refl _) rfl rfl ok hr⟩
    · obtain ⟨k, x, e1, e2⟩ := hacc.2 j v (by rw [← Array.getElem?_toList]; exact e)
      exact ⟨k, x, e1, e2⟩
    · rw [h2.keys]
      have := RepAll.keys (K := X.K) F (kvs.map (·.1))
      rw [List.map_map, List.map_map] at this
      exact this
  · cases r with
    | tup h1 h2 h3 =>
      obtain ⟨ok, hr⟩ := hg
      rename_i a xs ds
      obtain rfl : u = Value.ref a := rv
      obtain ⟨its, ri, ⟨o, ho, hc, n, hd⟩, hz⟩ := I.tuple (h1.monoW S.fh).sq
      refine sorted_core hu (wpAny_collect_seq a (.inr rfl) ho hc hd (fun h' hk => ⟨xs, H, F, ds, I.kept (t' := s.toks) hk, by simpa using ri, h2, S.fh, ok, fin (Same.refl _) rfl rfl ok hr⟩) (by rw [List.size_toArray, ← ri.length]; exact hz))
    | lst h1 h2 h3 => exact (n1 _ rfl).elim
    | dct h1 h2 => exact (n2 _ rfl).elim
    | _ => exact hg.elim

/-! ### many things laid at once -/
def putH : List Addr → List HO → Hp → Hp
  | a :: as, u :: us, H => upd (putH as us H) a u
  | _, _, H => H
theorem putH_off {b : Addr} : ∀ (as : List Addr) (us : List HO) (H : Hp), b ∉ as → putH as us H b = H b
  | [], _, _, _ => rfl
  | _ :: _, [], _, _ => rfl
  | a :: as, u :: us, H, h => by
    show upd (putH as us H) a u b = H b
    rw [upd_ne (fun z => h (by rw [z]; exact List.mem_cons_self)), putH_off as us _ (fun z => h (List.mem_cons_of_mem _ z))]
theorem putH_at : ∀ (as : List Addr) (us : List HO) (H : Hp) (j : Nat) (t : Addr) (u : HO), as.Nodup → as[j]? = some t → us[j]? = some u → putH as us H t = some u
  | [], _, _, _, _, _, _, e, _ => by simp at e
  | _ :: _, [], _, _, _, _, _, _, e => by simp at e
  | a :: as, u :: us, H, 0, t, w, nd, e1, e2 => by
    simp at e1 e2
    subst e1
    subst e2
    exact upd_same
  | a :: as, u :: us, H, j + 1, t, w, nd, e1, e2 => by
    have nd' := List.nodup_cons.mp nd
    have e1' : as[j]? = some t := by simpa using e1
    have hm : t ∈ as := List.mem_of_getElem? e1'
    show upd (putH as us H) a u t = some w
    rw [upd_ne (fun z => nd'.1 (by rw [← z]; exact hm))]
    exact putH_at as us H j t w nd'.2 e1' (by simpa using e2)
theorem lay_many {pins : List (Addr × Obj)} {σ : L2.St} {H : Hp} {s : Shared} {h' : Heap} {tk : Nat} {as : List Addr} {us : List HO} (I : Inv X pins σ H s) (hk : ∀ b o, s.heap.get? b = some o → h'.get? b = some o)
    (new : ∀ t ∈ as, s.heap.objs.size ≤ t) (nd : as.Nodup) (hl : as.length = us.length) (ok : ∀ (j : Nat) t u, as[j]? = some t → us[j]? = some u → ObjOk X.prog X.w (putH as us H) h' t u) :
    Inv X pins σ (putH as us H) { s with heap := h', toks := tk } ∧ Same H (putH as us H) ∧ ∀ b, H b ≠ none → b ∉ as := by
  have fresh : ∀ t ∈ as, H t = none := fun t ht => I.hok.fresh (new t ht)
  have away : ∀ b, H b ≠ none → b ∉ as := fun b hb z => hb (fresh b z)
  have kp : Same H (putH as us H) := fun b u e => by
    rw [putH_off as us H (away b (by rw [e]; simp))]
    exact e
  have low : ∀ b o, s.heap.get? b = some o → b ∉ as := fun b o e z => absurd (Heap.lt_size e) (Nat.not_lt.mpr (new b z))
  refine ⟨I.call' (ch := []) rfl ⟨fun b o q _ _ _ => hk b o q, fun b o q _ _ _ => ⟨o.slots, hk b o q⟩, fun b o q n _ => ?_, fun b o q _ => ⟨o, hk b o q⟩, fun b xs q => kp b _ q, fun b o u q => kp b _ q, fun b ps q => ⟨#[], by rw [kp b _ q]; simp⟩⟩ (fun b u q => ?_) I.bare fun b z => by simp at z, kp, away⟩
  · rw [putH_off as us H (low b o q)]; exact n
  · by_cases hb : b ∈ as
    · obtain ⟨j, hj⟩ := List.mem_iff_getElem?.mp hb
      have hjl : j < us.length := by rw [← hl]; exact (List.getElem?_eq_some_iff.mp hj).1
      have hu : us[j]? = some us[j] := List.getElem?_eq_getElem hjl
      have e := putH_at as us H j b _ nd hj hu
      rw [e] at q
      cases q
      exact ok j b _ hj hu
    · rw [putH_off as us H hb] at q
      exact (I.hok b u q).stay (fun d v _ y => hk d v y) (fun d y => kp d _ y) fun d xs y => kp d _ y

/-! ### sorted(d.items()) -/
def itemsD (es : List (PyData × PyData)) : List PyData := es.map fun p => .tuple [p.1, p.2]
def mSortItems (te : ME) : ME := fun ρ R => te ρ fun d ρ1 => match d with
  | .dict es => SortOk (itemsD es) ∧ R (.list (sortD (itemsD es))) ρ1
  | _ => False
def itemHO (h' : Heap) (a : Addr) (p : Key × V) : HO := .frz ((h'.get? a).getD { cls := .none, data := .fields #[] }) (.tup [kV p.1, p.2])
theorem rep_items {F G : Hp} (sf : Same F G) : ∀ {kvs : List (Key × V)} {es : List (PyData × PyData)} {as : List Addr}, RepKV X.K F kvs es → as.length = kvs.length →
    (∀ (j : Nat) a p, as[j]? = some a → kvs[j]? = some p → ∃ o : Obj, G a = some (.frz o (.tup [kV p.1, p.2])) ∧ o.dict = none) → RepAll X.K G (as.map V.ref) (itemsD es)
  | _, _, [], .nil, _, _ => .nil
  | _, _, _ :: _, .nil, hl, _ => by simp at hl
  | _, _, [], .cons _ _, hl, _ => by simp at hl
  | _, _, a :: as, @RepKV.cons _ _ k v kvs d es h r, hl, hp => by
    obtain ⟨o, h1, h2⟩ := hp 0 a (k, v) rfl rfl
    refine .cons (.tup (.inl ⟨o, h1, h2⟩) (.cons ?_ (.cons (h.mono sf) .nil)) (by show 2 ≤ sizeLine; decide)) (rep_items sf r (by simpa using hl) fun j a p e1 e2 => hp (j + 1) a p (by simpa using e1) (by simpa using e2))
    cases k with
    | inl i => exact .int i
    | inr x => exact .str x
variable {W : Wish} {e : Expr} {te : ME} {p apos cpos pos : Pos}
theorem g_sortedItems (hu : X.A.units + 200 < cLine) (hc : X.calm = true) (he : PE X e (LC X W te)) (hg : Gl X "sorted") (hm : X.mg "sorted" = none) (hbase : attributeBase e "items" X.env (eval e X.env) = eval e X.env := by rfl) (hline : (apos.endLine == cpos.line) = true := by rfl)
    (hs : starEach [.Call (.Attribute e "items" apos) [] [] cpos] X.env = (false, eval (.Call (.Attribute e "items" apos) [] [] cpos) X.env) :: starEach [] X.env := by rfl) :
    PE X (.Call (.Name "sorted" p) [.Call (.Attribute e "items" apos) [] [] cpos] [] pos) (LN X W (mSortItems te)) := by
  refine ⟨fun pins s σ H Q I hq => ?_⟩
  refine wpAny_Call_Name_kw (ld_blt I hg hm (show bootBuiltins "sorted" = some (.builtin "sorted") by decide +kernel) ?_)
  refine PyProof.Rows.callWith_builtin1 ?_ hs rfl
  rw [hs]
  show wpAny _ _ (spliced ((false, eval (.Call (.Attribute e "items" apos) [] [] cpos) X.env) :: backTo pos (starEach [] X.env))) _ _ s
  refine Calls.spliced_cons ?_
  obtain ⟨Z, F, ρ, R, S, w, t, q⟩ := hq
  refine wpAny_Call_method (T := "dict") (id := "dict.items") hbase rfl hline PySem.F.plainAttrs_dict PySem.F.slot_dict_items PySem.F.type_dict_items
    (thn (he.run pins s σ H (fun x H1 => ∃ F1 ρ1 es, Same F F1 ∧ Stt X.K Z F1 H1 σ ρ1 ∧ RepC X.K F1 H1 x (.dict es) ∧ SortOk (itemsD es) ∧ R (.list (sortD (itemsD es))) ρ1) I ?_) fun u s1 ⟨x, H1, I1, rx, F1, ρ1, es, sf1, S1, rc, ok, hr⟩ => ?_)
  · refine ⟨Z, F, ρ, _, S, w, t, fun d ρ1 v F1 H1 t1 sf1 S1 r1 => ?_⟩
    split at t1
    · exact ⟨F1, ρ1, _, sf1, S1, r1, t1.1, t1.2⟩
    · exact t1.elim
  rcases rc.cases S1.fh with ⟨a, xs, ds, rfl, e', h1, h2, h3⟩ | ⟨d, kvs, es', rfl, e', hd, h2⟩ | ⟨r, n1, n2⟩
  · cases e'
  · cases e'
    obtain rfl : u = Value.ref d := rx
    obtain ⟨hz, hs0, vs, kv, hdo⟩ := dk_rd I1.hok hd
    obtain ⟨ep, hat⟩ := hdo.dictAt
    have lk : kvs.length = vs.length := Paired.length kv
    have I2 : Inv X pins σ H1 { s1 with heap := s1.heap.push { cls := .type "dict_items", data := .fields #[.ref d] } } := I1.kept (t' := s1.toks) fun b ob q => Heap.get?_push_of_some _ q
    refine ⟨hdo.typeIs, hdo.mapOf.noDict, ?_⟩
    show wpAny _ _ (callWith cpos (.builtin "dict.items") [.ref d] [] []) _ X.xe s1
    refine method_meetsIn PySem.F.slot_dict_items PySem.F.entry_dict_items rfl (PySem.evalArgs_none ⟨rfl, hdo.typeIs, PySem.F.args_dict_items_1 _, _, meets_dict_items (mixKind X.prog X.w) d hs0, ⟨vs, hdo⟩, ?_⟩)
    refine Calls.spliced_nil ?_
    refine sorted_core hu (PySem.W.kdx_collect (A := X.A.in1) (knd := mixKind X.prog X.w) (kvs := vs) (ep := ep) (I1.ok.hd hc) ⟨_, Heap.get?_push_size _ rfl, rfl, rfl⟩ (hat.push _) (by omega) fun h' tk as hk hl hG => ?_)
    have nd : as.Nodup := List.Pairwise.imp (fun {a b} (h : a < b) => Nat.ne_of_lt h) hG.rise
    -- what stands at each
    have at' : ∀ (j : Nat) a p, as[j]? = some a → kvs[j]? = some p → ∃ (o : Obj) (key x : Value), h'.get? a = some o ∧ o = { cls := .type "tuple", data := .seq #[key, x] } ∧ RelV (kV p.1) key ∧ RelV p.2 x := fun j a p e1 e2 => by
      obtain ⟨key, k, x, f1, f2, f3⟩ := hG.pairs j a e1
      obtain ⟨qv, g1, g2, g3⟩ := LiI.paired_get kv e2
      rw [f1] at g1
      cases g1
      refine ⟨_, key, x, f3, rfl, ?_, g3⟩
      rw [g2]
      exact relV_key (show keyIs k key = true from f2)
    have hlen : as.length = (List.zipWith (itemHO h') as kvs).length := by rw [List.length_zipWith]; omega
    have zat : ∀ (j : Nat) a u, as[j]? = some a → (List.zipWith (itemHO h') as kvs)[j]? = some u → ∃ p, kvs[j]? = some p ∧ u = itemHO h' a p := fun j a u e1 e2 => by
      rw [List.getElem?_zipWith, e1] at e2
      cases e3 : kvs[j]? with
      | none => rw [e3] at e2; simp at e2
      | some p => rw [e3] at e2; simp at e2; exact ⟨p, rfl, e2.symm⟩
    obtain ⟨I3, sm, aw⟩ := lay_many (tk := tk) (us := List.zipWith (itemHO h') as kvs) I2 hk (fun t ht => Nat.le_of_lt (hG.above t ht)) nd hlen (fun j t u e1 e2 => by
      obtain ⟨p, ep, eu⟩ := zat j t u e1 e2
      subst eu
      obtain ⟨o, key, x, f1, f2, f3, f4⟩ := at' j t p e1 ep
      have eo : (h'.get? t).getD { cls := .none, data := .fields #[] } = o := by rw [f1]; rfl
      show ObjOk X.prog X.w _ h' t (.frz ((h'.get? t).getD { cls := .none, data := .fields #[] }) (.tup [kV p.1, p.2]))
      rw [eo]
      exact ⟨f1, (by show 2 ≤ sizeLine; decide), [key, x], .cons f3 (.cons f4 .nil), o, f1, (by rw [f2]), _, (by rw [f2])⟩)
    have nF : ∀ b, F1 b ≠ none → b ∉ as := fun b hb => aw b (fun z => by
      cases y : F1 b with
      | none => exact hb y
      | some o => rw [S1.fh.free z] at y; cases y)
    have smF : Same F1 (putH as (List.zipWith (itemHO h') as kvs) F1) := fun b u y => by
      rw [putH_off as _ _ (nF b (by rw [y]; simp))]; exact y
    have S3 : Stt X.K Z (putH as (List.zipWith (itemHO h') as kvs) F1) (putH as (List.zipWith (itemHO h') as kvs) H1) σ ρ1 := by
      refine ⟨fun b u y => ?_, S1.zh.trans sm, fun b hb => ?_, S1.len, fun i sl y => ?_, S1.ap⟩
      · by_cases hb : b ∈ as
        · obtain ⟨j, hj⟩ := List.mem_iff_getElem?.mp hb
          have hjl : j < (List.zipWith (itemHO h') as kvs).length := by rw [← hlen]; exact (List.getElem?_eq_some_iff.mp hj).1
          rw [putH_at as _ _ j b _ nd hj (List.getElem?_eq_getElem hjl)] at y ⊢
          exact .inl y
        · rw [putH_off as _ _ hb] at y ⊢; exact S1.fh b u y
      · have hb' : b ∉ as := aw b (fun z => hb (S1.zh.free z))
        rw [putH_off as _ _ hb']; exact S1.zf b hb
      · refine (S1.sl i sl y).move smF (fun a o m z => sm a o z) (fun a m => (S1.mut y m).1) fun a m => ?_
        obtain ⟨_, f, o, z⟩ := S1.mut y m
        rw [putH_off as _ _ (aw a (by rw [z]; simp))]; exact f
    have ra : RepAll X.K (putH as (List.zipWith (itemHO h') as kvs) F1) (as.map V.ref) (itemsD es) := rep_items smF h2 (by omega) fun j a p e1 e2 => by
      obtain ⟨o, key, x, f1, f2, _⟩ := at' j a p e1 e2
      have e3 : (List.zipWith (itemHO h') as kvs)[j]? = some (itemHO h' a p) := by rw [List.getElem?_zipWith, e1, e2]
      refine ⟨(h'.get? a).getD { cls := .none, data := .fields #[] }, putH_at as _ _ j a _ nd e1 e3, ?_⟩
      rw [f1, f2]
      rfl
    exact ⟨as.map V.ref, _, _, itemsD es, I3, LiI.vals_refs as, ra, S3.fh, ok, fun l ys hl ry => q _ ρ1 l _ _ hr (sf1.trans smF) (S3.lay _ hl) (S3.fh.free hl) (S3.zh.free hl) ⟨ys, upd_same, ry, by unfold sortD; rw [List.length_mergeSort]; exact line1000 ok.ln⟩ (S3.newAway hl)⟩
  · exact (n2 _ rfl).elim
end
end G


set_option Elab.async false
set_option maxRecDepth 100000
set_option maxHeartbeats 1000000
/-! GV7: dict(..); calls of defs; statements. -/
namespace G
open PySem PySem.Spec PyProof.Rows L2
def pairD (p : Str × PyData) : PyData := .tuple [.str p.1, p.2]
def dictD (d : PyData) (R : PyData → Prop) : Prop := ∃ ps : List (Str × PyData), (d = .list (ps.map pairD) ∨ d = .tuple (ps.map pairD)) ∧ ps.length ≤ 1000 ∧ R (.dict (mergeD ps))
section
variable {X : Cx} {pins : List (Addr × Obj)} {σ : L2.St} {F H : Hp} {s : Shared}
structure POut (X : Cx) (F : Hp) (h : Heap) (ps : List (Str × PyData)) (xs : List V) (ts : List Addr) (prs : List (Value × Value)) (kvs : List (Key × V)) (rs : List (Key × Value)) : Prop where
  xe : xs = ts.map V.ref
  tl : ts.length = ps.length
  pl : prs.length = ps.length
  at' : ∀ (j : Nat) t k v, ts[j]? = some t → prs[j]? = some (k, v) → PairAt h t k v
  kv : KV kvs rs
  rk : RepKV X.K F kvs (ps.map fun p => (PyData.str p.1, p.2))
  rl : rs.length = ps.length
  hv : ∀ (j : Nat) key v, prs[j]? = some (key, v) → ∃ k, rs[j]? = some (k, v) ∧ keyIs k key = true
theorem pairs_out (I : Inv X pins σ H s) (sf : SameW F H) : ∀ (ps : List (Str × PyData)) (xs : List V), RepAll X.K F xs (ps.map pairD) → ∃ ts prs kvs rs, POut X F s.heap ps xs ts prs kvs rs
  | [], _, .nil => ⟨[], [], [], [], rfl, rfl, rfl, fun j t k v e => by simp at e, .nil, .nil, rfl, fun j k v e => by simp at e⟩
  | (n, d) :: ps, _, .cons h r => by
    obtain ⟨ts, prs, kvs, rs, O⟩ := pairs_out I sf ps _ r
    cases h with
    | @tup a ys ds h1 h2 h3 =>
      cases h2 with
      | @cons v1 _ _ _ q1 h2 =>
        cases q1
        cases h2 with
        | @cons v2 _ _ _ q2 h2 =>
          cases h2
          obtain ⟨its, rv, ht, _⟩ := I.tuple (h1.monoW sf).sq
          cases rv with
          | @cons _ u1 _ _ r1 rv =>
            cases rv with
            | @cons _ u2 _ _ r2 rv =>
              cases rv
              obtain ⟨t1, rfl⟩ := r1
              refine ⟨a :: ts, (.str n t1, u2) :: prs, (Sum.inr n, v2) :: kvs, (Sum.inr n, u2) :: rs, by rw [O.xe]; rfl, by simp [O.tl], by simp [O.pl], ?_, .cons ⟨rfl, r2⟩ O.kv, .cons (k := Sum.inr n) q2 O.rk, by simp [O.rl], ?_⟩
              · intro j t k v e1 e2
                cases j with
                | zero =>
                  simp at e1 e2
                  obtain ⟨rfl, rfl⟩ := e2
                  subst e1
                  exact .inl ht
                | succ j => exact O.at' j t k v (by simpa using e1) (by simpa using e2)
              · intro j key v e
                cases j with
                | zero =>
                  simp at e
                  obtain ⟨rfl, rfl⟩ := e
                  exact ⟨_, rfl, keyIs_str n t1⟩
                | succ j =>
                  obtain ⟨k, e1, e2⟩ := O.hv j key v (by simpa using e)
                  exact ⟨k, by simpa using e1, e2⟩
theorem mergeK_fold (kvs more : List (Key × V)) : mergeK kvs more = more.foldl (fun acc kv => putK acc kv.1 kv.2) kvs := rfl
theorem rep_merge {K : PySem.W.Frag} : ∀ {ps : List (Str × PyData)} {more kvs : List (Key × V)} {es : List (PyData × PyData)}, RepKV K F kvs es → RepKV K F more (ps.map fun p => (PyData.str p.1, p.2)) →
    RepKV K F (mergeK kvs more) (ps.foldl (fun acc p => dput acc p.1 p.2) es)
  | [], _, _, _, r, .nil => r
  | (n, d) :: ps, _, kvs, es, r, q => by
    have q' : RepKV K F _ ((PyData.str n, d) :: ps.map fun p => (PyData.str p.1, p.2)) := q
    generalize hk : (PyData.str n) = kk at q'
    cases q' with
    | @cons k v more _ _ h q' =>
      cases k with
      | inl i => cases hk
      | inr x =>
        cases hk
        exact rep_merge (kvs := putK kvs (Sum.inr n) v) (es := dput es n d) (r.put h) q'
theorem dput_len (es : List (PyData × PyData)) (k : Str) (d : PyData) : (dput es k d).length ≤ es.length + 1 := by
  unfold dput
  split
  · rw [List.length_map]; omega
  · rw [List.length_append]; simp
theorem mergeD_len (ps : List (Str × PyData)) : (mergeD ps).length ≤ ps.length := by
  have : ∀ (ps : List (Str × PyData)) (es : List (PyData × PyData)), (ps.foldl (fun acc p => dput acc p.1 p.2) es).length ≤ es.length + ps.length := by
    intro ps
    induction ps with
    | nil => intro es; simp
    | cons p ps ih =>
      intro es
      have h1 := ih (dput es p.1 p.2)
      have h2 := dput_len es p.1 p.2
      rw [List.foldl_cons, List.length_cons]
      omega
  have := this ps []
  rw [List.length_nil, Nat.zero_add] at this
  exact this
theorem cn_dict (hcalm : X.calm = true) : CallN X (.type "dict") dictD := by
  intro pins s σ Z F H ρ x u d R Q I S rx rv ⟨ps, hd, hl, hr⟩ q
  -- the source, whichever it is
  obtain ⟨a, xs, ex, ra, T, hT⟩ : ∃ a xs, x = V.ref a ∧ RepAll X.K F xs (ps.map pairD) ∧ ∃ T, ∃ its : List Value, Vals xs its ∧ ((T = "list" ∧ PlainSeq "list" s.heap a its.toArray) ∨ (T = "tuple" ∧ PlainSeq "tuple" s.heap a its.toArray)) := by
    rcases rx.cases S.fh with ⟨a, xs, ds, rfl, e, h1, h2, h3⟩ | ⟨a, kvs, es, rfl, e, h1, h2⟩ | ⟨r, n1, n2⟩
    · rcases hd with hd | hd
      · rw [hd] at e
        cases e
        obtain ⟨hz, its, n, ri, ho⟩ := I.hok a _ h1
        exact ⟨a, xs, rfl, h2, "list", its, ri, .inl ⟨rfl, _, n, ho, rfl, rfl, rfl⟩⟩
      · rw [hd] at e; cases e
    · rcases hd with hd | hd <;> (rw [hd] at e; cases e)
    · rcases hd with hd | hd
      · exact (n1 _ hd).elim
      · subst hd
        cases r with
        | @tup a xs _ h1 h2 h3 =>
          refine ⟨a, xs, rfl, h2, "tuple", ?_⟩
          rcases h1 with ⟨o, h1, hn⟩ | ⟨o, its, n, h1, hc, hn, hdt, hsz, ri⟩
          · obtain ⟨e0, hz, its, ri, o', e1, e2, n, e3⟩ := I.hok a _ (S.fh.frz h1)
            rw [e0] at e1; cases e1
            exact ⟨its, ri, .inr ⟨rfl, o, n, e0, e2, hn, e3⟩⟩
          · exact ⟨its.toList, ri, .inr ⟨rfl, o, n, I.kIn a o h1, hc, hn, by rw [Array.toArray_toList]; exact hdt⟩⟩
  subst ex
  obtain rfl : u = Value.ref a := rv
  obtain ⟨its, ri, hT⟩ := hT
  obtain ⟨ts, prs, kvs, rs, O⟩ := pairs_out I S.fh ps xs ra
  have lits : its.length = ps.length := by rw [← ri.length, O.xe, List.length_map, O.tl]
  have hits : PairItems s.heap its.toArray (fun j => (ts[j]?).getD 0) prs := by
    refine ⟨by rw [List.size_toArray, lits, O.pl], fun j k v e => ?_⟩
    have hj : j < ts.length := by rw [O.tl, ← O.pl]; exact (List.getElem?_eq_some_iff.mp e).1
    have et : ts[j]? = some ts[j] := List.getElem?_eq_getElem hj
    have ex : xs[j]? = some (V.ref ts[j]) := by rw [O.xe, List.getElem?_map, et]; rfl
    obtain ⟨u, hu, ru⟩ := ri.get ex
    obtain rfl : u = Value.ref ts[j] := ru
    refine ⟨?_, ?_⟩
    · show its.toArray[j]? = some (Value.ref ((ts[j]?).getD 0))
      rw [et]; simpa using hu
    · show PairAt s.heap ((ts[j]?).getD 0) k v
      rw [et]; exact O.at' j _ k v et e
  have hm : (s.heap.objs.size == sysModules) = false := beq_eq_false_iff_ne.mpr (Nat.ne_of_gt I.big)
  have lkv : (mergeK [] kvs).length ≤ sizeLine := by
    have r := rep_merge (K := X.K) (F := F) (ps := ps) (more := kvs) (kvs := []) (es := []) .nil O.rk
    rw [r.length]
    exact line1000 (Nat.le_trans (mergeD_len ps) hl)
  have fin : ∀ (h' : Heap) (tk : Nat), h'.DictOf (mixKind X.prog X.w) s.heap.objs.size (merged [] rs) → (∀ b o, b ∉ ([] : List Addr) → s.heap.get? b = some o → h'.get? b = some o) → EP X pins σ Q (.ref s.heap.objs.size) { s with heap := h', toks := tk } := fun h' tk hd' hk => by
    have hp := I.hok.fresh (a := s.heap.objs.size) (Nat.le_refl _)
    refine ⟨.ref s.heap.objs.size, upd H s.heap.objs.size (.dK (mergeK [] kvs)), I.laid (t' := tk) (fun b o e => hk b o (by simp) e) (Nat.le_refl _) (show ObjOk X.prog X.w _ _ _ (.dK (mergeK [] kvs)) from ⟨lkv, hm, merged [] rs, KV.merge O.kv .nil, hd'⟩), rfl, ?_⟩
    exact q _ _ F _ hr (Same.refl _) (S.lay _ hp) (S.fh.free hp) (S.zh.free hp) ⟨_, upd_same, rep_merge (K := X.K) (F := F) (es := []) .nil O.rk⟩ (S.newAway hp)
  have ln : prs.length ≤ sizeLine := by rw [O.pl]; exact line1000 hl
  have hc : PairsHave (mixKind X.prog X.w) prs.length (PairRel prs) rs := ⟨by rw [O.rl, O.pl], fun i key v e => O.hv i key v e⟩
  rcases hT with ⟨rfl, hs⟩ | ⟨rfl, hs⟩
  · exact PySem.call_dict_pairs (PairArg.list a its.toArray _ prs) (I.ok.hd hcalm) ⟨hs, hits⟩ hc ln fin
  · exact PySem.call_dict_pairs (PairArg.tuple a its.toArray _ prs) (I.ok.hd hcalm) ⟨hs, hits⟩ hc ln fin
end
end G


set_option Elab.async false
set_option maxRecDepth 100000
set_option maxHeartbeats 1000000
/-! GV8: statements, targets, loops, comprehensions. -/
namespace G
open PySem PySem.Spec PyProof.Rows L2
def mNx : MS := fun D ρ => D.nx ρ
def mSeq (t u : MS) : MS := fun D ρ => t { D with nx := fun ρ' => u D ρ' } ρ
def mDrop (te : ME) : MS := fun D ρ => te ρ fun _ ρ1 => D.nx ρ1
def mRet (te : ME) : MS := fun D ρ => te ρ D.rt
def mRetN (te : ME) : MS := fun D ρ => te ρ D.ro
def mRetO (i : Nat) : MS := fun D ρ => match slot ρ i with
  | .own d => D.ro d (ρ.set i .un)
  | _ => False
def mIfS (c : MB) (t u : MS) : MS := fun D ρ => c ρ fun b ρ1 => if b = true then t D ρ1 else u D ρ1
def mBk : MS := fun D ρ => D.bk ρ
def mCt : MS := fun D ρ => D.ct ρ
def mNever : MS := fun _ _ => False
/-- what may be stored over -/
def Free : Sl → Prop
  | .inn _ _ => False
  | _ => True
abbrev MG := PyData → Ms → (Ms → Prop) → Prop
def mGN (i : Nat) : MG := fun d ρ R => match slot ρ i with
  | .inn _ _ => False
  | _ => R (ρ.set i (.dat d))
def mGs : List MG → List PyData → Ms → (Ms → Prop) → Prop
  | [], [], ρ, R => R ρ
  | g :: gs, d :: ds, ρ, R => g d ρ fun ρ1 => mGs gs ds ρ1 R
  | _, _, _, _ => False
def lenEq {α β : Type} : List α → List β → Bool
  | [], [] => true
  | _ :: a, _ :: b => lenEq a b
  | _, _ => false
theorem lenEq_len {α β : Type} : ∀ {a : List α} {b : List β}, lenEq a b = true → b.length = a.length
  | [], [], _ => rfl
  | _ :: a, _ :: b, h => by rw [List.length_cons, List.length_cons, lenEq_len (a := a) (b := b) h]
def mGT (gs : List MG) : MG := fun d ρ R => match d with
  | .tuple ds => match lenEq gs ds with
    | true => mGs gs ds ρ R
    | false => False
  | _ => False
def mAsg (te : ME) (g : MG) : MS := fun D ρ => te ρ fun d ρ1 => g d ρ1 D.nx
def mSet (i : Nat) (te : ME) : MS := mAsg te (mGN i)
def mSetN (i : Nat) (te : ME) : MS := fun D ρ => te ρ fun d ρ1 => match slot ρ1 i with
  | .inn _ _ => False
  | _ => D.nx (ρ1.set i (.own d))
section
variable {X : Cx} {W : Wish} {pos : Pos} {st : Stmt} {rest : List Stmt} {t u : MS} {e : Expr} {te : ME}
theorem gss_nil : PSs X [] (LS X W mNx) := PSsw pss_nil fun D σ H ⟨Z, F, ρ, DR, S, w, t, k⟩ => k.nx ρ σ F H t (Same.refl _) S
theorem gss_cons (h1 : PS X st (LS X W t)) (h2 : PSs X rest (LS X W u)) : PSs X (st :: rest) (LS X W (mSeq t u)) := by
  refine PSsw (pss_cons h1 h2) ?_
  rintro D σ H ⟨Z, F, ρ, DR, S, w, t, k⟩
  exact ⟨Z, F, ρ, _, S, w, t, fun ρ' σ' F' H' a sf S' => ⟨Z, F', ρ', DR, S', w.mono sf, a, k.mono sf⟩, k.rt, k.ro, k.bk, k.ct⟩
theorem gss_one (h1 : PS X st (LS X W t)) : PSs X [st] (LS X W t) := pss_one h1
theorem gs_pass : PS X (.Pass pos) (LS X W mNx) := PSw ps_pass fun D σ H ⟨Z, F, ρ, DR, S, w, t, k⟩ => k.nx ρ σ F H t (Same.refl _) S
theorem gs_break : PS X (.Break pos) (LS X W mBk) := PSw ps_break fun D σ H ⟨Z, F, ρ, DR, S, w, t, k⟩ => k.bk ρ σ F H t (Same.refl _) S
theorem gs_continue : PS X (.Continue pos) (LS X W mCt) := PSw ps_continue fun D σ H ⟨Z, F, ρ, DR, S, w, t, k⟩ => k.ct ρ σ F H t (Same.refl _) S
theorem gs_never : PS X st (LS X W mNever) := PSw ps_never fun D σ H ⟨Z, F, ρ, DR, S, w, t, k⟩ => t.elim
theorem gs_expr (he : PE X e (LE X W te)) (hs : swapsWith e none pos.line X.env = pure false := by rfl) : PS X (.Expr e pos) (LS X W (mDrop te)) := by
  refine PSw (ps_expr he hs) ?_
  rintro D σ H ⟨Z, F, ρ, DR, S, w, t, k⟩
  exact ⟨Z, F, ρ, _, S, w, t, fun d ρ1 v F1 H1 t1 sf1 S1 r1 => k.nx ρ1 σ F1 H1 t1 sf1 S1⟩
theorem gs_ret (he : PE X e (LE X W te)) : PS X (.Return (some e) pos) (LS X W (mRet te)) := by
  refine PSw (ps_ret he) ?_
  rintro D σ H ⟨Z, F, ρ, DR, S, w, t, k⟩
  exact ⟨Z, F, ρ, _, S, w, t, fun d ρ1 v F1 H1 t1 sf1 S1 r1 => k.rt d ρ1 v σ F1 H1 t1 sf1 S1 r1⟩
theorem gs_retN (he : PE X e (LN X W te)) : PS X (.Return (some e) pos) (LS X W (mRetN te)) := by
  refine PSw (ps_ret he) ?_
  rintro D σ H ⟨Z, F, ρ, DR, S, w, t, k⟩
  exact ⟨Z, F, ρ, _, S, w, t, fun d ρ1 a F1 H1 t1 sf1 S1 fa za c aw => k.ro d ρ1 a σ F1 H1 t1 sf1 S1 fa za c aw⟩
theorem gs_retO {i : Nat} {x : Str} {p : Pos} (h : PE X (.Name x p) (tVar i)) : PS X (.Return (some (.Name x p)) pos) (LS X W (mRetO i)) := by
  refine PSw (ps_ret h) ?_
  rintro D σ H ⟨Z, F, ρ, DR, S, w, t, k⟩
  unfold mRetO at t
  split at t
  · rename_i d e
    have hi := slot_some e (fun q => nomatch q)
    obtain ⟨a, e1, z, f, c⟩ := S.sl i _ hi
    have ma : mutA (at_ σ i) (.own d) a := ⟨e1, .inl ⟨d, rfl⟩⟩
    have key : ∀ j s, (ρ.set i .un)[j]? = some s → s = .un ∨ (j ≠ i ∧ ρ[j]? = some s) := fun j s q => by
      by_cases hj : i = j
      · subst hj
        rw [List.getElem?_set_self (List.getElem?_eq_some_iff.mp hi).1] at q
        exact .inl (Option.some.inj q).symm
      · rw [List.getElem?_set_ne hj] at q
        exact .inr ⟨fun z => hj z.symm, q⟩
    have S' : Stt X.K Z F H σ (ρ.set i .un) := S.weak (by rw [List.length_set]; exact S.len) fun j s q => (key j s q).imp id fun h => ⟨h.2, rfl⟩
    refine ⟨.ref a, at_some e1, k.ro d _ a σ F H t (Same.refl _) S' f z c fun j s q m => ?_⟩
    rcases key j s q with rfl | ⟨hj, q⟩
    · exact noMut_un m
    · exact hj (S.ap j i s _ a q hi m ma)
  · exact t.elim
theorem gs_if {c : Expr} {a b : List Stmt} {tc : MB} (hc : PT X c (LB X W tc)) (ha : PSs X a (LS X W t)) (hb : PSs X b (LS X W u)) : PS X (.If c a b pos) (LS X W (mIfS tc t u)) := by
  refine PSw (ps_if hc ha hb) ?_
  rintro D σ H ⟨Z, F, ρ, DR, S, w, t, k⟩
  refine ⟨Z, F, ρ, _, S, w, t, fun b ρ1 F1 H1 t1 sf1 S1 => ?_⟩
  cases b with
  | true =>
    rw [if_pos rfl] at t1 ⊢
    exact ⟨Z, F1, ρ1, DR, S1, w.mono sf1, t1, k.mono sf1⟩
  | false =>
    rw [if_neg Bool.false_ne_true] at t1 ⊢
    exact ⟨Z, F1, ρ1, DR, S1, w.mono sf1, t1, k.mono sf1⟩

/-! ### targets -/
theorem wipe_get (σ : L2.St) (j : Nat) : ∀ vs : List Nat, (wipe σ vs)[j]? = if j ∈ vs ∧ j < σ.length then some none else σ[j]?
  | [] => by simp [wipe]
  | v :: vs => by
    unfold wipe
    have ih := wipe_get σ j vs
    by_cases hv : v = j
    · subst hv
      by_cases hl : v < σ.length
      · rw [List.getElem?_set_self (by rw [wipe_length]; exact hl), if_pos ⟨List.mem_cons_self, hl⟩]
      · rw [List.getElem?_eq_none (by rw [List.length_set, wipe_length]; omega), if_neg (fun h => hl h.2), List.getElem?_eq_none (by omega)]
    · rw [List.getElem?_set_ne hv, ih]
      by_cases hj : j ∈ vs
      · simp [hj]
      · have hv' : ¬ j = v := fun e => hv e.symm
        simp [hj, hv']
theorem wipe_set {σ : L2.St} {i : Nat} {v : Option V} {vs : List Nat} (h : i ∈ vs) : wipe (σ.set i v) vs = wipe σ vs := by
  apply List.ext_getElem?
  intro j
  rw [wipe_get, wipe_get, List.length_set]
  by_cases hj : i = j
  · subst hj
    by_cases hl : i < σ.length
    · rw [if_pos ⟨h, hl⟩, if_pos ⟨h, hl⟩]
    · rw [if_neg (fun q => hl q.2), if_neg (fun q => hl q.2), List.set_eq_of_length_le (by omega)]
  · rw [List.getElem?_set_ne hj]
/-- where a target may store: anywhere, or at a comprehension's own names -/
def Pv : Option (List Nat) → L2.St → L2.St → Prop
  | none, _, _ => True
  | some vs, σ, σ' => wipe σ' vs = wipe σ vs
def inVs : Option (List Nat) → Nat → Bool
  | none, _ => true
  | some vs, i => decide (i ∈ vs)
theorem Pv.refl {o : Option (List Nat)} {σ : L2.St} : Pv o σ σ := by cases o <;> first | trivial | rfl
theorem Pv.trans {o : Option (List Nat)} {σ τ υ : L2.St} (a : Pv o σ τ) (b : Pv o τ υ) : Pv o σ υ := by
  cases o with
  | none => trivial
  | some vs => exact Eq.trans b a
theorem Pv.put {o : Option (List Nat)} {σ : L2.St} {i : Nat} {v : Option V} (h : inVs o i = true) : Pv o σ (σ.set i v) := by
  cases o with
  | none => trivial
  | some vs => exact wipe_set (of_decide_eq_true h)
def lG (K : PySem.W.Frag) (o : Option (List Nat)) (g : MG) : TG := fun v σ H Q => ∃ Z F ρ d R, Stt K Z F H σ ρ ∧ Rep K F v d ∧ g d ρ R ∧ ∀ ρ' σ', R ρ' → Stt K Z F H σ' ρ' → Pv o σ σ' → Q σ' H
def lGs (K : PySem.W.Frag) (o : Option (List Nat)) (gs : List MG) : TGs := fun vs σ H Q => ∃ Z F ρ ds R, Stt K Z F H σ ρ ∧ RepAll K F vs ds ∧ mGs gs ds ρ R ∧ ∀ ρ' σ', R ρ' → Stt K Z F H σ' ρ' → Pv o σ σ' → Q σ' H
abbrev LG (X : Cx) (g : MG) : TG := lG X.K none g
theorem PGw {X : Cx} {e : Expr} {t t' : TG} (h : PG X e t) (w : ∀ v σ H Q, t' v σ H Q → t v σ H Q) : PG X e t' := ⟨fun pins s σ H v u Q I r q => h.run pins s σ H v u Q I r (w v σ H Q q)⟩
theorem PGsw {X : Cx} {e : List Expr} {t t' : TGs} (h : PGs X e t) (w : ∀ v σ H Q, t' v σ H Q → t v σ H Q) : PGs X e t' := ⟨fun pins s σ H v u Q I r q => h.run pins s σ H v u Q I r (w v σ H Q q)⟩
theorem gg_name {o : Option (List Nat)} {i : Nat} (h : PG X e (gName i)) (hi : inVs o i = true := by decide) : PG X e (lG X.K o (mGN i)) := by
  refine PGw h ?_
  rintro v σ H Q ⟨Z, F, ρ, d, R, S, r, t, q⟩
  refine q (ρ.set i (.dat d)) _ ?_ (S.putDat i r) (Pv.put hi)
  unfold mGN at t
  split at t
  · exact t.elim
  · exact t
theorem ggs_nil {o : Option (List Nat)} : PGs X [] (lGs X.K o []) := by
  refine PGsw pgs_nil ?_
  rintro v σ H Q ⟨Z, F, ρ, ds, R, S, r, t, q⟩
  cases r with
  | nil => exact ⟨rfl, q ρ σ t S .refl⟩
  | cons => exact t.elim
theorem ggs_cons {o : Option (List Nat)} {es : List Expr} {g : MG} {gs : List MG} (h1 : PG X e (lG X.K o g)) (h2 : PGs X es (lGs X.K o gs)) (hs : (assignEach (e :: es) X.env).map (·.2) = assign e X.env :: (assignEach es X.env).map (·.2) := by rfl) : PGs X (e :: es) (lGs X.K o (g :: gs)) := by
  refine PGsw (pgs_cons h1 h2 hs) ?_
  rintro v σ H Q ⟨Z, F, ρ, ds, R, S, r, t, q⟩
  cases r with
  | nil => exact t.elim
  | @cons v vs d ds h r => exact ⟨v, vs, rfl, Z, F, ρ, d, _, S, h, t, fun ρ' σ' t' S' p1 => ⟨Z, F, ρ', ds, R, S', r, t', fun ρ2 σ2 t2 S2 p2 => q ρ2 σ2 t2 S2 (p1.trans p2)⟩⟩
theorem gg_tup {o : Option (List Nat)} {es : List Expr} {k : Nat} {gs : List MG} (hc : X.calm = true) (h : PGs X es (lGs X.K o gs)) (hn : (assignEach es X.env).length = gs.length := by rfl) (hst : (assignEach es X.env).findIdx? (·.1) = none := by rfl) : PG X (.Tuple es k pos) (lG X.K o (mGT gs)) := by
  refine PGw (pg_tup hc h hn hst) ?_
  rintro v σ H Q ⟨Z, F, ρ, d, R, S, r, t, q⟩
  cases r with
  | @tup a xs ds h1 h2 h3 =>
    unfold mGT at t
    dsimp only at t
    split at t
    · rename_i hl
      exact ⟨a, xs, rfl, (h1.monoW S.fh).sq, by rw [h2.length]; exact lenEq_len hl, Z, F, ρ, ds, R, S, h2, t, q⟩
    · exact t.elim
  | _ => exact t.elim
theorem gs_asg {tg : Expr} {g : MG} (he : PE X e (LE X W te)) (hg : PG X tg (LG X g)) (hs : swapsWithSole [tg] e pos.line X.env = pure false := by rfl) (hw : swappedStores [tg] e X.env = pure none := by rfl)
    (h1 : (assignEach [tg] X.env).map (·.2) = [assign tg X.env] := by rfl) : PS X (.Assign [tg] e pos) (LS X W (mAsg te g)) := by
  refine PSw (ps_asg he hg hs hw h1) ?_
  rintro D σ H ⟨Z, F, ρ, DR, S, w, t, k⟩
  refine ⟨Z, F, ρ, _, S, w, t, fun d ρ1 v F1 H1 t1 sf1 S1 r1 => ?_⟩
  exact ⟨Z, F1, ρ1, d, _, S1, r1, t1, fun ρ2 σ2 t2 S2 _ => k.nx ρ2 σ2 F1 H1 t2 sf1 S2⟩
theorem gs_set {i : Nat} {x : Str} {p : Pos} (hN : X.N.Nodup) (hi : X.N[i]? = some x) (hx : Loc X.env.scope x) (he : PE X e (LE X W te)) (hs : swapsWith e (some (.Name x p)) pos.line X.env = pure false := by rfl) (hf : X.fn x = true ∨ X.env.scope.names.lookup x = some .local := by first | exact .inl rfl | exact .inr rfl | assumption) :
    PS X (.Assign [.Name x p] e pos) (LS X W (mSet i te)) := by
  refine PSw (ps_set hN hi hx he hs hf) ?_
  rintro D σ H ⟨Z, F, ρ, DR, S, w, t, k⟩
  refine ⟨Z, F, ρ, _, S, w, t, fun d ρ1 v F1 H1 t1 sf1 S1 r1 => ?_⟩
  refine k.nx _ _ F1 H1 ?_ sf1 (S1.putDat i r1)
  unfold mGN at t1
  split at t1
  · exact t1.elim
  · exact t1
theorem gs_setN {i : Nat} {x : Str} {p : Pos} (hN : X.N.Nodup) (hi : X.N[i]? = some x) (hx : Loc X.env.scope x) (he : PE X e (LN X W te)) (hs : swapsWith e (some (.Name x p)) pos.line X.env = pure false := by rfl) (hf : X.fn x = true ∨ X.env.scope.names.lookup x = some .local := by first | exact .inl rfl | exact .inr rfl | assumption) :
    PS X (.Assign [.Name x p] e pos) (LS X W (mSetN i te)) := by
  refine PSw (ps_set hN hi hx he hs hf) ?_
  rintro D σ H ⟨Z, F, ρ, DR, S, w, t, k⟩
  refine ⟨Z, F, ρ, _, S, w, t, fun d ρ1 a F1 H1 t1 sf1 S1 fa za c aw => ?_⟩
  split at t1
  · exact t1.elim
  · exact k.nx _ _ F1 H1 t1 sf1 (S1.putOwn i fa za c aw)

/-! ### what is walked -/
/-- the iterator J goes through ds, in every heap behind that has what is frozen and what stands outside -/
def WalkOn (K : PySem.W.Frag) (Z F : Hp) (J : It) (ds : List PyData) : Prop := ∀ F' H', Same F F' → SameW F' H' → Same Z H' →
  (∀ i, i < ds.length → J.go i H') ∧ J.stop ds.length H' ∧ ∀ i x H'', i < ds.length → J.yld i H' x H'' → H'' = H' ∧ ∃ d, ds[i]? = some d ∧ Rep K F' x d
abbrev MI := Ms → (List PyData → Ms → Prop) → Prop
def lI (K : PySem.W.Frag) (mg : Str → Option Value) (W : Wish) (t : MI) : TI := fun σ H R => ∃ Z F ρ R0, Stt K Z F H σ ρ ∧ WOk mg W Z F ∧ t ρ R0 ∧
  ∀ ds ρ1 F1 H1 J, R0 ds ρ1 → Same F F1 → Stt K Z F1 H1 σ ρ1 → WalkOn K Z F1 J ds → ds.length ≤ sizeLine → R J H1
abbrev LI (X : Cx) (W : Wish) (t : MI) : TI := lI X.K X.mg W t
theorem PIw {X : Cx} {tg e : Expr} {t t' : TI} (h : PI X tg e t) (w : ∀ σ H Q, t' σ H Q → t σ H Q) : PI X tg e t' := ⟨fun pins s σ H Q I q => h.run pins s σ H Q I (w σ H Q q)⟩
/-- a list or a tuple -/
theorem pi_seq {tg l : Expr} {tl : TE} (hl : PE X l tl) : PI X tg l (fun σ H R => tl σ H fun x H1 => ∃ a, x = .ref a ∧ (((∃ xs, SqL X.K H1 a xs) ∧ R (Itl X.K a) H1) ∨ ((∃ xs, SqT X.K H1 a xs) ∧ R (Itt X.K a) H1))) := by
  refine ⟨fun pins s σ H R I h => ?_⟩
  refine thn (hl.run pins s σ H _ I h) fun v s1 ⟨x, H1, I1, r1, q1⟩ => ?_
  obtain ⟨a, e, q⟩ := q1
  subst e
  cases r1
  have key : ∀ b ∈ [s1.heap.objs.size], FpOk X pins H1 b := fun b hb => by
    have e : b = s1.heap.objs.size := by simpa using hb
    subst e
    exact I1.fpOk (Nat.le_refl _) (I1.hok.fresh (Nat.le_refl _))
  rcases q with ⟨⟨xs, hq⟩, q⟩ | ⟨⟨xs, hq⟩, q⟩
  · obtain ⟨its, rv, p, hz⟩ := I1.list hq
    refine wpAny_pyIter_list p.isList ?_
    exact ⟨s1.heap.objs.size, [s1.heap.objs.size], _, _, H1, rfl, I1.kept (t' := s1.toks) fun b o e => Heap.get?_push_of_some _ e, turn_list a _, ⟨_, Heap.get?_push_size _ rfl, rfl, rfl⟩, key, q⟩
  · obtain ⟨its, rv, p, hz⟩ := I1.tuple hq
    refine wpAny_pyIter_tuple (show s1.heap.IsTuple a its.toArray from p) ?_
    exact ⟨s1.heap.objs.size, [s1.heap.objs.size], _, _, H1, rfl, I1.kept (t' := s1.toks) fun b o e => Heap.get?_push_of_some _ e, turn_tuple a _, ⟨_, Heap.get?_push_size _ rfl, rfl, rfl⟩, key, q⟩
def seqOf : PyData → Option (List PyData)
  | .list ds => some ds
  | .tuple ds => some ds
  | _ => none
def iSq (te : ME) : MI := fun ρ R => te ρ fun d ρ1 => match seqOf d with
  | some ds => R ds ρ1
  | none => False
theorem walk_list {K : PySem.W.Frag} {Z F : Hp} {a : Addr} {xs : List V} {ds : List PyData} (h : F a = some (.lst xs)) (r : RepAll K F xs ds) : WalkOn K Z F (Itl K a) ds := fun F' H' sf sw _ => by
  have hs : SqL K H' a xs := SqL.of (sw.lst (sf _ _ h))
  refine ⟨fun i hi => ⟨xs, _, hs, List.getElem?_eq_getElem (by rw [r.length]; exact hi)⟩, ⟨xs, hs, by rw [r.length]; exact Nat.le_refl _⟩, fun i x H'' hi y => ⟨y.1, ?_⟩⟩
  obtain ⟨d, e1, e2⟩ := r.get' (y.2 xs hs)
  exact ⟨d, e1, e2.mono sf⟩
theorem walk_tup {K : PySem.W.Frag} {Z F : Hp} {a : Addr} {xs : List V} {ds : List PyData} (h : TupP K F a xs) (r : RepAll K F xs ds) : WalkOn K Z F (Itt K a) ds := fun F' H' sf sw _ => by
  have hs : SqT K H' a xs := ((h.mono sf).monoW sw).sq
  refine ⟨fun i hi => ⟨xs, _, hs, List.getElem?_eq_getElem (by rw [r.length]; exact hi)⟩, ⟨xs, hs, by rw [r.length]; exact Nat.le_refl _⟩, fun i x H'' hi y => ⟨y.1, ?_⟩⟩
  obtain ⟨d, e1, e2⟩ := r.get' (y.2 xs hs)
  exact ⟨d, e1, e2.mono sf⟩
theorem gi_seq {tg : Expr} (he : PE X e (LE X W te)) : PI X tg e (LI X W (iSq te)) := by
  refine PIw (pi_seq he) ?_
  rintro σ H Q ⟨Z, F, ρ, R, S, w, t, q⟩
  refine ⟨Z, F, ρ, _, S, w, t, fun d ρ1 v F1 H1 t1 sf1 S1 r1 => ?_⟩
  cases r1 with
  | @lst a xs ds h1 h2 h3 => exact ⟨a, rfl, .inl ⟨⟨xs, SqL.of (S1.fh.lst h1)⟩, q ds ρ1 F1 H1 _ t1 sf1 S1 (walk_list h1 h2) h3⟩⟩
  | @tup a xs ds h1 h2 h3 => exact ⟨a, rfl, .inr ⟨⟨xs, (h1.monoW S1.fh).sq⟩, q ds ρ1 F1 H1 _ t1 sf1 S1 (walk_tup h1 h2) h3⟩⟩
  | _ => exact t1.elim
def rangeD (n : Nat) : List PyData := (List.range n).map fun (k : Nat) => PyData.int (k : Int)
def iRg (te : ME) : MI := fun ρ R => te ρ fun d ρ1 => match d with
  | .int j => (-10000 ≤ j ∧ j < 10000) ∧ R (rangeD j.toNat) ρ1
  | _ => False
theorem walk_range {K : PySem.W.Frag} {Z F : Hp} {n : Nat} : WalkOn K Z F (Itr 0 n) (rangeD n) := fun F' H' sf sw _ => by
  have hl : (rangeD n).length = n := by unfold rangeD; rw [List.length_map, List.length_range]
  rw [hl]
  refine ⟨fun i hi => hi, Nat.le_refl _, fun i x H'' hi y => ⟨y.1, .int (i : Int), ?_, ?_⟩⟩
  · unfold rangeD
    rw [List.getElem?_map, List.getElem?_range hi]
    rfl
  · rw [y.2, Int.zero_add]
    exact .int _
theorem gi_range {tg : Expr} {p : Pos} (hg : Gl X "range") (hm : X.mg "range" = none) (he : PE X e (LE X W te)) (hs : starEach [e] X.env = [(false, eval e X.env)] := by rfl) (hs2 : starEach [e] X.env = (false, eval e X.env) :: starEach [] X.env := by rfl) : PI X tg (.Call (.Name "range" p) [e] [] pos) (LI X W (iRg te)) := by
  refine PIw (pi_range1 hg hm (pa_cons he pa_nil hs2) hs) ?_
  rintro σ H Q ⟨Z, F, ρ, R, S, w, t, q⟩
  refine ⟨Z, F, ρ, _, S, w, t, fun d ρ1 v F1 H1 t1 sf1 S1 r1 => ?_⟩
  cases r1 with
  | int j =>
    obtain ⟨hj, t1⟩ := t1
    exact ⟨j, rfl, by omega, by omega, q _ ρ1 F1 H1 _ t1 sf1 S1 walk_range (by unfold rangeD; rw [List.length_map, List.length_range]; exact Nat.le_trans (by omega : j.toNat ≤ 10000) (by decide))⟩
  | _ => exact t1.elim
end
end G


set_option Elab.async false
set_option maxRecDepth 100000
set_option maxHeartbeats 1000000
/-! GV9: for, while, comprehensions. -/
namespace G
open PySem PySem.Spec PyProof.Rows L2
def mForL (g : MG) (tb : MS) (D : PEnd) : List PyData → Ms → Prop
  | [], ρ => D.nx ρ
  | x :: xs, ρ => g x ρ fun ρ1 => tb { D with nx := mForL g tb D xs, ct := mForL g tb D xs, bk := D.nx } ρ1
def mFor (ti : MI) (g : MG) (tb : MS) : MS := fun D ρ => ti ρ fun ds ρ1 => mForL g tb D ds ρ1
def mWhile (c : MB) (tb : MS) : MS := fun D ρ => ∃ J : Nat → Ms → Prop, (∃ m, J m ρ) ∧ ∀ m ρ, J m ρ → c ρ fun b ρ1 =>
  if b = true then tb { D with nx := fun ρ' => ∃ m', m' < m ∧ J m' ρ', ct := fun ρ' => ∃ m', m' < m ∧ J m' ρ', bk := D.nx } ρ1 else D.nx ρ1
section
variable {X : Cx} {W : Wish} {pos : Pos} {tg iter e : Expr} {body : List Stmt} {ti : MI} {g : MG} {tb : MS} {te : ME}
theorem for_low {J : It} {ds : List PyData} {Z F1 H1 : Hp} {σ : L2.St} {ρ1 : Ms} {DR : PEnd} {D : Ends} (S1 : Stt X.K Z F1 H1 σ ρ1) (wk : WalkOn X.K Z F1 J ds) (t1 : mForL g tb DR ds ρ1) (w : WOk X.mg W Z F1) (k : EndsOk X.K Z F1 DR D) :
    ∃ Wi : Nat → Nat → L2.St → Hp → Prop, (∃ m, Wi 0 m σ H1) ∧ ∀ i m σ H, Wi i m σ H → (J.stop i H ∧ D.nx σ H) ∨ (J.go i H ∧ ∃ N : L2.St → Hp → Prop, (∀ σ' H', N σ' H' → ∃ m', m' < m ∧ Wi (i + 1) m' σ' H') ∧ ∀ x H', J.yld i H x H' → LG X g x σ H' fun σ2 H2 => LS X W tb { D with nx := N, ct := N, bk := D.nx } σ2 H2) := by
  refine ⟨fun i m σ' H' => m = ds.length - i ∧ i ≤ ds.length ∧ ∃ F' ρ', Same F1 F' ∧ Stt X.K Z F' H' σ' ρ' ∧ mForL g tb DR (ds.drop i) ρ', ⟨ds.length, by simp, Nat.zero_le _, F1, ρ1, Same.refl _, S1, t1⟩, ?_⟩
  rintro i m σ2 H2 ⟨rfl, hi, F2, ρ2, sf2, S2, t2⟩
  obtain ⟨k1, k2, k3⟩ := wk F2 H2 sf2 S2.fh S2.zh
  by_cases hlt : i < ds.length
  · refine .inr ⟨k1 i hlt, fun σ' H' => ∃ F' ρ', Same F1 F' ∧ Stt X.K Z F' H' σ' ρ' ∧ mForL g tb DR (ds.drop (i + 1)) ρ', fun σ' H' p' => ⟨ds.length - (i + 1), by omega, rfl, hlt, p'⟩, fun x H' y => ?_⟩
    obtain ⟨e1, d, e2, r2⟩ := k3 i x H' hlt y
    subst e1
    have ed : ds.drop i = d :: ds.drop (i + 1) := by
      rw [List.drop_eq_getElem_cons hlt]
      rw [List.getElem?_eq_getElem hlt] at e2
      rw [Option.some.inj e2]
    rw [ed] at t2
    have t2 : g d ρ2 fun ρ1 => tb { DR with nx := mForL g tb DR (ds.drop (i + 1)), ct := mForL g tb DR (ds.drop (i + 1)), bk := DR.nx } ρ1 := t2
    refine ⟨Z, F2, ρ2, d, _, S2, r2, t2, fun ρ3 σ3 t3 S3 _ => ?_⟩
    refine ⟨Z, F2, ρ3, _, S3, w.mono sf2, t3, ?_, ?_, ?_, ?_, ?_⟩
    · exact fun ρ' σ' F' H' a sf S' => ⟨F', ρ', sf2.trans sf, S', a⟩
    · exact fun d ρ' v σ' F' H' a sf S' r => k.rt d ρ' v σ' F' H' a (sf2.trans sf) S' r
    · exact fun d ρ' v σ' F' H' a sf S' => k.ro d ρ' v σ' F' H' a (sf2.trans sf) S'
    · exact fun ρ' σ' F' H' a sf S' => k.nx ρ' σ' F' H' a (sf2.trans sf) S'
    · exact fun ρ' σ' F' H' a sf S' => ⟨F', ρ', sf2.trans sf, S', a⟩
  · have e : i = ds.length := by omega
    subst e
    rw [List.drop_length] at t2
    exact .inl ⟨k2, k.nx ρ2 σ2 F2 H2 t2 sf2 S2⟩
theorem gs_for (hp : PassesOwn (model X.prog X.w) X.A X.env X.xe) (hc : X.calm = true) (hi : PI X tg iter (LI X W ti)) (hg : PG X tg (LG X g)) (hb : PSs X body (LS X W tb))
    (hs : ∀ x, foldedSetIterable iter X.env x = pure x := by intro _; rfl) : PS X (.For tg iter body [] pos) (LS X W (mFor ti g tb)) := by
  refine PSw (ps_for hp hc hi hg hb hs) ?_
  rintro D σ H ⟨Z, F, ρ, DR, S, w, t, k⟩
  refine ⟨Z, F, ρ, _, S, w, t, fun ds ρ1 F1 H1 J t1 sf1 S1 wk _ => ?_⟩
  exact for_low S1 wk t1 (w.mono sf1) (k.mono sf1)
theorem gs_while {c : Expr} {tc : MB} (hp : PassesOwn (model X.prog X.w) X.A X.env X.xe) (hc : PT X c (LB X W tc)) (hb : PSs X body (LS X W tb)) : PS X (.While c body [] pos) (LS X W (mWhile tc tb)) := by
  refine PSw (ps_while hp hc hb) ?_
  rintro D σ H ⟨Z, F, ρ, DR, S, w, ⟨J, ⟨m0, j0⟩, turn⟩, k⟩
  refine ⟨fun m σ' H' => ∃ F' ρ', Same F F' ∧ Stt X.K Z F' H' σ' ρ' ∧ J m ρ', ⟨m0, F, ρ, Same.refl _, S, j0⟩, ?_⟩
  rintro m σ1 H1 ⟨F1, ρ1, sf1, S1, j1⟩
  refine ⟨Z, F1, ρ1, _, S1, w.mono sf1, turn m ρ1 j1, fun b ρ2 F2 H2 t2 sf2 S2 => ?_⟩
  have sfa := sf1.trans sf2
  cases b with
  | true =>
    rw [if_pos rfl] at t2
    refine iteT ?_
    refine ⟨fun σ' H' => ∃ m', m' < m ∧ ∃ F' ρ', Same F F' ∧ Stt X.K Z F' H' σ' ρ' ∧ J m' ρ', fun σ' H' ⟨m', h, q⟩ => ⟨m', h, q⟩, Z, F2, ρ2, _, S2, w.mono sfa, t2, ?_, ?_, ?_, ?_, ?_⟩
    · exact fun ρ' σ' F' H' ⟨m', h, a⟩ sf S' => ⟨m', h, F', ρ', sfa.trans sf, S', a⟩
    · exact fun d ρ' v σ' F' H' a sf S' r => k.rt d ρ' v σ' F' H' a (sfa.trans sf) S' r
    · exact fun d ρ' v σ' F' H' a sf S' => k.ro d ρ' v σ' F' H' a (sfa.trans sf) S'
    · exact fun ρ' σ' F' H' a sf S' => k.nx ρ' σ' F' H' a (sfa.trans sf) S'
    · exact fun ρ' σ' F' H' ⟨m', h, a⟩ sf S' => ⟨m', h, F', ρ', sfa.trans sf, S', a⟩
  | false =>
    rw [if_neg Bool.false_ne_true] at t2
    exact iteF (k.nx ρ2 σ1 F2 H2 t2 sfa S2)

/-! ### comprehensions -/
def wipeM (ρ : Ms) : List Nat → Ms
  | [] => ρ
  | v :: vs => (wipeM ρ vs).set v .un
/-- the slots of a comprehension's own names, as they were where that is data -/
def backM (ρ0 ρ : Ms) : List Nat → Ms
  | [] => ρ
  | v :: vs => (backM ρ0 ρ vs).set v (match slot ρ0 v with
    | .dat d => .dat d
    | .scr n => .scr n
    | .raw x => .raw x
    | _ => .un)
def mLcL (g : MG) (tt : MB) (te : ME) (vs : List Nat) (R : List PyData → Ms → Prop) : List PyData → List PyData → Ms → Prop
  | [], acc, ρ => R acc ρ
  | x :: xs, acc, ρ => g x ρ fun ρ1 => tt ρ1 fun b ρ2 => if b = true then te ρ2 fun y ρ3 => mLcL g tt te vs R xs (acc ++ [y]) (wipeM ρ3 vs) else mLcL g tt te vs R xs acc (wipeM ρ2 vs)
def mLc (ti : MI) (g : MG) (tt : MB) (te : ME) (vs : List Nat) : ME := fun ρ R => ti ρ fun ds ρ1 => mLcL g tt te vs (fun acc ρ2 => R (.list acc) (backM ρ1 ρ2 vs)) ds [] (wipeM ρ1 vs)
theorem wipeM_len (ρ : Ms) : ∀ vs : List Nat, (wipeM ρ vs).length = ρ.length
  | [] => rfl
  | v :: vs => by unfold wipeM; rw [List.length_set, wipeM_len ρ vs]
theorem backM_len (ρ0 ρ : Ms) : ∀ vs : List Nat, (backM ρ0 ρ vs).length = ρ.length
  | [] => rfl
  | v :: vs => by unfold backM; rw [List.length_set, backM_len ρ0 ρ vs]
theorem wipeM_at {ρ : Ms} {i : Nat} {s : Sl} : ∀ {vs : List Nat}, (wipeM ρ vs)[i]? = some s → s = .un ∨ (ρ[i]? = some s ∧ i ∉ vs)
  | [], h => .inr ⟨h, by simp⟩
  | v :: vs, h => by
    unfold wipeM at h
    by_cases hi : v = i
    · subst hi
      by_cases hv : v < (wipeM ρ vs).length
      · rw [List.getElem?_set_self hv] at h; exact .inl (Option.some.inj h).symm
      · rw [List.getElem?_eq_none (by simpa using hv)] at h; cases h
    · rw [List.getElem?_set_ne hi] at h
      rcases wipeM_at h with z | ⟨z, y⟩
      · exact .inl z
      · exact .inr ⟨z, by simp only [List.mem_cons, not_or]; exact ⟨fun e => hi e.symm, y⟩⟩
theorem wipe_at {σ : L2.St} {i : Nat} : ∀ {vs : List Nat}, i ∉ vs → at_ (wipe σ vs) i = at_ σ i
  | [], _ => rfl
  | v :: vs, h => by
    unfold wipe
    rw [at_set_ne (fun e => h (by rw [e]; exact List.mem_cons_self)), wipe_at (fun z => h (List.mem_cons_of_mem _ z))]
theorem Stt.wipe {K : PySem.W.Frag} {Z F H : Hp} {σ : L2.St} {ρ : Ms} (S : Stt K Z F H σ ρ) (vs : List Nat) : Stt K Z F H (L2.wipe σ vs) (wipeM ρ vs) :=
  S.weak (by rw [wipe_length, wipeM_len]; exact S.len) fun i s e => (wipeM_at e).imp id fun h => ⟨h.1, wipe_at h.2⟩
theorem backM_at {ρ0 ρ : Ms} {i : Nat} {s : Sl} : ∀ {vs : List Nat}, (backM ρ0 ρ vs)[i]? = some s → (i ∈ vs ∧ (s = .un ∨ (s = slot ρ0 i ∧ ∀ v a, ¬ mutA v s a))) ∨ (i ∉ vs ∧ ρ[i]? = some s)
  | [], h => .inr ⟨by simp, h⟩
  | v :: vs, h => by
    unfold backM at h
    by_cases hi : v = i
    · subst hi
      by_cases hv : v < (backM ρ0 ρ vs).length
      · rw [List.getElem?_set_self hv] at h
        refine .inl ⟨List.mem_cons_self, ?_⟩
        have h := Option.some.inj h
        subst h
        split
        · rename_i d e; exact .inr ⟨e.symm, fun v a => noMut_dat⟩
        · rename_i d e; exact .inr ⟨e.symm, fun v a ⟨_, q⟩ => by rcases q with ⟨_, q⟩ | ⟨_, _, q⟩ <;> cases q⟩
        · rename_i d e; exact .inr ⟨e.symm, fun v a => noMut_raw⟩
        · exact .inl rfl
      · rw [List.getElem?_eq_none (by simpa using hv)] at h; cases h
    · rw [List.getElem?_set_ne hi] at h
      rcases backM_at h with ⟨z, y⟩ | ⟨z, y⟩
      · exact .inl ⟨List.mem_cons_of_mem _ z, y⟩
      · exact .inr ⟨by simp only [List.mem_cons, not_or]; exact ⟨fun e => hi e.symm, z⟩, y⟩
theorem wipe_wipe (σ : L2.St) (vs : List Nat) : L2.wipe (L2.wipe σ vs) vs = L2.wipe σ vs := by
  apply List.ext_getElem?
  intro j
  rw [wipe_get, wipe_length, wipe_get]
  by_cases h : j ∈ vs ∧ j < σ.length
  · rw [if_pos h, if_pos h]
  · rw [if_neg h]
/-- behind a comprehension -/
theorem Stt.back {K : PySem.W.Frag} {Z F F' H H' : Hp} {σ : L2.St} {ρ0 ρ : Ms} {vs : List Nat} (S0 : Stt K Z F H σ ρ0) (S : Stt K Z F' H' (L2.wipe σ vs) ρ) (sf : Same F F') : Stt K Z F' H' σ (backM ρ0 ρ vs) := by
  have same : ∀ {i}, i ∉ vs → at_ (L2.wipe σ vs) i = at_ σ i := fun h => wipe_at h
  refine ⟨S.fh, S.zh, S.zf, by rw [backM_len, ← S.len, wipe_length], fun i s e => ?_, fun i j s t a e1 e2 m1 m2 => ?_⟩
  · rcases backM_at e with ⟨hi, rfl | ⟨rfl, nm⟩⟩ | ⟨hi, q⟩
    · trivial
    · by_cases hn : slot ρ0 i = .un
      · rw [hn]; trivial
      · exact (S0.sl i _ (slot_some rfl hn)).move sf (fun a o m _ => (nm _ a m).elim) (fun a m => (nm _ a m).elim) fun a m => (nm _ a m).elim
    · rw [← same hi]; exact S.sl i s q
  · rcases backM_at e1 with ⟨hi, rfl | ⟨rfl, nm⟩⟩ | ⟨hi, q1⟩
    · exact (noMut_un m1).elim
    · exact (nm _ a m1).elim
    · rcases backM_at e2 with ⟨hj, rfl | ⟨rfl, nm⟩⟩ | ⟨hj, q2⟩
      · exact (noMut_un m2).elim
      · exact (nm _ a m2).elim
      · rw [← same hi] at m1
        rw [← same hj] at m2
        exact S.ap i j s t a q1 q2 m1 m2
theorem Stt.outer {K : PySem.W.Frag} {Z F H : Hp} {σ : L2.St} {ρ : Ms} {D : Addr} {o : HO} (S : Stt K Z F H σ ρ) (f : F D = none) (h : H D = some o) (aw : ∀ i s, ρ[i]? = some s → ¬ mutA (at_ σ i) s D) : Stt K (upd Z D o) F H σ ρ := by
  refine ⟨S.fh, fun b u e => ?_, fun b q => ?_, S.len, fun i s e => ?_, S.ap⟩
  · by_cases hb : b = D
    · subst hb; rw [upd_same] at e; cases e; exact h
    · rw [upd_ne hb] at e; exact S.zh b u e
  · by_cases hb : b = D
    · rw [hb]; exact f
    · rw [upd_ne hb] at q; exact S.zf b q
  · refine (S.sl i s e).move (Same.refl _) (fun _ _ _ q => q) (fun a m => ?_) fun a m => (S.mut e m).2.1
    have : a ≠ D := fun z => aw i s e (z ▸ m)
    rw [upd_ne this]; exact (S.mut e m).1
/-- the outer thing is given back -/
theorem Stt.inner {K : PySem.W.Frag} {Z F H : Hp} {σ : L2.St} {ρ : Ms} {D : Addr} {o : HO} (S : Stt K (upd Z D o) F H σ ρ) (z : Z D = none) : Stt K Z F H σ ρ ∧ F D = none ∧ H D = some o ∧ ∀ i s, ρ[i]? = some s → ¬ mutA (at_ σ i) s D := by
  have zs : Same Z (upd Z D o) := same_upd z
  refine ⟨⟨S.fh, zs.trans S.zh, fun b q => ?_, S.len, fun i s e => ?_, S.ap⟩, S.zf D (by rw [upd_same]; simp), S.zh D o upd_same, fun i s e m => ?_⟩
  · refine S.zf b fun y => ?_
    by_cases hb : b = D
    · rw [hb, upd_same] at y; cases y
    · rw [upd_ne hb] at y; exact q y
  · refine (S.sl i s e).move (Same.refl _) (fun _ _ _ q => q) (fun a m => ?_) fun a m => (S.mut e m).2.1
    have h1 := (S.mut e m).1
    by_cases hb : a = D
    · rw [hb, upd_same] at h1; cases h1
    · rw [upd_ne hb] at h1; exact h1
  · have h1 := (S.mut e m).1
    rw [upd_same] at h1; cases h1
/-- what is written of a list outside -/
theorem Stt.outerPut {K : PySem.W.Frag} {Z F H : Hp} {σ : L2.St} {ρ : Ms} {D : Addr} {o o' : HO} (S : Stt K (upd Z D o) F H σ ρ) (z : Z D = none) : Stt K (upd Z D o') F (upd H D o') σ ρ := by
  obtain ⟨S1, f, h, aw⟩ := S.inner z
  have S2 : Stt K Z F (upd H D o') σ ρ := by
    refine ⟨fun b u e => ?_, fun b u e => ?_, S1.zf, S1.len, fun i s e => ?_, S1.ap⟩
    · have hb : b ≠ D := fun y => by rw [y, f] at e; cases e
      rw [upd_ne hb]; exact S1.fh b u e
    · have hb : b ≠ D := fun y => by rw [y, z] at e; cases e
      rw [upd_ne hb]; exact S1.zh b u e
    · refine (S1.sl i s e).move (Same.refl _) (fun a u m q => ?_) (fun a m => (S1.mut e m).1) fun a m => (S1.mut e m).2.1
      have : a ≠ D := fun y => aw i s e (y ▸ m)
      rw [upd_ne this]; exact q
  exact S2.outer f upd_same aw
theorem lc_low2 {tt : MB} {vs : List Nat} {σ : L2.St} {H1 : Hp} {Q : VK} {J : It} {ds : List PyData} {Z F1 : Hp} {ρ1 : Ms} {R : PyData → Ms → Prop} (S1 : Stt X.K Z F1 H1 σ ρ1) (wk : WalkOn X.K Z F1 J ds) (hz : ds.length ≤ sizeLine)
    (t1 : mLcL g tt te vs (fun acc ρ2 => R (.list acc) (backM ρ1 ρ2 vs)) ds [] (wipeM ρ1 vs))
    (q : ∀ d ρ' a F' H', R d ρ' → Same F1 F' → Stt X.K Z F' H' σ ρ' → F' a = none → Z a = none → Cont X.K F' H' a d → (∀ i s, ρ'[i]? = some s → ¬ mutA (at_ σ i) s a) → Q (.ref a) H') :
    ∀ D, H1 D = none → ∃ Wi : Nat → Nat → Hp → Prop, (∃ m, Wi 0 m (upd H1 D (.lst []))) ∧ ∀ i m H, Wi i m H →
      (J.stop i H ∧ Q (.ref D) H) ∨ (J.go i H ∧ ∃ Nx : Hp → Prop, (∀ H', Nx H' → ∃ m', m' < m ∧ Wi (i + 1) m' H') ∧ ∀ x H', J.yld i H x H' → lG X.K (some vs) g x (L2.wipe σ vs) H' fun σ2 H2 => L2.wipe σ2 vs = L2.wipe σ vs ∧ lB X.K X.mg Wish.no tt σ2 H2 fun b H3 =>
        if b = true then lE X.K X.mg Wish.no te σ2 H3 fun y H4 => ∃ acc, H4 D = some (.lst acc) ∧ acc.length < sizeLine ∧ Nx (upd H4 D (.lst (acc ++ [y]))) else Nx H3) := by
  intro D hD
  have zD : Z D = none := S1.zh.free hD
  have fD : F1 D = none := S1.fh.free hD
  -- the turn's word
  refine ⟨fun i m H' => m = ds.length - i ∧ i ≤ ds.length ∧ ∃ F' ρ' xs acc, Same F1 F' ∧ Stt X.K (upd Z D (.lst xs)) F' H' (L2.wipe σ vs) ρ' ∧ RepAll X.K F' xs acc ∧ acc.length ≤ i ∧ mLcL g tt te vs (fun acc ρ2 => R (.list acc) (backM ρ1 ρ2 vs)) (ds.drop i) acc ρ',
    ⟨ds.length, by simp, Nat.zero_le _, F1, wipeM ρ1 vs, [], [], Same.refl _, ((S1.lay (.lst []) hD).wipe vs).outer fD upd_same (fun i s e m => ?_), .nil, Nat.le_refl _, t1⟩, ?_⟩
  · have S2 := S1.lay (.lst []) hD
    rcases wipeM_at e with rfl | ⟨e, hi⟩
    · exact noMut_un m
    · rw [wipe_at hi] at m
      exact S1.newAway hD i s e m
  rintro i m H2 ⟨rfl, hi, F2, ρ2, xs, acc, sf2, S2, ra, hacc, t2⟩
  obtain ⟨S2', f2, h2, aw2⟩ := S2.inner zD
  obtain ⟨k1, k2, k3⟩ := wk F2 H2 sf2 S2.fh S2'.zh
  by_cases hlt : i < ds.length
  · refine .inr ⟨k1 i hlt, fun H' => ∃ F' ρ' xs acc, Same F1 F' ∧ Stt X.K (upd Z D (.lst xs)) F' H' (L2.wipe σ vs) ρ' ∧ RepAll X.K F' xs acc ∧ acc.length ≤ i + 1 ∧ mLcL g tt te vs (fun acc ρ2 => R (.list acc) (backM ρ1 ρ2 vs)) (ds.drop (i + 1)) acc ρ', fun H' p' => ⟨ds.length - (i + 1), by omega, rfl, hlt, p'⟩, fun x H' y => ?_⟩
    obtain ⟨e1, d, e2, r2⟩ := k3 i x H' hlt y
    subst e1
    have ed : ds.drop i = d :: ds.drop (i + 1) := by
      rw [List.drop_eq_getElem_cons hlt]
      rw [List.getElem?_eq_getElem hlt] at e2
      rw [Option.some.inj e2]
    rw [ed] at t2
    have t2 : g d ρ2 fun ρ1' => tt ρ1' fun b ρ2 => if b = true then te ρ2 fun y ρ3 => mLcL g tt te vs (fun acc ρ2 => R (.list acc) (backM ρ1 ρ2 vs)) (ds.drop (i + 1)) (acc ++ [y]) (wipeM ρ3 vs) else mLcL g tt te vs (fun acc ρ2 => R (.list acc) (backM ρ1 ρ2 vs)) (ds.drop (i + 1)) acc (wipeM ρ2 vs) := t2
    refine ⟨upd Z D (.lst xs), F2, ρ2, d, _, S2, r2, t2, fun ρ3 σ3 t3 S3 p3 => ⟨Eq.trans p3 (wipe_wipe σ vs), ?_⟩⟩
    have e3 : L2.wipe σ3 vs = L2.wipe σ vs := Eq.trans p3 (wipe_wipe σ vs)
    refine ⟨upd Z D (.lst xs), F2, ρ3, _, S3, WOk.no, t3, fun b ρ4 F4 H4 t4 sf4 S4 => ?_⟩
    cases b with
    | true =>
      rw [if_pos rfl] at t4
      refine iteT ⟨upd Z D (.lst xs), F4, ρ4, _, S4, WOk.no, t4, fun y ρ5 v F5 H5 t5 sf5 S5 r5 => ?_⟩
      obtain ⟨S5', f5, h5, aw5⟩ := S5.inner zD
      refine ⟨xs, h5, Nat.lt_of_lt_of_le (Nat.lt_of_le_of_lt (by rw [ra.length]; exact hacc) hlt) hz, F5, wipeM ρ5 vs, xs ++ [v], acc ++ [y], sf2.trans (sf4.trans sf5), ?_, ((ra.mono sf4).mono sf5).append (.cons r5 .nil), by rw [List.length_append]; exact Nat.succ_le_succ hacc, t5⟩
      have S6 := (S5.outerPut (o' := .lst (xs ++ [v])) zD).wipe vs
      rw [e3] at S6
      exact S6
    | false =>
      rw [if_neg Bool.false_ne_true] at t4
      refine iteF ⟨F4, wipeM ρ4 vs, xs, acc, sf2.trans sf4, ?_, ra.mono sf4, Nat.le_succ_of_le hacc, t4⟩
      have S6 := S4.wipe vs
      rw [e3] at S6
      exact S6
  · have e : i = ds.length := by omega
    subst e
    rw [List.drop_length] at t2
    have t2 : R (.list acc) (backM ρ1 ρ2 vs) := t2
    have Sb := S1.back S2' sf2
    refine .inl ⟨k2, q _ _ D F2 H2 t2 sf2 Sb f2 zD ⟨xs, h2, ra, Nat.le_trans hacc hz⟩ fun i s e m => ?_⟩
    obtain ⟨za, fa, _⟩ := Sb.mut e m
    rcases backM_at e with ⟨hi, rfl | ⟨rfl, nm⟩⟩ | ⟨hi, q1⟩
    · exact noMut_un m
    · exact nm _ D m
    · rw [← wipe_at (σ := σ) hi] at m
      exact aw2 i s q1 m
theorem lc_low {tt : MB} {vs : List Nat} {σ : L2.St} {H : Hp} {Q : VK} (h : LN X W (mLc ti g tt te vs) σ H Q) : tLc (LI X W ti) (lG X.K (some vs) g) (lB X.K X.mg Wish.no tt) (lE X.K X.mg Wish.no te) vs σ H Q := by
  obtain ⟨Z, F, ρ, R, S, w, t, q⟩ := h
  refine ⟨Z, F, ρ, _, S, w, t, fun ds ρ1 F1 H1 J t1 sf1 S1 wk hz => ?_⟩
  exact lc_low2 S1 wk hz t1 fun d ρ' a F' H' hr sf => q d ρ' a F' H' hr (sf1.trans sf)
theorem gn_lc {elt : Expr} {ifs : List Expr} {scope : Scope} {own : List (Str × Nat)} {tt : MB} (hc : X.calm = true) (hN : X.N.Nodup) (hi : PI X tg iter (LI X W ti)) (ok : BlkOk X.N X.env.scope scope own)
    (hg : ∀ (s : Shared) (H : Hp) (C : Addr) (cl : List (Str × Addr)) (fp : List Addr), PG (X.blk s H scope (compEnvC scope cl C X.env) fp) tg (lG X.K (some (own.map (·.2))) g)) (ht : ∀ (s : Shared) (H : Hp) (C : Addr) (cl : List (Str × Addr)) (fp : List Addr), PTs (X.blk s H scope (compEnvC scope cl C X.env) fp) ifs (lB X.K X.mg Wish.no tt))
    (he : ∀ (s : Shared) (H : Hp) (C : Addr) (cl : List (Str × Addr)) (fp : List Addr), PE (X.blk s H scope (compEnvC scope cl C X.env) fp) elt (lE X.K X.mg Wish.no te)) (hs : ∀ x, foldedSetIterable iter X.env x = pure x := by intro _; rfl) :
    PE X (.ListComp elt [⟨tg, iter, ifs, 0⟩] scope pos) (LN X W (mLc ti g tt te (own.map (·.2)))) := by
  exact PEw (pe_lc hc hN hi ok hg ht he hs) fun _ _ _ => lc_low
end
end G


set_option Elab.async false
set_option maxRecDepth 100000
set_option maxHeartbeats 1000000
/-! GV10: comprehensions stored, dict comprehensions, several targets. -/
namespace G
open PySem PySem.Spec PyProof.Rows L2
section
variable {X : Cx} {W : Wish} {pos : Pos} {tg iter e : Expr} {ti : MI} {g : MG} {te tk : ME} {tt : MB}
theorem gts_nil : PTs X [] (lB X.K X.mg W fun ρ R => R true ρ) := ⟨fun pins s σ H Q I ⟨Z, F, ρ, R, S, w, t, q⟩ => (pts_nil (X := X)).run pins s σ H Q I (q true ρ F H t (Same.refl _) S)⟩
theorem gts_one {c : Expr} (h : PT X c (lB X.K X.mg W tt)) : PTs X [c] (lB X.K X.mg W tt) := pts_one h
def mYes : MB := fun ρ R => R true ρ
section
variable {i : Nat} {y : Str} {py : Pos} {elt : Expr} {ifs : List Expr} {scope : Scope} {own : List (Str × Nat)} {spos : Pos}
/-- y = [..], y a local, on one line: a list of one's own -/
theorem gs_setLcN (hc : X.calm = true) (hN : X.N.Nodup) (hy : X.N[i]? = some y) (hyl : X.env.scope.names.lookup y = some .local)
    (hsw : swapsWith (.ListComp elt [⟨tg, iter, ifs, 0⟩] scope pos) (some (.Name y py)) spos.line X.env = pure true) (hi : PI X tg iter (LI X W ti)) (ok : BlkOk X.N X.env.scope scope own)
    (hg : ∀ (s : Shared) (H : Hp) (C : Addr) (cl : List (Str × Addr)) (fp : List Addr), PG (X.blk s H scope (compEnvC scope cl C X.env) fp) tg (lG X.K (some (own.map (·.2))) g)) (ht : ∀ (s : Shared) (H : Hp) (C : Addr) (cl : List (Str × Addr)) (fp : List Addr), PTs (X.blk s H scope (compEnvC scope cl C X.env) fp) ifs (lB X.K X.mg Wish.no tt))
    (he : ∀ (s : Shared) (H : Hp) (C : Addr) (cl : List (Str × Addr)) (fp : List Addr), PE (X.blk s H scope (compEnvC scope cl C X.env) fp) elt (lE X.K X.mg Wish.no te)) (hs : ∀ x, foldedSetIterable iter X.env x = pure x := by intro _; rfl) :
    PS X (.Assign [.Name y py] (.ListComp elt [⟨tg, iter, ifs, 0⟩] scope pos) spos) (LS X W (mSetN i (mLc ti g tt te (own.map (·.2))))) := by
  refine PSw (ps_setLc hc hN hy hyl hsw hi ok hg ht he hs) ?_
  rintro D σ H ⟨Z, F, ρ, DR, S, w, t, k⟩
  refine lc_low ⟨Z, F, ρ, _, S, w, t, fun d ρ1 a F1 H1 t1 sf1 S1 fa za c aw => ?_⟩
  split at t1
  · exact t1.elim
  · exact k.nx _ _ F1 H1 t1 sf1 (S1.putOwn i fa za c aw)
theorem gs_setLc (hc : X.calm = true) (hN : X.N.Nodup) (hy : X.N[i]? = some y) (hyl : X.env.scope.names.lookup y = some .local)
    (hsw : swapsWith (.ListComp elt [⟨tg, iter, ifs, 0⟩] scope pos) (some (.Name y py)) spos.line X.env = pure true) (hi : PI X tg iter (LI X W ti)) (ok : BlkOk X.N X.env.scope scope own)
    (hg : ∀ (s : Shared) (H : Hp) (C : Addr) (cl : List (Str × Addr)) (fp : List Addr), PG (X.blk s H scope (compEnvC scope cl C X.env) fp) tg (lG X.K (some (own.map (·.2))) g)) (ht : ∀ (s : Shared) (H : Hp) (C : Addr) (cl : List (Str × Addr)) (fp : List Addr), PTs (X.blk s H scope (compEnvC scope cl C X.env) fp) ifs (lB X.K X.mg Wish.no tt))
    (he : ∀ (s : Shared) (H : Hp) (C : Addr) (cl : List (Str × Addr)) (fp : List Addr), PE (X.blk s H scope (compEnvC scope cl C X.env) fp) elt (lE X.K X.mg Wish.no te)) (hs : ∀ x, foldedSetIterable iter X.env x = pure x := by intro _; rfl) :
    PS X (.Assign [.Name y py] (.ListComp elt [⟨tg, iter, ifs, 0⟩] scope pos) spos) (LS X W (mSet i (mLc ti g tt te (own.map (·.2))))) := by
  refine PSw (ps_setLc hc hN hy hyl hsw hi ok hg ht he hs) ?_
  rintro D σ H ⟨Z, F, ρ, DR, S, w, t, k⟩
  have t : mLc ti g tt te (own.map (·.2)) ρ (fun d ρ1 => mGN i d ρ1 DR.nx) := t
  refine lc_low (lN_of_lE ⟨Z, F, ρ, _, S, w, t, fun d ρ1 v F1 H1 t1 sf1 S1 r1 => ?_⟩)
  refine k.nx _ _ F1 H1 ?_ sf1 (S1.putDat i r1)
  unfold mGN at t1
  split at t1
  · exact t1.elim
  · exact t1
end

/-! ### dict comprehensions, keys texts -/
def mDcL (g : MG) (tt : MB) (tk te : ME) (vs : List Nat) (R : List (PyData × PyData) → Ms → Prop) : List PyData → List (PyData × PyData) → Ms → Prop
  | [], acc, ρ => R acc ρ
  | x :: xs, acc, ρ => g x ρ fun ρ1 => tt ρ1 fun b ρ2 => if b = true then tk ρ2 fun k ρ3 => te ρ3 fun y ρ4 => (match k with
      | .str n => mDcL g tt tk te vs R xs (dput acc n y) (wipeM ρ4 vs)
      | _ => False) else mDcL g tt tk te vs R xs acc (wipeM ρ2 vs)
def mDc (ti : MI) (g : MG) (tt : MB) (tk te : ME) (vs : List Nat) : ME := fun ρ R => ti ρ fun ds ρ1 => mDcL g tt tk te vs (fun acc ρ2 => R (.dict acc) (backM ρ1 ρ2 vs)) ds [] (wipeM ρ1 vs)
theorem dc_low {vs : List Nat} {σ : L2.St} {H : Hp} {Q : VK} (h : LN X W (mDc ti g tt tk te vs) σ H Q) : tDc (LI X W ti) (lG X.K (some vs) g) (lB X.K X.mg Wish.no tt) (lE X.K X.mg Wish.no tk) (lE X.K X.mg Wish.no te) vs σ H Q := by
  obtain ⟨Z, F, ρ, R, S, w, t, q⟩ := h
  refine ⟨Z, F, ρ, _, S, w, t, fun ds ρ1 F1 H1 J t1 sf1 S1 wk hz => ?_⟩
  intro D hD
  have zD : Z D = none := S1.zh.free hD
  have fD : F1 D = none := S1.fh.free hD
  -- the turn's word
  refine ⟨fun i m H' => m = ds.length - i ∧ i ≤ ds.length ∧ ∃ F' ρ' xs acc, Same F1 F' ∧ Stt X.K (upd Z D (.dK xs)) F' H' (L2.wipe σ vs) ρ' ∧ RepKV X.K F' xs acc ∧ acc.length ≤ i ∧ mDcL g tt tk te vs (fun acc ρ2 => R (.dict acc) (backM ρ1 ρ2 vs)) (ds.drop i) acc ρ',
    ⟨ds.length, by simp, Nat.zero_le _, F1, wipeM ρ1 vs, [], [], Same.refl _, ((S1.lay (.dK []) hD).wipe vs).outer fD upd_same (fun i s e m => ?_), .nil, Nat.le_refl _, t1⟩, ?_⟩
  · have S2 := S1.lay (.dK []) hD
    rcases wipeM_at e with rfl | ⟨e, hi⟩
    · exact noMut_un m
    · rw [wipe_at hi] at m
      exact S1.newAway hD i s e m
  rintro i m H2 ⟨rfl, hi, F2, ρ2, xs, acc, sf2, S2, ra, hacc, t2⟩
  obtain ⟨S2', f2, h2, aw2⟩ := S2.inner zD
  obtain ⟨k1, k2, k3⟩ := wk F2 H2 sf2 S2.fh S2'.zh
  by_cases hlt : i < ds.length
  · refine .inr ⟨k1 i hlt, fun H' => ∃ F' ρ' xs acc, Same F1 F' ∧ Stt X.K (upd Z D (.dK xs)) F' H' (L2.wipe σ vs) ρ' ∧ RepKV X.K F' xs acc ∧ acc.length ≤ i + 1 ∧ mDcL g tt tk te vs (fun acc ρ2 => R (.dict acc) (backM ρ1 ρ2 vs)) (ds.drop (i + 1)) acc ρ', fun H' p' => ⟨ds.length - (i + 1), by omega, rfl, hlt, p'⟩, fun x H' y => ?_⟩
    obtain ⟨e1, d, e2, r2⟩ := k3 i x H' hlt y
    subst e1
    have ed : ds.drop i = d :: ds.drop (i + 1) := by
      rw [List.drop_eq_getElem_cons hlt]
      rw [List.getElem?_eq_getElem hlt] at e2
      rw [Option.some.inj e2]
    rw [ed] at t2
    have t2 : g d ρ2 fun ρ1' => tt ρ1' fun b ρ2 => if b = true then tk ρ2 fun k ρ3 => te ρ3 fun y ρ4 => (match k with
      | .str n => mDcL g tt tk te vs (fun acc ρ2 => R (.dict acc) (backM ρ1 ρ2 vs)) (ds.drop (i + 1)) (dput acc n y) (wipeM ρ4 vs)
      | _ => False) else mDcL g tt tk te vs (fun acc ρ2 => R (.dict acc) (backM ρ1 ρ2 vs)) (ds.drop (i + 1)) acc (wipeM ρ2 vs) := t2
    refine ⟨upd Z D (.dK xs), F2, ρ2, d, _, S2, r2, t2, fun ρ3 σ3 t3 S3 p3 => ⟨Eq.trans p3 (wipe_wipe σ vs), ?_⟩⟩
    have e3 : L2.wipe σ3 vs = L2.wipe σ vs := Eq.trans p3 (wipe_wipe σ vs)
    refine ⟨upd Z D (.dK xs), F2, ρ3, _, S3, WOk.no, t3, fun b ρ4 F4 H4 t4 sf4 S4 => ?_⟩
    cases b with
    | true =>
      rw [if_pos rfl] at t4
      refine iteT ⟨upd Z D (.dK xs), F4, ρ4, _, S4, WOk.no, t4, fun kd ρ5 v F5 H5 t5 sf5 S5 r5 => ?_⟩
      refine ⟨upd Z D (.dK xs), F5, ρ5, _, S5, WOk.no, t5, fun y ρ6 v' F6 H6 t6 sf6 S6 r6 => ?_⟩
      split at t6
      · rename_i n
        cases r5
        obtain ⟨S6', f6, h6, aw6⟩ := S6.inner zD
        have raf := ((ra.mono sf4).mono sf5).mono sf6
        refine ⟨xs, Sum.inr n, rfl, h6, Nat.lt_of_lt_of_le (Nat.lt_of_le_of_lt (by rw [ra.length]; exact hacc) hlt) hz, F6, wipeM ρ6 vs, _, dput acc n y, sf2.trans (sf4.trans (sf5.trans sf6)), ?_, raf.put r6, ?_, t6⟩
        · have S7 := (S6.outerPut (o' := .dK (putK xs (Sum.inr n) v')) zD).wipe vs
          rw [e3] at S7
          exact S7
        · exact Nat.le_trans (dput_len acc n y) (Nat.succ_le_succ hacc)
      · exact t6.elim
    | false =>
      rw [if_neg Bool.false_ne_true] at t4
      refine iteF ⟨F4, wipeM ρ4 vs, xs, acc, sf2.trans sf4, ?_, ra.mono sf4, Nat.le_succ_of_le hacc, t4⟩
      have S6 := S4.wipe vs
      rw [e3] at S6
      exact S6
  · have e : i = ds.length := by omega
    subst e
    rw [List.drop_length] at t2
    have t2 : R (.dict acc) (backM ρ1 ρ2 vs) := t2
    have Sb := S1.back S2' sf2
    refine .inl ⟨k2, q _ _ D F2 H2 t2 (sf1.trans sf2) Sb f2 zD ⟨xs, h2, ra⟩ fun i s e m => ?_⟩
    obtain ⟨za, fa, _⟩ := Sb.mut e m
    rcases backM_at e with ⟨hi, rfl | ⟨rfl, nm⟩⟩ | ⟨hi, q1⟩
    · exact noMut_un m
    · exact nm _ D m
    · rw [← wipe_at (σ := σ) hi] at m
      exact aw2 i s q1 m
section
variable {i : Nat} {y : Str} {py : Pos} {kx vx : Expr} {ifs : List Expr} {scope : Scope} {own : List (Str × Nat)} {spos : Pos}
theorem gn_dc (hc : X.calm = true) (hN : X.N.Nodup) (hi : PI X tg iter (LI X W ti)) (ok : BlkOk X.N X.env.scope scope own)
    (hg : ∀ (s : Shared) (H : Hp) (C : Addr) (cl : List (Str × Addr)) (fp : List Addr), PG (X.blk s H scope (compEnvC scope cl C X.env) fp) tg (lG X.K (some (own.map (·.2))) g)) (ht : ∀ (s : Shared) (H : Hp) (C : Addr) (cl : List (Str × Addr)) (fp : List Addr), PTs (X.blk s H scope (compEnvC scope cl C X.env) fp) ifs (lB X.K X.mg Wish.no tt))
    (hk : ∀ (s : Shared) (H : Hp) (C : Addr) (cl : List (Str × Addr)) (fp : List Addr), PE (X.blk s H scope (compEnvC scope cl C X.env) fp) kx (lE X.K X.mg Wish.no tk))
    (he : ∀ (s : Shared) (H : Hp) (C : Addr) (cl : List (Str × Addr)) (fp : List Addr), PE (X.blk s H scope (compEnvC scope cl C X.env) fp) vx (lE X.K X.mg Wish.no te)) (hs : ∀ x, foldedSetIterable iter X.env x = pure x := by intro _; rfl) :
    PE X (.DictComp kx vx [⟨tg, iter, ifs, 0⟩] scope pos) (LN X W (mDc ti g tt tk te (own.map (·.2)))) := PEw (pe_dc hc hN hi ok hg ht hk he hs) fun _ _ _ => dc_low
theorem ps_setDc {wi : TI} {g : TG} {tt : TT} {tk tv : TE} (hc : X.calm = true) (hN : X.N.Nodup) (hy : X.N[i]? = some y) (hyl : X.env.scope.names.lookup y = some .local)
    (hsw : swapsWith (.DictComp kx vx [⟨tg, iter, ifs, 0⟩] scope pos) (some (.Name y py)) spos.line X.env = pure true) (hi : PI X tg iter wi) (ok : BlkOk X.N X.env.scope scope own)
    (hg : ∀ (s : Shared) (H : Hp) (C : Addr) (cl : List (Str × Addr)) (fp : List Addr), PG (X.blk s H scope (compEnvC scope cl C X.env) fp) tg g) (ht : ∀ (s : Shared) (H : Hp) (C : Addr) (cl : List (Str × Addr)) (fp : List Addr), PTs (X.blk s H scope (compEnvC scope cl C X.env) fp) ifs tt)
    (hk : ∀ (s : Shared) (H : Hp) (C : Addr) (cl : List (Str × Addr)) (fp : List Addr), PE (X.blk s H scope (compEnvC scope cl C X.env) fp) kx tk)
    (he : ∀ (s : Shared) (H : Hp) (C : Addr) (cl : List (Str × Addr)) (fp : List Addr), PE (X.blk s H scope (compEnvC scope cl C X.env) fp) vx tv) (hs : ∀ x, foldedSetIterable iter X.env x = pure x := by intro _; rfl) :
    PS X (.Assign [.Name y py] (.DictComp kx vx [⟨tg, iter, ifs, 0⟩] scope pos) spos) (tAsg (tDc wi g tt tk tv (own.map (·.2))) (gName i)) := by
  refine ⟨fun pins s σ H D I h => ?_⟩
  rw [exec_Assign_Name_used _ _ _ _ hsw]
  refine wpAny_bind (wpAny_standAt (wpAny_bind ?_))
  show wpAny _ X.A (do let _ ← comprehension (.DictComp kx vx [⟨tg, iter, ifs, 0⟩] scope pos) scope X.env (firstIterPos [⟨tg, iter, ifs, 0⟩] pos) newDict false (eval iter X.env) (some (assign (.Name y py) X.env))) _ _ s
  have h : tDc wi g tt tk tv (own.map (·.2)) σ H (fun x H1 => gName i x σ H1 D.nx) := h
  refine wpAny_bind (thn (dc_core (Qf := fun _ s' => SP X pins D .next s') hc hN I hi ok hg ht hk he hs h fun L C s' m H' I' q hn f => ?_) fun _ s' hq => wpAny_pure (wpAny_pure hq))
  show wpAny _ _ (assign (.Name y py) X.env (.ref L)) _ _ _
  refine wpAny_assign_Name (store_ok2 (v := V.ref L) I' hN hy (.inl hyl) rfl (fun s2 I2 ⟨a, sb, ha⟩ => ?_) (.inr hyl))
  obtain ⟨f0, f1, f2, f3, f4, f5⟩ := f
  have haC : C ≠ a := by
    rcases ha with z | z
    · rw [z]; exact f1
    · exact fun e => f4 y a z e.symm
  refine ⟨m, hn.sameBut sb haC, fun h3 sb3 => ?_⟩
  exact ⟨_, H', I2.turned (t' := s2.toks) (fun b o hb e => (sb3.2 b hb).trans e) f0 f1 f3 f4 f5, q⟩
theorem gs_setDcN (hc : X.calm = true) (hN : X.N.Nodup) (hy : X.N[i]? = some y) (hyl : X.env.scope.names.lookup y = some .local)
    (hsw : swapsWith (.DictComp kx vx [⟨tg, iter, ifs, 0⟩] scope pos) (some (.Name y py)) spos.line X.env = pure true) (hi : PI X tg iter (LI X W ti)) (ok : BlkOk X.N X.env.scope scope own)
    (hg : ∀ (s : Shared) (H : Hp) (C : Addr) (cl : List (Str × Addr)) (fp : List Addr), PG (X.blk s H scope (compEnvC scope cl C X.env) fp) tg (lG X.K (some (own.map (·.2))) g)) (ht : ∀ (s : Shared) (H : Hp) (C : Addr) (cl : List (Str × Addr)) (fp : List Addr), PTs (X.blk s H scope (compEnvC scope cl C X.env) fp) ifs (lB X.K X.mg Wish.no tt))
    (hk : ∀ (s : Shared) (H : Hp) (C : Addr) (cl : List (Str × Addr)) (fp : List Addr), PE (X.blk s H scope (compEnvC scope cl C X.env) fp) kx (lE X.K X.mg Wish.no tk))
    (he : ∀ (s : Shared) (H : Hp) (C : Addr) (cl : List (Str × Addr)) (fp : List Addr), PE (X.blk s H scope (compEnvC scope cl C X.env) fp) vx (lE X.K X.mg Wish.no te)) (hs : ∀ x, foldedSetIterable iter X.env x = pure x := by intro _; rfl) :
    PS X (.Assign [.Name y py] (.DictComp kx vx [⟨tg, iter, ifs, 0⟩] scope pos) spos) (LS X W (mSetN i (mDc ti g tt tk te (own.map (·.2))))) := by
  refine PSw (ps_setDc hc hN hy hyl hsw hi ok hg ht hk he hs) ?_
  rintro D σ H ⟨Z, F, ρ, DR, S, w, t, k⟩
  refine dc_low ⟨Z, F, ρ, _, S, w, t, fun d ρ1 a F1 H1 t1 sf1 S1 fa za c aw => ?_⟩
  split at t1
  · exact t1.elim
  · exact k.nx _ _ F1 H1 t1 sf1 (S1.putOwn i fa za c aw)
theorem swd_true {k v : Expr} {gs : List Comprehension} {scope : Scope} {pos py : Pos} {y : Str} {l : Nat} {env : Env} (hk : env.scope.kind = .function) (hy : env.scope.names.lookup y = some .local) (hl : (py.line == pos.line) = true)
    (ha : (scope.names.any fun (n, k) => n == y && (k == .local || k == .cell)) = false) : swapsWith (.DictComp k v gs scope pos) (some (.Name y py)) l env = pure true := by
  have ky : env.kindOf y = some .local := hy
  have hb : env.blockKind = .function := by unfold Env.blockKind; rw [hk]; rfl
  unfold swapsWith
  simp only [hb, ky, ha, Expr.pos, hl]
  rfl
end
end
end G


set_option Elab.async false
set_option maxRecDepth 100000
set_option maxHeartbeats 1000000
/-! GV11: changes in place, calls of defs, a def's promise. -/
namespace G
open PySem PySem.Spec PyProof.Rows L2
def ContO (K : PySem.W.Frag) (F : Hp) : HO → PyData → Prop
  | .lst xs, .list ds => RepAll K F xs ds ∧ ds.length ≤ sizeLine
  | .dK kvs, .dict es => RepKV K F kvs es
  | _, _ => False
theorem cont_iff {K : PySem.W.Frag} {F H : Hp} {a : Addr} {d : PyData} : Cont K F H a d ↔ ∃ o, H a = some o ∧ ContO K F o d := by
  constructor
  · intro h
    cases d with
    | list ds => obtain ⟨xs, h1, h2, h3⟩ := h; exact ⟨_, h1, h2, h3⟩
    | dict es => obtain ⟨kvs, h1, h2⟩ := h; exact ⟨_, h1, h2⟩
    | _ => exact h.elim
  · rintro ⟨o, h1, h2⟩
    cases d <;> cases o <;> first | exact h2.elim | exact ⟨_, h1, h2⟩ | exact ⟨_, h1, h2.1, h2.2⟩
theorem ContO.mono {K : PySem.W.Frag} {F F' : Hp} {o : HO} {d : PyData} (h : ContO K F o d) (e : Same F F') : ContO K F' o d := by
  cases d <;> cases o <;> first | exact h.elim | exact RepKV.mono e h | exact ⟨h.1.mono e, h.2⟩
section
variable {K : PySem.W.Frag} {Z F H : Hp} {σ : L2.St} {ρ : Ms}
theorem Stt.change (S : Stt K Z F H σ ρ) {i : Nat} {s s' : Sl} {a : Addr} {o' : HO} (hi : ρ[i]? = some s) (m : mutA (at_ σ i) s a) (ok : SlOk K Z F (upd H a o') (at_ σ i) s') (only : ∀ b, mutA (at_ σ i) s' b → b = a) : Stt K Z F (upd H a o') σ (ρ.set i s') := by
  obtain ⟨za, fa, _⟩ := S.mut hi m
  have hil : i < ρ.length := (List.getElem?_eq_some_iff.mp hi).1
  have key : ∀ j t, (ρ.set i s')[j]? = some t → (j = i ∧ t = s') ∨ (j ≠ i ∧ ρ[j]? = some t) := fun j t e => by
    by_cases hj : i = j
    · subst hj
      rw [List.getElem?_set_self hil] at e
      exact .inl ⟨rfl, (Option.some.inj e).symm⟩
    · rw [List.getElem?_set_ne hj] at e
      exact .inr ⟨fun z => hj z.symm, e⟩
  refine ⟨fun b u e => ?_, fun b u e => ?_, S.zf, by rw [List.length_set]; exact S.len, fun j t e => ?_, fun j k t u b e1 e2 m1 m2 => ?_⟩
  · have hb : b ≠ a := fun y => by rw [y, fa] at e; cases e
    rw [upd_ne hb]; exact S.fh b u e
  · have hb : b ≠ a := fun y => by rw [y, za] at e; cases e
    rw [upd_ne hb]; exact S.zh b u e
  · rcases key j t e with ⟨rfl, rfl⟩ | ⟨hj, e⟩
    · exact ok
    · refine (S.sl j t e).move (Same.refl _) (fun b u m' q => ?_) (fun b m' => (S.mut e m').1) fun b m' => (S.mut e m').2.1
      have hb : b ≠ a := fun y => hj (S.ap j i _ s a e hi (y ▸ m') m)
      rw [upd_ne hb]; exact q
  · rcases key j t e1 with ⟨a1, b1⟩ | ⟨a1, f1⟩ <;> rcases key k u e2 with ⟨a2, b2⟩ | ⟨a2, f2⟩
    · rw [a1, a2]
    · rw [b1, a1] at m1
      rw [a1]
      exact S.ap i k s u a hi f2 m (only b m1 ▸ m2)
    · rw [b2, a2] at m2
      rw [a2]
      exact S.ap j i t s a f1 hi (only b m2 ▸ m1) m
    · exact S.ap j k t u b f1 f2 m1 m2
theorem Stt.changeOwn (S : Stt K Z F H σ ρ) {i : Nat} {a : Addr} {d d' : PyData} {o' : HO} (hi : ρ[i]? = some (.own d)) (ha : at_ σ i = some (.ref a)) (c : ContO K F o' d') : Stt K Z F (upd H a o') σ (ρ.set i (.own d')) := by
  have m : mutA (at_ σ i) (.own d) a := ⟨ha, .inl ⟨d, rfl⟩⟩
  obtain ⟨za, fa, _⟩ := S.mut hi m
  refine S.change hi m ⟨a, ha, za, fa, cont_iff.mpr ⟨o', upd_same, c⟩⟩ fun b ⟨e, _⟩ => ?_
  rw [ha] at e; cases e; rfl
theorem Stt.changeInn (S : Stt K Z F H σ ρ) {i : Nat} {a : Addr} {d d' : PyData} {o' : HO} (hi : ρ[i]? = some (.inn a d)) (c : ContO K F o' d') : Stt K Z F (upd H a o') σ (ρ.set i (.inn a d')) := by
  have ha := (S.sl i _ hi).1
  have m : mutA (at_ σ i) (.inn a d) a := ⟨ha, .inr ⟨a, d, rfl⟩⟩
  obtain ⟨za, fa, _⟩ := S.mut hi m
  refine S.change hi m ⟨ha, za, fa, cont_iff.mpr ⟨o', upd_same, c⟩⟩ fun b ⟨e, _⟩ => ?_
  rw [ha] at e; cases e; rfl
theorem Stt.less (S : Stt K Z F H σ ρ) {Z' : Hp} (h : Same Z' Z) : Stt K Z' F H σ ρ :=
  ⟨S.fh, h.trans S.zh, fun b q => S.zf b fun z => q (h.free z), S.len, fun i s e => (S.sl i s e).move (Same.refl _) (fun _ _ _ q => q) (fun a m => h.free (S.mut e m).1) fun a m => (S.mut e m).2.1, S.ap⟩
end

/-! ### methods of a list of one's own -/
def MutR (X : Cx) (r : V → List V → Hp → VK → Prop) (op : PyData → List PyData → (PyData → PyData → Prop) → Prop) : Prop :=
  ∀ (F H : Hp) (a : Addr) (d : PyData) (xs : List V) (ds : List PyData) (R : PyData → PyData → Prop) (Q : VK), SameW F H → Cont X.K F H a d → RepAll X.K F xs ds → op d ds R →
    (∀ r d' v o', R r d' → Rep X.K F v r → ContO X.K F o' d' → Q v (upd H a o')) → r (.ref a) xs H Q
def isLst : Sl → Bool
  | .own (.list _) => true
  | .inn _ (.list _) => true
  | _ => false
def mMut (i : Nat) (op : PyData → List PyData → (PyData → PyData → Prop) → Prop) (ta : MA) : ME := fun ρ R => match isLst (slot ρ i) with
  | true => ta ρ fun ds ρ1 => match slot ρ1 i with
    | .own d => op d ds fun r d' => R r (ρ1.set i (.own d'))
    | .inn a d => op d ds fun r d' => R r (ρ1.set i (.inn a d'))
    | _ => False
  | false => False
section
variable {X : Cx} {W : Wish} {pos p apos : Pos} {x : Str} {e o : Expr} {es : List Expr} {te tk : ME} {t : MA} {n : Nat} {r : V → List V → Hp → VK → Prop} {op : PyData → List PyData → (PyData → PyData → Prop) → Prop} {i : Nat} {name : Str} {id : String}
theorem isLst_ty {K : PySem.W.Frag} {Z F H : Hp} {σ : L2.St} {ρ : Ms} (S : Stt K Z F H σ ρ) (h : isLst (slot ρ i) = true) : ∃ a, at_ σ i = some (.ref a) ∧ tyV K "list" (.ref a) H := by
  unfold isLst at h
  split at h
  · rename_i ds e
    obtain ⟨a, e1, _, _, xs, h1, _⟩ := S.sl i _ (slot_some e (fun q => nomatch q))
    exact ⟨a, e1, Or.inl ⟨rfl, _, Or.inl (Or.inl h1)⟩⟩
  · rename_i a ds e
    obtain ⟨e1, _, _, xs, h1, _⟩ := S.sl i _ (slot_some e (fun q => nomatch q))
    exact ⟨a, e1, Or.inl ⟨rfl, _, Or.inl (Or.inl h1)⟩⟩
  · cases h
theorem mut_low (hm : MutR X r op) {σ : L2.St} {H : Hp} {Q : VK} {Z F F1 : Hp} {ρ1 : Ms} {a : Addr} {xs : List V} {ds : List PyData} {R : PyData → Ms → Prop} (ha : at_ σ i = some (.ref a)) (sf1 : Same F F1) (S1 : Stt X.K Z F1 H σ ρ1) (ra : RepAll X.K F1 xs ds)
    (q : ∀ d ρ' v F' H', R d ρ' → Same F F' → Stt X.K Z F' H' σ ρ' → Rep X.K F' v d → Q v H')
    (t1 : match slot ρ1 i with
      | .own d => op d ds fun r d' => R r (ρ1.set i (.own d'))
      | .inn a d => op d ds fun r d' => R r (ρ1.set i (.inn a d'))
      | _ => False) : r (.ref a) xs H Q := by
  split at t1
  · rename_i d e
    have hi := slot_some e (fun q => nomatch q)
    obtain ⟨b, e1, z, f, c⟩ := S1.sl i _ hi
    rw [ha] at e1; cases e1
    exact hm F1 H a d xs ds _ Q S1.fh c ra t1 fun r d' v o' hr rv co => q r _ v F1 _ hr sf1 (S1.changeOwn hi ha co) rv
  · rename_i b d e
    have hi := slot_some e (fun q => nomatch q)
    obtain ⟨e1, z, f, c⟩ := S1.sl i _ hi
    rw [ha] at e1; cases e1
    exact hm F1 H a d xs ds _ Q S1.fh c ra t1 fun r d' v o' hr rv co => q r _ v F1 _ hr sf1 (S1.changeInn hi co) rv
  · exact t1.elim
theorem g_mut (slt : Slot "list" name id) (hty : typeOf (.builtin id) = pure (.type "method_descriptor")) (hr : MtR X id r) (hm : MutR X r op) (ho : PE X (.Name x p) (tVar i)) (ha : PA X (e :: es) (LA X W n t))
    (h : PE X (.Call (.Attribute (.Name x p) name apos) (e :: es) [] pos) (tBM X.K "list" r (tVar i) (LA X W n t))) :
    PE X (.Call (.Attribute (.Name x p) name apos) (e :: es) [] pos) (LE X W (mMut i op t)) := by
  refine PEw h ?_
  rintro σ H Q ⟨Z, F, ρ, R, S, w, t, q⟩
  unfold mMut at t
  split at t
  · rename_i hl
    obtain ⟨a, e1, ty⟩ := isLst_ty S hl
    exact ⟨.ref a, at_some e1, ty, Z, F, ρ, _, S, w, t, fun ds ρ1 xs F1 H1 t1 sf1 S1 ra _ => mut_low hm e1 sf1 S1 ra q t1⟩
  · exact t.elim
theorem g_mut0 (hm : MutR X r op) (h : PE X (.Call (.Attribute (.Name x p) name apos) [] [] pos) (tBM0 X.K "list" r (tVar i))) :
    PE X (.Call (.Attribute (.Name x p) name apos) [] [] pos) (LE X W (mMut i op mNil)) := by
  refine PEw h ?_
  rintro σ H Q ⟨Z, F, ρ, R, S, w, t, q⟩
  unfold mMut at t
  split at t
  · rename_i hl
    obtain ⟨a, e1, ty⟩ := isLst_ty S hl
    exact ⟨.ref a, at_some e1, ty, mut_low hm e1 (Same.refl _) S .nil q t⟩
  · exact t.elim
def appendD : PyData → List PyData → (PyData → PyData → Prop) → Prop
  | .list ds, [y], R => ds.length < 1000 ∧ R .none (.list (ds ++ [y]))
  | _, _, _ => False
theorem mr_append : MutR X rAppend appendD := by
  intro F H a d xs ds R Q sw c ra h q
  unfold appendD at h
  split at h
  · rename_i ls y
    obtain ⟨zs, h1, h2, h3⟩ := c
    cases ra with
    | @cons v _ _ _ ry ra =>
      cases ra
      refine ⟨a, zs, v, rfl, rfl, h1, by rw [h2.length]; exact small1000 (Nat.le_of_lt h.1), q _ _ _ _ h.2 .non ⟨h2.append (.cons ry .nil), ?_⟩⟩
      rw [List.length_append]
      exact line1000 (by simp; omega)
  · exact h.elim
def extendD : PyData → List PyData → (PyData → PyData → Prop) → Prop
  | .list ds, [.list es], R => ds.length + es.length ≤ 1000 ∧ R .none (.list (ds ++ es))
  | _, _, _ => False
theorem mr_extend : MutR X rExtend extendD := by
  intro F H a d xs ds R Q sw c ra h q
  unfold extendD at h
  split at h
  · rename_i ls es
    obtain ⟨zs, h1, h2, h3⟩ := c
    cases ra with
    | @cons v _ _ _ ry ra =>
      cases ra
      cases ry with
      | @lst b ys _ k1 k2 k3 =>
        refine ⟨a, b, zs, ys, rfl, rfl, h1, sw.lst k1, by rw [h2.length, k2.length]; exact line1000 h.1, q _ _ _ _ h.2 .non ⟨h2.append k2, ?_⟩⟩
        rw [List.length_append]
        exact line1000 h.1
  · exact h.elim
def popD : PyData → List PyData → (PyData → PyData → Prop) → Prop
  | .list ds, [], R => match ds.getLast? with
    | some y => R y (.list ds.dropLast)
    | none => False
  | _, _, _ => False
theorem RepAll.dropLast {K : PySem.W.Frag} {H : Hp} : ∀ {vs : List V} {ds : List PyData}, RepAll K H vs ds → RepAll K H vs.dropLast ds.dropLast
  | _, _, .nil => .nil
  | _, _, .cons h .nil => .nil
  | _, _, .cons h (.cons h2 r) => .cons h (RepAll.dropLast (.cons h2 r))
theorem mr_pop : MutR X rPop popD := by
  intro F H a d xs ds R Q sw c ra h q
  unfold popD at h
  split at h
  · rename_i ls
    split at h
    · rename_i y e
      obtain ⟨zs, h1, h2, h3⟩ := c
      cases ra
      rw [List.getLast?_eq_getElem?] at e
      obtain ⟨v, e1, e2⟩ := h2.get e
      rw [← h2.length] at e1
      exact ⟨a, zs, v, rfl, rfl, h1, e1, q _ _ _ _ h e2 ⟨h2.dropLast, by rw [List.length_dropLast]; omega⟩⟩
    · exact h.elim
  · exact h.elim
def popAtD : PyData → List PyData → (PyData → PyData → Prop) → Prop
  | .list ds, [.int i], R => match ds[i.toNat]? with
    | some y => (0 ≤ i ∧ i < 1000) ∧ R y (.list (ds.eraseIdx i.toNat))
    | none => False
  | _, _, _ => False
theorem mr_popAt : MutR X rPopAt popAtD := by
  intro F H a d xs ds R Q sw c ra h q
  unfold popAtD at h
  split at h
  · rename_i ls i
    split at h
    · rename_i y e
      obtain ⟨zs, h1, h2, h3⟩ := c
      cases ra with
      | @cons v _ _ _ ry ra =>
        cases ra
        cases ry
        obtain ⟨v, e1, e2⟩ := h2.get e
        obtain ⟨⟨h0, hi⟩, h⟩ := h
        refine ⟨a, zs, i, i.toNat, v, rfl, rfl, h1, by omega, by omega, ?_, e1, q _ _ _ _ h e2 ⟨h2.eraseIdx _, Nat.le_trans (len_erase _ _) h3⟩⟩
        have hl : i.toNat < zs.length := (List.getElem?_eq_some_iff.mp e1).1
        exact seqIndex_of h0 (by omega)
    · exact h.elim
  · exact h.elim
/-! ### stores by place, by key -/
def stD : PyData → PyData → PyData → (PyData → Prop) → Prop
  | .list ds, .int k, y, R => match ixN ds.length k with
    | some j => R (.list (ds.set j y))
    | none => False
  | .dict es, .str k, y, R => es.length < 1000 ∧ R (.dict (dput es k y))
  | _, _, _, _ => False
def rSetD : TSet := fun o i v H Q => ∃ a H', o = .ref a ∧ DPut H a i v H' ∧ Q H'
theorem set_dict (hu : X.A.units + 1 < cLine) : PSet X rSetD := by
  intro pins s σ H o i v ov iv u Q I ro ri rv h
  obtain ⟨a, H', rfl, g, q⟩ := h
  cases ro
  exact d_setItem hu I g ri rv fun s4 I4 => ⟨H', I4, q⟩
theorem PSet.or {t t' : TSet} (h : PSet X t) (h' : PSet X t') : PSet X (fun o i v H Q => t o i v H Q ∨ t' o i v H Q) := by
  intro pins s σ H o i v ov iv u Q I ro ri rv q
  rcases q with q | q
  · exact h pins s σ H o i v ov iv u Q I ro ri rv q
  · exact h' pins s σ H o i v ov iv u Q I ro ri rv q
def mStore (i : Nat) (tk te : ME) : MS := fun D ρ => te ρ fun d ρ1 => match slot ρ1 i with
  | .un => False
  | _ => tk ρ1 fun k ρ2 => match slot ρ2 i with
    | .own c => stD c k d fun c' => D.nx (ρ2.set i (.own c'))
    | .inn a c => stD c k d fun c' => D.nx (ρ2.set i (.inn a c'))
    | _ => False
theorem st_low {F H : Hp} {a : Addr} {c k d : PyData} {y v : V} {R : PyData → Prop} {Q : Hp → Prop} (hc : Cont X.K F H a c) (hk : Rep X.K F y k) (hd : Rep X.K F v d) (h : stD c k d R) (q : ∀ c' o', R c' → ContO X.K F o' c' → Q (upd H a o')) : rSetL (.ref a) y v H Q ∨ rSetD (.ref a) y v H Q := by
  unfold stD at h
  split at h
  · cases hk
    split at h
    · rename_i j e
      obtain ⟨zs, h1, h2, h3⟩ := hc
      exact .inl ⟨a, zs, _, j, rfl, rfl, h1, by rw [h2.length]; exact e, q _ _ h ⟨h2.set hd j, by rw [List.length_set]; exact h3⟩⟩
    · exact h.elim
  · rename_i es n
    cases hk
    obtain ⟨kvs, h1, h2⟩ := hc
    exact .inr ⟨a, _, rfl, DPut.k (k := Sum.inr n) h1 (by rw [h2.length]; exact small1000 (Nat.le_of_lt h.1)), q _ (.dK (putK kvs (Sum.inr n) v)) h.2 (h2.put hd)⟩
  · exact h.elim
theorem gs_store {k : Expr} (hu : X.A.units + 64 < cLine) (he : PE X e (LE X W te)) (ho : PE X (.Name x p) (tVar i)) (hk : PE X k (LE X W tk)) {p2 : Pos}
    (ha : ∀ v, assign (.Subscript (.Name x p) k p2) X.env v = (do
      let ov ← holding [v] (eval (.Name x p) X.env)
      let iv ← holding [v, ov] (eval k X.env)
      standAt p2
      holding [v, ov, iv] (setItem ov iv v)
      release [v, ov, iv] []) := by intro _; rfl) (hs : swapsWithSole [.Subscript (.Name x p) k p2] e pos.line X.env = pure false := by rfl) (hw : swappedStores [.Subscript (.Name x p) k p2] e X.env = pure none := by rfl)
    (h1 : (assignEach [.Subscript (.Name x p) k p2] X.env).map (·.2) = [assign (.Subscript (.Name x p) k p2) X.env] := by rfl) : PS X (.Assign [.Subscript (.Name x p) k p2] e pos) (LS X W (mStore i tk te)) := by
  refine PSw (ps_asg he (pg_sub ho hk (PSet.or set_list (set_dict (by omega))) ha) hs hw h1) ?_
  rintro D σ H ⟨Z, F, ρ, DR, S, w, t, q⟩
  refine ⟨Z, F, ρ, _, S, w, t, fun d ρ1 v F1 H1 t1 sf1 S1 r1 => ?_⟩
  have t1' : slot ρ1 i ≠ .un ∧ tk ρ1 fun k ρ2 => match slot ρ2 i with
      | .own c => stD c k d fun c' => DR.nx (ρ2.set i (.own c'))
      | .inn a c => stD c k d fun c' => DR.nx (ρ2.set i (.inn a c'))
      | _ => False := by
    split at t1
    · exact t1.elim
    · rename_i h
      exact ⟨h, t1⟩
  obtain ⟨hn, t1⟩ := t1'
  obtain ⟨b, hb⟩ := (S1.sl i _ (slot_some rfl hn)).val hn
  refine ⟨b, at_some hb, Z, F1, ρ1, _, S1, w.mono sf1, t1, fun kd ρ2 y F2 H2 t2 sf2 S2 r2 => ?_⟩
  split at t2
  · rename_i c e'
    have hi := slot_some e' (fun q => nomatch q)
    obtain ⟨a, e1, z, f, ct⟩ := S2.sl i _ hi
    rw [hb] at e1; cases e1
    exact st_low ct r2 (r1.mono sf2) t2 fun c' o' hr co => q.nx _ σ F2 _ hr (sf1.trans sf2) (S2.changeOwn hi hb co)
  · rename_i a c e'
    have hi := slot_some e' (fun q => nomatch q)
    obtain ⟨e1, z, f, ct⟩ := S2.sl i _ hi
    rw [hb] at e1; cases e1
    exact st_low ct r2 (r1.mono sf2) t2 fun c' o' hr co => q.nx _ σ F2 _ hr (sf1.trans sf2) (S2.changeInn hi co)
  · exact t2.elim
end
end G


set_option Elab.async false
set_option maxRecDepth 100000
set_option maxHeartbeats 1000000
/-! GV12: calls of defs, a def's promise, several targets, d.get. -/
namespace G
open PySem PySem.Spec PyProof.Rows L2
abbrev PSp := List Sl → (PyData → List Sl → Prop) → (Str → Prop) → Prop
/-- the answer is data -/
def spD (K : PySem.W.Frag) (mg : Str → Option Value) (n : Nat) (t : PSp) : Sp := fun vs H Q E => ∃ Z F ss R RE, vs.length = n ∧ Stt K Z F H (vs.map some) ss ∧ t ss R RE ∧ WOk mg ⟨RE, E⟩ Z F ∧
  ∀ r ss' v F' H', R r ss' → Same F F' → Stt K Z F' H' (vs.map some) ss' → Rep K F' v r → Q v H'
/-- the answer is a new container -/
def spN (K : PySem.W.Frag) (mg : Str → Option Value) (n : Nat) (t : PSp) : Sp := fun vs H Q E => ∃ Z F ss R RE, vs.length = n ∧ Stt K Z F H (vs.map some) ss ∧ t ss R RE ∧ WOk mg ⟨RE, E⟩ Z F ∧
  ∀ r ss' a F' H', R r ss' → Same F F' → Stt K Z F' H' (vs.map some) ss' → F' a = none → Z a = none → Cont K F' H' a r → (∀ i s, ss'[i]? = some s → ¬ mutA (at_ (vs.map some) i) s a) → Q (.ref a) H'
def outZ (F H : Hp) (p : Option Addr) : Hp := fun b => if F b = none ∧ some b ≠ p then H b else none
theorem outZ_some {F H : Hp} {p : Option Addr} {b : Addr} {o : HO} : outZ F H p b = some o ↔ F b = none ∧ some b ≠ p ∧ H b = some o := by
  unfold outZ
  by_cases h : F b = none ∧ some b ≠ p
  · rw [if_pos h]; exact ⟨fun e => ⟨h.1, h.2, e⟩, fun e => e.2.2⟩
  · rw [if_neg h]; exact ⟨fun e => by simp at e, fun e => (h ⟨e.1, e.2.1⟩).elim⟩
section
variable {K : PySem.W.Frag} {Z F H : Hp} {σ : L2.St} {ρ : Ms}
theorem outZ_zf {p : Option Addr} : ∀ a, outZ F H p a ≠ none → F a = none := fun a h => by
  cases e : outZ F H p a with
  | none => exact (h e).elim
  | some o => exact (outZ_some.mp e).1
theorem outZ_zh {p : Option Addr} : Same (outZ F H p) H := fun a o e => (outZ_some.mp e).2.2
theorem Stt.zOut (S : Stt K Z F H σ ρ) : Same Z (outZ F H none) := fun a o e => outZ_some.mpr ⟨S.zf a (by rw [e]; simp), by simp, S.zh a o e⟩
theorem Stt.zOutA (S : Stt K Z F H σ ρ) {a : Addr} (za : Z a = none) : Same Z (outZ F H (some a)) := fun b o e => by
  refine outZ_some.mpr ⟨S.zf b (by rw [e]; simp), ?_, S.zh b o e⟩
  intro z
  cases z
  rw [za] at e
  cases e
theorem at_map {vs : List V} {j : Nat} {v : V} (h : vs[j]? = some v) : at_ (vs.map some) j = some v := by
  unfold at_; rw [List.getElem?_map, h]; rfl
/-- what a callee gets: data alone -/
theorem Stt.callee (S : Stt K Z F H σ ρ) {vs : List V} {ds : List PyData} (r : RepAll K F vs ds) : Stt K (outZ F H none) F H (vs.map some) (ds.map Sl.dat) := by
  refine ⟨S.fh, outZ_zh, outZ_zf, by rw [List.length_map, List.length_map, r.length], fun i s e => ?_, fun i j s t a e1 e2 m1 m2 => ?_⟩
  · rw [List.getElem?_map] at e
    cases e' : ds[i]? with
    | none => rw [e'] at e; cases e
    | some d =>
      rw [e'] at e; cases e
      obtain ⟨v, h1, h2⟩ := r.get e'
      exact ⟨v, at_map h1, h2⟩
  · rw [List.getElem?_map] at e1
    cases e' : ds[i]? with
    | none => rw [e'] at e1; cases e1
    | some d => rw [e'] at e1; cases e1; exact (noMut_dat m1).elim
/-- behind the call -/
theorem Stt.after (S : Stt K Z F H σ ρ) {F' H' : Hp} {τ : L2.St} {ss : Ms} (S' : Stt K (outZ F H none) F' H' τ ss) (sf : Same F F') : Stt K Z F' H' σ ρ := by
  refine ⟨S'.fh, S.zOut.trans S'.zh, fun a q => S'.zf a fun z => q (S.zOut.free z), S.len, fun i s e => ?_, S.ap⟩
  have key : ∀ a, mutA (at_ σ i) s a → outZ F H none a ≠ none := fun a m z => by
    obtain ⟨_, f, o, h⟩ := S.mut e m
    have := outZ_some.mpr ⟨f, (by simp : some a ≠ none), h⟩
    rw [this] at z; cases z
  refine (S.sl i s e).move sf (fun a o m q => ?_) (fun a m => (S.mut e m).1) fun a m => S'.zf a (key a m)
  obtain ⟨_, f, _⟩ := S.mut e m
  exact S'.zh a o (outZ_some.mpr ⟨f, by simp, q⟩)
theorem WOk.more {mg : Str → Option Value} {W : Wish} {Z Z' F : Hp} (h : WOk mg W Z F) (e : Same Z Z') : WOk mg W Z' F :=
  fun n C F' H' r m sf sw zh zf => h n C F' H' r m sf sw (e.trans zh) fun a q => zf a fun z => q (e.free z)
end
def mCall (t : PSp) (RE : Str → Prop) (ta : MA) : ME := fun ρ R => ta ρ fun ds ρ1 => t (ds.map Sl.dat) (fun r _ => R r ρ1) RE
section
variable {X : Cx} {W : Wish} {CX : CXT} {k : Nat} {f : Addr} {fd : FuncData} {ps : List Str} {x : Str} {p pos : Pos} {e : Expr} {es : List Expr} {t : PSp} {ta : MA} {n m i : Nat}
theorem g_call (F : FnOk X.prog X.w X.K X.mg X.base CX k f fd ps (spD X.K X.mg n t)) (hr : Room k X.A) (hg : Gl X x) (hm : X.mg x = some (.ref f)) (hk : PySem.W.keepIn X.K (.ref f) = true) (hb : Binds X.K fd ps []) (hx : Passes CX X W.E)
    (ha : PA X (e :: es) (LA X W n ta)) (hdb : (x == ("__debug__" : Str)) = false := by decide) (he : starEach (e :: es) X.env = (false, eval e X.env) :: starEach es X.env := by rfl) (hpl : (backTo pos (starEach es X.env)).any (·.1) = false := by rfl) :
    PE X (.Call (.Name x p) (e :: es) [] pos) (LE X W (mCall t W.RE ta)) := by
  refine PEw (pe_call F hr hg hm hk hb .nil hx ha hdb he hpl) ?_
  rintro σ H Q ⟨Z, F, ρ, R, S, w, t, q⟩
  refine ⟨Z, F, ρ, _, S, w, t, fun ds ρ1 vs F1 H1 t1 sf1 S1 r1 hl => ?_⟩
  dsimp only
  rw [List.append_nil]
  refine ⟨outZ F1 H1 none, F1, ds.map Sl.dat, _, W.RE, by rw [r1.length, hl], S1.callee r1, t1, (w.mono sf1).more S1.zOut, fun r ss' v F' H' hr sf' S' rv => ?_⟩
  exact q r ρ1 v F' H' hr (sf1.trans sf') (S1.after S' sf') rv
theorem gn_call (F : FnOk X.prog X.w X.K X.mg X.base CX k f fd ps (spN X.K X.mg n t)) (hr : Room k X.A) (hg : Gl X x) (hm : X.mg x = some (.ref f)) (hk : PySem.W.keepIn X.K (.ref f) = true) (hb : Binds X.K fd ps []) (hx : Passes CX X W.E)
    (ha : PA X (e :: es) (LA X W n ta)) (hdb : (x == ("__debug__" : Str)) = false := by decide) (he : starEach (e :: es) X.env = (false, eval e X.env) :: starEach es X.env := by rfl) (hpl : (backTo pos (starEach es X.env)).any (·.1) = false := by rfl) :
    PE X (.Call (.Name x p) (e :: es) [] pos) (LN X W (mCall t W.RE ta)) := by
  refine PEw (pe_call F hr hg hm hk hb .nil hx ha hdb he hpl) ?_
  rintro σ H Q ⟨Z, F, ρ, R, S, w, t, q⟩
  refine ⟨Z, F, ρ, _, S, w, t, fun ds ρ1 vs F1 H1 t1 sf1 S1 r1 hl => ?_⟩
  dsimp only
  rw [List.append_nil]
  refine ⟨outZ F1 H1 none, F1, ds.map Sl.dat, _, W.RE, by rw [r1.length, hl], S1.callee r1, t1, (w.mono sf1).more S1.zOut, fun r ss' a F' H' hr sf' S' fa za c aw => ?_⟩
  have S2 := S1.after S' sf'
  refine q r ρ1 a F' H' hr (sf1.trans sf') S2 fa (S1.zOut.free za) c fun i s e m => ?_
  obtain ⟨_, f1, o, h1⟩ := S1.mut e m
  have z1 := outZ_some.mpr ⟨f1, (by simp : some a ≠ none), h1⟩
  rw [za] at z1; cases z1

/-! ### one argument is a thing that is changed (or handed on as it is) -/
def lAr (K : PySem.W.Frag) (mg : Str → Option Value) (W : Wish) (n p i : Nat) (t : MA) : TA := fun σ H Q => ∃ Z F ρ R, Stt K Z F H σ ρ ∧ WOk mg W Z F ∧ t ρ R ∧
  ∀ ds ρ' vs F' H', R ds ρ' → Same F F' → Stt K Z F' H' σ ρ' → ds.length = n → vs.length = n → p < n → (∀ (j : Nat) d, j ≠ p → ds[j]? = some d → ∃ v, vs[j]? = some v ∧ Rep K F' v d) → (∃ v, vs[p]? = some v ∧ at_ σ i = some v) → Q vs H'
def mHere (i : Nat) (t : MA) : MA := fun ρ R => match slot ρ i with
  | .un => False
  | _ => t ρ fun ds ρ1 => R (.none :: ds) ρ1
theorem gar_here {pp : Pos} (hv : PE X (.Name x pp) (tVar i)) (hr : PA X es (LA X W n ta)) (hs : starEach (.Name x pp :: es) X.env = (false, eval (.Name x pp) X.env) :: starEach es X.env := by rfl) : PA X (.Name x pp :: es) (lAr X.K X.mg W (n + 1) 0 i (mHere i ta)) := by
  refine PAw (pa_cons hv hr hs) ?_
  rintro σ H Q ⟨Z, F, ρ, R, S, w, t, q⟩
  have t' : slot ρ i ≠ .un ∧ ta ρ fun ds ρ1 => R (.none :: ds) ρ1 := by
    unfold mHere at t
    split at t
    · exact t.elim
    · rename_i h; exact ⟨h, t⟩
  obtain ⟨hn, t⟩ := t'
  obtain ⟨v, hv⟩ := (S.sl i _ (slot_some rfl hn)).val hn
  refine ⟨v, at_some hv, Z, F, ρ, _, S, w, t, fun ds ρ1 vs F1 H1 t1 sf1 S1 r1 hl => ?_⟩
  refine q (.none :: ds) ρ1 (v :: vs) F1 H1 t1 sf1 S1 (by rw [List.length_cons, hl]) (by rw [List.length_cons, r1.length, hl]) (Nat.succ_pos _) (fun j d hj e => ?_) ⟨v, rfl, hv⟩
  cases j with
  | zero => exact (hj rfl).elim
  | succ j =>
    obtain ⟨u, h1, h2⟩ := r1.get (show ds[j]? = some d by simpa using e)
    exact ⟨u, by simpa using h1, h2⟩
theorem gar_next {te : ME} (ha : PE X e (LE X W te)) (hr : PA X es (lAr X.K X.mg W n m i ta)) (hs : starEach (e :: es) X.env = (false, eval e X.env) :: starEach es X.env := by rfl) : PA X (e :: es) (lAr X.K X.mg W (n + 1) (m + 1) i (mCons te ta)) := by
  refine PAw (pa_cons ha hr hs) ?_
  rintro σ H Q ⟨Z, F, ρ, R, S, w, t, q⟩
  refine ⟨Z, F, ρ, _, S, w, t, fun d ρ1 v F1 H1 t1 sf1 S1 r1 => ?_⟩
  refine ⟨Z, F1, ρ1, _, S1, w.mono sf1, t1, fun ds ρ2 vs F2 H2 t2 sf2 S2 l1 l2 hp hd hh => ?_⟩
  refine q (d :: ds) ρ2 (v :: vs) F2 H2 t2 (sf1.trans sf2) S2 (by rw [List.length_cons, l1]) (by rw [List.length_cons, l2]) (Nat.succ_lt_succ hp) (fun j d' hj e => ?_) ?_
  · cases j with
    | zero => simp at e; subst e; exact ⟨v, rfl, r1.mono sf2⟩
    | succ j =>
      obtain ⟨u, h1, h2⟩ := hd j d' (fun z => hj (by rw [z])) (by simpa using e)
      exact ⟨u, by simpa using h1, h2⟩
  · obtain ⟨u, h1, h2⟩ := hh
    exact ⟨u, by simpa using h1, h2⟩
def mCallR (t : PSp) (RE : Str → Prop) (p i : Nat) (ta : MA) : ME := fun ρ R => ta ρ fun ds ρ1 => match slot ρ1 i with
  | .un => False
  | .own d => ∀ a, t ((ds.map Sl.dat).set p (.inn a d)) (fun r ss' => match slot ss' p with
    | .inn _ d' => R r (ρ1.set i (.own d'))
    | _ => False) RE
  | .inn a d => t ((ds.map Sl.dat).set p (.inn a d)) (fun r ss' => match slot ss' p with
    | .inn _ d' => R r (ρ1.set i (.inn a d'))
    | _ => False) RE
  | s => t ((ds.map Sl.dat).set p s) (fun r _ => R r ρ1) RE
section
variable {K : PySem.W.Frag} {Z F H : Hp} {σ : L2.St} {ρ : Ms} {vs : List V} {ds : List PyData} {j0 : Nat}
/-- what a callee gets: data, and at one place s -/
theorem Stt.calleeR (S : Stt K Z F H σ ρ) {s : Sl} {z : Option Addr} {v : V} (hl : ds.length = vs.length) (hp : j0 < vs.length) (hd : ∀ (j : Nat) d, j ≠ j0 → ds[j]? = some d → ∃ v, vs[j]? = some v ∧ Rep K F v d) (hv : vs[j0]? = some v) (hs : SlOk K (outZ F H z) F H (some v) s) :
    Stt K (outZ F H z) F H (vs.map some) ((ds.map Sl.dat).set j0 s) := by
  have key : ∀ j t, ((ds.map Sl.dat).set j0 s)[j]? = some t → (j = j0 ∧ t = s) ∨ (j ≠ j0 ∧ ∃ d, ds[j]? = some d ∧ t = .dat d) := fun j t e => by
    by_cases hj : j0 = j
    · subst hj
      rw [List.getElem?_set_self (by rw [List.length_map]; omega)] at e
      exact .inl ⟨rfl, (Option.some.inj e).symm⟩
    · rw [List.getElem?_set_ne hj, List.getElem?_map] at e
      cases e' : ds[j]? with
      | none => rw [e'] at e; cases e
      | some d => rw [e'] at e; exact .inr ⟨fun z => hj z.symm, d, rfl, (Option.some.inj e).symm⟩
  refine ⟨S.fh, outZ_zh, outZ_zf, by rw [List.length_set, List.length_map, List.length_map, hl], fun j t e => ?_, fun j k t u a e1 e2 m1 m2 => ?_⟩
  · rcases key j t e with ⟨rfl, rfl⟩ | ⟨hj, d, e', rfl⟩
    · rw [at_map hv]; exact hs
    · obtain ⟨u, h1, h2⟩ := hd j d hj e'
      exact ⟨u, at_map h1, h2⟩
  · rcases key j t e1 with ⟨a1, _⟩ | ⟨_, d, _, rfl⟩
    · rcases key k u e2 with ⟨a2, _⟩ | ⟨_, d, _, rfl⟩
      · rw [a1, a2]
      · exact (noMut_dat m2).elim
    · exact (noMut_dat m1).elim
/-- behind the call: what was handed over is given back -/
theorem Stt.afterR (S : Stt K Z F H σ ρ) {i : Nat} {s s' : Sl} {a : Addr} {F' H' : Hp} {τ : L2.St} {ss : Ms} (hi : ρ[i]? = some s) (m : mutA (at_ σ i) s a) (S' : Stt K (outZ F H (some a)) F' H' τ ss) (sf : Same F F') (fa : F' a = none)
    (ok : ∀ Z' , Z' a = none → SlOk K Z' F' H' (at_ σ i) s') (only : ∀ b, mutA (at_ σ i) s' b → b = a) : Stt K Z F' H' σ (ρ.set i s') := by
  obtain ⟨za, f0, _⟩ := S.mut hi m
  have hil : i < ρ.length := (List.getElem?_eq_some_iff.mp hi).1
  have zo : Same Z (outZ F H (some a)) := S.zOutA za
  have key : ∀ j t, (ρ.set i s')[j]? = some t → (j = i ∧ t = s') ∨ (j ≠ i ∧ ρ[j]? = some t) := fun j t e => by
    by_cases hj : i = j
    · subst hj
      rw [List.getElem?_set_self hil] at e
      exact .inl ⟨rfl, (Option.some.inj e).symm⟩
    · rw [List.getElem?_set_ne hj] at e
      exact .inr ⟨fun z => hj z.symm, e⟩
  refine ⟨S'.fh, zo.trans S'.zh, fun b q => S'.zf b fun z => q (zo.free z), by rw [List.length_set]; exact S.len, fun j t e => ?_, fun j k t u b e1 e2 m1 m2 => ?_⟩
  · rcases key j t e with ⟨rfl, rfl⟩ | ⟨hj, e⟩
    · exact ok Z za
    · have ne : ∀ b, mutA (at_ σ j) t b → some b ≠ some a := by
        intro b m' z
        cases z
        exact hj (S.ap j i t s a e hi m' m)
      refine (S.sl j t e).move sf (fun b o m' q => ?_) (fun b m' => (S.mut e m').1) fun b m' => ?_
      · exact S'.zh b o (outZ_some.mpr ⟨(S.mut e m').2.1, ne b m', q⟩)
      · obtain ⟨_, f, o, h⟩ := S.mut e m'
        exact S'.zf b (by rw [outZ_some.mpr ⟨f, ne b m', h⟩]; simp)
  · rcases key j t e1 with ⟨a1, b1⟩ | ⟨a1, f1⟩ <;> rcases key k u e2 with ⟨a2, b2⟩ | ⟨a2, f2⟩
    · rw [a1, a2]
    · rw [b1, a1] at m1
      rw [a1]
      exact S.ap i k s u a hi f2 m (only b m1 ▸ m2)
    · rw [b2, a2] at m2
      rw [a2]
      exact S.ap j i t s a f1 hi (only b m2 ▸ m1) m
    · exact S.ap j k t u b f1 f2 m1 m2
end
theorem slot_set : ∀ {ρ : Ms} {j : Nat} {s : Sl}, j < ρ.length → slot (ρ.set j s) j = s
  | [], _, _, h => by simp at h
  | _ :: _, 0, _, _ => rfl
  | _ :: r, j + 1, s, h => slot_set (ρ := r) (by simpa using h)
theorem callR_low {sp : PSp → Sp} {σ : L2.St} {H : Hp} {Z F : Hp} {ρ : Ms} {R : PyData → Ms → Prop} {Q : VK}
    (S : Stt X.K Z F H σ ρ) (w : WOk X.mg W Z F) (ht : mCallR t W.RE m i ta ρ R) (hsp : sp = spD X.K X.mg n)
    (q : ∀ d ρ' v F' H', R d ρ' → Same F F' → Stt X.K Z F' H' σ ρ' → Rep X.K F' v d → Q v H') : lAr X.K X.mg W n m i ta σ H fun vs H1 => sp t (vs ++ []) H1 Q W.E := by
  subst hsp
  refine ⟨Z, F, ρ, _, S, w, ht, fun ds ρ1 vs F1 H1 t1 sf1 S1 l1 l2 hp hd ⟨v, hv, hσ⟩ => ?_⟩
  dsimp only
  rw [List.append_nil]
  have hl : ds.length = vs.length := by rw [l1, l2]
  have hp' : m < vs.length := by rw [l2]; exact hp
  split at t1
  · exact t1.elim
  · rename_i d e'
    have hi := slot_some e' (fun q => nomatch q)
    obtain ⟨a, e1, z, f, c⟩ := S1.sl i _ hi
    rw [hσ] at e1; cases e1
    have ma : mutA (at_ σ i) (.own d) a := ⟨hσ, .inl ⟨d, rfl⟩⟩
    have za : outZ F1 H1 (some a) a = none := by
      cases y : outZ F1 H1 (some a) a with
      | none => rfl
      | some o => exact ((outZ_some.mp y).2.1 rfl).elim
    have zo : Same Z (outZ F1 H1 (some a)) := S1.zOutA z
    refine ⟨outZ F1 H1 (some a), F1, _, _, W.RE, l2, S1.calleeR (s := .inn a d) hl hp' hd hv ⟨rfl, za, f, c⟩, t1 a, (w.mono sf1).more zo, fun r ss' v' F' H' hr sf' S' rv => ?_⟩
    split at hr
    · rename_i b d' e2
      obtain ⟨g1, g2, g3, g4⟩ := S'.sl m _ (slot_some e2 (fun q => nomatch q))
      rw [at_map hv] at g1; cases g1
      exact q r _ v' F' H' hr (sf1.trans sf') (S1.afterR hi ma S' sf' g3 (fun Z' hz => ⟨a, hσ, hz, g3, g4⟩) fun b ⟨y, _⟩ => by rw [hσ] at y; cases y; rfl) rv
    · exact hr.elim
  · rename_i a d e'
    have hi := slot_some e' (fun q => nomatch q)
    obtain ⟨e1, z, f, c⟩ := S1.sl i _ hi
    rw [hσ] at e1; cases e1
    have ma : mutA (at_ σ i) (.inn a d) a := ⟨hσ, .inr ⟨a, d, rfl⟩⟩
    have za : outZ F1 H1 (some a) a = none := by
      cases y : outZ F1 H1 (some a) a with
      | none => rfl
      | some o => exact ((outZ_some.mp y).2.1 rfl).elim
    have zo : Same Z (outZ F1 H1 (some a)) := S1.zOutA z
    refine ⟨outZ F1 H1 (some a), F1, _, _, W.RE, l2, S1.calleeR (s := .inn a d) hl hp' hd hv ⟨rfl, za, f, c⟩, t1, (w.mono sf1).more zo, fun r ss' v' F' H' hr sf' S' rv => ?_⟩
    split at hr
    · rename_i b d' e2
      obtain ⟨g1, g2, g3, g4⟩ := S'.sl m _ (slot_some e2 (fun q => nomatch q))
      rw [at_map hv] at g1; cases g1
      exact q r _ v' F' H' hr (sf1.trans sf') (S1.afterR hi ma S' sf' g3 (fun Z' hz => ⟨hσ, hz, g3, g4⟩) fun b ⟨y, _⟩ => by rw [hσ] at y; cases y; rfl) rv
    · exact hr.elim
  · rename_i n1 n2 n3
    have hi := slot_some (ρ := ρ1) (i := i) rfl n1
    have nm : ∀ a, ¬ mutA (at_ σ i) (slot ρ1 i) a := fun a ⟨_, y⟩ => by
      rcases y with ⟨d, y⟩ | ⟨b, d, y⟩
      · exact n2 d y
      · exact n3 b d y
    have ok := S1.sl i _ hi
    rw [hσ] at ok
    have ok2 : SlOk X.K (outZ F1 H1 none) F1 H1 (some v) (slot ρ1 i) := ok.move (Same.refl _) (fun _ _ _ q => q) (fun a m => by rw [← hσ] at m; exact (nm a m).elim) fun a m => by rw [← hσ] at m; exact (nm a m).elim
    refine ⟨outZ F1 H1 none, F1, _, _, W.RE, l2, S1.calleeR hl hp' hd hv ok2, t1, (w.mono sf1).more S1.zOut, fun r ss' v' F' H' hr sf' S' rv => ?_⟩
    exact q r ρ1 v' F' H' hr (sf1.trans sf') (S1.after S' sf') rv
theorem g_callR (F : FnOk X.prog X.w X.K X.mg X.base CX k f fd ps (spD X.K X.mg n t)) (hr : Room k X.A) (hg : Gl X x) (hm : X.mg x = some (.ref f)) (hk : PySem.W.keepIn X.K (.ref f) = true) (hb : Binds X.K fd ps []) (hx : Passes CX X W.E)
    (ha : PA X (e :: es) (lAr X.K X.mg W n m i ta)) (hdb : (x == ("__debug__" : Str)) = false := by decide) (he : starEach (e :: es) X.env = (false, eval e X.env) :: starEach es X.env := by rfl) (hpl : (backTo pos (starEach es X.env)).any (·.1) = false := by rfl) :
    PE X (.Call (.Name x p) (e :: es) [] pos) (LE X W (mCallR t W.RE m i ta)) := by
  refine PEw (pe_call F hr hg hm hk hb .nil hx ha hdb he hpl) ?_
  rintro σ H Q ⟨Z, F, ρ, R, S, w, t, q⟩
  exact callR_low S w t rfl q
end

/-! ### a def keeps its promise -/
/-- what stands in the parameters behind the body -/
def outs : List Sl → Ms → List Sl
  | [], _ => []
  | .inn a d :: ss, r :: ρ => (match r with
    | .inn b d' => if b = a then .inn a d' else .un
    | _ => .un) :: outs ss ρ
  | s :: ss, _ :: ρ => s :: outs ss ρ
  | s :: ss, [] => .un :: outs ss []
/-- no slot that is one's own among the arguments -/
def NoOwn (ss : List Sl) : Prop := ∀ d, Sl.own d ∉ ss
theorem outs_at : ∀ {ss : List Sl} {ρ : Ms} {i : Nat} {s : Sl}, (outs ss ρ)[i]? = some s → s = .un ∨ (ss[i]? = some s ∧ ∀ a d, s ≠ .inn a d) ∨ ∃ a d d', ss[i]? = some (.inn a d) ∧ ρ[i]? = some (.inn a d') ∧ s = .inn a d'
  | [], _, _, _, h => by simp [outs] at h
  | t :: ss, [], i, s, h => by
    have h : ((Sl.un :: outs ss []) : List Sl)[i]? = some s := by cases t <;> exact h
    cases i with
    | zero => simp at h; exact .inl h.symm
    | succ i =>
      rcases outs_at (ss := ss) (ρ := []) (i := i) (by simpa using h) with z | z | ⟨a, d, d', z1, z2, z3⟩
      · exact .inl z
      · exact .inr (.inl (by simpa using z))
      · simp at z2
  | t :: ss, r :: ρ, i + 1, s, h => by
    have h : (outs ss ρ)[i]? = some s := by cases t <;> simpa [outs] using h
    rcases outs_at h with z | z | ⟨a, d, d', z1, z2, z3⟩
    · exact .inl z
    · exact .inr (.inl (by simpa using z))
    · exact .inr (.inr ⟨a, d, d', by simpa using z1, by simpa using z2, z3⟩)
  | t :: ss, r :: ρ, 0, s, h => by
    by_cases ht : ∃ a d, t = .inn a d
    · obtain ⟨a, d, rfl⟩ := ht
      simp [outs] at h
      split at h
      · rename_i b d'
        split at h
        · rename_i e
          subst e
          exact .inr (.inr ⟨b, d, d', rfl, rfl, h.symm⟩)
        · exact .inl h.symm
      · exact .inl h.symm
    · have e : outs (t :: ss) (r :: ρ) = t :: outs ss ρ := by
        cases t <;> first | rfl | exact (ht ⟨_, _, rfl⟩).elim
      rw [e] at h
      simp at h
      subst h
      exact .inr (.inl ⟨rfl, fun a d z => ht ⟨a, d, z⟩⟩)
theorem outs_len : ∀ (ss : List Sl) (ρ : Ms), (outs ss ρ).length = ss.length
  | [], _ => rfl
  | t :: ss, [] => by cases t <;> simp [outs, outs_len ss []]
  | t :: ss, r :: ρ => by cases t <;> simp [outs, outs_len ss ρ]
section
variable {K : PySem.W.Frag} {Z F H F' H' : Hp} {σ : L2.St} {ρ : Ms} {vs : List V} {ss : List Sl} {N : List Str}
theorem start_at {i : Nat} {v : V} (h : vs[i]? = some v) : at_ (L2.start N vs) i = some v := by
  have hi : i < vs.length := (List.getElem?_eq_some_iff.mp h).1
  unfold at_ L2.start
  rw [List.getElem?_append_left (by simpa using hi), List.getElem?_map, h]
  rfl
theorem at_map' {i : Nat} (hi : i < vs.length) : at_ (vs.map some) i = vs[i]? := by
  unfold at_
  rw [List.getElem?_map, List.getElem?_eq_getElem hi]
  rfl
theorem Stt.start (S : Stt K Z F H (vs.map some) ss) (hl : vs.length ≤ N.length) : Stt K Z F H (L2.start N vs) (ss ++ List.replicate (N.length - ss.length) .un) := by
  have ls : vs.length = ss.length := by have := S.len; rwa [List.length_map] at this
  have key : ∀ i s, (ss ++ List.replicate (N.length - ss.length) Sl.un)[i]? = some s → s = .un ∨ (ss[i]? = some s ∧ at_ (L2.start N vs) i = at_ (vs.map some) i) := fun i s e => by
    by_cases hi : i < ss.length
    · rw [List.getElem?_append_left hi] at e
      have hv : i < vs.length := by omega
      refine .inr ⟨e, ?_⟩
      rw [at_map' hv]
      rw [start_at (List.getElem?_eq_getElem hv), List.getElem?_eq_getElem hv]
    · rw [List.getElem?_append_right (by omega), List.getElem?_replicate] at e
      split at e
      · exact .inl (Option.some.inj e).symm
      · cases e
  refine ⟨S.fh, S.zh, S.zf, by unfold L2.start; rw [List.length_append, List.length_append, List.length_map, List.length_replicate, List.length_replicate]; omega, fun i s e => ?_, fun i j s t a e1 e2 m1 m2 => ?_⟩
  · rcases key i s e with rfl | ⟨e, z⟩
    · trivial
    · rw [z]; exact S.sl i s e
  · rcases key i s e1 with rfl | ⟨e1, z1⟩
    · exact (noMut_un m1).elim
    · rcases key j t e2 with rfl | ⟨e2, z2⟩
      · exact (noMut_un m2).elim
      · rw [z1] at m1
        rw [z2] at m2
        exact S.ap i j s t a e1 e2 m1 m2
/-- behind the body, in the caller's words -/
theorem Stt.finish (S : Stt K Z F H (vs.map some) ss) (no : NoOwn ss) (S' : Stt K Z F' H' σ ρ) (sf : Same F F') : Stt K Z F' H' (vs.map some) (outs ss ρ) ∧ ∀ i s a, (outs ss ρ)[i]? = some s → mutA (at_ (vs.map some) i) s a → ∃ t, ρ[i]? = some t ∧ mutA (at_ σ i) t a := by
  have key : ∀ i s a, (outs ss ρ)[i]? = some s → mutA (at_ (vs.map some) i) s a → ∃ t, ρ[i]? = some t ∧ mutA (at_ σ i) t a := fun i s a e m => by
    rcases outs_at e with rfl | ⟨e, n⟩ | ⟨b, d, d', e1, e2, rfl⟩
    · exact (noMut_un m).elim
    · obtain ⟨_, ⟨d, rfl⟩ | ⟨b, d, rfl⟩⟩ := m
      · exact (no d (List.mem_of_getElem? e)).elim
      · exact (n b d rfl).elim
    · have h1 := (S.sl i _ e1).1
      have h2 := (S'.sl i _ e2).1
      obtain ⟨z, _⟩ := m
      rw [h1] at z; cases z
      exact ⟨_, e2, h2, .inr ⟨_, _, rfl⟩⟩
  refine ⟨⟨S'.fh, S'.zh, S'.zf, by rw [outs_len]; exact S.len, fun i s e => ?_, fun i j s t a e1 e2 m1 m2 => ?_⟩, key⟩
  · rcases outs_at e with rfl | ⟨e', n⟩ | ⟨b, d, d', e1, e2, rfl⟩
    · trivial
    · refine (S.sl i s e').move sf (fun a o m _ => ?_) (fun a m => (S.mut e' m).1) fun a m => ?_
      · obtain ⟨_, ⟨d, rfl⟩ | ⟨b, d, rfl⟩⟩ := m
        · exact (no d (List.mem_of_getElem? e')).elim
        · exact (n b d rfl).elim
      · obtain ⟨_, ⟨d, rfl⟩ | ⟨b, d, rfl⟩⟩ := m
        · exact (no d (List.mem_of_getElem? e')).elim
        · exact (n b d rfl).elim
    · obtain ⟨_, g2, g3, g4⟩ := S'.sl i _ e2
      exact ⟨(S.sl i _ e1).1, g2, g3, g4⟩
  · obtain ⟨t1, f1, m1⟩ := key i s a e1 m1
    obtain ⟨t2, f2, m2⟩ := key j t a e2 m2
    exact S'.ap i j t1 t2 a f1 f2 m1 m2
end
/-- a def that answers data, nothing raised. pre: what is known of the arguments; body: the meaning of its text -/
def bodyD (n : Nat) (N : List Str) (body : MS) : PSp := fun ss R _ => ss.length = n ∧ NoOwn ss ∧ body { nx := fun ρ' => R .none (outs ss ρ'), rt := fun d ρ' => R d (outs ss ρ') } (ss ++ List.replicate (N.length - n) .un)
def bodyN (n : Nat) (N : List Str) (body : MS) : PSp := fun ss R _ => ss.length = n ∧ NoOwn ss ∧ body { nx := fun _ => False, rt := fun _ _ => False, ro := fun d ρ' => R d (outs ss ρ') } (ss ++ List.replicate (N.length - n) .un)
section
variable {P : Program} {w : World} {K : PySem.W.Frag} {mg : Str → Option Value} {base : Heap}
theorem fn_okD {x qual : Str} {st : Stmt} {f : Addr} {fd : FuncData} {N ps : List Str} {k n : Nat} {body : MS} (F : Fun K x qual st f fd) (S : FnScope N ps (defScope st)) (hn : ps.length = n)
    (h : ∀ (cdv : Value) (A : Around) (outer : List Env) (s : Shared) (H : Hp) (E : XK), Room k (A.deeper (envOfC qual (defScope st) s.heap.objs.size f cdv)) →
      PSs (cxOf CX0 P w K mg base N qual (defScope st) f cdv A outer s H E).nox (defBody st) (lS K mg Wish.no body)) :
    FnOk P w K mg base CX0 (k + 1) f fd ps (spD K mg n (bodyD n N body)) := by
  refine F.ok S (fun vs H Q E ⟨Z, F, ss, R, RE, hl, _⟩ => hl.trans hn.symm) fun cdv A outer s H vs Q E hr hsp => ⟨_, h cdv A outer s H E hr, ?_⟩
  obtain ⟨Z, F, ss, R, RE, hl, St, ⟨lss, no, ht⟩, w, q⟩ := hsp
  have hpl : n ≤ N.length := by have := congrArg List.length S.pre; rw [List.length_take] at this; omega
  have Ss := St.start (N := N) (by omega)
  rw [lss] at Ss
  refine ⟨Z, F, _, _, Ss, WOk.no, ht, ⟨fun ρ' σ' F' H' a sf S' => ?_, fun d ρ' v σ' F' H' a sf S' r => ?_, fun _ _ _ _ _ _ a => a.elim, fun _ _ _ _ a => a.elim, fun _ _ _ _ a => a.elim⟩⟩
  · exact q _ _ _ F' H' a sf (St.finish no S' sf).1 .non
  · exact q _ _ v F' H' a sf (St.finish no S' sf).1 r
theorem fn_okN {x qual : Str} {st : Stmt} {f : Addr} {fd : FuncData} {N ps : List Str} {k n : Nat} {body : MS} (F : Fun K x qual st f fd) (S : FnScope N ps (defScope st)) (hn : ps.length = n)
    (h : ∀ (cdv : Value) (A : Around) (outer : List Env) (s : Shared) (H : Hp) (E : XK), Room k (A.deeper (envOfC qual (defScope st) s.heap.objs.size f cdv)) →
      PSs (cxOf CX0 P w K mg base N qual (defScope st) f cdv A outer s H E).nox (defBody st) (lS K mg Wish.no body)) :
    FnOk P w K mg base CX0 (k + 1) f fd ps (spN K mg n (bodyN n N body)) := by
  refine F.ok S (fun vs H Q E ⟨Z, F, ss, R, RE, hl, _⟩ => hl.trans hn.symm) fun cdv A outer s H vs Q E hr hsp => ⟨_, h cdv A outer s H E hr, ?_⟩
  obtain ⟨Z, F, ss, R, RE, hl, St, ⟨lss, no, ht⟩, w, q⟩ := hsp
  have hpl : n ≤ N.length := by have := congrArg List.length S.pre; rw [List.length_take] at this; omega
  have Ss := St.start (N := N) (by omega)
  rw [lss] at Ss
  refine ⟨Z, F, _, _, Ss, WOk.no, ht, ⟨fun _ _ _ _ a => a.elim, fun _ _ _ _ _ _ a => a.elim, fun d ρ' a σ' F' H' hr sf S' fa za c aw => ?_, fun _ _ _ _ a => a.elim, fun _ _ _ _ a => a.elim⟩⟩
  obtain ⟨S2, k2⟩ := St.finish no S' sf
  refine q _ _ a F' H' hr sf S2 fa za c fun i s e m => ?_
  obtain ⟨t, f1, m1⟩ := k2 i s a e m
  exact aw i t f1 m1
/-- a weaker promise -/
theorem fn_imp {f : Addr} {fd : FuncData} {ps : List Str} {k n : Nat} {t t' : PSp} (h : FnOk P w K mg base CX0 k f fd ps (spD K mg n t)) (i : ∀ ss R RE, t' ss R RE → t ss R RE) : FnOk P w K mg base CX0 k f fd ps (spD K mg n t') :=
  h.imp fun vs H Q E ⟨Z, F, ss, R, RE, hl, S, ht, q⟩ => ⟨Z, F, ss, R, RE, hl, S, i ss R RE ht, q⟩
theorem fn_impN {f : Addr} {fd : FuncData} {ps : List Str} {k n : Nat} {t t' : PSp} (h : FnOk P w K mg base CX0 k f fd ps (spN K mg n t)) (i : ∀ ss R RE, t' ss R RE → t ss R RE) : FnOk P w K mg base CX0 k f fd ps (spN K mg n t') :=
  h.imp fun vs H Q E ⟨Z, F, ss, R, RE, hl, S, ht, q⟩ => ⟨Z, F, ss, R, RE, hl, S, i ss R RE ht, q⟩
end
end G


set_option Elab.async false
set_option maxRecDepth 100000
set_option maxHeartbeats 1000000
/-! GV13: several targets at once; letters of a text; names of the top. -/
namespace G
open PySem PySem.Spec PyProof.Rows L2
section
variable {K : PySem.W.Frag} {Z Z1 F H : Hp} {σ τ : L2.St} {ρ ss : Ms}
/-- the slots laid anew -/
theorem Stt.rearr (S : Stt K Z F H σ ρ) {σ' : L2.St} {ρ' : Ms} (f : Nat → Nat) (l : σ'.length = ρ'.length) (h : ∀ i s, ρ'[i]? = some s → s = .un ∨ (ρ[f i]? = some s ∧ at_ σ' i = at_ σ (f i)))
    (inj : ∀ i j, i < ρ'.length → j < ρ'.length → f i = f j → i = j) : Stt K Z F H σ' ρ' := by
  refine ⟨S.fh, S.zh, S.zf, l, fun i s e => ?_, fun i j s t a e1 e2 m1 m2 => ?_⟩
  · rcases h i s e with rfl | ⟨q, z⟩
    · trivial
    · rw [z]; exact S.sl _ s q
  · have i1 : i < ρ'.length := (List.getElem?_eq_some_iff.mp e1).1
    have j1 : j < ρ'.length := (List.getElem?_eq_some_iff.mp e2).1
    rcases h i s e1 with rfl | ⟨q1, z1⟩
    · exact (noMut_un m1).elim
    · rcases h j t e2 with rfl | ⟨q2, z2⟩
      · exact (noMut_un m2).elim
      · rw [z1] at m1
        rw [z2] at m2
        exact inj i j i1 j1 (S.ap _ _ s t a q1 q2 m1 m2)
/-- less stands outside -/
theorem Stt.lessZ (S : Stt K Z1 F H σ ρ) (e : Same Z Z1) : Stt K Z F H σ ρ :=
  ⟨S.fh, e.trans S.zh, fun a q => S.zf a fun z => q (e.free z), S.len, fun i s h => (S.sl i s h).move (Same.refl _) (fun _ _ _ q => q) (fun a m => e.free (S.mut h m).1) (fun a m => (S.mut h m).2.1), S.ap⟩
/-- a held thing stands outside -/
theorem Stt.holdZ (S : Stt K Z F H σ ρ) {a : Addr} {o : HO} (fa : F a = none) (za : Z a = none) (ha : H a = some o) (aw : ∀ i s, ρ[i]? = some s → ¬ mutA (at_ σ i) s a) : Stt K (upd Z a o) F H σ ρ := by
  refine ⟨S.fh, fun b u e => ?_, fun b q => ?_, S.len, fun i s h => (S.sl i s h).move (Same.refl _) (fun _ _ _ q => q) (fun b m => ?_) (fun b m => (S.mut h m).2.1), S.ap⟩
  · by_cases hb : b = a
    · subst hb; rw [upd_same] at e; rw [ha, Option.some.inj e]
    · rw [upd_ne hb] at e; exact S.zh b u e
  · by_cases hb : b = a
    · subst hb; exact fa
    · rw [upd_ne hb] at q; exact S.zf b q
  · rw [upd_ne (fun (z : b = a) => by subst z; exact aw i s h m)]; exact (S.mut h m).1
/-- one slot more ahead of others -/
theorem Stt.insDat (S : Stt K Z F H (σ ++ τ) (ρ ++ ss)) (hl : σ.length = ρ.length) {v : V} {d : PyData} (r : Rep K F v d) : Stt K Z F H (σ ++ some v :: τ) (ρ ++ .dat d :: ss) := by
  have key : ∀ i s, (ρ ++ Sl.dat d :: ss)[i]? = some s → (i = ρ.length ∧ s = .dat d) ∨ ∃ j, (ρ ++ ss)[j]? = some s ∧ at_ (σ ++ some v :: τ) i = at_ (σ ++ τ) j ∧ ((i < ρ.length ∧ j = i) ∨ (ρ.length < i ∧ j + 1 = i)) := fun i s e => by
    rcases Nat.lt_trichotomy i ρ.length with h | h | h
    · refine .inr ⟨i, ?_, ?_, .inl ⟨h, rfl⟩⟩
      · rw [List.getElem?_append_left h] at e ⊢; exact e
      · unfold at_; rw [List.getElem?_append_left (by omega), List.getElem?_append_left (by omega)]
    · subst h
      rw [List.getElem?_append_right (Nat.le_refl _), Nat.sub_self] at e
      exact .inl ⟨rfl, (Option.some.inj e).symm⟩
    · obtain ⟨k, rfl⟩ : ∃ k, i = ρ.length + 1 + k := ⟨i - (ρ.length + 1), by omega⟩
      refine .inr ⟨ρ.length + k, ?_, ?_, .inr ⟨h, by omega⟩⟩
      · rw [List.getElem?_append_right (by omega)] at e ⊢
        rw [show ρ.length + 1 + k - ρ.length = k + 1 by omega, List.getElem?_cons_succ] at e
        rw [show ρ.length + k - ρ.length = k by omega]; exact e
      · unfold at_
        rw [List.getElem?_append_right (by omega), List.getElem?_append_right (by omega), show ρ.length + 1 + k - σ.length = k + 1 by omega, show ρ.length + k - σ.length = k by omega, List.getElem?_cons_succ]
  refine ⟨S.fh, S.zh, S.zf, by have := S.len; simp only [List.length_append, List.length_cons] at this ⊢; omega, fun i s e => ?_, fun i j s t a e1 e2 m1 m2 => ?_⟩
  · rcases key i s e with ⟨rfl, rfl⟩ | ⟨j, e', z, _⟩
    · refine ⟨v, ?_, r⟩
      unfold at_; rw [List.getElem?_append_right (by omega), ← hl, Nat.sub_self]; rfl
    · rw [z]; exact S.sl j s e'
  · rcases key i s e1 with ⟨_, rfl⟩ | ⟨i', e1', z1, c1⟩
    · exact (noMut_dat m1).elim
    · rcases key j t e2 with ⟨_, rfl⟩ | ⟨j', e2', z2, c2⟩
      · exact (noMut_dat m2).elim
      · rw [z1] at m1
        rw [z2] at m2
        have := S.ap _ _ s t a e1' e2' m1 m2
        omega
theorem Stt.insOwn (S : Stt K Z F H (σ ++ τ) (ρ ++ ss)) (hl : σ.length = ρ.length) {a : Addr} {d : PyData} (fa : F a = none) (za : Z a = none) (c : Cont K F H a d) (aw : ∀ i s, (ρ ++ ss)[i]? = some s → ¬ mutA (at_ (σ ++ τ) i) s a) : Stt K Z F H (σ ++ some (.ref a) :: τ) (ρ ++ .own d :: ss) := by
  have key : ∀ i s, (ρ ++ Sl.own d :: ss)[i]? = some s → (i = ρ.length ∧ s = .own d ∧ at_ (σ ++ some (.ref a) :: τ) i = some (.ref a)) ∨ ∃ j, (ρ ++ ss)[j]? = some s ∧ at_ (σ ++ some (.ref a) :: τ) i = at_ (σ ++ τ) j ∧ ((i < ρ.length ∧ j = i) ∨ (ρ.length < i ∧ j + 1 = i)) := fun i s e => by
    rcases Nat.lt_trichotomy i ρ.length with h | h | h
    · refine .inr ⟨i, ?_, ?_, .inl ⟨h, rfl⟩⟩
      · rw [List.getElem?_append_left h] at e ⊢; exact e
      · unfold at_; rw [List.getElem?_append_left (by omega), List.getElem?_append_left (by omega)]
    · subst h
      rw [List.getElem?_append_right (Nat.le_refl _), Nat.sub_self] at e
      refine .inl ⟨rfl, (Option.some.inj e).symm, ?_⟩
      unfold at_; rw [List.getElem?_append_right (by omega), ← hl, Nat.sub_self]; rfl
    · obtain ⟨k, rfl⟩ : ∃ k, i = ρ.length + 1 + k := ⟨i - (ρ.length + 1), by omega⟩
      refine .inr ⟨ρ.length + k, ?_, ?_, .inr ⟨h, by omega⟩⟩
      · rw [List.getElem?_append_right (by omega)] at e ⊢
        rw [show ρ.length + 1 + k - ρ.length = k + 1 by omega, List.getElem?_cons_succ] at e
        rw [show ρ.length + k - ρ.length = k by omega]; exact e
      · unfold at_
        rw [List.getElem?_append_right (by omega), List.getElem?_append_right (by omega), show ρ.length + 1 + k - σ.length = k + 1 by omega, show ρ.length + k - σ.length = k by omega, List.getElem?_cons_succ]
  refine ⟨S.fh, S.zh, S.zf, by have := S.len; simp only [List.length_append, List.length_cons] at this ⊢; omega, fun i s e => ?_, fun i j s t b e1 e2 m1 m2 => ?_⟩
  · rcases key i s e with ⟨_, rfl, z⟩ | ⟨j, e', z, _⟩
    · rw [z]; exact ⟨a, rfl, za, fa, c⟩
    · rw [z]; exact S.sl j s e'
  · rcases key i s e1 with ⟨c1, q1, z1⟩ | ⟨i', e1', z1, c1⟩ <;> rcases key j t e2 with ⟨c2, q2, z2⟩ | ⟨j', e2', z2, c2⟩
    · omega
    · rw [z1] at m1
      obtain ⟨y, _⟩ := m1
      cases y
      rw [z2] at m2
      exact (aw j' t e2' m2).elim
    · rw [z2] at m2
      obtain ⟨y, _⟩ := m2
      cases y
      rw [z1] at m1
      exact (aw i' s e1' m1).elim
    · rw [z1] at m1
      rw [z2] at m2
      have := S.ap _ _ s t b e1' e2' m1 m2
      omega
/-- the first held one goes into the slot i -/
theorem Stt.takeIn {v : Option V} {s : Sl} (S : Stt K Z F H (σ ++ v :: τ) (ρ ++ s :: ss)) (hl : σ.length = ρ.length) (i : Nat) : Stt K Z F H (σ.set i v ++ τ) (ρ.set i s ++ ss) := by
  have hl2 : τ.length = ss.length := by have := S.len; simp only [List.length_append, List.length_cons] at this; omega
  refine S.rearr (fun j => if j = i ∧ i < ρ.length then ρ.length else if j < ρ.length then j else j + 1) (by simp only [List.length_append, List.length_set]; omega) (fun j t e => ?_) fun j k hj hk e => ?_
  · by_cases h : j = i ∧ i < ρ.length
    · obtain ⟨rfl, hi⟩ := h
      rw [if_pos ⟨rfl, hi⟩]
      rw [List.getElem?_append_left (by rw [List.length_set]; exact hi), List.getElem?_set_self hi] at e
      refine .inr ⟨?_, ?_⟩
      · rw [List.getElem?_append_right (Nat.le_refl _), Nat.sub_self]; exact e
      · unfold at_; rw [List.getElem?_append_left (by rw [List.length_set]; omega), List.getElem?_set_self (by omega), List.getElem?_append_right (by omega), ← hl, Nat.sub_self]; rfl
    · rw [if_neg h]
      by_cases hj : j < ρ.length
      · have hne : i ≠ j := fun z => h ⟨z.symm, z ▸ hj⟩
        rw [if_pos hj]
        rw [List.getElem?_append_left (by rw [List.length_set]; exact hj), List.getElem?_set_ne hne] at e
        refine .inr ⟨by rw [List.getElem?_append_left hj]; exact e, ?_⟩
        unfold at_; rw [List.getElem?_append_left (by rw [List.length_set]; omega), List.getElem?_set_ne hne, List.getElem?_append_left (by omega)]
      · rw [if_neg hj]
        rw [List.getElem?_append_right (by rw [List.length_set]; omega), List.length_set] at e
        refine .inr ⟨?_, ?_⟩
        · rw [List.getElem?_append_right (by omega), show j + 1 - ρ.length = (j - ρ.length) + 1 by omega, List.getElem?_cons_succ]; exact e
        · unfold at_; rw [List.getElem?_append_right (by rw [List.length_set]; omega), List.length_set, List.getElem?_append_right (by omega), show j + 1 - σ.length = (j - σ.length) + 1 by omega, List.getElem?_cons_succ]
  · split at e <;> split at e <;> (try split at e) <;> (try split at e) <;> omega
end

/-! ### parts, held until all are there -/
abbrev MP := Ms → (List Sl → Ms → Prop) → Prop
def lP (K : PySem.W.Frag) (mg : Str → Option Value) (W : Wish) (n : Nat) (t : MP) : TA := fun σ H Q => ∃ Z F ρ R, Stt K Z F H σ ρ ∧ WOk mg W Z F ∧ t ρ R ∧
  ∀ ss ρ' vs F' H', R ss ρ' → Same F F' → Stt K Z F' H' (σ ++ vs.map some) (ρ' ++ ss) → ss.length = n → vs.length = n → σ.length = ρ'.length → Q vs H'
abbrev LP (X : Cx) (W : Wish) (n : Nat) (t : MP) : TA := lP X.K X.mg W n t
def pNil : MP := fun ρ R => R [] ρ
def pE (te : ME) (tp : MP) : MP := fun ρ R => te ρ fun d ρ1 => tp ρ1 fun ss ρ2 => R (.dat d :: ss) ρ2
def pN (te : ME) (tp : MP) : MP := fun ρ R => te ρ fun d ρ1 => tp ρ1 fun ss ρ2 => R (.own d :: ss) ρ2
section
variable {X : Cx} {W : Wish} {pos : Pos} {e : Expr} {es : List Expr} {te : ME} {tp : MP} {n : Nat}
theorem gp_nil : PA X [] (LP X W 0 pNil) := by
  refine PAw pa_nil ?_
  rintro σ H Q ⟨Z, F, ρ, R, S, w, t, q⟩
  exact q [] ρ [] F H t (Same.refl _) (by simpa using S) rfl rfl S.len
theorem gp_E (ha : PE X e (LE X W te)) (hr : PA X es (LP X W n tp)) (hs : starEach (e :: es) X.env = (false, eval e X.env) :: starEach es X.env := by rfl) : PA X (e :: es) (LP X W (n + 1) (pE te tp)) := by
  refine PAw (pa_cons ha hr hs) ?_
  rintro σ H Q ⟨Z, F, ρ, R, S, w, t, q⟩
  refine ⟨Z, F, ρ, _, S, w, t, fun d ρ1 v F1 H1 t1 sf1 S1 r1 => ?_⟩
  refine ⟨Z, F1, ρ1, _, S1, w.mono sf1, t1, fun ss ρ2 vs F2 H2 t2 sf2 S2 l1 l2 hl => ?_⟩
  exact q (.dat d :: ss) ρ2 (v :: vs) F2 H2 t2 (sf1.trans sf2) (S2.insDat hl (r1.mono sf2)) (by rw [List.length_cons, l1]) (by rw [List.length_cons, l2]) hl
theorem gp_N (ha : PE X e (LN X W te)) (hr : PA X es (LP X W n tp)) (hs : starEach (e :: es) X.env = (false, eval e X.env) :: starEach es X.env := by rfl) : PA X (e :: es) (LP X W (n + 1) (pN te tp)) := by
  refine PAw (pa_cons ha hr hs) ?_
  rintro σ H Q ⟨Z, F, ρ, R, S, w, t, q⟩
  refine ⟨Z, F, ρ, _, S, w, t, fun d ρ1 a F1 H1 t1 sf1 S1 fa za c aw => ?_⟩
  obtain ⟨o, ho⟩ := c.some
  have zz : Same Z (upd Z a o) := same_upd za
  refine ⟨upd Z a o, F1, ρ1, _, S1.holdZ fa za ho aw, (w.mono sf1).more zz, t1, fun ss ρ2 vs F2 H2 t2 sf2 S2 l1 l2 hl => ?_⟩
  have fa2 : F2 a = none := S2.zf a (by rw [upd_same]; simp)
  have ho2 : H2 a = some o := S2.zh a o upd_same
  have c2 : Cont X.K F2 H2 a d := c.mono sf2 fun u hu => by rw [ho] at hu; cases hu; exact ho2
  refine q (.own d :: ss) ρ2 (.ref a :: vs) F2 H2 t2 (sf1.trans sf2) ((S2.lessZ zz).insOwn hl fa2 za c2 fun i s h m => ?_) (by rw [List.length_cons, l1]) (by rw [List.length_cons, l2]) hl
  have := (S2.mut h m).1
  rw [upd_same] at this; cases this
def freeS (ρ : Ms) (i : Nat) : Bool := match slot ρ i with
  | .inn _ _ => false
  | _ => true
def mPar2 (i j : Nat) (tp : MP) : MS := fun D ρ => tp ρ fun ss ρ1 => match ss with
  | [s, t] => (freeS ρ1 i && freeS ρ1 j) = true ∧ D.nx ((ρ1.set i s).set j t)
  | _ => False
def mPar3 (i j l : Nat) (tp : MP) : MS := fun D ρ => tp ρ fun ss ρ1 => match ss with
  | [s, t, u] => (freeS ρ1 i && freeS ρ1 j && freeS ρ1 l) = true ∧ D.nx (((ρ1.set i s).set j t).set l u)
  | _ => False
variable {i j l : Nat} {x y z : Str} {a b c : Expr} {px py pz pt : Pos} {kt k2 : Nat} {pt2 : Pos}
theorem gs_par (hc : X.calm = true) (hN : X.N.Nodup) (hi : X.N[i]? = some x) (hj : X.N[j]? = some y) (hij : i ≠ j)
    (hx : X.env.scope.names.lookup x = some .local) (hy : X.env.scope.names.lookup y = some .local) (ha : PA X [a, b] (LP X W 2 tp))
    (hw : swappedStores [.Tuple [.Name x px, .Name y py] kt pt] (.Tuple [a, b] k2 pt2) X.env = pure (some [x, y]))
    (hs : swapsWithSole [.Tuple [.Name x px, .Name y py] kt pt] (.Tuple [a, b] k2 pt2) pos.line X.env = pure false := by rfl) :
    PS X (.Assign [.Tuple [.Name x px, .Name y py] kt pt] (.Tuple [a, b] k2 pt2) pos) (LS X W (mPar2 i j tp)) := by
  refine PSw (ps_par hc hN hi hj hij hx hy ha hw hs) ?_
  rintro D σ H ⟨Z, F, ρ, DR, S, w, t, k⟩
  refine ⟨Z, F, ρ, _, S, w, t, fun ss ρ1 vs F1 H1 t1 sf1 S1 l1 l2 hl => ?_⟩
  match ss, vs, l1, l2 with
  | [s, t], [u, v], _, _ =>
    refine ⟨u, v, rfl, ?_⟩
    have S2 := Stt.takeIn S1 hl i
    have S3 := Stt.takeIn S2 (by rw [List.length_set, List.length_set]; exact hl) j
    rw [List.map_nil, List.append_nil, List.append_nil] at S3
    exact k.nx _ _ F1 H1 t1.2 sf1 S3
theorem gs_par3 (hc : X.calm = true) (hN : X.N.Nodup) (hi : X.N[i]? = some x) (hj : X.N[j]? = some y) (hl : X.N[l]? = some z) (hij : i ≠ j) (hil : i ≠ l) (hjl : j ≠ l)
    (hx : X.env.scope.names.lookup x = some .local) (hy : X.env.scope.names.lookup y = some .local) (hz : X.env.scope.names.lookup z = some .local) (ha : PA X [a, b, c] (LP X W 3 tp))
    (hw : swappedStores [.Tuple [.Name x px, .Name y py, .Name z pz] kt pt] (.Tuple [a, b, c] k2 pt2) X.env = pure (some [x, y, z]))
    (hs : swapsWithSole [.Tuple [.Name x px, .Name y py, .Name z pz] kt pt] (.Tuple [a, b, c] k2 pt2) pos.line X.env = pure false := by rfl) :
    PS X (.Assign [.Tuple [.Name x px, .Name y py, .Name z pz] kt pt] (.Tuple [a, b, c] k2 pt2) pos) (LS X W (mPar3 i j l tp)) := by
  refine PSw (ps_par3 hc hN hi hj hl hij hil hjl hx hy hz ha hw hs) ?_
  rintro D σ H ⟨Z, F, ρ, DR, S, w, t, k⟩
  refine ⟨Z, F, ρ, _, S, w, t, fun ss ρ1 vs F1 H1 t1 sf1 S1 l1 l2 hl => ?_⟩
  match ss, vs, l1, l2 with
  | [s, t, r], [u, v, q], _, _ =>
    refine ⟨u, v, q, rfl, ?_⟩
    have S2 := Stt.takeIn S1 hl i
    have S3 := Stt.takeIn S2 (by rw [List.length_set, List.length_set]; exact hl) j
    have S4 := Stt.takeIn S3 (by rw [List.length_set, List.length_set, List.length_set, List.length_set]; exact hl) l
    rw [List.map_nil, List.append_nil, List.append_nil] at S4
    exact k.nx _ _ F1 H1 t1.2 sf1 S4
/-- the pair is laid and taken apart -/
theorem gs_tup2 (hc : X.calm = true) (h1 : PG X (.Name x px) (gName i)) (h2 : PG X (.Name y py) (gName j)) (ha : PA X [a, b] (LP X W 2 tp))
    (hs : swapsWithSole [.Tuple [.Name x px, .Name y py] kt pt] (.Tuple [a, b] k2 pt2) pos.line X.env = pure false := by rfl) (hw : swappedStores [.Tuple [.Name x px, .Name y py] kt pt] (.Tuple [a, b] k2 pt2) X.env = pure none := by rfl)
    (hh : (assignEach [.Tuple [.Name x px, .Name y py] kt pt] X.env).map (·.2) = [assign (.Tuple [.Name x px, .Name y py] kt pt) X.env] := by rfl) :
    PS X (.Assign [.Tuple [.Name x px, .Name y py] kt pt] (.Tuple [a, b] k2 pt2) pos) (LS X W (mPar2 i j tp)) := by
  refine PSw (ps_asg (pe_tup ha) (pg_tup (n := 2) hc (pgs_cons h1 (pgs_cons h2 pgs_nil))) hs hw hh) ?_
  rintro D σ H ⟨Z, F, ρ, DR, S, w, t, k⟩
  refine ⟨Z, F, ρ, _, S, w, t, fun ss ρ1 vs F1 H1 t1 sf1 S1 l1 l2 hl => ?_⟩
  match ss, vs, l1, l2 with
  | [s, t], [u, v], _, _ =>
    refine ⟨(by show 2 ≤ sizeLine; decide), fun p hp => ⟨p, [u, v], rfl, SqT.of upd_same, rfl, ?_⟩⟩
    have S2 := Stt.takeIn S1 hl i
    have S3 := Stt.takeIn S2 (by rw [List.length_set, List.length_set]; exact hl) j
    rw [List.map_nil, List.append_nil, List.append_nil] at S3
    refine ⟨u, [v], rfl, v, [], rfl, rfl, ?_⟩
    exact k.nx _ _ F1 _ t1.2 sf1 (S3.lay _ hp)
end
end G


set_option Elab.async false
set_option maxRecDepth 100000
set_option maxHeartbeats 1000000
/-! GV14: letters of a text; names of the top; a def as the top has it. -/
namespace G
open PySem PySem.Spec PyProof.Rows L2
section
variable {X : Cx} {W : Wish} {pos : Pos} {e : Expr} {te : ME}
def letters (s : Str) : List PyData := s.cps.toList.map fun c => PyData.str ⟨#[c]⟩
theorem letters_len (s : Str) : (letters s).length = s.length := by unfold letters; rw [List.length_map, Array.length_toList]; rfl
def iTxt (te : ME) : MI := fun ρ R => te ρ fun d ρ1 => match d with
  | .str s => s.length ≤ 1000 ∧ R (letters s) ρ1
  | _ => False
theorem walk_str {K : PySem.W.Frag} {Z F : Hp} {s : Str} : WalkOn K Z F (Its s) (letters s) := fun F' H' sf sw _ => by
  refine ⟨fun i hi => ?_, ?_, fun i x H'' hi y => ⟨y.1, ?_⟩⟩
  · rw [letters_len] at hi; exact hi
  · rw [letters_len]; exact Nat.le_refl _
  · obtain ⟨_, c, hc, rfl⟩ := y
    refine ⟨_, ?_, .str _⟩
    unfold letters
    rw [List.getElem?_map, Array.getElem?_toList, hc]; rfl
theorem gi_txt {tg : Expr} (he : PE X e (LE X W te)) : PI X tg e (LI X W (iTxt te)) := by
  refine PIw (pi_str he) ?_
  rintro σ H Q ⟨Z, F, ρ, R, S, w, t, q⟩
  refine ⟨Z, F, ρ, _, S, w, t, fun d ρ1 v F1 H1 t1 sf1 S1 r1 => ?_⟩
  cases r1 with
  | str s =>
    exact ⟨s, rfl, q _ ρ1 F1 H1 _ t1.2 sf1 S1 walk_str (by rw [letters_len]; exact Nat.le_trans t1.1 (by decide))⟩
  | _ => exact t1.elim
/-- a name of the top that stands for plain data -/
theorem g_gl {x : Str} {v : V} {u : Value} {d : PyData} {p : Pos} (hg : Gl X x) (hm : X.mg x = some u) (rv : RelV v u) (r : ∀ F, Rep X.K F v d) (hd : (x == ("__debug__" : Str)) = false := by decide) : PE X (.Name x p) (LE X W (mC d)) := g_c (pe_glob hg hm rv hd) r
theorem g_glI {x : Str} {i : Int} {t : Tok} {p : Pos} (hg : Gl X x) (hm : X.mg x = some (.int i t)) (hd : (x == ("__debug__" : Str)) = false := by decide) : PE X (.Name x p) (LE X W (mC (.int i))) := g_gl (v := .int i) hg hm ⟨t, rfl⟩ (fun _ => .int _) hd
theorem g_glS {x : Str} {i : Str} {t : Tok} {p : Pos} (hg : Gl X x) (hm : X.mg x = some (.str i t)) (hd : (x == ("__debug__" : Str)) = false := by decide) : PE X (.Name x p) (LE X W (mC (.str i))) := g_gl (v := .str i) hg hm ⟨t, rfl⟩ (fun _ => .str _) hd
end
/-- a name of the top is plain data -/
def Lit (K : PySem.W.Frag) (mg : Str → Option Value) (x : Str) (d : PyData) : Prop := ∃ (u : Value) (v : V), mg x = some u ∧ RelV v u ∧ ∀ F, Rep K F v d
theorem g_lit {X : Cx} {W : Wish} {x : Str} {d : PyData} {p : Pos} (h : Lit X.K X.mg x d) (hg : Gl X x) (hd : (x == ("__debug__" : Str)) = false := by decide) : PE X (.Name x p) (LE X W (mC d)) := by
  obtain ⟨u, v, hm, rv, r⟩ := h
  exact g_gl hg hm rv r hd
theorem lit_int {K : PySem.W.Frag} {mg : Str → Option Value} {x : Str} {i : Int} {t : Tok} (h : mg x = some (.int i t)) : Lit K mg x (.int i) := ⟨_, .int i, h, ⟨t, rfl⟩, fun _ => .int _⟩
theorem lit_str {K : PySem.W.Frag} {mg : Str → Option Value} {x : Str} {i : Str} {t : Tok} (h : mg x = some (.str i t)) : Lit K mg x (.str i) := ⟨_, .str i, h, ⟨t, rfl⟩, fun _ => .str _⟩
theorem lit_ii {K : PySem.W.Frag} {mg : Str → Option Value} {x : Str} {a : Addr} {i j : Int} {s t : Tok} {n : Nat} {o : Obj} (h : mg x = some (.ref a)) (l : K.lookup a = some o) (c : o.cls = .type "tuple") (e : o.data = .seq #[.int i s, .int j t] n) (hd : o.dict = none) : Lit K mg x (.tuple [.int i, .int j]) := by
  refine ⟨_, .ref a, h, rfl, fun F => .tup (xs := [.int i, .int j]) ?_ (.cons (.int _) (.cons (.int _) .nil)) (by show 2 ≤ sizeLine; decide)⟩
  exact .inr ⟨o, _, _, l, c, hd, e, (by show 2 ≤ sizeLine; decide), .cons ⟨s, rfl⟩ (.cons ⟨t, rfl⟩ .nil)⟩
/-- a def as the top has it -/
def Has (P : Program) (w : World) (K : PySem.W.Frag) (mg : Str → Option Value) (base : Heap) (k : Nat) (x : Str) (ps : List Str) (sp : Sp) : Prop := ∃ (f : Addr) (fd : FuncData), FnOk P w K mg base CX0 k f fd ps sp ∧ mg x = some (.ref f) ∧ PySem.W.keepIn K (.ref f) = true ∧ Binds K fd ps []
section
variable {X : Cx} {W : Wish} {k n : Nat} {x : Str} {ps : List Str} {t : PSp} {e : Expr} {es : List Expr} {p pos : Pos} {ta : MA} {m i : Nat}
theorem g_callH (F : Has X.prog X.w X.K X.mg X.base k x ps (spD X.K X.mg n t)) (hr : Room k X.A) (hg : Gl X x) (hx : Passes CX0 X W.E)
    (ha : PA X (e :: es) (LA X W n ta)) (hdb : (x == ("__debug__" : Str)) = false := by decide) (he : starEach (e :: es) X.env = (false, eval e X.env) :: starEach es X.env := by rfl) (hpl : (backTo pos (starEach es X.env)).any (·.1) = false := by rfl) :
    PE X (.Call (.Name x p) (e :: es) [] pos) (LE X W (mCall t W.RE ta)) := by
  obtain ⟨f, fd, F, hm, hk, hb⟩ := F
  exact g_call F hr hg hm hk hb hx ha hdb he hpl
theorem gn_callH (F : Has X.prog X.w X.K X.mg X.base k x ps (spN X.K X.mg n t)) (hr : Room k X.A) (hg : Gl X x) (hx : Passes CX0 X W.E)
    (ha : PA X (e :: es) (LA X W n ta)) (hdb : (x == ("__debug__" : Str)) = false := by decide) (he : starEach (e :: es) X.env = (false, eval e X.env) :: starEach es X.env := by rfl) (hpl : (backTo pos (starEach es X.env)).any (·.1) = false := by rfl) :
    PE X (.Call (.Name x p) (e :: es) [] pos) (LN X W (mCall t W.RE ta)) := by
  obtain ⟨f, fd, F, hm, hk, hb⟩ := F
  exact gn_call F hr hg hm hk hb hx ha hdb he hpl
theorem g_callRH (F : Has X.prog X.w X.K X.mg X.base k x ps (spD X.K X.mg n t)) (hr : Room k X.A) (hg : Gl X x) (hx : Passes CX0 X W.E)
    (ha : PA X (e :: es) (lAr X.K X.mg W n m i ta)) (hdb : (x == ("__debug__" : Str)) = false := by decide) (he : starEach (e :: es) X.env = (false, eval e X.env) :: starEach es X.env := by rfl) (hpl : (backTo pos (starEach es X.env)).any (·.1) = false := by rfl) :
    PE X (.Call (.Name x p) (e :: es) [] pos) (LE X W (mCallR t W.RE m i ta)) := by
  obtain ⟨f, fd, F, hm, hk, hb⟩ := F
  exact g_callR F hr hg hm hk hb hx ha hdb he hpl
end
end G


set_option Elab.async false
/-! GV15: small words for the printed derivations. -/
namespace G
open PySem PySem.Spec PyProof.Rows L2
theorem boots_len : bootBuiltins "len" = some (.builtin "len") := by decide +kernel
theorem boots_abs : bootBuiltins "abs" = some (.builtin "abs") := by decide +kernel
theorem boots_sum : bootBuiltins "sum" = some (.builtin "sum") := by decide +kernel
theorem boots_all : bootBuiltins "all" = some (.builtin "all") := by decide +kernel
theorem boots_max : bootBuiltins "max" = some (.builtin "max") := by decide +kernel
theorem boots_min : bootBuiltins "min" = some (.builtin "min") := by decide +kernel
theorem boots_sorted : bootBuiltins "sorted" = some (.builtin "sorted") := by decide +kernel
theorem boots_tuple : bootBuiltins "tuple" = some (.type "tuple") := by decide +kernel
theorem boots_list : bootBuiltins "list" = some (.type "list") := by decide +kernel
theorem boots_dict : bootBuiltins "dict" = some (.type "dict") := by decide +kernel
theorem boots_int : bootBuiltins "int" = some (.type "int") := by decide +kernel
theorem boots_bool : bootBuiltins "bool" = some (.type "bool") := by decide +kernel
theorem boots_str : bootBuiltins "str" = some (.type "str") := by decide +kernel
theorem ps0 {X : Cx} {E : XK} : Passes CX0 X E := fun _ _ _ _ _ _ _ h => h.elim
theorem hu64 {k : Nat} {A : Around} (h : Room k A) : A.units + 64 < cLine := by have := h.un; omega
theorem hu200 {k : Nat} {A : Around} (h : Room k A) : A.units + 200 < cLine := by have := h.un; omega
end G


set_option Elab.async false
set_option maxRecDepth 100000
set_option maxHeartbeats 1000000
/-! GV16: the script; the head of a law. -/
namespace G
open PySem PySem.Spec PyProof.Rows L2
def mLenS (i : Nat) : ME := fun ρ R => match slot ρ i with
  | .scr ns => R (.int ns.length) ρ
  | _ => False
def mCallRN (t : PSp) (RE : Str → Prop) (p i : Nat) (ta : MA) : ME := fun ρ R => ta ρ fun ds ρ1 => match slot ρ1 i with
  | .scr ns => t ((ds.map Sl.dat).set p (.scr ns)) (fun r _ => R r ρ1) RE
  | _ => False
section
variable {X : Cx} {W : Wish} {k n : Nat} {x : Str} {ps : List Str} {t : PSp} {e : Expr} {es : List Expr} {p pos p2 : Pos} {ta : MA} {m i : Nat}
theorem g_lenS {y : Str} (hg : Gl X "len") (hm : X.mg "len" = none) (h : PE X (.Name y p2) (tVar i)) (he : starEach [.Name y p2] X.env = (false, eval (.Name y p2) X.env) :: starEach [] X.env := by rfl)
    (hpl : (backTo pos (starEach [] X.env)).any (·.1) = false := by rfl) : PE X (.Call (.Name "len" p) [.Name y p2] [] pos) (LE X W (mLenS i)) := by
  refine PEw (pe_callB call_len_seq hg hm boots_len (pa_cons h pa_nil he) (by decide) (by decide) he hpl) ?_
  rintro σ H Q ⟨Z, F, ρ, R, S, w, t, q⟩
  unfold mLenS at t
  split at t
  · rename_i ns e'
    obtain ⟨a, e1, z⟩ := S.sl i _ (slot_some e' (fun q => nomatch q))
    exact ⟨.ref a, at_some e1, a, _, rfl, .inl (S.fh.seq z), by rw [List.length_map]; exact q _ ρ _ F H t (Same.refl _) S (.int _)⟩
  · exact t.elim
theorem gn_callRH (F : Has X.prog X.w X.K X.mg X.base k x ps (spN X.K X.mg n t)) (hr : Room k X.A) (hg : Gl X x) (hx : Passes CX0 X W.E)
    (ha : PA X (e :: es) (lAr X.K X.mg W n m i ta)) (hdb : (x == ("__debug__" : Str)) = false := by decide) (he : starEach (e :: es) X.env = (false, eval e X.env) :: starEach es X.env := by rfl) (hpl : (backTo pos (starEach es X.env)).any (·.1) = false := by rfl) :
    PE X (.Call (.Name x p) (e :: es) [] pos) (LN X W (mCallRN t W.RE m i ta)) := by
  obtain ⟨f, fd, F, hm, hk, hb⟩ := F
  refine PEw (pe_call F hr hg hm hk hb .nil hx ha hdb he hpl) ?_
  rintro σ H Q ⟨Z, F, ρ, R, S, w, ht, q⟩
  refine ⟨Z, F, ρ, _, S, w, ht, fun ds ρ1 vs F1 H1 t1 sf1 S1 l1 l2 hp hd ⟨v, hv, hσ⟩ => ?_⟩
  dsimp only
  rw [List.append_nil]
  have hl : ds.length = vs.length := by rw [l1, l2]
  have hp' : m < vs.length := by rw [l2]; exact hp
  split at t1
  · rename_i ns e'
    obtain ⟨a, e1, z⟩ := S1.sl i _ (slot_some e' (fun q => nomatch q))
    rw [hσ] at e1; cases e1
    refine ⟨outZ F1 H1 none, F1, _, _, W.RE, l2, S1.calleeR (s := .scr ns) hl hp' hd hv ⟨a, rfl, z⟩, t1, (w.mono sf1).more S1.zOut, fun r ss' b F' H' hr sf' S' fb zb c aw => ?_⟩
    have S2 := S1.after S' sf'
    refine q r ρ1 b F' H' hr (sf1.trans sf') S2 fb (S1.zOut.free zb) c fun i s e m => ?_
    obtain ⟨_, f1, o, h1⟩ := S1.mut e m
    have z1 := outZ_some.mpr ⟨f1, (by simp : some b ≠ none), h1⟩
    rw [zb] at z1; cases z1
  · exact t1.elim
end
/-! ### the law's own promise -/
def spLaw (K : PySem.W.Frag) : Sp := fun vs H Q _ => ∃ (a : Addr) (ns : List Int), vs = [.ref a] ∧ SqL K H a (ns.map V.int) ∧ ns.length ≤ 63 ∧ (∀ b, H b = none ∨ ∃ o xs, H b = some (.frz o (.lst xs))) ∧ ∀ H', Q (.bl true) H'
def p_law : PSp := fun ss R _ => ∃ ns : List Int, ns.length ≤ 63 ∧ ss = [.scr ns] ∧ R (.bool true) ss
theorem law_done {P : Program} {w : World} {K : PySem.W.Frag} {mg : Str → Option Value} {base : Heap} {k : Nat} {f : Addr} {fd : FuncData} {b : PSp} (h : FnOk P w K mg base CX0 k f fd ["script"] (spD K mg 1 b)) (q : ∀ ss R RE, p_law ss R RE → b ss R RE) :
    FnOk P w K mg base CX0 k f fd ["script"] (spLaw K) := by
  refine h.imp fun vs H Q E ⟨a, ns, e, hs, hl, ho, hq⟩ => ?_
  subst e
  have sw : SameW H H := fun b o e => by
    exact Or.inl e
  refine ⟨fun _ => none, H, [.scr ns], fun r _ => r = .bool true, fun _ => False, rfl, ⟨sw, (fun _ _ z => nomatch z), fun _ z => (z rfl).elim, rfl, fun i s e => ?_, fun i j s t a e1 e2 m1 m2 => ?_⟩, q _ _ _ ⟨ns, hl, rfl, rfl⟩, ?_, fun r ss' v F' H' hr sf S r1 => ?_⟩
  · cases i with
    | zero =>
      have e' : s = .scr ns := (Option.some.inj e).symm
      subst e'
      exact ⟨a, rfl, hs⟩
    | succ i => cases e
  · cases i with
    | zero =>
      have e' : s = .scr ns := (Option.some.inj e1).symm
      subst e'
      obtain ⟨_, ⟨d, z⟩ | ⟨b, d, z⟩⟩ := m1 <;> cases z
    | succ i => cases e1
  · exact fun n C F' H' r => r.elim
  · subst hr
    cases r1
    exact hq H'
end G


set_option Elab.async false
set_option maxRecDepth 100000
set_option maxHeartbeats 1000000
/-! GV17: d.get(k, x), {}, pairs counted. -/
namespace G
open PySem PySem.Spec PyProof.Rows L2
def getD' (d k e : PyData) (R : PyData → Prop) : Prop := match d, k with
  | .dict es, .str x => R ((dget es x).getD e)
  | _, _ => False
def mGet (td tk te : ME) : ME := fun ρ R => td ρ fun d ρ1 => (match d with
  | .dict _ => True
  | _ => False) ∧ tk ρ1 fun k ρ2 => te ρ2 fun e ρ3 => getD' d k e fun c => R c ρ3
def mDict0 : ME := fun ρ R => R (.dict []) ρ
section
variable {X : Cx} {W : Wish} {pos apos cpos : Pos} {o e f : Expr} {td tk te : ME}
theorem g_dget (hu : X.A.units + 64 < cLine) (ho : PE X o (LE X W td)) (he : PE X e (LE X W tk)) (hf : PE X f (LE X W te)) (m : M2 X o "get" apos e f cpos) : PE X (.Call (.Attribute o "get" apos) [e, f] [] cpos) (LE X W (mGet td tk te)) := by
  refine PEw (pe_dget2 (by omega) ho he hf m) ?_
  rintro σ H Q ⟨Z, F, ρ, R, S, w, t, q⟩
  refine ⟨Z, F, ρ, _, S, w, t, fun d ρ1 v F1 H1 ⟨t0, t1⟩ sf1 S1 r1 => ?_⟩
  cases r1 with
  | @dct a kvs es h1 h2 =>
    refine ⟨a, rfl, .inl ⟨kvs, S1.fh.rd h1⟩, Z, F1, ρ1, _, S1, w.mono sf1, t1, fun k ρ2 y F2 H2 t2 sf2 S2 r2 => ?_⟩
    refine ⟨Z, F2, ρ2, _, S2, (w.mono sf1).mono sf2, t2, fun e' ρ3 z F3 H3 t3 sf3 S3 r3 => ?_⟩
    cases r2 with
    | str x =>
      have t3 : R ((dget es x).getD e') ρ3 := t3
      have sf23 := sf2.trans sf3
      have h1' : Rd F3 a (.dK kvs) := sf23.w.rd h1
      have h2' := h2.mono sf23
      refine ⟨valV kvs (Sum.inr x : Key), .inl ⟨kvs, Sum.inr x, S3.fh.rd h1', rfl, rfl⟩, ?_⟩
      rcases h2'.look (k := x) with ⟨e1, e2⟩ | ⟨d', v, e1, e2, e3⟩
      · rw [e2]
        rw [e1] at t3
        exact q _ ρ3 _ F3 H3 t3 (sf1.trans sf23) S3 r3
      · rw [e2]
        rw [e1] at t3
        exact q _ ρ3 _ F3 H3 t3 (sf1.trans sf23) S3 e3
    | _ => exact t3.elim
  | _ => exact t0.elim
theorem gn_d0 : PE X (.Dict [] [] pos) (LN X W mDict0) := by
  refine PEw pe_dnewK ?_
  rintro σ H Q ⟨Z, F, ρ, R, S, w, t, q⟩
  intro p hp
  exact q _ ρ p F _ t (Same.refl _) (S.lay _ hp) (S.fh.free hp) (S.zh.free hp) ⟨[], upd_same, .nil⟩ (S.newAway hp)
end
end G


set_option Elab.async false
set_option maxRecDepth 100000
set_option maxHeartbeats 1000000
/-! GV18: enumerate; the least of a list of data. -/
namespace G
open PySem PySem.Spec PyProof.Rows L2
def enumD (ds : List PyData) : List PyData := ds.zipIdx.map fun p => .tuple [.int (p.2 : Int), p.1]
theorem enumD_len (ds : List PyData) : (enumD ds).length = ds.length := by unfold enumD; rw [List.length_map, List.length_zipIdx]
def mForE (i j : Nat) (te : ME) (tb : MS) : MS := fun D ρ => te ρ fun d ρ1 => match d with
  | .list ds => mForL (mGT [mGN i, mGN j]) tb D (enumD ds) ρ1
  | _ => False
theorem gn_out {ρ : Ms} {i : Nat} {d : PyData} {R : Ms → Prop} (h : mGN i d ρ R) : R (ρ.set i (.dat d)) := by
  unfold mGN at h
  split at h
  · exact h.elim
  · exact h
theorem gt_out {ρ : Ms} {i j : Nat} {d e : PyData} {R : Ms → Prop} (h : mGT [mGN i, mGN j] (.tuple [d, e]) ρ R) : R ((ρ.set i (.dat d)).set j (.dat e)) := by
  have h : mGN i d ρ fun ρ1 => mGN j e ρ1 fun ρ2 => R ρ2 := h
  exact gn_out (gn_out h)
section
variable {X : Cx} {W : Wish} {pos p p1 p2 pt cpos : Pos} {x y : Str} {kt : Nat} {e : Expr} {body : List Stmt} {te : ME} {tb : MS} {i j : Nat}
theorem gs_forE (hp : PassesOwn (model X.prog X.w) X.A X.env X.xe) (hc : X.calm = true) (hg : Gl X "enumerate") (hm : X.mg "enumerate" = none) (he : PE X e (LE X W te)) (h1 : PG X (.Name x p1) (gName i)) (h2 : PG X (.Name y p2) (gName j)) (hb : PSs X body (LS X W tb))
    (hs : starEach [e] X.env = [(false, eval e X.env)] := by rfl) (hs1 : starEach [e] X.env = (false, eval e X.env) :: starEach [] X.env := by rfl) (hs2 : ∀ x, foldedSetIterable (.Call (.Name "enumerate" p) [e] [] cpos) X.env x = pure x := by intro _; rfl) :
    PS X (.For (.Tuple [.Name x p1, .Name y p2] kt pt) (.Call (.Name "enumerate" p) [e] [] cpos) body [] pos) (LS X W (mForE i j te tb)) := by
  refine PSw (ps_for hp hc (pi_enum hg hm (pa_cons he pa_nil hs1) hs) (pg_tup (n := 2) hc (pgs_cons h1 (pgs_cons h2 pgs_nil))) hb hs2) ?_
  rintro D σ H ⟨Z, F, ρ, DR, S, w, t, k⟩
  refine ⟨Z, F, ρ, _, S, w, t, fun d ρ1 v F1 H1 t1 sf1 S1 r1 => ?_⟩
  cases r1 with
  | @lst a xs ds h1 h2 h3 =>
    have t1 : mForL (mGT [mGN i, mGN j]) tb DR (enumD ds) ρ1 := t1
    refine ⟨a, xs, rfl, SqL.of (S1.fh.lst h1), ?_⟩
    refine ⟨fun n m σ' H' => m = ds.length - n ∧ n ≤ ds.length ∧ ∃ F' ρ', Same F1 F' ∧ Stt X.K Z F' H' σ' ρ' ∧ mForL (mGT [mGN i, mGN j]) tb DR ((enumD ds).drop n) ρ', ⟨ds.length, by simp, Nat.zero_le _, F1, ρ1, Same.refl _, S1, t1⟩, ?_⟩
    rintro n m σ2 H2 ⟨rfl, hn, F2, ρ2, sf2, S2, t2⟩
    have hq : SqL X.K H2 a xs := SqL.of (S2.fh.lst (sf2 _ _ h1))
    by_cases hlt : n < ds.length
    · have hlx : n < xs.length := by rw [h2.length]; exact hlt
      refine .inr ⟨⟨xs, xs[n], hq, List.getElem?_eq_getElem hlx⟩, fun σ' H' => ∃ F' ρ', Same F1 F' ∧ Stt X.K Z F' H' σ' ρ' ∧ mForL (mGT [mGN i, mGN j]) tb DR ((enumD ds).drop (n + 1)) ρ', fun σ' H' p' => ⟨ds.length - (n + 1), by omega, rfl, hlt, p'⟩, fun z H' yy => ?_⟩
      obtain ⟨T, u, rfl, hT, rfl, hu⟩ := yy
      obtain ⟨d, e2, r2⟩ := h2.get' (hu xs hq)
      have en : (enumD ds)[n]? = some (.tuple [.int (n : Int), d]) := by
        unfold enumD
        rw [List.getElem?_map, List.getElem?_zipIdx, e2]
        simp
      have ed : (enumD ds).drop n = .tuple [.int (n : Int), d] :: (enumD ds).drop (n + 1) := by
        have hl : n < (enumD ds).length := by rw [enumD_len]; exact hlt
        rw [List.drop_eq_getElem_cons hl]
        rw [List.getElem?_eq_getElem hl] at en
        rw [Option.some.inj en]
      rw [ed] at t2
      have t3 := gt_out (show mGT [mGN i, mGN j] (.tuple [.int (n : Int), d]) ρ2 fun ρ1 => tb { DR with nx := mForL (mGT [mGN i, mGN j]) tb DR ((enumD ds).drop (n + 1)), ct := mForL (mGT [mGN i, mGN j]) tb DR ((enumD ds).drop (n + 1)), bk := DR.nx } ρ1 from t2)
      refine ⟨T, [.int (n : Int), u], rfl, SqT.of upd_same, rfl, .int (n : Int), [u], rfl, u, [], rfl, rfl, ?_⟩
      have S3 : Stt X.K Z F2 (upd H2 T (.tup [.int (n : Int), u])) σ2 ρ2 := S2.lay _ hT
      have S4 := (S3.putDat i (v := .int (n : Int)) (.int (n : Int))).putDat j (r2.mono sf2)
      have sfa := sf1.trans sf2
      refine ⟨Z, F2, _, _, S4, (w.mono sf1).mono sf2, t3, ?_, ?_, ?_, ?_, ?_⟩
      · exact fun ρ' σ' F' H' a sf S' => ⟨F', ρ', sf2.trans sf, S', a⟩
      · exact fun d ρ' v σ' F' H' a sf S' r => k.rt d ρ' v σ' F' H' a (sfa.trans sf) S' r
      · exact fun d ρ' v σ' F' H' a sf S' => k.ro d ρ' v σ' F' H' a (sfa.trans sf) S'
      · exact fun ρ' σ' F' H' a sf S' => k.nx ρ' σ' F' H' a (sfa.trans sf) S'
      · exact fun ρ' σ' F' H' a sf S' => ⟨F', ρ', sf2.trans sf, S', a⟩
    · have e : n = ds.length := by omega
      subst e
      rw [List.drop_of_length_le (by rw [enumD_len]; exact Nat.le_refl _)] at t2
      exact .inl ⟨⟨xs, hq, by rw [h2.length]; exact Nat.le_refl _⟩, k.nx ρ2 σ2 F2 H2 t2 (sf1.trans sf2) S2⟩
  | _ => exact t1.elim

/-! ### min of a list of data -/
def minD' (d : PyData) (R : PyData → Prop) : Prop := ∃ x xs, d = .list (x :: xs) ∧ PySem.W.AlikeAll (x :: xs) ∧ PyData.depthAll (x :: xs) ≤ 60 ∧ R (PySem.W.minD x xs)
theorem reads_each {h : Heap} : ∀ {vs : List Value} {ds : List PyData}, PySem.W.EachIs (fun v d => ∃ as, Reads h v d as) vs ds → ∃ as, ReadsAll h vs ds as
  | _, _, .nil => ⟨_, .nil⟩
  | _, _, .cons ⟨_, r⟩ t => by
    obtain ⟨bs, q⟩ := reads_each t
    exact ⟨_, .cons r q⟩
theorem cg_min1 (hu : X.A.units + 64 < cLine) (hc : X.calm = true) : CallG X (.builtin "min") minD' := by
  intro pins s σ Z F H ρ x u d R Q I S rx rv hg q
  obtain ⟨y, ys, rfl, al, dp, hr⟩ := hg
  rcases rx.cases S.fh with ⟨a, xs, ds, rfl, e, h1, h2, h3⟩ | ⟨a, kvs, es, rfl, e, h1, h2⟩ | ⟨r, n1, n2⟩
  · cases e
    cases rv
    obtain ⟨its, rvs, p, hz⟩ := I.list (SqL.of (K := X.K) h1)
    have hpl : ∀ d ∈ y :: ys, d.plain = true := fun d hd => plain_alike d (al.1 d hd d hd)
    obtain ⟨as, hreads⟩ := reads_each (each_reads I S.fh hpl (each_of rvs h2))
    have hn : its.length = ys.length + 1 := by rw [← rvs.length, h2.length]; rfl
    have key : ReadsAll s.heap its.toArray.toList (y :: ys) as := hreads
    refine PySem.call_min_walkH (PySem.W.iter_listW (A := X.A.in1) (I.ok.hd hc) p.isList fun s₂ e W st hfp hw hk => ?_)
    refine ⟨_, _, _, _, _, _, _, s.heap, _, rfl, W, st, hfp, by have : its.toArray.size = its.length := rfl; omega, hw, hk, PySem.W.cmpIn_lt (A := X.A.in1) key al (by show X.A.units + 1 + _ < _; omega), fun v s' hP m => ?_⟩
    obtain ⟨h', tk, rfl, hk'⟩ := PySem.W.moved_old e rfl m
    have e1 : its.toArray.size - 1 = ys.length := by have : its.toArray.size = its.length := rfl; omega
    have e2 := (PySem.W.argBest_fold PySem.W.dataLt PyData.none y ys ys.length (Nat.le_refl _)).2
    rw [List.take_length] at e2
    rw [e1] at hP
    have back : ∀ {us : List V} {ws : List Value} {n : Nat}, Vals us ws → ws[n]? = some v → ∃ z, us[n]? = some z ∧ RelV z v := by
      intro us ws n r
      induction r generalizing n with
      | nil => intro h; simp at h
      | cons p r ih =>
        intro h
        cases n with
        | zero => simp at h; subst h; exact ⟨_, rfl, p⟩
        | succ n =>
          obtain ⟨z, h1, h2⟩ := ih (n := n) (by simpa using h)
          exact ⟨z, by simpa using h1, h2⟩
    rw [List.getElem?_toArray] at hP
    obtain ⟨z, hz1, hz2⟩ := back rvs hP
    obtain ⟨d, hd1, hd2⟩ := h2.get' hz1
    have ed : d = PySem.W.minD y ys := by
      unfold PySem.W.minD
      rw [← e2, List.getD_eq_getElem?_getD, hd1]; rfl
    subst ed
    exact ⟨z, H, I.kept hk', hz2, q _ z F H hr (Same.refl _) S hd2⟩
  · cases e
  · exact (n1 _ rfl).elim
end
end G


set_option Elab.async false
set_option maxRecDepth 100000
set_option maxHeartbeats 1000000
/-! GV19: a dict is walked: it is locked the while. -/
namespace G
open PySem PySem.Spec PyProof.Rows L2
section
variable {K : PySem.W.Frag} {F F' : Hp}
mutual
theorem Rep.ofR (hl : ∀ a xs, F a = some (.lst xs) → F' a = some (.lst xs)) (hf : ∀ a o xs, F a = some (.frz o (.tup xs)) → F' a = some (.frz o (.tup xs))) (hd : ∀ a kv, Rd F a (.dK kv) → Rd F' a (.dK kv)) : ∀ {v : V} {d : PyData}, Rep K F v d → Rep K F' v d
  | _, _, .non => .non
  | _, _, .bl b => .bl b
  | _, _, .int i => .int i
  | _, _, .str x => .str x
  | _, _, .lst h r z => .lst (hl _ _ h) (RepAll.ofR hl hf hd r) z
  | _, _, .tup h r z => .tup (h.imp (fun ⟨o, e, n⟩ => ⟨o, hf _ _ _ e, n⟩) id) (RepAll.ofR hl hf hd r) z
  | _, _, .dct h r => .dct (hd _ _ h) (RepKV.ofR hl hf hd r)
theorem RepAll.ofR (hl : ∀ a xs, F a = some (.lst xs) → F' a = some (.lst xs)) (hf : ∀ a o xs, F a = some (.frz o (.tup xs)) → F' a = some (.frz o (.tup xs))) (hd : ∀ a kv, Rd F a (.dK kv) → Rd F' a (.dK kv)) : ∀ {vs : List V} {ds : List PyData}, RepAll K F vs ds → RepAll K F' vs ds
  | _, _, .nil => .nil
  | _, _, .cons h r => .cons (Rep.ofR hl hf hd h) (RepAll.ofR hl hf hd r)
theorem RepKV.ofR (hl : ∀ a xs, F a = some (.lst xs) → F' a = some (.lst xs)) (hf : ∀ a o xs, F a = some (.frz o (.tup xs)) → F' a = some (.frz o (.tup xs))) (hd : ∀ a kv, Rd F a (.dK kv) → Rd F' a (.dK kv)) : ∀ {vs : List (Key × V)} {ds : List (PyData × PyData)}, RepKV K F vs ds → RepKV K F' vs ds
  | _, _, .nil => .nil
  | _, _, .cons h r => .cons (Rep.ofR hl hf hd h) (RepKV.ofR hl hf hd r)
end
variable {Z H H' : Hp} {σ : L2.St} {ρ : Ms} {d : Addr} {ob : Obj} {kvs : List (Key × V)} {u0 u1 : HO}
/-- what is known of data, the dict at d locked or not -/
theorem Rep.unlock {v : V} {x : PyData} (fd : F d = some u1) (h1 : u1 = .dK kvs ∨ u1 = .frz ob (.dK kvs)) (hu : u0 = .dK kvs ∨ u0 = .frz ob (.dK kvs)) (r : Rep K F v x) : Rep K (upd F d u0) v x := by
  refine Rep.ofR (fun a xs e => ?_) (fun a o xs e => ?_) (fun a kv e => ?_) r
  · rw [upd_ne (fun z => by rw [z, fd] at e; rcases h1 with rfl | rfl <;> cases e)]; exact e
  · rw [upd_ne (fun z => by rw [z, fd] at e; rcases h1 with rfl | rfl <;> cases e)]; exact e
  · by_cases z : a = d
    · subst z
      have ek : kv = kvs := by
        rcases e with e | ⟨o, e⟩
        · rw [fd] at e; rcases h1 with rfl | rfl <;> cases e; rfl
        · rw [fd] at e; rcases h1 with rfl | rfl <;> cases e; rfl
      subst ek
      rcases hu with rfl | rfl
      · exact .inl upd_same
      · exact .inr ⟨ob, upd_same⟩
    · rcases e with e | ⟨o, e⟩
      · exact .inl (by rw [upd_ne z]; exact e)
      · exact .inr ⟨o, by rw [upd_ne z]; exact e⟩
theorem RepAll.unlock {vs : List V} {ds : List PyData} (fd : F d = some u1) (h1 : u1 = .dK kvs ∨ u1 = .frz ob (.dK kvs)) (hu : u0 = .dK kvs ∨ u0 = .frz ob (.dK kvs)) (r : RepAll K F vs ds) : RepAll K (upd F d u0) vs ds := by
  induction vs generalizing ds with
  | nil => cases r; exact .nil
  | cons v vs ih => cases r with | cons h t => exact .cons (h.unlock fd h1 hu) (ih t)
theorem RepKV.unlock {vs : List (Key × V)} {ds : List (PyData × PyData)} (fd : F d = some u1) (h1 : u1 = .dK kvs ∨ u1 = .frz ob (.dK kvs)) (hu : u0 = .dK kvs ∨ u0 = .frz ob (.dK kvs)) (r : RepKV K F vs ds) : RepKV K (upd F d u0) vs ds := by
  induction vs generalizing ds with
  | nil => cases r; exact .nil
  | cons v vs ih => cases r with | cons h t => exact .cons (h.unlock fd h1 hu) (ih t)
theorem Cont.unlock {a : Addr} {c : PyData} (fd : F d = Option.some u1) (h1 : u1 = .dK kvs ∨ u1 = .frz ob (.dK kvs)) (hu : u0 = .dK kvs ∨ u0 = .frz ob (.dK kvs)) (e : H' a = H a) (h : Cont K F H a c) : Cont K (upd F d u0) H' a c := by
  cases c with
  | list ds => obtain ⟨xs, k1, k2, k3⟩ := h; exact ⟨xs, e.trans k1, k2.unlock fd h1 hu, k3⟩
  | dict es => obtain ⟨kv, k1, k2⟩ := h; exact ⟨kv, e.trans k1, k2.unlock fd h1 hu⟩
  | _ => exact h.elim
theorem Stt.unlock (S : Stt K Z F H σ ρ) (fd : F d = some u1) (h1 : u1 = .dK kvs ∨ u1 = .frz ob (.dK kvs)) (zd : Z d = none) (hu : u0 = .dK kvs ∨ u0 = .frz ob (.dK kvs)) (hh : ∀ a, a ≠ d → H' a = H a) (h2 : H' d = some (.dK kvs) ∨ H' d = some (.frz ob (.dK kvs)))
    (h3 : u0 = .frz ob (.dK kvs) → H' d = some u0) : Stt K Z (upd F d u0) H' σ ρ := by
  have ne : ∀ {a}, F a = none → a ≠ d := fun e z => by rw [z, fd] at e; cases e
  refine ⟨fun a o e => ?_, fun a o e => ?_, fun a q => ?_, S.len, fun i s e => ?_, S.ap⟩
  · by_cases z : a = d
    · subst z
      rw [upd_same] at e
      cases e
      rcases hu with rfl | rfl
      · rcases h2 with h2 | h2
        · exact .inl h2
        · exact .inr ⟨ob, kvs, rfl, h2⟩
      · exact .inl (h3 rfl)
    · rw [upd_ne z] at e
      rw [hh a z]
      exact S.fh a o e
  · have z : a ≠ d := fun z => by rw [z, zd] at e; cases e
    rw [hh a z]; exact S.zh a o e
  · have z : a ≠ d := fun z => q (by rw [z]; exact zd)
    rw [upd_ne z]; exact S.zf a q
  · have h := S.sl i s e
    cases s with
    | un => trivial
    | dat x => obtain ⟨v, e1, e2⟩ := h; exact ⟨v, e1, e2.unlock fd h1 hu⟩
    | raw x => exact h
    | own x =>
      obtain ⟨a, e1, e2, e3, e4⟩ := h
      exact ⟨a, e1, e2, by rw [upd_ne (ne e3)]; exact e3, e4.unlock fd h1 hu (hh a (ne e3))⟩
    | inn a x =>
      obtain ⟨e1, e2, e3, e4⟩ := h
      exact ⟨e1, e2, by rw [upd_ne (ne e3)]; exact e3, e4.unlock fd h1 hu (hh a (ne e3))⟩
    | scr ns =>
      obtain ⟨a, e1, e2⟩ := h
      refine ⟨a, e1, ?_⟩
      rcases e2 with (e2 | ⟨o, e2⟩) | e2
      · exact .inl (.inl (by rw [upd_ne (fun z => by rw [z, fd] at e2; rcases h1 with rfl | rfl <;> cases e2)]; exact e2))
      · exact .inl (.inr ⟨o, by rw [upd_ne (fun z => by rw [z, fd] at e2; rcases h1 with rfl | rfl <;> cases e2)]; exact e2⟩)
      · exact .inr e2
end

def mForK (i : Nat) (g : MG) (tb : MS) : MS := fun D ρ => match slot ρ i with
  | .dat (.dict es) => mForL g tb D (es.map (·.1)) ρ
  | _ => False
theorem walk_keys {K : PySem.W.Frag} {Z F : Hp} {d : Addr} {ob : Obj} {kvs : List (Key × V)} {es : List (PyData × PyData)} (fd : F d = some (.frz ob (.dK kvs))) (r : RepKV K F kvs es) : WalkOn K Z F (Itk d ob kvs) (es.map (·.1)) := fun F' H' sf sw _ => by
  have hd : H' d = some (.frz ob (.dK kvs)) := sw.frz (sf _ _ fd)
  have hk := RepKV.keys r
  have hl : (es.map (·.1)).length = kvs.length := by rw [hk, List.length_map]
  refine ⟨fun i hi => ⟨hd, by rw [← hl]; exact hi⟩, ⟨hd, by rw [hl]; exact Nat.le_refl _⟩, fun i x H'' hi y => ?_⟩
  obtain ⟨e1, k, v, e2, rfl⟩ := y
  refine ⟨e1, kD k, ?_, ?_⟩
  · rw [hk, List.getElem?_map, e2]; rfl
  · cases k with
    | inl i => exact .int i
    | inr x => exact .str x
section
variable {K : PySem.W.Frag} {Z F : Hp} {d : Addr} {ob : Obj} {kvs : List (Key × V)} {u0 : HO} {DR : PEnd} {D D' : Ends} {post : Hp → Hp}
theorem same_unlock {F' : Hp} (fu : F d = some u0) (sf : Same (upd F d (.frz ob (.dK kvs))) F') : Same F (upd F' d u0) := fun a o e => by
  by_cases z : a = d
  · subst z
    rw [fu] at e
    cases e
    exact upd_same
  · rw [upd_ne z]
    exact sf a o (by rw [upd_ne z]; exact e)
theorem ends_unlock (k : EndsOk K Z F DR D) (fu : F d = some u0) (hu : u0 = .dK kvs ∨ u0 = .frz ob (.dK kvs)) (zd : Z d = none)
    (hp : ∀ H' a, a ≠ d → post H' a = H' a) (hp2 : ∀ H', H' d = some (.frz ob (.dK kvs)) → post H' d = some (.dK kvs) ∨ post H' d = some (.frz ob (.dK kvs))) (hp3 : ∀ H', H' d = some (.frz ob (.dK kvs)) → u0 = .frz ob (.dK kvs) → post H' d = some u0)
    (dn : ∀ σ' H', H' d = some (.frz ob (.dK kvs)) → D.nx σ' (post H') → D'.nx σ' H') (dr : ∀ v H', H' d = some (.frz ob (.dK kvs)) → D.rt v (post H') → D'.rt v H')
    (db : ∀ σ' H', H' d = some (.frz ob (.dK kvs)) → D.bk σ' (post H') → D'.bk σ' H') (dc : ∀ σ' H', H' d = some (.frz ob (.dK kvs)) → D.ct σ' (post H') → D'.ct σ' H') : EndsOk K Z (upd F d (.frz ob (.dK kvs))) DR D' := by
  have fd : ∀ {F' : Hp}, Same (upd F d (.frz ob (.dK kvs))) F' → F' d = some (.frz ob (.dK kvs)) := fun sf => sf _ _ upd_same
  have hd : ∀ {F' H' : Hp} {σ' : L2.St} {ρ' : Ms}, Same (upd F d (.frz ob (.dK kvs))) F' → Stt K Z F' H' σ' ρ' → H' d = some (.frz ob (.dK kvs)) := fun sf S => S.fh.frz (fd sf)
  have un : ∀ {F' H' : Hp} {σ' : L2.St} {ρ' : Ms}, Same (upd F d (.frz ob (.dK kvs))) F' → Stt K Z F' H' σ' ρ' → Stt K Z (upd F' d u0) (post H') σ' ρ' := fun {F' H' σ' ρ'} sf S => S.unlock (fd sf) (.inr rfl) zd hu (hp H') (hp2 H' (hd sf S)) (hp3 H' (hd sf S))
  refine ⟨fun ρ' σ' F' H' a sf S => dn σ' H' (hd sf S) (k.nx ρ' σ' _ _ a (same_unlock fu sf) (un sf S)), fun x ρ' v σ' F' H' a sf S r => dr v H' (hd sf S) (k.rt x ρ' v σ' _ _ a (same_unlock fu sf) (un sf S) (r.unlock (fd sf) (.inr rfl) hu)),
    fun x ρ' b σ' F' H' a sf S fb zb c aw => ?_, fun ρ' σ' F' H' a sf S => db σ' H' (hd sf S) (k.bk ρ' σ' _ _ a (same_unlock fu sf) (un sf S)), fun ρ' σ' F' H' a sf S => dc σ' H' (hd sf S) (k.ct ρ' σ' _ _ a (same_unlock fu sf) (un sf S))⟩
  have hb : b ≠ d := fun z => by rw [z, fd sf] at fb; cases fb
  exact dr (.ref b) H' (hd sf S) (k.ro x ρ' b σ' _ _ a (same_unlock fu sf) (un sf S) (by rw [upd_ne hb]; exact fb) zb (c.unlock (fd sf) (.inr rfl) hu (hp H' b hb)) aw)
end
section
variable {X : Cx} {pos p : Pos} {x : Str} {tg : Expr} {body : List Stmt} {g : MG} {tb : MS} {i : Nat}
theorem gs_forK (hp : PassesOwn (model X.prog X.w) X.A X.env X.xe) (hc : X.calm = true) (hv : PE X (.Name x p) (tVar i)) (hg : PG X tg (LG X g)) (hb : PSs X body (LS X Wish.no tb))
    (hs : ∀ y, foldedSetIterable (.Name x p) X.env y = pure y := by intro _; rfl) : PS X (.For tg (.Name x p) body [] pos) (LS X Wish.no (mForK i g tb)) := by
  have base := ps_for (pos := pos) hp hc (pi_keys hv) hg hb hs
  have lock := ps_lock base
  refine ⟨fun pins s σ H D I h => ?_⟩
  obtain ⟨Z, F, ρ, DR, S, w, t, k⟩ := h
  unfold mForK at t
  split at t
  · rename_i es e'
    obtain ⟨v, hv1, hr⟩ := S.sl i _ (slot_some e' (fun q => nomatch q))
    cases hr with
    | @dct d kvs _ h1 h2 =>
      have fd0 : F d ≠ none := by rcases h1 with h1 | ⟨o, h1⟩ <;> (rw [h1]; exact fun z => nomatch z)
      have zd : Z d = none := by
        cases z : Z d with
        | none => rfl
        | some o => exact (fd0 (S.zf d (by rw [z]; simp))).elim
      have core : ∀ (HL : Hp) (ob : Obj) (D' : Ends), Stt X.K Z (upd F d (.frz ob (.dK kvs))) HL σ ρ → HL d = some (.frz ob (.dK kvs)) → EndsOk X.K Z (upd F d (.frz ob (.dK kvs))) DR D' → RepKV X.K (upd F d (.frz ob (.dK kvs))) kvs es →
          tFor (iKeys (tVar i)) (LG X g) (LS X Wish.no tb) D' σ HL := fun HL ob D' SL hL kk r =>
        ⟨.ref d, at_some hv1, d, ob, rfl, .inl ⟨kvs, hL, for_low SL (walk_keys upd_same r) t WOk.no kk⟩⟩
      rcases S.fh.rd h1 with hH | ⟨ob, hH⟩
      · -- it is locked now
        have fu : F d = some (.dK kvs) := by
          rcases h1 with h1 | ⟨o, h1⟩
          · exact h1
          · have := S.fh.frz h1; rw [hH] at this; cases this
        refine lock.run pins s σ H D I ⟨d, .dK kvs, hH, (by first | trivial | exact True.intro | simp [Mut]), fun od => ?_⟩
        have sw : SameW F (upd F d (.frz od (.dK kvs))) := fun a o e => by
          by_cases z : a = d
          · subst z
            rw [fu] at e; cases e
            exact .inr ⟨od, kvs, rfl, upd_same⟩
          · exact .inl (by rw [upd_ne z]; exact e)
        have SL : Stt X.K Z (upd F d (.frz od (.dK kvs))) (upd H d (.frz od (.dK kvs))) σ ρ := S.unlock (ob := od) (kvs := kvs) fu (.inl rfl) zd (.inr rfl) (fun a z => upd_ne z) (.inr upd_same) fun _ => upd_same
        refine core _ od _ SL upd_same ?_ (h2.monoW sw)
        refine ends_unlock (post := fun H' => upd H' d (.dK kvs)) k fu (.inl rfl) zd (fun H' a z => upd_ne z) (fun H' _ => .inl upd_same) (fun H' _ z => nomatch z) ?_ ?_ ?_ ?_
        · exact fun σ' H' a b => ⟨a, b⟩
        · exact fun σ' H' a b => ⟨a, b⟩
        · exact fun σ' H' a b => ⟨a, b⟩
        · exact fun σ' H' a b => ⟨a, b⟩
      · -- it is locked already
        obtain ⟨u0, fu, hu⟩ : ∃ u0, F d = some u0 ∧ (u0 = .dK kvs ∨ u0 = .frz ob (.dK kvs)) := by
          rcases h1 with h1 | ⟨o, h1⟩
          · exact ⟨_, h1, .inl rfl⟩
          · have := S.fh.frz h1
            rw [hH] at this; cases this
            exact ⟨_, h1, .inr rfl⟩
        have sw : SameW F (upd F d (.frz ob (.dK kvs))) := fun a o e => by
          by_cases z : a = d
          · subst z
            rw [fu] at e; cases e
            rcases hu with rfl | rfl
            · exact .inr ⟨ob, kvs, rfl, upd_same⟩
            · exact .inl upd_same
          · exact .inl (by rw [upd_ne z]; exact e)
        have SL : Stt X.K Z (upd F d (.frz ob (.dK kvs))) H σ ρ := S.unlock (ob := ob) (kvs := kvs) fu hu zd (.inr rfl) (fun a z => rfl) (.inr hH) fun _ => hH
        refine base.run pins s σ H D I (core H ob D SL hH ?_ (h2.monoW sw))
        exact ends_unlock (post := fun H' => H') k fu hu zd (fun H' a z => rfl) (fun H' e => .inr e) (fun H' e z => by rw [z]; exact e) (fun _ _ _ b => b) (fun _ _ _ b => b) (fun _ _ _ b => b) fun _ _ _ b => b
  · exact t.elim
variable {elt : Expr} {ifs : List Expr} {scope : Scope} {own : List (Str × Nat)} {tt : MB} {te : ME}
def mLcK (i : Nat) (g : MG) (tt : MB) (te : ME) (vs : List Nat) : ME := fun ρ R => match slot ρ i with
  | .dat (.dict es) => es.length ≤ 1000 ∧ mLcL g tt te vs (fun acc ρ2 => R (.list acc) (backM ρ ρ2 vs)) (es.map (·.1)) [] (wipeM ρ vs)
  | _ => False
theorem gn_lcK (hc : X.calm = true) (hN : X.N.Nodup) (hv : PE X (.Name x p) (tVar i)) (ok : BlkOk X.N X.env.scope scope own)
    (hg : ∀ (s : Shared) (H : Hp) (C : Addr) (cl : List (Str × Addr)) (fp : List Addr), PG (X.blk s H scope (compEnvC scope cl C X.env) fp) tg (lG X.K (some (own.map (·.2))) g)) (ht : ∀ (s : Shared) (H : Hp) (C : Addr) (cl : List (Str × Addr)) (fp : List Addr), PTs (X.blk s H scope (compEnvC scope cl C X.env) fp) ifs (lB X.K X.mg Wish.no tt))
    (he : ∀ (s : Shared) (H : Hp) (C : Addr) (cl : List (Str × Addr)) (fp : List Addr), PE (X.blk s H scope (compEnvC scope cl C X.env) fp) elt (lE X.K X.mg Wish.no te)) (hs : ∀ y, foldedSetIterable (.Name x p) X.env y = pure y := by intro _; rfl) :
    PE X (.ListComp elt [⟨tg, .Name x p, ifs, 0⟩] scope pos) (LN X Wish.no (mLcK i g tt te (own.map (·.2)))) := by
  have base := pe_lc (pos := pos) hc hN (pi_keys hv) ok hg ht he hs
  have lock := pe_lock base
  refine ⟨fun pins s σ H Q I h => ?_⟩
  obtain ⟨Z, F, ρ, R, S, w, t, q⟩ := h
  unfold mLcK at t
  split at t
  · rename_i es e'
    obtain ⟨hz, t⟩ := t
    obtain ⟨v, hv1, hr⟩ := S.sl i _ (slot_some e' (fun q => nomatch q))
    cases hr with
    | @dct d kvs _ h1 h2 =>
      have fd0 : F d ≠ none := by rcases h1 with h1 | ⟨o, h1⟩ <;> (rw [h1]; exact fun z => nomatch z)
      have zd : Z d = none := by
        cases z : Z d with
        | none => rfl
        | some o => exact (fd0 (S.zf d (by rw [z]; simp))).elim
      have hz' : (es.map (·.1)).length ≤ sizeLine := by rw [List.length_map]; exact Nat.le_trans hz (by decide)
      have core : ∀ (HL : Hp) (ob : Obj) (Q' : VK), Stt X.K Z (upd F d (.frz ob (.dK kvs))) HL σ ρ → HL d = some (.frz ob (.dK kvs)) → RepKV X.K (upd F d (.frz ob (.dK kvs))) kvs es →
          (∀ c ρ' a F' H', R c ρ' → Same (upd F d (.frz ob (.dK kvs))) F' → Stt X.K Z F' H' σ ρ' → F' a = none → Z a = none → Cont X.K F' H' a c → (∀ i s, ρ'[i]? = some s → ¬ mutA (at_ σ i) s a) → Q' (.ref a) H') →
          tLc (iKeys (tVar i)) (lG X.K (some (own.map (·.2))) g) (lB X.K X.mg Wish.no tt) (lE X.K X.mg Wish.no te) (own.map (·.2)) σ HL Q' := fun HL ob Q' SL hL r kk =>
        ⟨.ref d, at_some hv1, d, ob, rfl, .inl ⟨kvs, hL, lc_low2 SL (walk_keys upd_same r) hz' t kk⟩⟩
      rcases S.fh.rd h1 with hH | ⟨ob, hH⟩
      · have fu : F d = some (.dK kvs) := by
          rcases h1 with h1 | ⟨o, h1⟩
          · exact h1
          · have := S.fh.frz h1; rw [hH] at this; cases this
        refine lock.run pins s σ H Q I ⟨d, .dK kvs, hH, (by first | trivial | exact True.intro | simp [Mut]), fun od => ?_⟩
        have sw : SameW F (upd F d (.frz od (.dK kvs))) := fun a o e => by
          by_cases z : a = d
          · subst z
            rw [fu] at e; cases e
            exact .inr ⟨od, kvs, rfl, upd_same⟩
          · exact .inl (by rw [upd_ne z]; exact e)
        have SL : Stt X.K Z (upd F d (.frz od (.dK kvs))) (upd H d (.frz od (.dK kvs))) σ ρ := S.unlock (ob := od) (kvs := kvs) fu (.inl rfl) zd (.inr rfl) (fun a z => upd_ne z) (.inr upd_same) fun _ => upd_same
        refine core _ od _ SL upd_same (h2.monoW sw) fun c ρ' a F' H' hr sf S' fa za ct aw => ?_
        have fd' : F' d = some (.frz od (.dK kvs)) := sf _ _ upd_same
        have ha : a ≠ d := fun z => by rw [z, fd'] at fa; cases fa
        refine ⟨S'.fh.frz fd', ?_⟩
        have S2 : Stt X.K Z (upd F' d (.dK kvs)) (upd H' d (.dK kvs)) σ ρ' := S'.unlock fd' (.inr rfl) zd (.inl rfl) (fun a z => upd_ne z) (.inl upd_same) fun z => nomatch z
        exact q c ρ' a _ _ hr (same_unlock fu sf) S2 (by rw [upd_ne ha]; exact fa) za (ct.unlock fd' (.inr rfl) (.inl rfl) (upd_ne ha)) aw
      · obtain ⟨u0, fu, hu⟩ : ∃ u0, F d = some u0 ∧ (u0 = .dK kvs ∨ u0 = .frz ob (.dK kvs)) := by
          rcases h1 with h1 | ⟨o, h1⟩
          · exact ⟨_, h1, .inl rfl⟩
          · have := S.fh.frz h1
            rw [hH] at this; cases this
            exact ⟨_, h1, .inr rfl⟩
        have sw : SameW F (upd F d (.frz ob (.dK kvs))) := fun a o e => by
          by_cases z : a = d
          · subst z
            rw [fu] at e; cases e
            rcases hu with rfl | rfl
            · exact .inr ⟨ob, kvs, rfl, upd_same⟩
            · exact .inl upd_same
          · exact .inl (by rw [upd_ne z]; exact e)
        have SL : Stt X.K Z (upd F d (.frz ob (.dK kvs))) H σ ρ := S.unlock (ob := ob) (kvs := kvs) fu hu zd (.inr rfl) (fun a z => rfl) (.inr hH) fun _ => hH
        refine base.run pins s σ H Q I (core H ob Q SL hH (h2.monoW sw) fun c ρ' a F' H' hr sf S' fa za ct aw => ?_)
        have fd' : F' d = some (.frz ob (.dK kvs)) := sf _ _ upd_same
        have ha : a ≠ d := fun z => by rw [z, fd'] at fa; cases fa
        have S2 : Stt X.K Z (upd F' d u0) H' σ ρ' := S'.unlock fd' (.inr rfl) zd hu (fun a z => rfl) (.inr (S'.fh.frz fd')) fun z => by rw [z]; exact S'.fh.frz fd'
        exact q c ρ' a _ _ hr (same_unlock fu sf) S2 (by rw [upd_ne ha]; exact fa) za (ct.unlock fd' (.inr rfl) hu rfl) aw
  · exact t.elim
end
end G


set_option Elab.async false
set_option maxRecDepth 100000
set_option maxHeartbeats 1000000
/-! GV20: a list of one's own is walked; lent to a def; remove; {k: v}; list(d.values()); d.pop(k). -/
namespace G
open PySem PySem.Spec PyProof.Rows L2
section
variable {K : PySem.W.Frag} {Z F H : Hp} {σ : L2.St} {ρ : Ms}
/-- a slot is told otherwise -/
theorem Stt.tell (S : Stt K Z F H σ ρ) (i : Nat) {s : Sl} (h : SlOk K Z F H (at_ σ i) s) (ha : ∀ a, mutA (at_ σ i) s a → ∀ j t, ρ[j]? = some t → ¬ mutA (at_ σ j) t a) : Stt K Z F H σ (ρ.set i s) := by
  have key : ∀ j t, (ρ.set i s)[j]? = some t → (j = i ∧ t = s) ∨ (j ≠ i ∧ ρ[j]? = some t) := fun j t e => by
    by_cases hj : i = j
    · subst hj
      have hl : i < (ρ.set i s).length := (List.getElem?_eq_some_iff.mp e).1
      rw [List.length_set] at hl
      rw [List.getElem?_set_self hl] at e
      cases e
      exact .inl ⟨rfl, rfl⟩
    · rw [List.getElem?_set_ne hj] at e
      exact .inr ⟨fun z => hj z.symm, e⟩
  refine ⟨S.fh, S.zh, S.zf, by rw [List.length_set]; exact S.len, fun j t e => ?_, fun j k t u a e1 e2 m1 m2 => ?_⟩
  · rcases key j t e with ⟨rfl, rfl⟩ | ⟨_, q⟩
    · exact h
    · exact S.sl j t q
  · rcases key j t e1 with ⟨a1, b1⟩ | ⟨a1, q1⟩ <;> rcases key k u e2 with ⟨a2, b2⟩ | ⟨a2, q2⟩
    · rw [a1, a2]
    · rw [a1, b1] at m1
      exact (ha a m1 k u q2 m2).elim
    · rw [a2, b2] at m2
      exact (ha a m2 j t q1 m1).elim
    · exact S.ap j k t u a q1 q2 m1 m2
/-- an own container is put aside -/
theorem Stt.aside (S : Stt K Z F H σ ρ) {i : Nat} {d : PyData} (e : ρ[i]? = some (.own d)) {a : Addr} (ha : at_ σ i = some (.ref a)) {o : HO} (ho : H a = some o) : Stt K (upd Z a o) F H σ (ρ.set i (.raw (.ref a))) := by
  obtain ⟨b, e1, za, fa, _⟩ := S.sl i _ e
  rw [ha] at e1; cases e1
  have S1 := S.tell i (s := .raw (.ref a)) ha fun b m => (noMut_raw m).elim
  refine S1.holdZ fa za ho fun j t ej m => ?_
  by_cases hj : i = j
  · subst hj
    have hl : i < (ρ.set i (.raw (.ref a))).length := (List.getElem?_eq_some_iff.mp ej).1
    rw [List.length_set] at hl
    rw [List.getElem?_set_self hl] at ej
    cases ej
    exact noMut_raw m
  · rw [List.getElem?_set_ne hj] at ej
    exact hj (S.ap i j _ t a e ej ⟨ha, .inl ⟨d, rfl⟩⟩ m)
/-- and given back -/
theorem Stt.given (S : Stt K (upd Z a o) F H σ ρ) (z : Z a = none) {i : Nat} (e : slot ρ i = .raw (.ref a)) {d : PyData} (c : F a = none → H a = some o → Cont K F H a d) : Stt K Z F H σ (ρ.set i (.own d)) := by
  obtain ⟨S1, fa, ha, aw⟩ := S.inner z
  have e1 : at_ σ i = some (.ref a) := S1.sl i _ (slot_some e (fun q => nomatch q))
  refine S1.tell i ⟨a, e1, z, fa, c fa ha⟩ fun b m j t ej => ?_
  obtain ⟨eb, _⟩ := m
  rw [e1] at eb; cases eb
  exact aw j t ej
end
theorem walk_own {K : PySem.W.Frag} {Z F : Hp} {a : Addr} {xs : List V} {ds : List PyData} (r : RepAll K F xs ds) : WalkOn K (upd Z a (.lst xs)) F (Itl K a) ds := fun F' H' sf sw sz => by
  have hs : SqL K H' a xs := SqL.of (sz _ _ upd_same)
  refine ⟨fun i hi => ⟨xs, _, hs, List.getElem?_eq_getElem (by rw [r.length]; exact hi)⟩, ⟨xs, hs, by rw [r.length]; exact Nat.le_refl _⟩, fun i x H'' hi y => ⟨y.1, ?_⟩⟩
  obtain ⟨d, e1, e2⟩ := r.get' (y.2 xs hs)
  exact ⟨d, e1, e2.mono sf⟩
/-- for over a list of one's own: its slot is put aside the while -/
def mForO (i : Nat) (g : MG) (tb : MS) : MS := fun D ρ => match slot ρ i with
  | .own (.list ds) => ∀ a : Addr, mForL g tb { D with nx := fun ρ' => slot ρ' i = .raw (.ref a) ∧ D.nx (ρ'.set i (.own (.list ds))), bk := fun _ => False, ct := fun _ => False } ds (ρ.set i (.raw (.ref a)))
  | _ => False
def mLcO (i : Nat) (g : MG) (tt : MB) (te : ME) (vs : List Nat) : ME := fun ρ R => match slot ρ i with
  | .own (.list ds) => ∀ a : Addr, mLcL g tt te vs (fun acc ρ2 => slot (backM (ρ.set i (.raw (.ref a))) ρ2 vs) i = .raw (.ref a) ∧ R (.list acc) ((backM (ρ.set i (.raw (.ref a))) ρ2 vs).set i (.own (.list ds)))) ds [] (wipeM (ρ.set i (.raw (.ref a))) vs)
  | _ => False
section
variable {X : Cx} {pos p : Pos} {x : Str} {tg : Expr} {body : List Stmt} {g : MG} {tb : MS} {i : Nat}
theorem gs_forO (hp : PassesOwn (model X.prog X.w) X.A X.env X.xe) (hc : X.calm = true) (hv : PE X (.Name x p) (tVar i)) (hg : PG X tg (LG X g)) (hb : PSs X body (LS X Wish.no tb))
    (hs : ∀ y, foldedSetIterable (.Name x p) X.env y = pure y := by intro _; rfl) : PS X (.For tg (.Name x p) body [] pos) (LS X Wish.no (mForO i g tb)) := by
  refine PSw (ps_for hp hc (pi_seq hv) hg hb hs) ?_
  rintro D σ H ⟨Z, F, ρ, DR, S, w, t, k⟩
  unfold mForO at t
  split at t
  · rename_i ds e'
    have hi := slot_some e' (fun q => nomatch q)
    obtain ⟨a, ha, za, fa, xs, h1, h2, h3⟩ := S.sl i _ hi
    have S0 := S.aside hi ha h1
    have gv : ∀ {F' H' : Hp} {σ' : L2.St} {ρ' : Ms}, Same F F' → Stt X.K (upd Z a (.lst xs)) F' H' σ' ρ' → slot ρ' i = .raw (.ref a) → Stt X.K Z F' H' σ' (ρ'.set i (.own (.list ds))) := fun sf S' e => S'.given za e fun _ hh => ⟨xs, hh, h2.mono sf, h3⟩
    refine ⟨.ref a, at_some ha, a, rfl, .inl ⟨⟨xs, SqL.of h1⟩, for_low S0 (walk_own h2) (t a) WOk.no ?_⟩⟩
    refine ⟨fun ρ' σ' F' H' q sf S' => k.nx _ σ' F' H' q.2 sf (gv sf S' q.1), fun x ρ' v σ' F' H' q sf S' r => k.rt x ρ' v σ' F' H' q sf (S'.inner za).1 r, fun x ρ' b σ' F' H' q sf S' fb zb c aw => ?_, fun _ _ _ _ q => q.elim, fun _ _ _ _ q => q.elim⟩
    refine k.ro x ρ' b σ' F' H' q sf (S'.inner za).1 fb ?_ c aw
    have hb : b ≠ a := fun z => by rw [z, upd_same] at zb; cases zb
    rw [upd_ne hb] at zb; exact zb
  · exact t.elim
variable {elt : Expr} {ifs : List Expr} {scope : Scope} {own : List (Str × Nat)} {tt : MB} {te : ME}
theorem lcO_low {vs : List Nat} {σ : L2.St} {H : Hp} {Q : VK} (h : LN X Wish.no (mLcO i g tt te vs) σ H Q) : tLc (fun σ H R => tVar i σ H fun x H1 => ∃ a, x = .ref a ∧ (((∃ xs, SqL X.K H1 a xs) ∧ R (Itl X.K a) H1) ∨ ((∃ xs, SqT X.K H1 a xs) ∧ R (Itt X.K a) H1))) (lG X.K (some vs) g) (lB X.K X.mg Wish.no tt) (lE X.K X.mg Wish.no te) vs σ H Q := by
  obtain ⟨Z, F, ρ, R, S, w, t, q⟩ := h
  unfold mLcO at t
  split at t
  · rename_i ds e'
    have hi := slot_some e' (fun q => nomatch q)
    obtain ⟨a, ha, za, fa, xs, h1, h2, h3⟩ := S.sl i _ hi
    have S0 := S.aside hi ha h1
    refine ⟨.ref a, at_some ha, a, rfl, .inl ⟨⟨xs, SqL.of h1⟩, ?_⟩⟩
    refine lc_low2 (R := fun d ρ' => slot ρ' i = .raw (.ref a) ∧ R d (ρ'.set i (.own (.list ds)))) S0 (walk_own h2) h3 (t a) fun d ρ' b F' H' hr sf S' fb zb c aw => ?_
    have hb : b ≠ a := fun z => by rw [z, upd_same] at zb; cases zb
    have zb' : Z b = none := by rw [upd_ne hb] at zb; exact zb
    refine q d _ b F' H' hr.2 sf (S'.given za hr.1 fun _ hh => ⟨xs, hh, h2.mono sf, h3⟩) fb zb' c fun j s ej m => ?_
    by_cases hj : i = j
    · subst hj
      have hl : i < (ρ'.set i (.own (.list ds))).length := (List.getElem?_eq_some_iff.mp ej).1
      rw [List.length_set] at hl
      rw [List.getElem?_set_self hl] at ej
      cases ej
      obtain ⟨eb, _⟩ := m
      rw [ha] at eb; cases eb
      exact hb rfl
    · rw [List.getElem?_set_ne hj] at ej
      exact aw j s ej m
  · exact t.elim
theorem gn_lcO (hc : X.calm = true) (hN : X.N.Nodup) (hv : PE X (.Name x p) (tVar i)) (ok : BlkOk X.N X.env.scope scope own)
    (hg : ∀ (s : Shared) (H : Hp) (C : Addr) (cl : List (Str × Addr)) (fp : List Addr), PG (X.blk s H scope (compEnvC scope cl C X.env) fp) tg (lG X.K (some (own.map (·.2))) g)) (ht : ∀ (s : Shared) (H : Hp) (C : Addr) (cl : List (Str × Addr)) (fp : List Addr), PTs (X.blk s H scope (compEnvC scope cl C X.env) fp) ifs (lB X.K X.mg Wish.no tt))
    (he : ∀ (s : Shared) (H : Hp) (C : Addr) (cl : List (Str × Addr)) (fp : List Addr), PE (X.blk s H scope (compEnvC scope cl C X.env) fp) elt (lE X.K X.mg Wish.no te)) (hs : ∀ y, foldedSetIterable (.Name x p) X.env y = pure y := by intro _; rfl) :
    PE X (.ListComp elt [⟨tg, .Name x p, ifs, 0⟩] scope pos) (LN X Wish.no (mLcO i g tt te (own.map (·.2)))) := by
  exact PEw (pe_lc (pos := pos) hc hN (pi_seq hv) ok hg ht he hs) fun _ _ _ => lcO_low
theorem gs_setLcO {y : Str} {j : Nat} {py spos : Pos} (hc : X.calm = true) (hN : X.N.Nodup) (hy : X.N[j]? = some y) (hyl : X.env.scope.names.lookup y = some .local)
    (hsw : swapsWith (.ListComp elt [⟨tg, .Name x p, ifs, 0⟩] scope pos) (some (.Name y py)) spos.line X.env = pure true) (hv : PE X (.Name x p) (tVar i)) (ok : BlkOk X.N X.env.scope scope own)
    (hg : ∀ (s : Shared) (H : Hp) (C : Addr) (cl : List (Str × Addr)) (fp : List Addr), PG (X.blk s H scope (compEnvC scope cl C X.env) fp) tg (lG X.K (some (own.map (·.2))) g)) (ht : ∀ (s : Shared) (H : Hp) (C : Addr) (cl : List (Str × Addr)) (fp : List Addr), PTs (X.blk s H scope (compEnvC scope cl C X.env) fp) ifs (lB X.K X.mg Wish.no tt))
    (he : ∀ (s : Shared) (H : Hp) (C : Addr) (cl : List (Str × Addr)) (fp : List Addr), PE (X.blk s H scope (compEnvC scope cl C X.env) fp) elt (lE X.K X.mg Wish.no te)) (hs : ∀ y, foldedSetIterable (.Name x p) X.env y = pure y := by intro _; rfl) :
    PS X (.Assign [.Name y py] (.ListComp elt [⟨tg, .Name x p, ifs, 0⟩] scope pos) spos) (LS X Wish.no (mSet j (mLcO i g tt te (own.map (·.2))))) := by
  refine PSw (ps_setLc hc hN hy hyl hsw (pi_seq hv) ok hg ht he hs) ?_
  rintro D σ H ⟨Z, F, ρ, DR, S, w, t, k⟩
  have t : mLcO i g tt te (own.map (·.2)) ρ (fun d ρ1 => mGN j d ρ1 DR.nx) := t
  refine lcO_low (lN_of_lE ⟨Z, F, ρ, _, S, w, t, fun d ρ1 v F1 H1 t1 sf1 S1 r1 => ?_⟩)
  refine k.nx _ _ F1 H1 ?_ sf1 (S1.putDat j r1)
  unfold mGN at t1
  split at t1
  · exact t1.elim
  · exact t1
end

/-! ### {k: v} -/
def mDict1 (tk te : ME) : ME := fun ρ R => tk ρ fun d ρ1 => te ρ1 fun y ρ2 => match d with
  | .str k => R (.dict [(.str k, y)]) ρ2
  | _ => False
section
variable {X : Cx} {W : Wish} {pos : Pos} {k v : Expr} {tk te : ME}
theorem gn_d1 (hk : PE X k (LE X Wish.no tk)) (hv : PE X v (LE X Wish.no te)) : PE X (.Dict [some k] [v] pos) (LN X Wish.no (mDict1 tk te)) := by
  refine PEw (pe_disp (pps_cons hk hv pps_nil) rfl rfl (by simp) (by simp)) ?_
  rintro σ H Q ⟨Z, F, ρ, R, S, w, t, q⟩
  intro p hp
  have zp : Z p = none := S.zh.free hp
  have fp : F p = none := S.fh.free hp
  have S0 : Stt X.K (upd Z p (.dK [])) F (upd H p (.dK [])) σ ρ := (S.lay _ hp).outer fp upd_same (S.newAway hp)
  refine ⟨upd Z p (.dK []), F, ρ, _, S0, WOk.no, t, fun d ρ1 x F1 H1 t1 sf1 S1 r1 => ?_⟩
  refine ⟨upd Z p (.dK []), F1, ρ1, _, S1, WOk.no, t1, fun y ρ2 u F2 H2 t2 sf2 S2 r2 => ?_⟩
  obtain ⟨S3, f3, h3, aw⟩ := S2.inner zp
  cases r1 with
  | str x =>
    refine ⟨h3, [((Sum.inr x : Key), u)], rfl, by simp, ?_⟩
    have S4 := S2.outerPut (o' := .dK [((Sum.inr x : Key), u)]) zp
    obtain ⟨S5, f5, h5, aw5⟩ := S4.inner zp
    exact q _ ρ2 p F2 _ t2 (sf1.trans sf2) S5 f5 zp ⟨_, h5, .cons r2 .nil⟩ aw5
  | _ => exact t2.elim
end

/-! ### a list of one's own is lent to a def that answers with no list -/
mutual
def noL : PyData → Bool
  | .list _ => false
  | .tuple ds => noLs ds
  | .dict es => noLd es
  | _ => true
def noLs : List PyData → Bool
  | [] => true
  | d :: ds => noL d && noLs ds
def noLd : List (PyData × PyData) → Bool
  | [] => true
  | e :: es => noL e.2 && noLd es
end
def drop1 (F : Hp) (a : Addr) : Hp := fun b => if b = a then none else F b
theorem drop1_ne {F : Hp} {a b : Addr} (h : b ≠ a) : drop1 F a b = F b := if_neg h
theorem drop1_self {F : Hp} {a : Addr} : drop1 F a a = none := if_pos rfl
section
variable {K : PySem.W.Frag} {F : Hp} {a : Addr} {xs0 : List V}
mutual
theorem Rep.drop1 (fa : F a = some (.lst xs0)) : ∀ {v : V} {d : PyData}, noL d = true → Rep K F v d → Rep K (drop1 F a) v d
  | _, _, _, .non => .non
  | _, _, _, .bl b => .bl b
  | _, _, _, .int i => .int i
  | _, _, _, .str x => .str x
  | _, _, h, .lst _ _ _ => by simp [noL] at h
  | _, _, h, .tup e r z => .tup (e.imp (fun ⟨o, e, n⟩ => ⟨o, by rw [drop1_ne (fun y => by rw [y, fa] at e; cases e)]; exact e, n⟩) id) (RepAll.drop1 fa (by simpa [noL] using h) r) z
  | _, _, h, .dct e r => .dct (by
      rcases e with e | ⟨o, e⟩
      · exact .inl (by rw [drop1_ne (fun y => by rw [y, fa] at e; cases e)]; exact e)
      · exact .inr ⟨o, by rw [drop1_ne (fun y => by rw [y, fa] at e; cases e)]; exact e⟩) (RepKV.drop1 fa (by simpa [noL] using h) r)
theorem RepAll.drop1 (fa : F a = some (.lst xs0)) : ∀ {vs : List V} {ds : List PyData}, noLs ds = true → RepAll K F vs ds → RepAll K (drop1 F a) vs ds
  | _, _, _, .nil => .nil
  | _, _, h, .cons e r => by
    have h' := (Bool.and_eq_true _ _).mp (by simpa [noLs] using h : (noL _ && noLs _) = true)
    exact .cons (Rep.drop1 fa h'.1 e) (RepAll.drop1 fa h'.2 r)
theorem RepKV.drop1 (fa : F a = some (.lst xs0)) : ∀ {vs : List (Key × V)} {ds : List (PyData × PyData)}, noLd ds = true → RepKV K F vs ds → RepKV K (drop1 F a) vs ds
  | _, _, _, .nil => .nil
  | _, _, h, .cons e r => by
    have h' := (Bool.and_eq_true _ _).mp (by simpa [noLd] using h : (noL _ && noLd _) = true)
    exact .cons (Rep.drop1 fa h'.1 e) (RepKV.drop1 fa h'.2 r)
end
end
theorem RepAll.of_get {K : PySem.W.Frag} {H : Hp} : ∀ {vs : List V} {ds : List PyData}, vs.length = ds.length → (∀ (j : Nat) v d, vs[j]? = some v → ds[j]? = some d → Rep K H v d) → RepAll K H vs ds
  | [], [], _, _ => .nil
  | v :: vs, d :: ds, h, q => .cons (q 0 v d rfl rfl) (RepAll.of_get (Nat.succ.inj h) fun j a b h1 h2 => q (j + 1) a b h1 h2)
  | [], _ :: _, h, _ => by simp at h
  | _ :: _, [], h, _ => by simp at h
def mCallL (t : PSp) (RE : Str → Prop) (m i : Nat) (ta : MA) : ME := fun ρ R => ta ρ fun ds ρ1 => match slot ρ1 i with
  | .own (.list xs) => t ((ds.map Sl.dat).set m (.dat (.list xs))) (fun r _ => noL r = true ∧ R r ρ1) RE
  | _ => False
section
variable {X : Cx} {W : Wish} {k : Nat} {ps : List Str} {x : Str} {p pos : Pos} {e : Expr} {es : List Expr} {t : PSp} {ta : MA} {n m i : Nat}
theorem callL_low {σ : L2.St} {H : Hp} {Q : VK} {Z F : Hp} {ρ : Ms} {R : PyData → Ms → Prop} {ds : List PyData} {vs : List V} (S1 : Stt X.K Z F H σ ρ) (w : WOk X.mg W Z F) (hl : ds.length = vs.length) (hm : m < vs.length)
    (hd : ∀ (j : Nat) d, j ≠ m → ds[j]? = some d → ∃ v, vs[j]? = some v ∧ Rep X.K F v d) (hv : ∃ v, vs[m]? = some v ∧ at_ σ i = some v)
    (t1 : match slot ρ i with
      | .own (.list xs) => t ((ds.map Sl.dat).set m (.dat (.list xs))) (fun r _ => noL r = true ∧ R r ρ) W.RE
      | _ => False) (q : ∀ d v F' H', R d ρ → Same F F' → Stt X.K Z F' H' σ ρ → Rep X.K F' v d → Q v H') : spD X.K X.mg vs.length t vs H Q W.E := by
  split at t1
  · rename_i xsd e'
    have hi := slot_some e' (fun q => nomatch q)
    obtain ⟨a, ha, za, fa, xs, h1, h2, h3⟩ := S1.sl i _ hi
    obtain ⟨v, hv1, hv2⟩ := hv
    rw [ha] at hv2; cases hv2
    have s0 : Same F (upd F a (.lst xs)) := same_upd fa
    have fh : SameW (upd F a (.lst xs)) H := fun b o eb => by
      by_cases hb : b = a
      · subst hb; rw [upd_same] at eb; cases eb; exact .inl h1
      · rw [upd_ne hb] at eb; exact S1.fh b o eb
    have ra : RepAll X.K (upd F a (.lst xs)) vs (ds.set m (.list xsd)) := by
      refine RepAll.of_get (by rw [List.length_set]; exact hl.symm) fun j u d e1 e2 => ?_
      by_cases hj : m = j
      · subst hj
        rw [List.getElem?_set_self (by omega)] at e2
        cases e2
        rw [hv1] at e1; cases e1
        exact .lst upd_same (h2.mono s0) h3
      · rw [List.getElem?_set_ne hj] at e2
        obtain ⟨v', e3, e4⟩ := hd j d (fun z => hj z.symm) e2
        rw [e1] at e3; cases e3
        exact e4.mono s0
    have Sc : Stt X.K (fun _ => none) (upd F a (.lst xs)) H [] [] := ⟨fh, fun _ _ e => (nomatch e), fun _ q => (q rfl).elim, rfl, fun i s e => by simp at e, fun i j s t a e => by simp at e⟩
    have Sd := Sc.callee ra
    rw [List.map_set] at Sd
    have zo : Same Z (outZ (upd F a (.lst xs)) H none) := fun b o eb => by
      have hb : b ≠ a := fun z => by rw [z, za] at eb; cases eb
      exact outZ_some.mpr ⟨by rw [upd_ne hb]; exact S1.zf b (by rw [eb]; simp), by simp, S1.zh b o eb⟩
    refine ⟨outZ (upd F a (.lst xs)) H none, upd F a (.lst xs), _, _, W.RE, rfl, Sd, t1, (w.mono s0).more zo, fun r ss' v' F' H' hr sf S' rv => ?_⟩
    have fa' : F' a = some (.lst xs) := sf _ _ upd_same
    have sF : Same F (drop1 F' a) := fun b o eb => by
      have hb : b ≠ a := fun z => by rw [z, fa] at eb; cases eb
      rw [drop1_ne hb]
      exact sf b o (by rw [upd_ne hb]; exact eb)
    refine q r v' (drop1 F' a) H' hr.2 sF ⟨fun b o eb => ?_, fun b o eb => S'.zh b o (zo b o eb), fun b qb => ?_, S1.len, fun j s ej => ?_, S1.ap⟩ (rv.drop1 fa' hr.1)
    · have hb : b ≠ a := fun z => by rw [z, drop1_self] at eb; cases eb
      rw [drop1_ne hb] at eb
      exact S'.fh b o eb
    · by_cases hb : b = a
      · rw [hb]; exact drop1_self
      · rw [drop1_ne hb]
        exact S'.zf b fun z => qb (zo.free z)
    · refine (S1.sl j s ej).move sF (fun b o mb ob => ?_) (fun b mb => (S1.mut ej mb).1) fun b mb => ?_
      · by_cases hb : b = a
        · subst hb
          rw [h1] at ob; cases ob
          exact S'.fh.lst fa'
        · exact S'.zh b o (outZ_some.mpr ⟨by rw [upd_ne hb]; exact (S1.mut ej mb).2.1, by simp, ob⟩)
      · by_cases hb : b = a
        · rw [hb]; exact drop1_self
        · rw [drop1_ne hb]
          obtain ⟨_, fb, o, ob⟩ := S1.mut ej mb
          refine S'.zf b fun z => ?_
          have := outZ_some.mpr ⟨(by rw [upd_ne hb]; exact fb : upd F a (.lst xs) b = none), (by simp : some b ≠ none), ob⟩
          rw [z] at this; cases this
  · exact t1.elim
theorem g_callL (F : Has X.prog X.w X.K X.mg X.base k x ps (spD X.K X.mg n t)) (hr : Room k X.A) (hg : Gl X x) (hx : Passes CX0 X W.E)
    (ha : PA X (e :: es) (lAr X.K X.mg W n m i ta)) (hdb : (x == ("__debug__" : Str)) = false := by decide) (he : starEach (e :: es) X.env = (false, eval e X.env) :: starEach es X.env := by rfl) (hpl : (backTo pos (starEach es X.env)).any (·.1) = false := by rfl) :
    PE X (.Call (.Name x p) (e :: es) [] pos) (LE X W (mCallL t W.RE m i ta)) := by
  obtain ⟨f, fd, F, hm, hk, hb⟩ := F
  refine PEw (pe_call F hr hg hm hk hb .nil hx ha hdb he hpl) ?_
  rintro σ H Q ⟨Z, F, ρ, R, S, w, t, q⟩
  refine ⟨Z, F, ρ, _, S, w, t, fun ds ρ1 vs F1 H1 t1 sf1 S1 l1 l2 hp hd hv => ?_⟩
  dsimp only
  rw [List.append_nil]
  subst l2
  exact callL_low S1 (w.mono sf1) l1 hp hd hv t1 fun d v F' H' hr sf => q d ρ1 v F' H' hr (sf1.trans sf)
end
end G


set_option Elab.async false
set_option maxRecDepth 100000
set_option maxHeartbeats 1000000
/-! GV21: remove; d.pop(k); list(d.values()). -/
namespace G
open PySem PySem.Spec PyProof.Rows L2
/-! ### remove -/
def rRemove (K : PySem.W.Frag) : V → List V → Hp → VK → Prop := fun x vs H Q => ∃ l xs y ds d j, x = .ref l ∧ vs = [y] ∧ H l = some (.lst xs) ∧ RepAll K H xs ds ∧ Rep K H y d ∧ Gd 60 (.list ds) ∧ Gd 60 d ∧ PySem.SeqAt.dataPlace ds d = some j ∧ Q .non (upd H l (.lst (xs.eraseIdx j)))
theorem mt_remove {X : Cx} (hu : X.A.units + 64 < cLine) : MtM X "list.remove" (rRemove X.K) := by
  intro pins s σ H x vs v us Q I rx rv h
  obtain ⟨l, xs, y, ds, d, j, rfl, rfl, hH, ra, ry, g1, g2, hp, q⟩ := h
  cases rx
  obtain ⟨u, rfl, ru⟩ := rv.one
  obtain ⟨z, its, n, r, hl, e⟩ := I.lstM hH
  have pa : PyData.plainAll ds = true := by simpa [PyData.plain] using g1.pl
  obtain ⟨as, rs⟩ := Dp.readsAll I ds xs its (ra.dp pa) r
  obtain ⟨bs, rx⟩ := ry.reads I g2.pl ru
  refine PySem.SeqAt.remove_list_data (vs := its.toArray) (l := l) ⟨_, e, rfl, n, rfl⟩ (by simpa using rs) rx pa g2.pl ?_ hp (by rw [List.size_toArray]; omega) ?_
  · have h1 := g2.dp
    have h2 : min (PyData.depthAll ds) d.depth ≤ d.depth := Nat.min_le_right _ _
    omega
  refine ⟨.non, _, I.lset (t' := s.toks) (its' := its.eraseIdx j) hH e (by rw [List.eraseIdxIfInBounds_toArray]) (r.eraseIdx j) ?_, rfl, q⟩
  have := len_erase xs j
  omega
def removeD : PyData → List PyData → (PyData → PyData → Prop) → Prop
  | .list ds, [y], R => Gd 60 (.list ds) ∧ Gd 60 y ∧ ∃ j, PySem.SeqAt.dataPlace ds y = some j ∧ R .none (.list (ds.eraseIdx j))
  | _, _, _ => False
theorem mr_remove {X : Cx} : MutR X (rRemove X.K) removeD := by
  intro F H a d xs ds R Q sw c ra h q
  unfold removeD at h
  split at h
  · rename_i ls y
    obtain ⟨zs, h1, h2, h3⟩ := c
    obtain ⟨g1, g2, j, hj, h⟩ := h
    cases ra with
    | @cons v _ _ _ ry ra =>
      cases ra
      exact ⟨a, zs, v, ls, y, j, rfl, rfl, h1, h2.monoW sw, ry.monoW sw, g1, g2, hj, q _ _ _ _ h .non ⟨h2.eraseIdx j, Nat.le_trans (len_erase _ _) h3⟩⟩
  · exact h.elim
/-! ### d.pop(k) of a dict of one's own -/
def mDPop (i : Nat) (tk : ME) : ME := fun ρ R => match slot ρ i with
  | .own (.dict _) => tk ρ fun k ρ1 => match k, slot ρ1 i with
    | .str x, .own (.dict es) => ∃ d, dget es x = some d ∧ R d (ρ1.set i (.own (.dict (ddrop es x))))
    | _, _ => False
  | _ => False
section
variable {X : Cx} {W : Wish} {x : Str} {p apos cpos : Pos} {e : Expr} {tk : ME} {i : Nat}
theorem g_dpop (ho : PE X (.Name x p) (tVar i)) (he : PE X e (LE X W tk)) (m : M1 X (.Name x p) "pop" apos e cpos) : PE X (.Call (.Attribute (.Name x p) "pop" apos) [e] [] cpos) (LE X W (mDPop i tk)) := by
  refine PEw (pe_dpop1 ho he m) ?_
  rintro σ H Q ⟨Z, F, ρ, R, S, w, t, q⟩
  unfold mDPop at t
  split at t
  · rename_i es0 e'
    obtain ⟨a, ha, za, fa, kvs, h1, h2⟩ := S.sl i _ (slot_some e' (fun q => nomatch q))
    refine ⟨.ref a, at_some ha, a, rfl, .inl ⟨kvs, .inl h1⟩, Z, F, ρ, _, S, w, t, fun k ρ1 y F1 H1 t1 sf1 S1 r1 => ?_⟩
    split at t1
    · rename_i x es e2
      have hi := slot_some e2 (fun q => nomatch q)
      obtain ⟨b, hb, zb, fb, kv2, g1, g2⟩ := S1.sl i _ hi
      rw [ha] at hb; cases hb
      obtain ⟨d, hd, hR⟩ := t1
      cases r1
      rcases g2.look (k := x) with ⟨e3, _⟩ | ⟨d', v, e3, e4, e5⟩
      · rw [hd] at e3; cases e3
      · rw [hd] at e3; cases e3
        exact ⟨kv2, Sum.inr x, v, g1, rfl, e4, q d _ v F1 _ hR sf1 (S1.changeOwn hi ha (show ContO X.K F1 (.dK _) (.dict _) from g2.drop)) e5⟩
    · exact t1.elim
  · exact t.elim
end
/-! ### list(d.values()) -/
def tListVals (te : TE) : TE := fun σ H Q => te σ H fun x H1 => ∃ (d : Addr) (kvs : List (Key × V)), x = .ref d ∧ Rd H1 d (.dK kvs) ∧ ∀ p, H1 p = none → kvs.length ≤ sizeLine → Q (.ref p) (upd H1 p (.lst (kvs.map (·.2))))
section
variable {X : Cx} {e : Expr} {te : TE} {p apos cpos pos : Pos}
theorem pe_listVals (hc : X.calm = true) (he : PE X e te) (hg : Gl X "list") (hm : X.mg "list" = none) (hv : bootBuiltins "list" = some (.type "list")) (hbase : attributeBase e "values" X.env (eval e X.env) = eval e X.env := by rfl) (hline : (apos.endLine == cpos.line) = true := by rfl)
    (hs : starEach [.Call (.Attribute e "values" apos) [] [] cpos] X.env = (false, eval (.Call (.Attribute e "values" apos) [] [] cpos) X.env) :: starEach [] X.env := by rfl) :
    PE X (.Call (.Name "list" p) [.Call (.Attribute e "values" apos) [] [] cpos] [] pos) (tListVals te) := by
  refine ⟨fun pins s σ H Q I hq => ?_⟩
  refine wpAny_Call_Name_kw (ld_blt I hg hm hv ?_)
  refine PyProof.Rows.callWith_type1 ?_ hs rfl
  rw [hs]
  show wpAny _ _ (spliced ((false, eval (.Call (.Attribute e "values" apos) [] [] cpos) X.env) :: backTo pos (starEach [] X.env))) _ _ s
  refine Calls.spliced_cons ?_
  refine wpAny_Call_method (T := "dict") (id := "dict.values") hbase rfl hline PySem.F.plainAttrs_dict PySem.F.slot_dict_values PySem.F.type_dict_values (thn (he.run pins s σ H _ I hq) fun u s1 ⟨x, H1, I1, rx, d, kvs, ex, hd, q⟩ => ?_)
  subst ex
  obtain rfl : u = Value.ref d := rx
  obtain ⟨hz, hs0, vs, kv, hdo⟩ := dk_rd I1.hok hd
  obtain ⟨ep, hat⟩ := hdo.dictAt
  have lk : kvs.length = vs.length := Paired.length kv
  have I2 : Inv X pins σ H1 { s1 with heap := s1.heap.push { cls := .type "dict_values", data := .fields #[.ref d] } } := I1.kept (t' := s1.toks) fun b ob q => Heap.get?_push_of_some _ q
  refine ⟨hdo.typeIs, hdo.mapOf.noDict, ?_⟩
  show wpAny _ _ (callWith cpos (.builtin "dict.values") [.ref d] [] []) _ X.xe s1
  refine method_meetsIn PySem.F.slot_dict_values PySem.F.entry_dict_values rfl (PySem.evalArgs_none ⟨rfl, hdo.typeIs, PySem.F.args_dict_values_1 _, _, meets_dict_values (mixKind X.prog X.w) d hs0, ⟨vs, hdo⟩, ?_⟩)
  refine Calls.spliced_nil ?_
  refine PySem.W.kdl_call (PySem.W.kdl_values (knd := mixKind X.prog X.w) (kvs := vs) (ep := ep)) (I1.ok.hd hc) ⟨⟨_, Heap.get?_push_size _ rfl, rfl, rfl⟩, hat.push _⟩ (by omega) fun h' tk acc c hk hS hI => ?_
  refine ⟨.ref _, _, I2.laid (o := .lst (kvs.map (·.2))) (t' := tk) hk (Nat.le_refl _) ⟨by rw [List.length_map]; exact hz, acc.toList, c, ?_, by rw [Array.toArray_toList]; exact hS⟩, rfl, q _ (I2.hok.fresh (Nat.le_refl _)) hz⟩
  refine vals_of_idx _ _ (by rw [Array.length_toList, hI.1, List.length_map]; exact lk.symm) fun j u hj => ?_
  obtain ⟨k, hk2⟩ := hI.2 j u (by rw [← Array.getElem?_toList]; exact hj)
  obtain ⟨y, h1, h2⟩ := KV.at' kv hk2
  exact ⟨y, by rw [List.getElem?_map, h1]; rfl, h2⟩
def mListVals (i : Nat) : ME := fun ρ R => match slot ρ i with
  | .own (.dict es) => R (.list (es.map (·.2))) ρ
  | .dat (.dict es) => R (.list (es.map (·.2))) ρ
  | _ => False
theorem RepKV.vals {K : PySem.W.Frag} {F : Hp} : ∀ {kvs : List (Key × V)} {es : List (PyData × PyData)}, RepKV K F kvs es → RepAll K F (kvs.map (·.2)) (es.map (·.2))
  | _, _, .nil => .nil
  | _, _, .cons h r => .cons h (RepKV.vals r)
theorem gn_listVals {W : Wish} {x : Str} {p0 : Pos} {i : Nat} (hc : X.calm = true) (hv : PE X (.Name x p0) (tVar i)) (hg : Gl X "list") (hm : X.mg "list" = none) (hb : bootBuiltins "list" = some (.type "list")) (hbase : attributeBase (.Name x p0) "values" X.env (eval (.Name x p0) X.env) = eval (.Name x p0) X.env := by rfl) (hline : (apos.endLine == cpos.line) = true := by rfl)
    (hs : starEach [.Call (.Attribute (.Name x p0) "values" apos) [] [] cpos] X.env = (false, eval (.Call (.Attribute (.Name x p0) "values" apos) [] [] cpos) X.env) :: starEach [] X.env := by rfl) :
    PE X (.Call (.Name "list" p) [.Call (.Attribute (.Name x p0) "values" apos) [] [] cpos] [] pos) (LN X W (mListVals i)) := by
  refine PEw (pe_listVals hc hv hg hm hb hbase hline hs) ?_
  rintro σ H Q ⟨Z, F, ρ, R, S, w, t, q⟩
  have fin : ∀ (kvs : List (Key × V)) es, RepKV X.K F kvs es → R (.list (es.map (·.2))) ρ → ∀ p, H p = none → kvs.length ≤ sizeLine → Q (.ref p) (upd H p (.lst (kvs.map (·.2)))) := fun kvs es r t p hp hz =>
    q _ ρ p F _ t (Same.refl _) (S.lay _ hp) (S.fh.free hp) (S.zh.free hp) ⟨_, upd_same, r.vals, by rw [List.length_map, ← r.length]; exact hz⟩ (S.newAway hp)
  unfold mListVals at t
  split at t
  · rename_i es e'
    obtain ⟨a, ha, za, fa, kvs, h1, h2⟩ := S.sl i _ (slot_some e' (fun q => nomatch q))
    exact ⟨.ref a, at_some ha, a, kvs, rfl, .inl h1, fin kvs es h2 t⟩
  · rename_i es e'
    obtain ⟨v, hv1, hr⟩ := S.sl i _ (slot_some e' (fun q => nomatch q))
    cases hr with
    | @dct a kvs _ h1 h2 => exact ⟨.ref a, at_some hv1, a, kvs, rfl, S.fh.rd h1, fin kvs es h2 t⟩
  · exact t.elim
end
end G


set_option Elab.async false
set_option maxRecDepth 100000
set_option maxHeartbeats 1000000
/-! GV22: a container of one's own is compared, it stands on the left. -/
namespace G
open PySem PySem.Spec PyProof.Rows L2
def mCmpOB (f : PyData → PyData → (Bool → Prop) → Prop) (i : Nat) (tb : ME) : MB := fun ρ R => match slot ρ i with
  | .own _ => tb ρ fun e ρ2 => match slot ρ2 i with
    | .own d => f d e fun c => R c ρ2
    | _ => False
  | _ => False
def mCmpO (f : PyData → PyData → (Bool → Prop) → Prop) (i : Nat) (tb : ME) : ME := fun ρ R => mCmpOB f i tb ρ fun c ρ2 => R (.bool c) ρ2
section
variable {X : Cx} {W : Wish} {pos p : Pos} {x : Str} {i : Nat}
theorem cmpO_run {op : CmpOp} {b : Expr} {f : PyData → PyData → (Bool → Prop) → Prop} {tb : ME} (ho : CmpG X op f) (ha : PE X (.Name x p) (tVar i)) (hb : PE X b (LC X W tb))
    {pins : List (Addr × Obj)} {s : Shared} {σ : L2.St} {H Z F : Hp} {ρ : Ms} {R : Bool → Ms → Prop} (I : Inv X pins σ H s) (S : Stt X.K Z F H σ ρ) (w : WOk X.mg W Z F) (t : mCmpOB f i tb ρ R) :
    wpAny (model X.prog X.w) X.A (eval (.Name x p) X.env) (fun v s₁ => wpAny (model X.prog X.w) X.A (eval b X.env) (fun u s₂ => wpAny (model X.prog X.w) X.A (compareOp op v u) (fun c s' => ∃ k ρ' F' H', c = .bool k ∧ R k ρ' ∧ Same F F' ∧ Stt X.K Z F' H' σ ρ' ∧ Inv X pins σ H' s') X.xe s₂) X.xe s₁) X.xe s := by
  refine bin (R := fun x y H2 => ∃ F2 ρ2 d e R2, Same F F2 ∧ Stt X.K Z F2 H2 σ ρ2 ∧ Rep X.K H2 x d ∧ Rep X.K H2 y e ∧ f d e R2 ∧ ∀ c, R2 c → R c ρ2) ha hb I ?_ fun v u s2 x y H2 I2 rx ry ⟨F2, ρ2, d, e, R2, sf, S2, r1, r2, hf, hR⟩ => ?_
  · unfold mCmpOB at t
    split at t
    · rename_i d0 e'
      obtain ⟨a, ha1, _⟩ := S.sl i _ (slot_some e' (fun q => nomatch q))
      refine ⟨.ref a, at_some ha1, Z, F, ρ, _, S, w, t, fun e ρ2 y F2 H2 t2 sf2 S2 r2 => ?_⟩
      split at t2
      · rename_i d e2
        obtain ⟨b, hb1, zb, fb, cb⟩ := S2.sl i _ (slot_some e2 (fun q => nomatch q))
        rw [ha1] at hb1; cases hb1
        have rc : RepC X.K F2 H2 (.ref a) d := .inr ⟨a, rfl, fb, cb⟩
        exact ⟨F2, ρ2, d, e, _, sf2, S2, rc.rep S2.fh, r2.rep S2.fh, t2, fun c hc => hc⟩
      · exact t2.elim
    · exact t.elim
  · exact thn (ho pins s2 σ H2 x y v u d e R2 I2 r1 r2 rx ry hf) fun c s3 ⟨k, hk, ec, I3⟩ => ⟨k, ρ2, F2, H2, ec, hR k hk, sf, S2, I3⟩
theorem g_cmpO {op : CmpOp} {b : Expr} {f : PyData → PyData → (Bool → Prop) → Prop} {tb : ME} (ho : CmpG X op f) (ha : PE X (.Name x p) (tVar i)) (hb : PE X b (LC X W tb)) (hm : behindInMarks op b = false) :
    PE X (.Compare (.Name x p) [op] [b] pos) (LE X W (mCmpO f i tb)) := by
  refine ⟨fun pins s σ H Q I h => ?_⟩
  obtain ⟨Z, F, ρ, R, S, w, t, q⟩ := h
  refine wpAny_Compare1 (thn (cmpO_run (R := fun k ρ' => R (.bool k) ρ') ho ha hb I S w t) fun v s1 h1 => thn h1 fun u s2 h2 => thn h2 fun c s3 ⟨k, ρ', F', H', ec, hk, sf, S', I3⟩ => ?_) hm
  exact ⟨.bl k, H', I3, ec, q (.bool k) ρ' _ F' H' hk sf S' (.bl k)⟩
theorem gt_cmpO {op : CmpOp} {b : Expr} {f : PyData → PyData → (Bool → Prop) → Prop} {tb : ME} (ho : CmpG X op f) (ha : PE X (.Name x p) (tVar i)) (hb : PE X b (LC X W tb)) (hm : behindInMarks op b = false) :
    PT X (.Compare (.Name x p) [op] [b] pos) (LB X W (mCmpOB f i tb)) := by
  refine ⟨fun pins s σ H Q I h => ?_⟩
  obtain ⟨Z, F, ρ, R, S, w, t, q⟩ := h
  refine wpAny_isTrue_Compare1 (thn (cmpO_run (R := R) ho ha hb I S w t) fun v s1 h1 => thn h1 fun u s2 h2 => thn h2 fun c s3 ⟨k, ρ', F', H', ec, hk, sf, S', I3⟩ => ?_) hm
  subst ec
  exact wpAny_truthy_bool ⟨H', I3, q k ρ' F' H' hk sf S'⟩
end
end G


set_option Elab.async false
set_option maxRecDepth 100000
set_option maxHeartbeats 4000000
/-! the defs of the text of k11, printed by gen.py -/
namespace K11
open PySem PySem.Spec PyProof.Rows L2 G
def top (i : Nat) : Stmt := PySem.Challenge.pw_gladpayers_k11_whole_whoever_is_left.main.body.getD i (.Pass ⟨0, 0, 0, 0⟩)
structure Zs (K : PySem.W.Frag) (mg : Str → Option Value) : Prop where
  z_abs : mg "abs" = none
  z_all : mg "all" = none
  z_bool : mg "bool" = none
  z_int : mg "int" = none
  z_isinstance : mg "isinstance" = none
  z_len : mg "len" = none
  z_list : mg "list" = none
  z_max : mg "max" = none
  z_min : mg "min" = none
  z_range : mg "range" = none
  z_sorted : mg "sorted" = none
  z_str : mg "str" = none
  z_sum : mg "sum" = none
  z_tuple : mg "tuple" = none
  l_LETTERS : Lit K mg "LETTERS" (.str "abcdefghijklmnopqrstuvwxyz")
  l_MOST : Lit K mg "MOST" (.int 8)
  l_MOST_NUMBER : Lit K mg "MOST_NUMBER" (.int 1000)
  l_MOST_WEIGHT : Lit K mg "MOST_WEIGHT" (.int 9)
  l_NOUGHT : Lit K mg "NOUGHT" (.tuple [.int 0, .int 1])
/-! ### divisor -/
abbrev s_divisor : Stmt := top 7
abbrev N_divisor : List Str := ["one", "other"]
theorem sc_divisor : FnScope N_divisor ["one", "other"] (defScope s_divisor) := ⟨rfl, rfl, rfl, by decide +kernel, rfl, by decide +kernel, by decide +kernel⟩
def m_divisor : MS :=
  mSeq (mWhile (mCmpB neD (mVar 1) (mC (.int 0)))
  (mPar2 0 1 (pE (mVar 1) (pE (mBin modD (mVar 0) (mVar 1)) (pNil)))))
  (mRet (mVar 0))
def b_divisor : PSp := bodyD 2 N_divisor (m_divisor)
theorem ok_divisor {P : Program} {w : World} {K : PySem.W.Frag} {mg : Str → Option Value} {base : Heap} (z : Zs K mg) {f : Addr} {fd : FuncData} (F : Fun K "divisor" "divisor" s_divisor f fd) :
    FnOk P w K mg base CX0 (0 + 1) f fd ["one", "other"] (spD K mg 2 (b_divisor)) := by
  have sc := sc_divisor
  exact fn_okD F sc rfl fun cdv A outer s H E hr => by
    exact (gss_cons (gs_while PassesOwn.never (gt_cmp (cg_ne (hu64 hr)) (g_var (pv 1)) (g_C g_int) rfl)
      (gss_one (gs_par (i := 0) (j := 1) rfl sc.nd rfl rfl (by decide) rfl rfl (gp_E (g_var (pv 1)) (gp_E (g_bin og_mod (g_var (pv 0)) (g_var (pv 1))) gp_nil)) (by with_unfolding_all rfl))))
      (gss_one (gs_ret (g_var (pv 0)))))
/-! ### fraction -/
abbrev s_fraction : Stmt := top 8
abbrev N_fraction : List Str := ["top", "bottom", "by"]
theorem sc_fraction : FnScope N_fraction ["top", "bottom"] (defScope s_fraction) := ⟨rfl, rfl, rfl, by decide +kernel, rfl, by decide +kernel, by decide +kernel⟩
def m_fraction (p_divisor : PSp) : MS :=
  mSeq (mSet 2 (mBin mulD (mCall p_divisor Wish.no.RE (mCons (mCall1 absD (mVar 0)) (mCons (mCall1 absD (mVar 1)) (mNil)))) (mIf (mCmpB gtD (mVar 1) (mC (.int 0))) (mC (.int 1)) (mNeg (mC (.int 1))))))
  (mRet (mTup (mCons (mBin fdivD (mVar 0) (mVar 2)) (mCons (mBin fdivD (mVar 1) (mVar 2)) (mNil)))))
def b_fraction (p_divisor : PSp) : PSp := bodyD 2 N_fraction (m_fraction p_divisor)
theorem ok_fraction {P : Program} {w : World} {K : PySem.W.Frag} {mg : Str → Option Value} {base : Heap} (z : Zs K mg) {p_divisor : PSp} (G_divisor : Has P w K mg base 1 "divisor" ["one", "other"] (spD K mg 2 p_divisor)) {f : Addr} {fd : FuncData} (F : Fun K "fraction" "fraction" s_fraction f fd) :
    FnOk P w K mg base CX0 (1 + 1) f fd ["top", "bottom"] (spD K mg 2 (b_fraction p_divisor)) := by
  have sc := sc_fraction
  exact fn_okD F sc rfl fun cdv A outer s H E hr => by
    exact (gss_cons (gs_set (i := 2) sc.nd rfl (.inl rfl) (g_bin og_mul (g_callH G_divisor hr (by rfl) ps0 (ga_cons (g_b1 cg_abs (by rfl) z.z_abs boots_abs (g_C (g_var (pv 0)))) (ga_cons (g_b1 cg_abs (by rfl) z.z_abs boots_abs (g_C (g_var (pv 1)))) ga_nil))) (g_if (gt_cmp cg_gt (g_var (pv 1)) (g_C g_int) rfl) g_int (g_neg g_int))))
      (gss_one (gs_ret (g_tup (ga_cons (g_bin og_fdiv (g_var (pv 0)) (g_var (pv 2))) (ga_cons (g_bin og_fdiv (g_var (pv 1)) (g_var (pv 2))) ga_nil))))))
/-! ### plus -/
abbrev s_plus : Stmt := top 9
abbrev N_plus : List Str := ["one", "other"]
theorem sc_plus : FnScope N_plus ["one", "other"] (defScope s_plus) := ⟨rfl, rfl, rfl, by decide +kernel, rfl, by decide +kernel, by decide +kernel⟩
def m_plus (p_fraction : PSp) : MS :=
  mRet (mCall p_fraction Wish.no.RE (mCons (mBin addD (mBin mulD (mIx (mVar 0) (mC (.int 0))) (mIx (mVar 1) (mC (.int 1)))) (mBin mulD (mIx (mVar 1) (mC (.int 0))) (mIx (mVar 0) (mC (.int 1))))) (mCons (mBin mulD (mIx (mVar 0) (mC (.int 1))) (mIx (mVar 1) (mC (.int 1)))) (mNil))))
def b_plus (p_fraction : PSp) : PSp := bodyD 2 N_plus (m_plus p_fraction)
theorem ok_plus {P : Program} {w : World} {K : PySem.W.Frag} {mg : Str → Option Value} {base : Heap} (z : Zs K mg) {p_fraction : PSp} (G_fraction : Has P w K mg base 2 "fraction" ["top", "bottom"] (spD K mg 2 p_fraction)) {f : Addr} {fd : FuncData} (F : Fun K "plus" "plus" s_plus f fd) :
    FnOk P w K mg base CX0 (2 + 1) f fd ["one", "other"] (spD K mg 2 (b_plus p_fraction)) := by
  have sc := sc_plus
  exact fn_okD F sc rfl fun cdv A outer s H E hr => by
    exact (gss_one (gs_ret (g_callH G_fraction hr (by rfl) ps0 (ga_cons (g_bin og_add (g_bin og_mul (g_ix (hu64 hr) (g_var (pv 0)) g_int (fun _ _ => rfl)) (g_ix (hu64 hr) (g_var (pv 1)) g_int (fun _ _ => rfl))) (g_bin og_mul (g_ix (hu64 hr) (g_var (pv 1)) g_int (fun _ _ => rfl)) (g_ix (hu64 hr) (g_var (pv 0)) g_int (fun _ _ => rfl)))) (ga_cons (g_bin og_mul (g_ix (hu64 hr) (g_var (pv 0)) g_int (fun _ _ => rfl)) (g_ix (hu64 hr) (g_var (pv 1)) g_int (fun _ _ => rfl))) ga_nil)))))
/-! ### is_less -/
abbrev s_is_less : Stmt := top 10
abbrev N_is_less : List Str := ["one", "other"]
theorem sc_is_less : FnScope N_is_less ["one", "other"] (defScope s_is_less) := ⟨rfl, rfl, rfl, by decide +kernel, rfl, by decide +kernel, by decide +kernel⟩
def m_is_less : MS :=
  mRet (mCmp ltD (mBin mulD (mIx (mVar 0) (mC (.int 0))) (mIx (mVar 1) (mC (.int 1)))) (mBin mulD (mIx (mVar 1) (mC (.int 0))) (mIx (mVar 0) (mC (.int 1)))))
def b_is_less : PSp := bodyD 2 N_is_less (m_is_less)
theorem ok_is_less {P : Program} {w : World} {K : PySem.W.Frag} {mg : Str → Option Value} {base : Heap} (z : Zs K mg) {f : Addr} {fd : FuncData} (F : Fun K "is_less" "is_less" s_is_less f fd) :
    FnOk P w K mg base CX0 (0 + 1) f fd ["one", "other"] (spD K mg 2 (b_is_less)) := by
  have sc := sc_is_less
  exact fn_okD F sc rfl fun cdv A outer s H E hr => by
    exact (gss_one (gs_ret (g_cmp cg_lt (g_bin og_mul (g_ix (hu64 hr) (g_var (pv 0)) g_int (fun _ _ => rfl)) (g_ix (hu64 hr) (g_var (pv 1)) g_int (fun _ _ => rfl))) (g_C (g_bin og_mul (g_ix (hu64 hr) (g_var (pv 1)) g_int (fun _ _ => rfl)) (g_ix (hu64 hr) (g_var (pv 0)) g_int (fun _ _ => rfl)))) rfl)))
/-! ### is_whole -/
abbrev s_is_whole : Stmt := top 11
abbrev N_is_whole : List Str := ["thing", "low", "high"]
theorem sc_is_whole : FnScope N_is_whole ["thing", "low", "high"] (defScope s_is_whole) := ⟨rfl, rfl, rfl, by decide +kernel, rfl, by decide +kernel, by decide +kernel⟩
def m_is_whole : MS :=
  mRet (mAndV (mIsi "int" (mVar 0)) (mAndV (mNotV (mIsi "bool" (mVar 0))) (mChain leD leD (mVar 1) (mVar 0) (mVar 2))))
def b_is_whole : PSp := bodyD 3 N_is_whole (m_is_whole)
theorem ok_is_whole {P : Program} {w : World} {K : PySem.W.Frag} {mg : Str → Option Value} {base : Heap} (z : Zs K mg) {f : Addr} {fd : FuncData} (F : Fun K "is_whole" "is_whole" s_is_whole f fd) :
    FnOk P w K mg base CX0 (0 + 1) f fd ["thing", "low", "high"] (spD K mg 3 (b_is_whole)) := by
  have sc := sc_is_whole
  exact fn_okD F sc rfl fun cdv A outer s H E hr => by
    exact (gss_one (gs_ret (g_and (g_isi (T := "int") (by decide) (by rfl) z.z_isinstance (g_var (pv 0)) (by rfl) z.z_int boots_int) (g_and (g_not (g_isi (T := "bool") (by decide) (by rfl) z.z_isinstance (g_var (pv 0)) (by rfl) z.z_bool boots_bool)) (g_one (g_chain ch_le ch_le (g_var (pv 1)) (g_var (pv 0)) (g_var (pv 2))))))))
/-! ### is_name -/
abbrev s_is_name : Stmt := top 17
abbrev N_is_name : List Str := ["thing", "sign"]
theorem sc_is_name : FnScope N_is_name ["thing"] (defScope s_is_name) := ⟨rfl, rfl, rfl, by decide +kernel, rfl, by decide +kernel, by decide +kernel⟩
def m_is_name : MS :=
  mRet (mAndV (mIsi "str" (mVar 0)) (mAndV (mChain leD leD (mC (.int 1)) (mCall1 lenD (mVar 0)) (mC (.int 8))) (mCall1 allD (mLc (iTxt (mVar 0)) (mGN 1) (mYes) (mCmp (inD false) (mVar 1) (mC (.str "abcdefghijklmnopqrstuvwxyz"))) [1]))))
def b_is_name : PSp := bodyD 1 N_is_name (m_is_name)
theorem ok_is_name {P : Program} {w : World} {K : PySem.W.Frag} {mg : Str → Option Value} {base : Heap} (z : Zs K mg) {f : Addr} {fd : FuncData} (F : Fun K "is_name" "is_name" s_is_name f fd) :
    FnOk P w K mg base CX0 (0 + 1) f fd ["thing"] (spD K mg 1 (b_is_name)) := by
  have sc := sc_is_name
  exact fn_okD F sc rfl fun cdv A outer s H E hr => by
    exact (gss_one (gs_ret (g_and (g_isi (T := "str") (by decide) (by rfl) z.z_isinstance (g_var (pv 0)) (by rfl) z.z_str boots_str) (g_and (g_chain ch_le ch_le g_int (g_b1 cg_len (by rfl) z.z_len boots_len (g_C (g_var (pv 0)))) g_int) (g_one (g_b1 (cg_all rfl) (by rfl) z.z_all boots_all (g_C (g_E (gn_lc (own := [("sign", 1)]) rfl sc.nd (gi_txt (g_var (pv 0))) (blkOk_by (own := [("sign", 1)]) (N := N_is_name) (sc := defScope s_is_name) (by decide +kernel)) (fun _ _ _ _ _ => (gg_name (pg_name (i := 1) sc.nd rfl (by first | exact .inl rfl | exact .inr rfl)))) (fun _ _ _ _ _ => gts_nil) (fun _ _ _ _ _ => (g_cmp (cg_in (hu64 hr)) (g_var (pv 1)) (g_C (g_lit z.l_LETTERS (by rfl))) rfl)))))))))))
/-! ### is_number -/
abbrev s_is_number : Stmt := top 18
abbrev N_is_number : List Str := ["thing"]
theorem sc_is_number : FnScope N_is_number ["thing"] (defScope s_is_number) := ⟨rfl, rfl, rfl, by decide +kernel, rfl, by decide +kernel, by decide +kernel⟩
def m_is_number (p_is_whole : PSp) : MS :=
  mRet (mCall p_is_whole Wish.no.RE (mCons (mVar 0) (mCons (mC (.int 0)) (mCons (mC (.int 1000)) (mNil)))))
def b_is_number (p_is_whole : PSp) : PSp := bodyD 1 N_is_number (m_is_number p_is_whole)
theorem ok_is_number {P : Program} {w : World} {K : PySem.W.Frag} {mg : Str → Option Value} {base : Heap} (z : Zs K mg) {p_is_whole : PSp} (G_is_whole : Has P w K mg base 1 "is_whole" ["thing", "low", "high"] (spD K mg 3 p_is_whole)) {f : Addr} {fd : FuncData} (F : Fun K "is_number" "is_number" s_is_number f fd) :
    FnOk P w K mg base CX0 (1 + 1) f fd ["thing"] (spD K mg 1 (b_is_number p_is_whole)) := by
  have sc := sc_is_number
  exact fn_okD F sc rfl fun cdv A outer s H E hr => by
    exact (gss_one (gs_ret (g_callH G_is_whole hr (by rfl) ps0 (ga_cons (g_var (pv 0)) (ga_cons g_int (ga_cons (g_lit z.l_MOST_NUMBER (by rfl)) ga_nil))))))
/-! ### are_rising -/
abbrev s_are_rising : Stmt := top 19
abbrev N_are_rising : List Str := ["some", "k"]
theorem sc_are_rising : FnScope N_are_rising ["some"] (defScope s_are_rising) := ⟨rfl, rfl, rfl, by decide +kernel, rfl, by decide +kernel, by decide +kernel⟩
def m_are_rising : MS :=
  mRet (mCall1 allD (mLc (iRg (mBin subD (mCall1 lenD (mVar 0)) (mC (.int 1)))) (mGN 1) (mYes) (mCmp ltD (mIx (mVar 0) (mVar 1)) (mIx (mVar 0) (mBin addD (mVar 1) (mC (.int 1))))) [1]))
def b_are_rising : PSp := bodyD 1 N_are_rising (m_are_rising)
theorem ok_are_rising {P : Program} {w : World} {K : PySem.W.Frag} {mg : Str → Option Value} {base : Heap} (z : Zs K mg) {f : Addr} {fd : FuncData} (F : Fun K "are_rising" "are_rising" s_are_rising f fd) :
    FnOk P w K mg base CX0 (0 + 1) f fd ["some"] (spD K mg 1 (b_are_rising)) := by
  have sc := sc_are_rising
  exact fn_okD F sc rfl fun cdv A outer s H E hr => by
    exact (gss_one (gs_ret (g_b1 (cg_all rfl) (by rfl) z.z_all boots_all (g_C (g_E (gn_lc (own := [("k", 1)]) rfl sc.nd (gi_range (by rfl) z.z_range (g_bin og_sub (g_b1 cg_len (by rfl) z.z_len boots_len (g_C (g_var (pv 0)))) g_int)) (blkOk_by (own := [("k", 1)]) (N := N_are_rising) (sc := defScope s_are_rising) (by decide +kernel)) (fun _ _ _ _ _ => (gg_name (pg_name (i := 1) sc.nd rfl (by first | exact .inl rfl | exact .inr rfl)))) (fun _ _ _ _ _ => gts_nil) (fun _ _ _ _ _ => (g_cmp cg_lt (g_ix (hu64 hr) (g_var (pv 0)) (g_var (pv 1)) (fun _ _ => rfl)) (g_C (g_ix (hu64 hr) (g_var (pv 0)) (g_bin og_add (g_var (pv 1)) g_int) (fun _ _ => rfl))) rfl))))))))
/-! ### are_things -/
abbrev s_are_things : Stmt := top 20
abbrev N_are_things : List Str := ["thing", "one"]
theorem sc_are_things : FnScope N_are_things ["thing"] (defScope s_are_things) := ⟨rfl, rfl, rfl, by decide +kernel, rfl, by decide +kernel, by decide +kernel⟩
def m_are_things (p_is_name : PSp) (p_is_number : PSp) (p_are_rising : PSp) : MS :=
  mSeq (mIfS (mOr (mNot (mT (mIsi "tuple" (mVar 0)))) (mNot (mT (mChain leD leD (mC (.int 1)) (mCall1 lenD (mVar 0)) (mC (.int 8))))))
  (mRet (mC (.bool false)))
  (mNx))
  (mSeq (mIfS (mNot (mT (mCall1 allD (mLc (iSq (mVar 0)) (mGN 1) (mYes) (mAndV (mIsi "tuple" (mVar 1)) (mAndV (mCmp eqD (mCall1 lenD (mVar 1)) (mC (.int 2))) (mAndV (mCall p_is_name Wish.no.RE (mCons (mIx (mVar 1) (mC (.int 0))) (mNil))) (mCall p_is_number Wish.no.RE (mCons (mIx (mVar 1) (mC (.int 1))) (mNil)))))) [1]))))
  (mRet (mC (.bool false)))
  (mNx))
  (mRet (mCall p_are_rising Wish.no.RE (mCons (mLc (iSq (mVar 0)) (mGN 1) (mYes) (mIx (mVar 1) (mC (.int 0))) [1]) (mNil)))))
def b_are_things (p_is_name : PSp) (p_is_number : PSp) (p_are_rising : PSp) : PSp := bodyD 1 N_are_things (m_are_things p_is_name p_is_number p_are_rising)
theorem ok_are_things {P : Program} {w : World} {K : PySem.W.Frag} {mg : Str → Option Value} {base : Heap} (z : Zs K mg) {p_is_name : PSp} {p_is_number : PSp} {p_are_rising : PSp} (G_is_name : Has P w K mg base 1 "is_name" ["thing"] (spD K mg 1 p_is_name)) (G_is_number : Has P w K mg base 2 "is_number" ["thing"] (spD K mg 1 p_is_number)) (G_are_rising : Has P w K mg base 1 "are_rising" ["some"] (spD K mg 1 p_are_rising)) {f : Addr} {fd : FuncData} (F : Fun K "are_things" "are_things" s_are_things f fd) :
    FnOk P w K mg base CX0 (2 + 1) f fd ["thing"] (spD K mg 1 (b_are_things p_is_name p_is_number p_are_rising)) := by
  have sc := sc_are_things
  exact fn_okD F sc rfl fun cdv A outer s H E hr => by
    exact (gss_cons (gs_if (gw_or (gt_not (gt_val (g_isi (T := "tuple") (by decide) (by rfl) z.z_isinstance (g_var (pv 0)) (by rfl) z.z_tuple boots_tuple))) (gw_or1 (gt_not (gt_chain ch_le ch_le g_int (g_b1 cg_len (by rfl) z.z_len boots_len (g_C (g_var (pv 0)))) (g_lit z.l_MOST (by rfl)))))).pt
      (gss_one (gs_ret g_bl))
      gss_nil)
      (gss_cons (gs_if (gt_not (gt_val (g_b1 (cg_all rfl) (by rfl) z.z_all boots_all (g_C (g_E (gn_lc (own := [("one", 1)]) rfl sc.nd (gi_seq (g_var (pv 0))) (blkOk_by (own := [("one", 1)]) (N := N_are_things) (sc := defScope s_are_things) (by decide +kernel)) (fun _ _ _ _ _ => (gg_name (pg_name (i := 1) sc.nd rfl (by first | exact .inl rfl | exact .inr rfl)))) (fun _ _ _ _ _ => gts_nil) (fun _ _ _ _ _ => (g_and (g_isi (T := "tuple") (by decide) (by rfl) z.z_isinstance (g_var (pv 1)) (by rfl) z.z_tuple boots_tuple) (g_and (g_cmp (cg_eq (hu64 hr)) (g_b1 cg_len (by rfl) z.z_len boots_len (g_C (g_var (pv 1)))) (g_C g_int) rfl) (g_and (g_callH G_is_name (hr.mono (by omega)) (by rfl) ps0 (ga_cons (g_ix (hu64 hr) (g_var (pv 1)) g_int (fun _ _ => rfl)) ga_nil)) (g_one (g_callH G_is_number hr (by rfl) ps0 (ga_cons (g_ix (hu64 hr) (g_var (pv 1)) g_int (fun _ _ => rfl)) ga_nil)))))))))))))
      (gss_one (gs_ret g_bl))
      gss_nil)
      (gss_one (gs_ret (g_callH G_are_rising (hr.mono (by omega)) (by rfl) ps0 (ga_cons (g_E (gn_lc (own := [("one", 1)]) rfl sc.nd (gi_seq (g_var (pv 0))) (blkOk_by (own := [("one", 1)]) (N := N_are_things) (sc := defScope s_are_things) (by decide +kernel)) (fun _ _ _ _ _ => (gg_name (pg_name (i := 1) sc.nd rfl (by first | exact .inl rfl | exact .inr rfl)))) (fun _ _ _ _ _ => gts_nil) (fun _ _ _ _ _ => (g_ix (hu64 hr) (g_var (pv 1)) g_int (fun _ _ => rfl))))) ga_nil))))))
/-! ### are_of -/
abbrev s_are_of : Stmt := top 21
abbrev N_are_of : List Str := ["names", "thing", "name"]
theorem sc_are_of : FnScope N_are_of ["names", "thing"] (defScope s_are_of) := ⟨rfl, rfl, rfl, by decide +kernel, rfl, by decide +kernel, by decide +kernel⟩
def m_are_of (p_are_rising : PSp) : MS :=
  mSeq (mIfS (mOr (mNot (mT (mIsi "tuple" (mVar 1)))) (mNot (mT (mCall1 allD (mLc (iSq (mVar 1)) (mGN 2) (mYes) (mAndV (mIsi "str" (mVar 2)) (mCmp (inD false) (mVar 2) (mVar 0))) [2])))))
  (mRet (mC (.bool false)))
  (mNx))
  (mRet (mCall p_are_rising Wish.no.RE (mCons (mVar 1) (mNil))))
def b_are_of (p_are_rising : PSp) : PSp := bodyD 2 N_are_of (m_are_of p_are_rising)
theorem ok_are_of {P : Program} {w : World} {K : PySem.W.Frag} {mg : Str → Option Value} {base : Heap} (z : Zs K mg) {p_are_rising : PSp} (G_are_rising : Has P w K mg base 1 "are_rising" ["some"] (spD K mg 1 p_are_rising)) {f : Addr} {fd : FuncData} (F : Fun K "are_of" "are_of" s_are_of f fd) :
    FnOk P w K mg base CX0 (1 + 1) f fd ["names", "thing"] (spD K mg 2 (b_are_of p_are_rising)) := by
  have sc := sc_are_of
  exact fn_okD F sc rfl fun cdv A outer s H E hr => by
    exact (gss_cons (gs_if (gw_or (gt_not (gt_val (g_isi (T := "tuple") (by decide) (by rfl) z.z_isinstance (g_var (pv 1)) (by rfl) z.z_tuple boots_tuple))) (gw_or1 (gt_not (gt_val (g_b1 (cg_all rfl) (by rfl) z.z_all boots_all (g_C (g_E (gn_lc (own := [("name", 2)]) rfl sc.nd (gi_seq (g_var (pv 1))) (blkOk_by (own := [("name", 2)]) (N := N_are_of) (sc := defScope s_are_of) (by decide +kernel)) (fun _ _ _ _ _ => (gg_name (pg_name (i := 2) sc.nd rfl (by first | exact .inl rfl | exact .inr rfl)))) (fun _ _ _ _ _ => gts_nil) (fun _ _ _ _ _ => (g_and (g_isi (T := "str") (by decide) (by rfl) z.z_isinstance (g_var (pv 2)) (by rfl) z.z_str boots_str) (g_one (g_cmp (cg_in (hu64 hr)) (g_var (pv 2)) (g_C (g_var (pv 0))) rfl)))))))))))).pt
      (gss_one (gs_ret g_bl))
      gss_nil)
      (gss_one (gs_ret (g_callH G_are_rising hr (by rfl) ps0 (ga_cons (g_var (pv 1)) ga_nil)))))
/-! ### is_one -/
abbrev s_is_one : Stmt := top 22
abbrev N_is_one : List Str := ["things", "thing", "one"]
theorem sc_is_one : FnScope N_is_one ["things", "thing"] (defScope s_is_one) := ⟨rfl, rfl, rfl, by decide +kernel, rfl, by decide +kernel, by decide +kernel⟩
def m_is_one (p_is_name : PSp) (p_are_of : PSp) (p_is_number : PSp) (p_is_whole : PSp) : MS :=
  mSeq (mIfS (mOr (mNot (mT (mIsi "tuple" (mVar 1)))) (mOr (mCmpB neD (mCall1 lenD (mVar 1)) (mC (.int 4))) (mNot (mT (mCall p_is_name Wish.no.RE (mCons (mIx (mVar 1) (mC (.int 0))) (mNil)))))))
  (mRet (mC (.bool false)))
  (mNx))
  (mSeq (mIfS (mOr (mNot (mT (mCall p_are_of Wish.no.RE (mCons (mLc (iSq (mVar 0)) (mGN 2) (mYes) (mIx (mVar 2) (mC (.int 0))) [2]) (mCons (mIx (mVar 1) (mC (.int 1))) (mNil)))))) (mCmpB eqD (mIx (mVar 1) (mC (.int 1))) (mTup (mNil))))
  (mRet (mC (.bool false)))
  (mNx))
  (mRet (mAndV (mCall p_is_number Wish.no.RE (mCons (mIx (mVar 1) (mC (.int 2))) (mNil))) (mCall p_is_whole Wish.no.RE (mCons (mIx (mVar 1) (mC (.int 3))) (mCons (mC (.int 1)) (mCons (mC (.int 9)) (mNil))))))))
def b_is_one (p_is_name : PSp) (p_are_of : PSp) (p_is_number : PSp) (p_is_whole : PSp) : PSp := bodyD 2 N_is_one (m_is_one p_is_name p_are_of p_is_number p_is_whole)
theorem ok_is_one {P : Program} {w : World} {K : PySem.W.Frag} {mg : Str → Option Value} {base : Heap} (z : Zs K mg) {p_is_name : PSp} {p_are_of : PSp} {p_is_number : PSp} {p_is_whole : PSp} (G_is_name : Has P w K mg base 1 "is_name" ["thing"] (spD K mg 1 p_is_name)) (G_are_of : Has P w K mg base 2 "are_of" ["names", "thing"] (spD K mg 2 p_are_of)) (G_is_number : Has P w K mg base 2 "is_number" ["thing"] (spD K mg 1 p_is_number)) (G_is_whole : Has P w K mg base 1 "is_whole" ["thing", "low", "high"] (spD K mg 3 p_is_whole)) {f : Addr} {fd : FuncData} (F : Fun K "is_one" "is_one" s_is_one f fd) :
    FnOk P w K mg base CX0 (2 + 1) f fd ["things", "thing"] (spD K mg 2 (b_is_one p_is_name p_are_of p_is_number p_is_whole)) := by
  have sc := sc_is_one
  exact fn_okD F sc rfl fun cdv A outer s H E hr => by
    exact (gss_cons (gs_if (gw_or (gt_not (gt_val (g_isi (T := "tuple") (by decide) (by rfl) z.z_isinstance (g_var (pv 1)) (by rfl) z.z_tuple boots_tuple))) (gw_or (gt_cmp (cg_ne (hu64 hr)) (g_b1 cg_len (by rfl) z.z_len boots_len (g_C (g_var (pv 1)))) (g_C g_int) rfl) (gw_or1 (gt_not (gt_val (g_callH G_is_name (hr.mono (by omega)) (by rfl) ps0 (ga_cons (g_ix (hu64 hr) (g_var (pv 1)) g_int (fun _ _ => rfl)) ga_nil))))))).pt
      (gss_one (gs_ret g_bl))
      gss_nil)
      (gss_cons (gs_if (gw_or (gt_not (gt_val (g_callH G_are_of hr (by rfl) ps0 (ga_cons (g_E (gn_lc (own := [("one", 2)]) rfl sc.nd (gi_seq (g_var (pv 0))) (blkOk_by (own := [("one", 2)]) (N := N_is_one) (sc := defScope s_is_one) (by decide +kernel)) (fun _ _ _ _ _ => (gg_name (pg_name (i := 2) sc.nd rfl (by first | exact .inl rfl | exact .inr rfl)))) (fun _ _ _ _ _ => gts_nil) (fun _ _ _ _ _ => (g_ix (hu64 hr) (g_var (pv 2)) g_int (fun _ _ => rfl))))) (ga_cons (g_ix (hu64 hr) (g_var (pv 1)) g_int (fun _ _ => rfl)) ga_nil))))) (gw_or1 (gt_cmp (cg_eq (hu64 hr)) (g_ix (hu64 hr) (g_var (pv 1)) g_int (fun _ _ => rfl)) (g_C (g_tup ga_nil)) rfl))).pt
      (gss_one (gs_ret g_bl))
      gss_nil)
      (gss_one (gs_ret (g_and (g_callH G_is_number hr (by rfl) ps0 (ga_cons (g_ix (hu64 hr) (g_var (pv 1)) g_int (fun _ _ => rfl)) ga_nil)) (g_one (g_callH G_is_whole (hr.mono (by omega)) (by rfl) ps0 (ga_cons (g_ix (hu64 hr) (g_var (pv 1)) g_int (fun _ _ => rfl)) (ga_cons g_int (ga_cons (g_lit z.l_MOST_WEIGHT (by rfl)) ga_nil))))))))))
/-! ### are_folk_of -/
abbrev s_are_folk_of : Stmt := top 23
abbrev N_are_folk_of : List Str := ["things", "thing", "one"]
theorem sc_are_folk_of : FnScope N_are_folk_of ["things", "thing"] (defScope s_are_folk_of) := ⟨rfl, rfl, rfl, by decide +kernel, rfl, by decide +kernel, by decide +kernel⟩
def m_are_folk_of (p_is_one : PSp) (p_are_rising : PSp) : MS :=
  mSeq (mIfS (mOr (mNot (mT (mIsi "tuple" (mVar 1)))) (mOr (mCmpB gtD (mCall1 lenD (mVar 1)) (mC (.int 8))) (mNot (mT (mCall1 allD (mLc (iSq (mVar 1)) (mGN 2) (mYes) (mCall p_is_one Wish.no.RE (mCons (mVar 0) (mCons (mVar 2) (mNil)))) [2]))))))
  (mRet (mC (.bool false)))
  (mNx))
  (mRet (mCall p_are_rising Wish.no.RE (mCons (mLc (iSq (mVar 1)) (mGN 2) (mYes) (mIx (mVar 2) (mC (.int 0))) [2]) (mNil))))
def b_are_folk_of (p_is_one : PSp) (p_are_rising : PSp) : PSp := bodyD 2 N_are_folk_of (m_are_folk_of p_is_one p_are_rising)
theorem ok_are_folk_of {P : Program} {w : World} {K : PySem.W.Frag} {mg : Str → Option Value} {base : Heap} (z : Zs K mg) {p_is_one : PSp} {p_are_rising : PSp} (G_is_one : Has P w K mg base 3 "is_one" ["things", "thing"] (spD K mg 2 p_is_one)) (G_are_rising : Has P w K mg base 1 "are_rising" ["some"] (spD K mg 1 p_are_rising)) {f : Addr} {fd : FuncData} (F : Fun K "are_folk_of" "are_folk_of" s_are_folk_of f fd) :
    FnOk P w K mg base CX0 (3 + 1) f fd ["things", "thing"] (spD K mg 2 (b_are_folk_of p_is_one p_are_rising)) := by
  have sc := sc_are_folk_of
  exact fn_okD F sc rfl fun cdv A outer s H E hr => by
    exact (gss_cons (gs_if (gw_or (gt_not (gt_val (g_isi (T := "tuple") (by decide) (by rfl) z.z_isinstance (g_var (pv 1)) (by rfl) z.z_tuple boots_tuple))) (gw_or (gt_cmp cg_gt (g_b1 cg_len (by rfl) z.z_len boots_len (g_C (g_var (pv 1)))) (g_C (g_lit z.l_MOST (by rfl))) rfl) (gw_or1 (gt_not (gt_val (g_b1 (cg_all rfl) (by rfl) z.z_all boots_all (g_C (g_E (gn_lc (own := [("one", 2)]) rfl sc.nd (gi_seq (g_var (pv 1))) (blkOk_by (own := [("one", 2)]) (N := N_are_folk_of) (sc := defScope s_are_folk_of) (by decide +kernel)) (fun _ _ _ _ _ => (gg_name (pg_name (i := 2) sc.nd rfl (by first | exact .inl rfl | exact .inr rfl)))) (fun _ _ _ _ _ => gts_nil) (fun _ _ _ _ _ => (g_callH G_is_one hr (by rfl) ps0 (ga_cons (g_var (pv 0)) (ga_cons (g_var (pv 2)) ga_nil))))))))))))).pt
      (gss_one (gs_ret g_bl))
      gss_nil)
      (gss_one (gs_ret (g_callH G_are_rising (hr.mono (by omega)) (by rfl) ps0 (ga_cons (g_E (gn_lc (own := [("one", 2)]) rfl sc.nd (gi_seq (g_var (pv 1))) (blkOk_by (own := [("one", 2)]) (N := N_are_folk_of) (sc := defScope s_are_folk_of) (by decide +kernel)) (fun _ _ _ _ _ => (gg_name (pg_name (i := 2) sc.nd rfl (by first | exact .inl rfl | exact .inr rfl)))) (fun _ _ _ _ _ => gts_nil) (fun _ _ _ _ _ => (g_ix (hu64 hr) (g_var (pv 2)) g_int (fun _ _ => rfl))))) ga_nil)))))
/-! ### need_things -/
abbrev s_need_things : Stmt := top 24
abbrev N_need_things : List Str := ["things"]
theorem sc_need_things : FnScope N_need_things ["things"] (defScope s_need_things) := ⟨rfl, rfl, rfl, by decide +kernel, rfl, by decide +kernel, by decide +kernel⟩
def m_need_things (p_are_things : PSp) : MS :=
  mIfS (mNot (mT (mCall p_are_things Wish.no.RE (mCons (mVar 0) (mNil)))))
  (mNever)
  (mNx)
def b_need_things (p_are_things : PSp) : PSp := bodyD 1 N_need_things (m_need_things p_are_things)
theorem ok_need_things {P : Program} {w : World} {K : PySem.W.Frag} {mg : Str → Option Value} {base : Heap} (z : Zs K mg) {p_are_things : PSp} (G_are_things : Has P w K mg base 3 "are_things" ["thing"] (spD K mg 1 p_are_things)) {f : Addr} {fd : FuncData} (F : Fun K "need_things" "need_things" s_need_things f fd) :
    FnOk P w K mg base CX0 (3 + 1) f fd ["things"] (spD K mg 1 (b_need_things p_are_things)) := by
  have sc := sc_need_things
  exact fn_okD F sc rfl fun cdv A outer s H E hr => by
    exact (gss_one (gs_if (gt_not (gt_val (g_callH G_are_things hr (by rfl) ps0 (ga_cons (g_var (pv 0)) ga_nil))))
      (gss_one gs_never)
      gss_nil))
/-! ### need_folk -/
abbrev s_need_folk : Stmt := top 25
abbrev N_need_folk : List Str := ["things", "folk"]
theorem sc_need_folk : FnScope N_need_folk ["things", "folk"] (defScope s_need_folk) := ⟨rfl, rfl, rfl, by decide +kernel, rfl, by decide +kernel, by decide +kernel⟩
def m_need_folk (p_need_things : PSp) (p_are_folk_of : PSp) : MS :=
  mSeq (mDrop (mCall p_need_things Wish.no.RE (mCons (mVar 0) (mNil))))
  (mIfS (mNot (mT (mCall p_are_folk_of Wish.no.RE (mCons (mVar 0) (mCons (mVar 1) (mNil))))))
  (mNever)
  (mNx))
def b_need_folk (p_need_things : PSp) (p_are_folk_of : PSp) : PSp := bodyD 2 N_need_folk (m_need_folk p_need_things p_are_folk_of)
theorem ok_need_folk {P : Program} {w : World} {K : PySem.W.Frag} {mg : Str → Option Value} {base : Heap} (z : Zs K mg) {p_need_things : PSp} {p_are_folk_of : PSp} (G_need_things : Has P w K mg base 4 "need_things" ["things"] (spD K mg 1 p_need_things)) (G_are_folk_of : Has P w K mg base 4 "are_folk_of" ["things", "thing"] (spD K mg 2 p_are_folk_of)) {f : Addr} {fd : FuncData} (F : Fun K "need_folk" "need_folk" s_need_folk f fd) :
    FnOk P w K mg base CX0 (4 + 1) f fd ["things", "folk"] (spD K mg 2 (b_need_folk p_need_things p_are_folk_of)) := by
  have sc := sc_need_folk
  exact fn_okD F sc rfl fun cdv A outer s H E hr => by
    exact (gss_cons (gs_expr (g_callH G_need_things hr (by rfl) ps0 (ga_cons (g_var (pv 0)) ga_nil)))
      (gss_one (gs_if (gt_not (gt_val (g_callH G_are_folk_of hr (by rfl) ps0 (ga_cons (g_var (pv 0)) (ga_cons (g_var (pv 1)) ga_nil)))))
      (gss_one gs_never)
      gss_nil)))
/-! ### names_of -/
abbrev s_names_of : Stmt := top 26
abbrev N_names_of : List Str := ["folk", "one"]
theorem sc_names_of : FnScope N_names_of ["folk"] (defScope s_names_of) := ⟨rfl, rfl, rfl, by decide +kernel, rfl, by decide +kernel, by decide +kernel⟩
def m_names_of : MS :=
  mRet (mLc (iSq (mVar 0)) (mGN 1) (mYes) (mIx (mVar 1) (mC (.int 0))) [1])
def b_names_of : PSp := bodyD 1 N_names_of (m_names_of)
theorem ok_names_of {P : Program} {w : World} {K : PySem.W.Frag} {mg : Str → Option Value} {base : Heap} (z : Zs K mg) {f : Addr} {fd : FuncData} (F : Fun K "names_of" "names_of" s_names_of f fd) :
    FnOk P w K mg base CX0 (0 + 1) f fd ["folk"] (spD K mg 1 (b_names_of)) := by
  have sc := sc_names_of
  exact fn_okD F sc rfl fun cdv A outer s H E hr => by
    exact (gss_one (gs_ret (g_E (gn_lc (own := [("one", 1)]) rfl sc.nd (gi_seq (g_var (pv 0))) (blkOk_by (own := [("one", 1)]) (N := N_names_of) (sc := defScope s_names_of) (by decide +kernel)) (fun _ _ _ _ _ => (gg_name (pg_name (i := 1) sc.nd rfl (by first | exact .inl rfl | exact .inr rfl)))) (fun _ _ _ _ _ => gts_nil) (fun _ _ _ _ _ => (g_ix (hu64 hr) (g_var (pv 1)) g_int (fun _ _ => rfl)))))))
/-! ### shares_of -/
abbrev s_shares_of : Stmt := top 28
abbrev N_shares_of : List Str := ["things", "some", "found", "thing", "cost", "users", "name", "weight", "whole", "one"]
theorem sc_shares_of : FnScope N_shares_of ["things", "some"] (defScope s_shares_of) := ⟨rfl, rfl, rfl, by decide +kernel, rfl, by decide +kernel, by decide +kernel⟩
def m_shares_of (p_plus : PSp) (p_fraction : PSp) : MS :=
  mSeq (mSetN 2 (mDc (iSq (mVar 1)) (mGN 9) (mYes) (mIx (mVar 9) (mC (.int 0))) (mC (.tuple [.int 0, .int 1])) [9]))
  (mSeq (mFor (iSq (mVar 0)) (mGT [mGN 3, mGN 4])
  (mSeq (mSet 5 (mLc (iSq (mVar 1)) (mGN 9) (mCmpB (inD false) (mVar 3) (mIx (mVar 9) (mC (.int 1)))) (mTup (mCons (mIx (mVar 9) (mC (.int 0))) (mCons (mIx (mVar 9) (mC (.int 3))) (mNil)))) [9]))
  (mSeq (mSet 8 (mCall1 sumD (mLc (iSq (mVar 5)) (mGT [mGN 6, mGN 7]) (mYes) (mVar 7) [6, 7])))
  (mFor (iSq (mVar 5)) (mGT [mGN 6, mGN 7])
  (mStore 2 (mVar 6) (mCall p_plus Wish.no.RE (mCons (mIxV 2 (mVar 6)) (mCons (mCall p_fraction Wish.no.RE (mCons (mBin mulD (mVar 4) (mVar 7)) (mCons (mVar 8) (mNil)))) (mNil)))))))))
  (mRet (mFz 2)))
def b_shares_of (p_plus : PSp) (p_fraction : PSp) : PSp := bodyD 2 N_shares_of (m_shares_of p_plus p_fraction)
theorem ok_shares_of {P : Program} {w : World} {K : PySem.W.Frag} {mg : Str → Option Value} {base : Heap} (z : Zs K mg) {p_plus : PSp} {p_fraction : PSp} (G_plus : Has P w K mg base 3 "plus" ["one", "other"] (spD K mg 2 p_plus)) (G_fraction : Has P w K mg base 2 "fraction" ["top", "bottom"] (spD K mg 2 p_fraction)) {f : Addr} {fd : FuncData} (F : Fun K "shares_of" "shares_of" s_shares_of f fd) :
    FnOk P w K mg base CX0 (3 + 1) f fd ["things", "some"] (spD K mg 2 (b_shares_of p_plus p_fraction)) := by
  have sc := sc_shares_of
  exact fn_okD F sc rfl fun cdv A outer s H E hr => by
    exact (gss_cons (gs_setDcN (i := 2) (own := [("one", 9)]) rfl sc.nd rfl rfl (swd_true rfl rfl rfl (by decide +kernel)) (gi_seq (g_var (pv 1))) (blkOk_by (own := [("one", 9)]) (N := N_shares_of) (sc := defScope s_shares_of) (by decide +kernel)) (fun _ _ _ _ _ => (gg_name (pg_name (i := 9) sc.nd rfl (by first | exact .inl rfl | exact .inr rfl)))) (fun _ _ _ _ _ => gts_nil) (fun _ _ _ _ _ => (g_ix (hu64 hr) (g_var (pv 9)) g_int (fun _ _ => rfl))) (fun _ _ _ _ _ => (g_lit z.l_NOUGHT (by rfl))))
      (gss_cons (gs_for PassesOwn.never rfl (gi_seq (g_var (pv 0))) (gg_tup rfl (ggs_cons (gg_name (pg_name (i := 3) sc.nd rfl (.inr rfl))) (ggs_cons (gg_name (pg_name (i := 4) sc.nd rfl (.inl rfl))) ggs_nil)))
      (gss_cons (gs_setLc (i := 5) (own := [("one", 9)]) rfl sc.nd rfl rfl (sw_true rfl rfl rfl (by decide +kernel)) (gi_seq (g_var (pv 1))) (blkOk_by (own := [("one", 9)]) (N := N_shares_of) (sc := defScope s_shares_of) (by decide +kernel)) (fun _ _ _ _ _ => (gg_name (pg_name (i := 9) sc.nd rfl (by first | exact .inl rfl | exact .inr rfl)))) (fun _ _ _ _ _ => (gts_one (gt_cmp (cg_in (hu64 hr)) (g_var (pv 3)) (g_C (g_ix (hu64 hr) (g_var (pv 9)) g_int (fun _ _ => rfl))) rfl))) (fun _ _ _ _ _ => (g_tup (ga_cons (g_ix (hu64 hr) (g_var (pv 9)) g_int (fun _ _ => rfl)) (ga_cons (g_ix (hu64 hr) (g_var (pv 9)) g_int (fun _ _ => rfl)) ga_nil)))))
      (gss_cons (gs_set (i := 8) sc.nd rfl (.inl rfl) (g_b1 (cg_sum rfl) (by rfl) z.z_sum boots_sum (g_C (g_E (gn_lc (own := [("name", 6), ("weight", 7)]) rfl sc.nd (gi_seq (g_var (pv 5))) (blkOk_by (own := [("name", 6), ("weight", 7)]) (N := N_shares_of) (sc := defScope s_shares_of) (by decide +kernel)) (fun _ _ _ _ _ => (gg_tup rfl (ggs_cons (gg_name (pg_name (i := 6) sc.nd rfl (by first | exact .inl rfl | exact .inr rfl))) (ggs_cons (gg_name (pg_name (i := 7) sc.nd rfl (by first | exact .inl rfl | exact .inr rfl))) ggs_nil)))) (fun _ _ _ _ _ => gts_nil) (fun _ _ _ _ _ => (g_var (pv 7))))))))
      (gss_one (gs_for PassesOwn.never rfl (gi_seq (g_var (pv 5))) (gg_tup rfl (ggs_cons (gg_name (pg_name (i := 6) sc.nd rfl (.inl rfl))) (ggs_cons (gg_name (pg_name (i := 7) sc.nd rfl (.inl rfl))) ggs_nil)))
      (gss_one (gs_store (hu64 hr) (g_callH G_plus hr (by rfl) ps0 (ga_cons (g_ixV (hu64 hr) (pv 2) (g_var (pv 6)) (fun _ _ => rfl)) (ga_cons (g_callH G_fraction (hr.mono (by omega)) (by rfl) ps0 (ga_cons (g_bin og_mul (g_var (pv 4)) (g_var (pv 7))) (ga_cons (g_var (pv 8)) ga_nil))) ga_nil))) (pv 2) (g_var (pv 6)))))))))
      (gss_one (gs_ret (g_fz (pv 2))))))
/-! ### left_of -/
abbrev s_left_of : Stmt := top 29
abbrev N_left_of : List Str := ["things", "folk", "more", "some", "paid", "stays", "one"]
theorem sc_left_of : FnScope N_left_of ["things", "folk", "more"] (defScope s_left_of) := ⟨rfl, rfl, rfl, by decide +kernel, rfl, by decide +kernel, by decide +kernel⟩
def m_left_of (p_shares_of : PSp) (p_would_pay : PSp) : MS :=
  mSeq (mSet 3 (mCall1 listD (mVar 1)))
  (mWhile (mT (mC (.bool true)))
  (mSeq (mSet 4 (mCall p_shares_of Wish.no.RE (mCons (mVar 0) (mCons (mVar 3) (mNil)))))
  (mSeq (mSet 5 (mLc (iSq (mVar 3)) (mGN 6) (mT (mCall p_would_pay Wish.no.RE (mCons (mVar 6) (mCons (mIx (mVar 4) (mIx (mVar 6) (mC (.int 0)))) (mCons (mVar 2) (mNil)))))) (mVar 6) [6]))
  (mSeq (mIfS (mCmpB eqD (mCall1 lenD (mVar 5)) (mCall1 lenD (mVar 3)))
  (mRet (mVar 3))
  (mNx))
  (mSet 3 (mVar 5))))))
def b_left_of (p_shares_of : PSp) (p_would_pay : PSp) : PSp := bodyD 3 N_left_of (m_left_of p_shares_of p_would_pay)
theorem ok_left_of {P : Program} {w : World} {K : PySem.W.Frag} {mg : Str → Option Value} {base : Heap} (z : Zs K mg) {p_shares_of : PSp} {p_would_pay : PSp} (G_shares_of : Has P w K mg base 4 "shares_of" ["things", "some"] (spD K mg 2 p_shares_of)) (G_would_pay : Has P w K mg base 4 "would_pay" ["one", "share", "more"] (spD K mg 3 p_would_pay)) {f : Addr} {fd : FuncData} (F : Fun K "left_of" "left_of" s_left_of f fd) :
    FnOk P w K mg base CX0 (4 + 1) f fd ["things", "folk", "more"] (spD K mg 3 (b_left_of p_shares_of p_would_pay)) := by
  have sc := sc_left_of
  exact fn_okD F sc rfl fun cdv A outer s H E hr => by
    exact (gss_cons (gs_set (i := 3) sc.nd rfl (.inl rfl) (g_E (gn_t1 cn_list (by rfl) z.z_list boots_list (g_C (g_var (pv 1))))))
      (gss_one (gs_while PassesOwn.never (gt_val g_bl)
      (gss_cons (gs_set (i := 4) sc.nd rfl (.inr rfl) (g_callH G_shares_of hr (by rfl) ps0 (ga_cons (g_var (pv 0)) (ga_cons (g_var (pv 3)) ga_nil))))
      (gss_cons (gs_setLc (i := 5) (own := [("one", 6)]) rfl sc.nd rfl rfl (sw_true rfl rfl rfl (by decide +kernel)) (gi_seq (g_var (pv 3))) (blkOk_by (own := [("one", 6)]) (N := N_left_of) (sc := defScope s_left_of) (by decide +kernel)) (fun _ _ _ _ _ => (gg_name (pg_name (i := 6) sc.nd rfl (by first | exact .inl rfl | exact .inr rfl)))) (fun _ _ _ _ _ => (gts_one (gt_val (g_callH G_would_pay hr (by rfl) ps0 (ga_cons (g_var (pv 6)) (ga_cons (g_ix (hu64 hr) (g_var (pv 4)) (g_ix (hu64 hr) (g_var (pv 6)) g_int (fun _ _ => rfl)) (fun _ _ => rfl)) (ga_cons (g_var (pv 2)) ga_nil))))))) (fun _ _ _ _ _ => (g_var (pv 6))))
      (gss_cons (gs_if (gt_cmp (cg_eq (hu64 hr)) (g_b1 cg_len (by rfl) z.z_len boots_len (g_C (g_var (pv 5)))) (g_C (g_b1 cg_len (by rfl) z.z_len boots_len (g_C (g_var (pv 3))))) rfl)
      (gss_one (gs_ret (g_var (pv 3))))
      gss_nil)
      (gss_one (gs_set (i := 3) sc.nd rfl (.inl rfl) (g_var (pv 5))))))))))
/-! ### would_pay -/
abbrev s_would_pay : Stmt := top 30
abbrev N_would_pay : List Str := ["one", "share", "more", "extra"]
theorem sc_would_pay : FnScope N_would_pay ["one", "share", "more"] (defScope s_would_pay) := ⟨rfl, rfl, rfl, by decide +kernel, rfl, by decide +kernel, by decide +kernel⟩
def m_would_pay (p_is_less : PSp) (p_plus : PSp) : MS :=
  mSeq (mSet 3 (mGet (mVar 2) (mIx (mVar 0) (mC (.int 0))) (mC (.tuple [.int 0, .int 1]))))
  (mRet (mOrV (mIsN (mVar 3)) (mNotV (mCall p_is_less Wish.no.RE (mCons (mCall p_plus Wish.no.RE (mCons (mTup (mCons (mIx (mVar 0) (mC (.int 2))) (mCons (mC (.int 1)) (mNil)))) (mCons (mVar 3) (mNil)))) (mCons (mVar 1) (mNil)))))))
def b_would_pay (p_is_less : PSp) (p_plus : PSp) : PSp := bodyD 3 N_would_pay (m_would_pay p_is_less p_plus)
theorem ok_would_pay {P : Program} {w : World} {K : PySem.W.Frag} {mg : Str → Option Value} {base : Heap} (z : Zs K mg) {p_is_less : PSp} {p_plus : PSp} (G_is_less : Has P w K mg base 1 "is_less" ["one", "other"] (spD K mg 2 p_is_less)) (G_plus : Has P w K mg base 3 "plus" ["one", "other"] (spD K mg 2 p_plus)) {f : Addr} {fd : FuncData} (F : Fun K "would_pay" "would_pay" s_would_pay f fd) :
    FnOk P w K mg base CX0 (3 + 1) f fd ["one", "share", "more"] (spD K mg 3 (b_would_pay p_is_less p_plus)) := by
  have sc := sc_would_pay
  exact fn_okD F sc rfl fun cdv A outer s H E hr => by
    exact (gss_cons (gs_set (i := 3) sc.nd rfl (.inl rfl) (g_dget (hu64 hr) (g_var (pv 2)) (g_ix (hu64 hr) (g_var (pv 0)) g_int (fun _ _ => rfl)) (g_lit z.l_NOUGHT (by rfl)) ⟨rfl, rfl, rfl, rfl⟩))
      (gss_one (gs_ret (g_or (g_isN (g_var (pv 3))) (g_one (g_not (g_callH G_is_less (hr.mono (by omega)) (by rfl) ps0 (ga_cons (g_callH G_plus hr (by rfl) ps0 (ga_cons (g_tup (ga_cons (g_ix (hu64 hr) (g_var (pv 0)) g_int (fun _ _ => rfl)) (ga_cons g_int ga_nil))) (ga_cons (g_var (pv 3)) ga_nil))) (ga_cons (g_var (pv 1)) ga_nil)))))))))
/-! ### left -/
abbrev s_left : Stmt := top 31
abbrev N_left : List Str := ["things", "folk"]
theorem sc_left : FnScope N_left ["things", "folk"] (defScope s_left) := ⟨rfl, rfl, rfl, by decide +kernel, rfl, by decide +kernel, by decide +kernel⟩
def m_left (p_need_folk : PSp) (p_names_of : PSp) (p_left_of : PSp) : MS :=
  mSeq (mDrop (mCall p_need_folk Wish.no.RE (mCons (mVar 0) (mCons (mVar 1) (mNil)))))
  (mRet (mCall1 tupD (mCall p_names_of Wish.no.RE (mCons (mCall p_left_of Wish.no.RE (mCons (mVar 0) (mCons (mVar 1) (mCons (mDict0) (mNil))))) (mNil)))))
def b_left (p_need_folk : PSp) (p_names_of : PSp) (p_left_of : PSp) : PSp := bodyD 2 N_left (m_left p_need_folk p_names_of p_left_of)
theorem ok_left {P : Program} {w : World} {K : PySem.W.Frag} {mg : Str → Option Value} {base : Heap} (z : Zs K mg) {p_need_folk : PSp} {p_names_of : PSp} {p_left_of : PSp} (G_need_folk : Has P w K mg base 5 "need_folk" ["things", "folk"] (spD K mg 2 p_need_folk)) (G_names_of : Has P w K mg base 1 "names_of" ["folk"] (spD K mg 1 p_names_of)) (G_left_of : Has P w K mg base 5 "left_of" ["things", "folk", "more"] (spD K mg 3 p_left_of)) {f : Addr} {fd : FuncData} (F : Fun K "left" "left" s_left f fd) :
    FnOk P w K mg base CX0 (5 + 1) f fd ["things", "folk"] (spD K mg 2 (b_left p_need_folk p_names_of p_left_of)) := by
  have sc := sc_left
  exact fn_okD F sc rfl fun cdv A outer s H E hr => by
    exact (gss_cons (gs_expr (g_callH G_need_folk hr (by rfl) ps0 (ga_cons (g_var (pv 0)) (ga_cons (g_var (pv 1)) ga_nil))))
      (gss_one (gs_ret (g_t1 cg_tuple (by rfl) z.z_tuple boots_tuple (g_C (g_callH G_names_of (hr.mono (by omega)) (by rfl) ps0 (ga_cons (g_callH G_left_of hr (by rfl) ps0 (ga_cons (g_var (pv 0)) (ga_cons (g_var (pv 1)) (ga_cons (g_E gn_d0) ga_nil)))) ga_nil)))))))
/-! ### asked -/
abbrev s_asked : Stmt := top 32
abbrev N_asked : List Str := ["things", "folk", "order", "name", "some", "gone", "quiet", "one"]
theorem sc_asked : FnScope N_asked ["things", "folk", "order"] (defScope s_asked) := ⟨rfl, rfl, rfl, by decide +kernel, rfl, by decide +kernel, by decide +kernel⟩
def m_asked (p_need_folk : PSp) (p_names_of : PSp) (p_would_pay : PSp) (p_shares_of : PSp) : MS :=
  mSeq (mDrop (mCall p_need_folk Wish.no.RE (mCons (mVar 0) (mCons (mVar 1) (mNil)))))
  (mSeq (mIfS (mOr (mNot (mT (mIsi "tuple" (mVar 2)))) (mNot (mT (mCall1 allD (mLc (iSq (mVar 2)) (mGN 3) (mYes) (mIsi "str" (mVar 3)) [3])))))
  (mNever)
  (mNx))
  (mSeq (mIfS (mCmpB neD (mCall1 sortedD (mVar 2)) (mCall p_names_of Wish.no.RE (mCons (mVar 1) (mNil))))
  (mNever)
  (mNx))
  (mSeq (mPar3 4 5 6 (pN (mDc (iSq (mVar 1)) (mGN 7) (mYes) (mIx (mVar 7) (mC (.int 0))) (mVar 7) [7]) (pN (mLst (mNil)) (pE (mC (.int 0)) (pNil)))))
  (mSeq (mWhile (mCmpB ltD (mVar 6) (mCall1 lenD (mVar 2)))
  (mFor (iSq (mVar 2)) (mGN 3)
  (mSeq (mSet 6 (mBin addD (mVar 6) (mC (.int 1))))
  (mIfS (mAnd (mCmpB (inD false) (mVar 3) (mVarC 4)) (mNot (mT (mCall p_would_pay Wish.no.RE (mCons (mIxV 4 (mVar 3)) (mCons (mIx (mCall p_shares_of Wish.no.RE (mCons (mVar 0) (mCons (mListVals 4) (mNil)))) (mVar 3)) (mCons (mDict0) (mNil))))))))
  (mSeq (mDrop (mDPop 4 (mVar 3)))
  (mSeq (mDrop (mMut 5 appendD (mCons (mVar 3) (mNil))))
  (mSet 6 (mC (.int 0)))))
  (mNx)))))
  (mRet (mTup (mCons (mCall1 tupD (mCall1 sortedD (mVarC 4))) (mCons (mCall1 tupD (mVarC 5)) (mNil)))))))))
def b_asked (p_need_folk : PSp) (p_names_of : PSp) (p_would_pay : PSp) (p_shares_of : PSp) : PSp := bodyD 3 N_asked (m_asked p_need_folk p_names_of p_would_pay p_shares_of)
theorem ok_asked {P : Program} {w : World} {K : PySem.W.Frag} {mg : Str → Option Value} {base : Heap} (z : Zs K mg) {p_need_folk : PSp} {p_names_of : PSp} {p_would_pay : PSp} {p_shares_of : PSp} (G_need_folk : Has P w K mg base 5 "need_folk" ["things", "folk"] (spD K mg 2 p_need_folk)) (G_names_of : Has P w K mg base 1 "names_of" ["folk"] (spD K mg 1 p_names_of)) (G_would_pay : Has P w K mg base 4 "would_pay" ["one", "share", "more"] (spD K mg 3 p_would_pay)) (G_shares_of : Has P w K mg base 4 "shares_of" ["things", "some"] (spD K mg 2 p_shares_of)) {f : Addr} {fd : FuncData} (F : Fun K "asked" "asked" s_asked f fd) :
    FnOk P w K mg base CX0 (5 + 1) f fd ["things", "folk", "order"] (spD K mg 3 (b_asked p_need_folk p_names_of p_would_pay p_shares_of)) := by
  have sc := sc_asked
  exact fn_okD F sc rfl fun cdv A outer s H E hr => by
    exact (gss_cons (gs_expr (g_callH G_need_folk hr (by rfl) ps0 (ga_cons (g_var (pv 0)) (ga_cons (g_var (pv 1)) ga_nil))))
      (gss_cons (gs_if (gw_or (gt_not (gt_val (g_isi (T := "tuple") (by decide) (by rfl) z.z_isinstance (g_var (pv 2)) (by rfl) z.z_tuple boots_tuple))) (gw_or1 (gt_not (gt_val (g_b1 (cg_all rfl) (by rfl) z.z_all boots_all (g_C (g_E (gn_lc (own := [("name", 3)]) rfl sc.nd (gi_seq (g_var (pv 2))) (blkOk_by (own := [("name", 3)]) (N := N_asked) (sc := defScope s_asked) (by decide +kernel)) (fun _ _ _ _ _ => (gg_name (pg_name (i := 3) sc.nd rfl (by first | exact .inl rfl | exact .inr rfl)))) (fun _ _ _ _ _ => gts_nil) (fun _ _ _ _ _ => (g_isi (T := "str") (by decide) (by rfl) z.z_isinstance (g_var (pv 3)) (by rfl) z.z_str boots_str)))))))))).pt
      (gss_one gs_never)
      gss_nil)
      (gss_cons (gs_if (gt_cmp (cg_ne (hu64 hr)) (g_E (gn_b1 (cn_sorted (hu200 hr) rfl) (by rfl) z.z_sorted boots_sorted (g_C (g_var (pv 2))))) (g_C (g_callH G_names_of (hr.mono (by omega)) (by rfl) ps0 (ga_cons (g_var (pv 1)) ga_nil))) rfl)
      (gss_one gs_never)
      gss_nil)
      (gss_cons (gs_par3 (i := 4) (j := 5) (l := 6) rfl sc.nd rfl rfl rfl (by decide) (by decide) (by decide) rfl rfl rfl (gp_N (gn_dc (own := [("one", 7)]) rfl sc.nd (gi_seq (g_var (pv 1))) (blkOk_by (own := [("one", 7)]) (N := N_asked) (sc := defScope s_asked) (by decide +kernel)) (fun _ _ _ _ _ => (gg_name (pg_name (i := 7) sc.nd rfl (by first | exact .inl rfl | exact .inr rfl)))) (fun _ _ _ _ _ => gts_nil) (fun _ _ _ _ _ => (g_ix (hu64 hr) (g_var (pv 7)) g_int (fun _ _ => rfl))) (fun _ _ _ _ _ => (g_var (pv 7)))) (gp_N (gn_lst ga_nil) (gp_E g_int gp_nil))) (by with_unfolding_all rfl))
      (gss_cons (gs_while PassesOwn.never (gt_cmp cg_lt (g_var (pv 6)) (g_C (g_b1 cg_len (by rfl) z.z_len boots_len (g_C (g_var (pv 2))))) rfl)
      (gss_one (gs_for PassesOwn.never rfl (gi_seq (g_var (pv 2))) (gg_name (pg_name (i := 3) sc.nd rfl (.inl rfl)))
      (gss_cons (gs_set (i := 6) sc.nd rfl (.inl rfl) (g_bin og_add (g_var (pv 6)) g_int))
      (gss_one (gs_if (gw_and (gt_cmp (cg_in (hu64 hr)) (g_var (pv 3)) (g_varC (pv 4)) rfl) (gw_and1 (gt_not (gt_val (g_callH G_would_pay (hr.mono (by omega)) (by rfl) ps0 (ga_cons (g_ixV (hu64 hr) (pv 4) (g_var (pv 3)) (fun _ _ => rfl)) (ga_cons (g_ix (hu64 hr) (g_callH G_shares_of (hr.mono (by omega)) (by rfl) ps0 (ga_cons (g_var (pv 0)) (ga_cons (g_E (gn_listVals rfl (pv 4) (by rfl) z.z_list boots_list)) ga_nil))) (g_var (pv 3)) (fun _ _ => rfl)) (ga_cons (g_E gn_d0) ga_nil)))))))).pt
      (gss_cons (gs_expr (g_dpop (pv 4) (g_var (pv 3)) ⟨rfl, rfl, rfl, rfl⟩))
      (gss_cons (gs_expr (g_mut PySem.F.slot_list_append PySem.F.type_list_append mt_append mr_append (pv 5) (ga_cons (g_var (pv 3)) ga_nil) (pe_bm PySem.F.plainAttrs_list PySem.F.slot_list_append PySem.F.type_list_append mt_append (pv 5) (ga_cons (g_var (pv 3)) ga_nil))))
      (gss_one (gs_set (i := 6) sc.nd rfl (.inl rfl) g_int))))
      gss_nil))))))
      (gss_one (gs_ret (g_tup (ga_cons (g_t1 cg_tuple (by rfl) z.z_tuple boots_tuple (g_C (g_E (gn_b1 (cn_sorted (hu200 hr) rfl) (by rfl) z.z_sorted boots_sorted (g_varC (pv 4)))))) (ga_cons (g_t1 cg_tuple (by rfl) z.z_tuple boots_tuple (g_varC (pv 5))) ga_nil))))))))))
/-! ### _law_well -/
abbrev s__law_well : Stmt := top 34
abbrev N__law_well : List Str := ["script", "k", "cell", "primes", "seed"]
theorem sc__law_well : FnScope N__law_well ["script", "k"] (defScope s__law_well) := ⟨rfl, rfl, rfl, by decide +kernel, rfl, by decide +kernel, by decide +kernel⟩
def m__law_well : MS :=
  mSeq (mSet 2 (mC (.int 0)))
  (mSeq (mIfS (mCmpB ltD (mVar 1) (mLenS 0))
  (mSet 2 (mIxV 0 (mVar 1)))
  (mNx))
  (mSeq (mSet 3 (mLst (mCons (mC (.int 2147483647)) (mCons (mC (.int 2147483629)) (mCons (mC (.int 2147483587)) (mCons (mC (.int 2147483579)) (mCons (mC (.int 2147483563)) (mCons (mC (.int 2147483549)) (mCons (mC (.int 2147483543)) (mCons (mC (.int 2147483497)) (mNil)))))))))))
  (mSeq (mSet 4 (mBin modD (mBin mulD (mBin addD (mBin modD (mVar 2) (mC (.int 2147483489))) (mC (.int 1))) (mBin addD (mC (.int 48271)) (mBin mulD (mC (.int 2)) (mVar 1)))) (mC (.int 2147483489))))
  (mSeq (mSet 4 (mBin addD (mBin addD (mBin modD (mBin mulD (mVar 4) (mVar 4)) (mC (.int 2147483477))) (mVar 1)) (mC (.int 1))))
  (mSeq (mIfS (mCmpB geD (mVar 2) (mBin powD (mC (.int 10)) (mC (.int 18))))
  (mRetN (mLst (mCons (mVar 2) (mCons (mVar 4) (mCons (mIx (mVar 3) (mBin modD (mVar 1) (mC (.int 8)))) (mNil))))))
  (mNx))
  (mRetN (mLst (mCons (mC (.int 0)) (mCons (mVar 4) (mCons (mIx (mVar 3) (mBin modD (mVar 1) (mC (.int 8)))) (mNil)))))))))))
def b__law_well : PSp := bodyN 2 N__law_well (m__law_well)
theorem ok__law_well {P : Program} {w : World} {K : PySem.W.Frag} {mg : Str → Option Value} {base : Heap} (z : Zs K mg) {f : Addr} {fd : FuncData} (F : Fun K "_law_well" "_law_well" s__law_well f fd) :
    FnOk P w K mg base CX0 (0 + 1) f fd ["script", "k"] (spN K mg 2 (b__law_well)) := by
  have sc := sc__law_well
  exact fn_okN F sc rfl fun cdv A outer s H E hr => by
    exact (gss_cons (gs_set (i := 2) sc.nd rfl (.inl rfl) g_int)
      (gss_cons (gs_if (gt_cmp cg_lt (g_var (pv 1)) (g_C (g_lenS (by rfl) z.z_len (pv 0))) rfl)
      (gss_one (gs_set (i := 2) sc.nd rfl (.inl rfl) (g_ixV (hu64 hr) (pv 0) (g_var (pv 1)) (fun _ _ => rfl))))
      gss_nil)
      (gss_cons (gs_set (i := 3) sc.nd rfl (.inl rfl) (g_E (gn_lst (ga_cons g_int (ga_cons g_int (ga_cons g_int (ga_cons g_int (ga_cons g_int (ga_cons g_int (ga_cons g_int (ga_cons g_int ga_nil)))))))))))
      (gss_cons (gs_set (i := 4) sc.nd rfl (.inl rfl) (g_bin og_mod (g_bin og_mul (g_bin og_add (g_bin og_mod (g_var (pv 2)) g_int) g_int) (g_bin og_add g_int (g_bin og_mul g_int (g_var (pv 1))))) g_int))
      (gss_cons (gs_set (i := 4) sc.nd rfl (.inl rfl) (g_bin og_add (g_bin og_add (g_bin og_mod (g_bin og_mul (g_var (pv 4)) (g_var (pv 4))) g_int) (g_var (pv 1))) g_int))
      (gss_cons (gs_if (gt_cmp cg_ge (g_var (pv 2)) (g_C (g_bin og_pow g_int g_int)) rfl)
      (gss_one (gs_retN (gn_lst (ga_cons (g_var (pv 2)) (ga_cons (g_var (pv 4)) (ga_cons (g_ix (hu64 hr) (g_var (pv 3)) (g_bin og_mod (g_var (pv 1)) g_int) (fun _ _ => rfl)) ga_nil))))))
      gss_nil)
      (gss_one (gs_retN (gn_lst (ga_cons g_int (ga_cons (g_var (pv 4)) (ga_cons (g_ix (hu64 hr) (g_var (pv 3)) (g_bin og_mod (g_var (pv 1)) g_int) (fun _ _ => rfl)) ga_nil))))))))))))
/-! ### _law_take -/
abbrev s__law_take : Stmt := top 35
abbrev N__law_take : List Str := ["well", "many", "drew"]
theorem sc__law_take : FnScope N__law_take ["well", "many"] (defScope s__law_take) := ⟨rfl, rfl, rfl, by decide +kernel, rfl, by decide +kernel, by decide +kernel⟩
def m__law_take : MS :=
  mSeq (mIfS (mCmpB gtD (mIxV 0 (mC (.int 0))) (mC (.int 0)))
  (mSeq (mSet 2 (mBin modD (mIxV 0 (mC (.int 0))) (mVar 1)))
  (mSeq (mStore 0 (mC (.int 0)) (mBin fdivD (mIxV 0 (mC (.int 0))) (mVar 1)))
  (mRet (mVar 2))))
  (mNx))
  (mSeq (mStore 0 (mC (.int 1)) (mBin addD (mBin modD (mBin mulD (mIxV 0 (mC (.int 1))) (mC (.int 48271))) (mIxV 0 (mC (.int 2)))) (mC (.int 1))))
  (mRet (mBin modD (mBin fdivD (mBin modD (mBin mulD (mIxV 0 (mC (.int 1))) (mIxV 0 (mC (.int 1)))) (mC (.int 2147483423))) (mC (.int 7))) (mVar 1))))
def b__law_take : PSp := bodyD 2 N__law_take (m__law_take)
theorem ok__law_take {P : Program} {w : World} {K : PySem.W.Frag} {mg : Str → Option Value} {base : Heap} (z : Zs K mg) {f : Addr} {fd : FuncData} (F : Fun K "_law_take" "_law_take" s__law_take f fd) :
    FnOk P w K mg base CX0 (0 + 1) f fd ["well", "many"] (spD K mg 2 (b__law_take)) := by
  have sc := sc__law_take
  exact fn_okD F sc rfl fun cdv A outer s H E hr => by
    exact (gss_cons (gs_if (gt_cmp cg_gt (g_ixV (hu64 hr) (pv 0) g_int (fun _ _ => rfl)) (g_C g_int) rfl)
      (gss_cons (gs_set (i := 2) sc.nd rfl (.inl rfl) (g_bin og_mod (g_ixV (hu64 hr) (pv 0) g_int (fun _ _ => rfl)) (g_var (pv 1))))
      (gss_cons (gs_store (hu64 hr) (g_bin og_fdiv (g_ixV (hu64 hr) (pv 0) g_int (fun _ _ => rfl)) (g_var (pv 1))) (pv 0) g_int)
      (gss_one (gs_ret (g_var (pv 2))))))
      gss_nil)
      (gss_cons (gs_store (hu64 hr) (g_bin og_add (g_bin og_mod (g_bin og_mul (g_ixV (hu64 hr) (pv 0) g_int (fun _ _ => rfl)) g_int) (g_ixV (hu64 hr) (pv 0) g_int (fun _ _ => rfl))) g_int) (pv 0) g_int)
      (gss_one (gs_ret (g_bin og_mod (g_bin og_fdiv (g_bin og_mod (g_bin og_mul (g_ixV (hu64 hr) (pv 0) g_int (fun _ _ => rfl)) (g_ixV (hu64 hr) (pv 0) g_int (fun _ _ => rfl))) g_int) g_int) (g_var (pv 1)))))))
/-! ### _law_frac -/
abbrev s__law_frac : Stmt := top 36
abbrev N__law_frac : List Str := ["top", "bottom", "one", "other"]
theorem sc__law_frac : FnScope N__law_frac ["top", "bottom"] (defScope s__law_frac) := ⟨rfl, rfl, rfl, by decide +kernel, rfl, by decide +kernel, by decide +kernel⟩
def m__law_frac : MS :=
  mSeq (mPar2 2 3 (pE (mCall1 absD (mVar 0)) (pE (mCall1 absD (mVar 1)) (pNil))))
  (mSeq (mWhile (mCmpB gtD (mVar 3) (mC (.int 0)))
  (mPar2 2 3 (pE (mVar 3) (pE (mBin modD (mVar 2) (mVar 3)) (pNil)))))
  (mSeq (mSet 2 (mIf (mCmpB gtD (mVar 1) (mC (.int 0))) (mVar 2) (mNeg (mVar 2))))
  (mRet (mTup (mCons (mBin fdivD (mVar 0) (mVar 2)) (mCons (mBin fdivD (mVar 1) (mVar 2)) (mNil)))))))
def b__law_frac : PSp := bodyD 2 N__law_frac (m__law_frac)
theorem ok__law_frac {P : Program} {w : World} {K : PySem.W.Frag} {mg : Str → Option Value} {base : Heap} (z : Zs K mg) {f : Addr} {fd : FuncData} (F : Fun K "_law_frac" "_law_frac" s__law_frac f fd) :
    FnOk P w K mg base CX0 (0 + 1) f fd ["top", "bottom"] (spD K mg 2 (b__law_frac)) := by
  have sc := sc__law_frac
  exact fn_okD F sc rfl fun cdv A outer s H E hr => by
    exact (gss_cons (gs_par (i := 2) (j := 3) rfl sc.nd rfl rfl (by decide) rfl rfl (gp_E (g_b1 cg_abs (by rfl) z.z_abs boots_abs (g_C (g_var (pv 0)))) (gp_E (g_b1 cg_abs (by rfl) z.z_abs boots_abs (g_C (g_var (pv 1)))) gp_nil)) (by with_unfolding_all rfl))
      (gss_cons (gs_while PassesOwn.never (gt_cmp cg_gt (g_var (pv 3)) (g_C g_int) rfl)
      (gss_one (gs_par (i := 2) (j := 3) rfl sc.nd rfl rfl (by decide) rfl rfl (gp_E (g_var (pv 3)) (gp_E (g_bin og_mod (g_var (pv 2)) (g_var (pv 3))) gp_nil)) (by with_unfolding_all rfl))))
      (gss_cons (gs_set (i := 2) sc.nd rfl (.inl rfl) (g_if (gt_cmp cg_gt (g_var (pv 1)) (g_C g_int) rfl) (g_var (pv 2)) (g_neg (g_var (pv 2)))))
      (gss_one (gs_ret (g_tup (ga_cons (g_bin og_fdiv (g_var (pv 0)) (g_var (pv 2))) (ga_cons (g_bin og_fdiv (g_var (pv 1)) (g_var (pv 2))) ga_nil))))))))
/-! ### _law_plus -/
abbrev s__law_plus : Stmt := top 37
abbrev N__law_plus : List Str := ["one", "other"]
theorem sc__law_plus : FnScope N__law_plus ["one", "other"] (defScope s__law_plus) := ⟨rfl, rfl, rfl, by decide +kernel, rfl, by decide +kernel, by decide +kernel⟩
def m__law_plus (p__law_frac : PSp) : MS :=
  mRet (mCall p__law_frac Wish.no.RE (mCons (mBin addD (mBin mulD (mIx (mVar 0) (mC (.int 0))) (mIx (mVar 1) (mC (.int 1)))) (mBin mulD (mIx (mVar 1) (mC (.int 0))) (mIx (mVar 0) (mC (.int 1))))) (mCons (mBin mulD (mIx (mVar 0) (mC (.int 1))) (mIx (mVar 1) (mC (.int 1)))) (mNil))))
def b__law_plus (p__law_frac : PSp) : PSp := bodyD 2 N__law_plus (m__law_plus p__law_frac)
theorem ok__law_plus {P : Program} {w : World} {K : PySem.W.Frag} {mg : Str → Option Value} {base : Heap} (z : Zs K mg) {p__law_frac : PSp} (G__law_frac : Has P w K mg base 1 "_law_frac" ["top", "bottom"] (spD K mg 2 p__law_frac)) {f : Addr} {fd : FuncData} (F : Fun K "_law_plus" "_law_plus" s__law_plus f fd) :
    FnOk P w K mg base CX0 (1 + 1) f fd ["one", "other"] (spD K mg 2 (b__law_plus p__law_frac)) := by
  have sc := sc__law_plus
  exact fn_okD F sc rfl fun cdv A outer s H E hr => by
    exact (gss_one (gs_ret (g_callH G__law_frac hr (by rfl) ps0 (ga_cons (g_bin og_add (g_bin og_mul (g_ix (hu64 hr) (g_var (pv 0)) g_int (fun _ _ => rfl)) (g_ix (hu64 hr) (g_var (pv 1)) g_int (fun _ _ => rfl))) (g_bin og_mul (g_ix (hu64 hr) (g_var (pv 1)) g_int (fun _ _ => rfl)) (g_ix (hu64 hr) (g_var (pv 0)) g_int (fun _ _ => rfl)))) (ga_cons (g_bin og_mul (g_ix (hu64 hr) (g_var (pv 0)) g_int (fun _ _ => rfl)) (g_ix (hu64 hr) (g_var (pv 1)) g_int (fun _ _ => rfl))) ga_nil)))))
/-! ### _law_less -/
abbrev s__law_less : Stmt := top 38
abbrev N__law_less : List Str := ["one", "other"]
theorem sc__law_less : FnScope N__law_less ["one", "other"] (defScope s__law_less) := ⟨rfl, rfl, rfl, by decide +kernel, rfl, by decide +kernel, by decide +kernel⟩
def m__law_less : MS :=
  mRet (mCmp ltD (mBin mulD (mIx (mVar 0) (mC (.int 0))) (mIx (mVar 1) (mC (.int 1)))) (mBin mulD (mIx (mVar 1) (mC (.int 0))) (mIx (mVar 0) (mC (.int 1)))))
def b__law_less : PSp := bodyD 2 N__law_less (m__law_less)
theorem ok__law_less {P : Program} {w : World} {K : PySem.W.Frag} {mg : Str → Option Value} {base : Heap} (z : Zs K mg) {f : Addr} {fd : FuncData} (F : Fun K "_law_less" "_law_less" s__law_less f fd) :
    FnOk P w K mg base CX0 (0 + 1) f fd ["one", "other"] (spD K mg 2 (b__law_less)) := by
  have sc := sc__law_less
  exact fn_okD F sc rfl fun cdv A outer s H E hr => by
    exact (gss_one (gs_ret (g_cmp cg_lt (g_bin og_mul (g_ix (hu64 hr) (g_var (pv 0)) g_int (fun _ _ => rfl)) (g_ix (hu64 hr) (g_var (pv 1)) g_int (fun _ _ => rfl))) (g_C (g_bin og_mul (g_ix (hu64 hr) (g_var (pv 1)) g_int (fun _ _ => rfl)) (g_ix (hu64 hr) (g_var (pv 0)) g_int (fun _ _ => rfl)))) rfl)))
/-! ### _law_things -/
abbrev s__law_things : Stmt := top 39
abbrev N__law_things : List Str := ["well", "top", "names", "wide", "name"]
theorem sc__law_things : FnScope N__law_things ["well", "top"] (defScope s__law_things) := ⟨rfl, rfl, rfl, by decide +kernel, rfl, by decide +kernel, by decide +kernel⟩
def m__law_things (p__law_take : PSp) : MS :=
  mSeq (mSet 2 (mSl (mLst (mCons (mC (.str "arch")) (mCons (mC (.str "boat")) (mCons (mC (.str "cart")) (mCons (mC (.str "dam")) (mCons (mC (.str "edge")) (mCons (mC (.str "fence")) (mCons (mC (.str "gate")) (mCons (mC (.str "hut")) (mNil)))))))))) mNo (mPart (mBin addD (mC (.int 1)) (mCallR p__law_take Wish.no.RE 0 0 (mHere 0 (mCons (mVar 1) (mNil))))))))
  (mSeq (mSet 3 (mIx (mLst (mCons (mC (.int 9)) (mCons (mC (.int 60)) (mCons (mC (.int 1000)) (mNil))))) (mCallR p__law_take Wish.no.RE 0 0 (mHere 0 (mCons (mC (.int 3)) (mNil))))))
  (mRet (mCall1 tupD (mLc (iSq (mVar 2)) (mGN 4) (mYes) (mTup (mCons (mVar 4) (mCons (mCallR p__law_take Wish.no.RE 0 0 (mHere 0 (mCons (mBin addD (mVar 3) (mC (.int 1))) (mNil)))) (mNil)))) [4]))))
def b__law_things (p__law_take : PSp) : PSp := bodyD 2 N__law_things (m__law_things p__law_take)
theorem ok__law_things {P : Program} {w : World} {K : PySem.W.Frag} {mg : Str → Option Value} {base : Heap} (z : Zs K mg) {p__law_take : PSp} (G__law_take : Has P w K mg base 1 "_law_take" ["well", "many"] (spD K mg 2 p__law_take)) {f : Addr} {fd : FuncData} (F : Fun K "_law_things" "_law_things" s__law_things f fd) :
    FnOk P w K mg base CX0 (1 + 1) f fd ["well", "top"] (spD K mg 2 (b__law_things p__law_take)) := by
  have sc := sc__law_things
  exact fn_okD F sc rfl fun cdv A outer s H E hr => by
    exact (gss_cons (gs_set (i := 2) sc.nd rfl (.inl rfl) (g_sl (g_E (gn_lst (ga_cons g_str (ga_cons g_str (ga_cons g_str (ga_cons g_str (ga_cons g_str (ga_cons g_str (ga_cons g_str (ga_cons g_str ga_nil)))))))))) go_none (go_some (g_bin og_add g_int (g_callRH G__law_take hr (by rfl) ps0 (gar_here (pv 0) (ga_cons (g_var (pv 1)) ga_nil)))))))
      (gss_cons (gs_set (i := 3) sc.nd rfl (.inr rfl) (g_ix (hu64 hr) (g_E (gn_lst (ga_cons g_int (ga_cons g_int (ga_cons g_int ga_nil))))) (g_callRH G__law_take hr (by rfl) ps0 (gar_here (pv 0) (ga_cons g_int ga_nil))) (fun _ _ => rfl)))
      (gss_one (gs_ret (g_t1 cg_tuple (by rfl) z.z_tuple boots_tuple (g_C (g_E (gn_lc (own := [("name", 4)]) rfl sc.nd (gi_seq (g_var (pv 2))) (blkOk_by (own := [("name", 4)]) (N := N__law_things) (sc := defScope s__law_things) (by decide +kernel)) (fun _ _ _ _ _ => (gg_name (pg_name (i := 4) sc.nd rfl (by first | exact .inl rfl | exact .inr rfl)))) (fun _ _ _ _ _ => gts_nil) (fun _ _ _ _ _ => (g_tup (ga_cons (g_var (pv 4)) (ga_cons (g_callRH G__law_take hr (by rfl) ps0 (gar_here (pv 0) (ga_cons (g_bin og_add (g_var (pv 3)) g_int) ga_nil))) ga_nil))))))))))))
/-! ### _law_one -/
abbrev s__law_one : Stmt := top 40
abbrev N__law_one : List Str := ["well", "things", "name", "even", "cost", "wants", "worth", "thing", "number"]
theorem sc__law_one : FnScope N__law_one ["well", "things", "name", "even"] (defScope s__law_one) := ⟨rfl, rfl, rfl, by decide +kernel, rfl, by decide +kernel, by decide +kernel⟩
def m__law_one (p__law_take : PSp) : MS :=
  mSeq (mSet 5 (mLc (iSq (mVar 1)) (mGT [mGN 7, mGN 4]) (mCmpB eqD (mCallR p__law_take Wish.no.RE 0 0 (mHere 0 (mCons (mC (.int 3)) (mNil)))) (mC (.int 0))) (mVar 7) [7, 4]))
  (mSeq (mIfS (mCmpB eqD (mVar 5) (mLst (mNil)))
  (mSet 5 (mLst (mCons (mIx (mIx (mVar 1) (mCallR p__law_take Wish.no.RE 0 0 (mHere 0 (mCons (mCall1 lenD (mVar 1)) (mNil))))) (mC (.int 0))) (mNil))))
  (mNx))
  (mSeq (mSet 4 (mCall1 sumD (mLc (iSq (mVar 1)) (mGT [mGN 7, mGN 8]) (mCmpB (inD false) (mVar 7) (mVar 5)) (mVar 8) [7, 8])))
  (mSeq (mSet 6 (mCallM min2D (mCons (mC (.int 1000)) (mCons (mCallR p__law_take Wish.no.RE 0 0 (mHere 0 (mCons (mIx (mLst (mCons (mBin addD (mVar 4) (mC (.int 1))) (mCons (mBin addD (mBin fdivD (mVar 4) (mC (.int 2))) (mC (.int 2))) (mCons (mBin addD (mBin fdivD (mVar 4) (mC (.int 4))) (mC (.int 3))) (mCons (mC (.int 1001)) (mNil)))))) (mCallR p__law_take Wish.no.RE 0 0 (mHere 0 (mCons (mC (.int 4)) (mNil))))) (mNil)))) (mNil)))))
  (mRet (mTup (mCons (mVar 2) (mCons (mCall1 tupD (mVar 5)) (mCons (mVar 6) (mCons (mIf (mT (mVar 3)) (mC (.int 1)) (mBin addD (mC (.int 1)) (mCallR p__law_take Wish.no.RE 0 0 (mHere 0 (mCons (mIx (mLst (mCons (mC (.int 1)) (mCons (mC (.int 3)) (mCons (mC (.int 9)) (mNil))))) (mCallR p__law_take Wish.no.RE 0 0 (mHere 0 (mCons (mC (.int 3)) (mNil))))) (mNil)))))) (mNil))))))))))
def b__law_one (p__law_take : PSp) : PSp := bodyD 4 N__law_one (m__law_one p__law_take)
theorem ok__law_one {P : Program} {w : World} {K : PySem.W.Frag} {mg : Str → Option Value} {base : Heap} (z : Zs K mg) {p__law_take : PSp} (G__law_take : Has P w K mg base 1 "_law_take" ["well", "many"] (spD K mg 2 p__law_take)) {f : Addr} {fd : FuncData} (F : Fun K "_law_one" "_law_one" s__law_one f fd) :
    FnOk P w K mg base CX0 (1 + 1) f fd ["well", "things", "name", "even"] (spD K mg 4 (b__law_one p__law_take)) := by
  have sc := sc__law_one
  exact fn_okD F sc rfl fun cdv A outer s H E hr => by
    exact (gss_cons (gs_set (i := 5) sc.nd rfl (.inr rfl) (g_E (gn_lc (own := [("thing", 7), ("cost", 4)]) rfl sc.nd (gi_seq (g_var (pv 1))) (blkOk_by (own := [("thing", 7), ("cost", 4)]) (N := N__law_one) (sc := defScope s__law_one) (by decide +kernel)) (fun _ _ _ _ _ => (gg_tup rfl (ggs_cons (gg_name (pg_name (i := 7) sc.nd rfl (by first | exact .inl rfl | exact .inr rfl))) (ggs_cons (gg_name (pg_name (i := 4) sc.nd rfl (by first | exact .inl rfl | exact .inr rfl))) ggs_nil)))) (fun _ _ _ _ _ => (gts_one (gt_cmp (cg_eq (hu64 hr)) (g_callRH G__law_take hr (by rfl) ps0 (gar_here (pv 0) (ga_cons g_int ga_nil))) (g_C g_int) rfl))) (fun _ _ _ _ _ => (g_var (pv 7))))))
      (gss_cons (gs_if (gt_cmp (cg_eq (hu64 hr)) (g_var (pv 5)) (g_C (g_E (gn_lst ga_nil))) rfl)
      (gss_one (gs_set (i := 5) sc.nd rfl (.inr rfl) (g_E (gn_lst (ga_cons (g_ix (hu64 hr) (g_ix (hu64 hr) (g_var (pv 1)) (g_callRH G__law_take hr (by rfl) ps0 (gar_here (pv 0) (ga_cons (g_b1 cg_len (by rfl) z.z_len boots_len (g_C (g_var (pv 1)))) ga_nil))) (fun _ _ => rfl)) g_int (fun _ _ => rfl)) ga_nil)))))
      gss_nil)
      (gss_cons (gs_set (i := 4) sc.nd rfl (.inl rfl) (g_b1 (cg_sum rfl) (by rfl) z.z_sum boots_sum (g_C (g_E (gn_lc (own := [("thing", 7), ("number", 8)]) rfl sc.nd (gi_seq (g_var (pv 1))) (blkOk_by (own := [("thing", 7), ("number", 8)]) (N := N__law_one) (sc := defScope s__law_one) (by decide +kernel)) (fun _ _ _ _ _ => (gg_tup rfl (ggs_cons (gg_name (pg_name (i := 7) sc.nd rfl (by first | exact .inl rfl | exact .inr rfl))) (ggs_cons (gg_name (pg_name (i := 8) sc.nd rfl (by first | exact .inl rfl | exact .inr rfl))) ggs_nil)))) (fun _ _ _ _ _ => (gts_one (gt_cmp (cg_in (hu64 hr)) (g_var (pv 7)) (g_C (g_var (pv 5))) rfl))) (fun _ _ _ _ _ => (g_var (pv 8))))))))
      (gss_cons (gs_set (i := 6) sc.nd rfl (.inl rfl) (g_bm (cm_min2 rfl) (by rfl) z.z_min boots_min (ga_cons g_int (ga_cons (g_callRH G__law_take hr (by rfl) ps0 (gar_here (pv 0) (ga_cons (g_ix (hu64 hr) (g_E (gn_lst (ga_cons (g_bin og_add (g_var (pv 4)) g_int) (ga_cons (g_bin og_add (g_bin og_fdiv (g_var (pv 4)) g_int) g_int) (ga_cons (g_bin og_add (g_bin og_fdiv (g_var (pv 4)) g_int) g_int) (ga_cons g_int ga_nil)))))) (g_callRH G__law_take hr (by rfl) ps0 (gar_here (pv 0) (ga_cons g_int ga_nil))) (fun _ _ => rfl)) ga_nil))) ga_nil))))
      (gss_one (gs_ret (g_tup (ga_cons (g_var (pv 2)) (ga_cons (g_t1 cg_tuple (by rfl) z.z_tuple boots_tuple (g_C (g_var (pv 5)))) (ga_cons (g_var (pv 6)) (ga_cons (g_if (gt_val (g_var (pv 3))) g_int (g_bin og_add g_int (g_callRH G__law_take hr (by rfl) ps0 (gar_here (pv 0) (ga_cons (g_ix (hu64 hr) (g_E (gn_lst (ga_cons g_int (ga_cons g_int (ga_cons g_int ga_nil))))) (g_callRH G__law_take hr (by rfl) ps0 (gar_here (pv 0) (ga_cons g_int ga_nil))) (fun _ _ => rfl)) ga_nil))))) ga_nil)))))))))))
/-! ### _law_folk -/
abbrev s__law_folk : Stmt := top 41
abbrev N__law_folk : List Str := ["well", "things", "top", "even", "names", "name"]
theorem sc__law_folk : FnScope N__law_folk ["well", "things", "top", "even"] (defScope s__law_folk) := ⟨rfl, rfl, rfl, by decide +kernel, rfl, by decide +kernel, by decide +kernel⟩
def m__law_folk (p__law_take : PSp) (p__law_one : PSp) : MS :=
  mSeq (mSet 4 (mSl (mLst (mCons (mC (.str "al")) (mCons (mC (.str "bo")) (mCons (mC (.str "cy")) (mCons (mC (.str "di")) (mCons (mC (.str "ed")) (mCons (mC (.str "fay")) (mCons (mC (.str "gus")) (mCons (mC (.str "hal")) (mNil)))))))))) mNo (mPart (mCallR p__law_take Wish.no.RE 0 0 (mHere 0 (mCons (mBin addD (mVar 2) (mC (.int 1))) (mNil)))))))
  (mRet (mCall1 tupD (mLc (iSq (mVar 4)) (mGN 5) (mYes) (mCallR p__law_one Wish.no.RE 0 0 (mHere 0 (mCons (mVar 1) (mCons (mVar 5) (mCons (mVar 3) (mNil)))))) [5])))
def b__law_folk (p__law_take : PSp) (p__law_one : PSp) : PSp := bodyD 4 N__law_folk (m__law_folk p__law_take p__law_one)
theorem ok__law_folk {P : Program} {w : World} {K : PySem.W.Frag} {mg : Str → Option Value} {base : Heap} (z : Zs K mg) {p__law_take : PSp} {p__law_one : PSp} (G__law_take : Has P w K mg base 1 "_law_take" ["well", "many"] (spD K mg 2 p__law_take)) (G__law_one : Has P w K mg base 2 "_law_one" ["well", "things", "name", "even"] (spD K mg 4 p__law_one)) {f : Addr} {fd : FuncData} (F : Fun K "_law_folk" "_law_folk" s__law_folk f fd) :
    FnOk P w K mg base CX0 (2 + 1) f fd ["well", "things", "top", "even"] (spD K mg 4 (b__law_folk p__law_take p__law_one)) := by
  have sc := sc__law_folk
  exact fn_okD F sc rfl fun cdv A outer s H E hr => by
    exact (gss_cons (gs_set (i := 4) sc.nd rfl (.inl rfl) (g_sl (g_E (gn_lst (ga_cons g_str (ga_cons g_str (ga_cons g_str (ga_cons g_str (ga_cons g_str (ga_cons g_str (ga_cons g_str (ga_cons g_str ga_nil)))))))))) go_none (go_some (g_callRH G__law_take (hr.mono (by omega)) (by rfl) ps0 (gar_here (pv 0) (ga_cons (g_bin og_add (g_var (pv 2)) g_int) ga_nil))))))
      (gss_one (gs_ret (g_t1 cg_tuple (by rfl) z.z_tuple boots_tuple (g_C (g_E (gn_lc (own := [("name", 5)]) rfl sc.nd (gi_seq (g_var (pv 4))) (blkOk_by (own := [("name", 5)]) (N := N__law_folk) (sc := defScope s__law_folk) (by decide +kernel)) (fun _ _ _ _ _ => (gg_name (pg_name (i := 5) sc.nd rfl (by first | exact .inl rfl | exact .inr rfl)))) (fun _ _ _ _ _ => gts_nil) (fun _ _ _ _ _ => (g_callRH G__law_one hr (by rfl) ps0 (gar_here (pv 0) (ga_cons (g_var (pv 1)) (ga_cons (g_var (pv 5)) (ga_cons (g_var (pv 3)) ga_nil)))))))))))))
/-! ### _law_shares -/
abbrev s__law_shares : Stmt := top 42
abbrev N__law_shares : List Str := ["things", "some", "found", "name", "wants", "worth", "weight", "total", "thing", "cost", "whole", "one"]
theorem sc__law_shares : FnScope N__law_shares ["things", "some"] (defScope s__law_shares) := ⟨rfl, rfl, rfl, by decide +kernel, rfl, by decide +kernel, by decide +kernel⟩
def m__law_shares (p__law_plus : PSp) (p__law_frac : PSp) : MS :=
  mSeq (mSetN 2 (mDict0))
  (mSeq (mFor (iSq (mVar 1)) (mGT [mGN 3, mGN 4, mGN 5, mGN 6])
  (mSeq (mSet 7 (mTup (mCons (mC (.int 0)) (mCons (mC (.int 1)) (mNil)))))
  (mSeq (mFor (iSq (mVar 0)) (mGT [mGN 8, mGN 9])
  (mIfS (mCmpB (inD false) (mVar 8) (mVar 4))
  (mSeq (mSet 10 (mCall1 sumD (mLc (iSq (mVar 1)) (mGN 11) (mCmpB (inD false) (mVar 8) (mIx (mVar 11) (mC (.int 1)))) (mIx (mVar 11) (mC (.int 3))) [11])))
  (mSet 7 (mCall p__law_plus Wish.no.RE (mCons (mVar 7) (mCons (mCall p__law_frac Wish.no.RE (mCons (mBin mulD (mVar 9) (mVar 6)) (mCons (mVar 10) (mNil)))) (mNil))))))
  (mNx)))
  (mStore 2 (mVar 3) (mVar 7)))))
  (mRet (mFz 2)))
def b__law_shares (p__law_plus : PSp) (p__law_frac : PSp) : PSp := bodyD 2 N__law_shares (m__law_shares p__law_plus p__law_frac)
theorem ok__law_shares {P : Program} {w : World} {K : PySem.W.Frag} {mg : Str → Option Value} {base : Heap} (z : Zs K mg) {p__law_plus : PSp} {p__law_frac : PSp} (G__law_plus : Has P w K mg base 2 "_law_plus" ["one", "other"] (spD K mg 2 p__law_plus)) (G__law_frac : Has P w K mg base 1 "_law_frac" ["top", "bottom"] (spD K mg 2 p__law_frac)) {f : Addr} {fd : FuncData} (F : Fun K "_law_shares" "_law_shares" s__law_shares f fd) :
    FnOk P w K mg base CX0 (2 + 1) f fd ["things", "some"] (spD K mg 2 (b__law_shares p__law_plus p__law_frac)) := by
  have sc := sc__law_shares
  exact fn_okD F sc rfl fun cdv A outer s H E hr => by
    exact (gss_cons (gs_setN (i := 2) sc.nd rfl (.inl rfl) gn_d0)
      (gss_cons (gs_for PassesOwn.never rfl (gi_seq (g_var (pv 1))) (gg_tup rfl (ggs_cons (gg_name (pg_name (i := 3) sc.nd rfl (.inl rfl))) (ggs_cons (gg_name (pg_name (i := 4) sc.nd rfl (.inl rfl))) (ggs_cons (gg_name (pg_name (i := 5) sc.nd rfl (.inl rfl))) (ggs_cons (gg_name (pg_name (i := 6) sc.nd rfl (.inl rfl))) ggs_nil)))))
      (gss_cons (gs_set (i := 7) sc.nd rfl (.inl rfl) (g_tup (ga_cons g_int (ga_cons g_int ga_nil))))
      (gss_cons (gs_for PassesOwn.never rfl (gi_seq (g_var (pv 0))) (gg_tup rfl (ggs_cons (gg_name (pg_name (i := 8) sc.nd rfl (.inr rfl))) (ggs_cons (gg_name (pg_name (i := 9) sc.nd rfl (.inl rfl))) ggs_nil)))
      (gss_one (gs_if (gt_cmp (cg_in (hu64 hr)) (g_var (pv 8)) (g_C (g_var (pv 4))) rfl)
      (gss_cons (gs_set (i := 10) sc.nd rfl (.inl rfl) (g_b1 (cg_sum rfl) (by rfl) z.z_sum boots_sum (g_C (g_E (gn_lc (own := [("one", 11)]) rfl sc.nd (gi_seq (g_var (pv 1))) (blkOk_by (own := [("one", 11)]) (N := N__law_shares) (sc := defScope s__law_shares) (by decide +kernel)) (fun _ _ _ _ _ => (gg_name (pg_name (i := 11) sc.nd rfl (by first | exact .inl rfl | exact .inr rfl)))) (fun _ _ _ _ _ => (gts_one (gt_cmp (cg_in (hu64 hr)) (g_var (pv 8)) (g_C (g_ix (hu64 hr) (g_var (pv 11)) g_int (fun _ _ => rfl))) rfl))) (fun _ _ _ _ _ => (g_ix (hu64 hr) (g_var (pv 11)) g_int (fun _ _ => rfl))))))))
      (gss_one (gs_set (i := 7) sc.nd rfl (.inl rfl) (g_callH G__law_plus hr (by rfl) ps0 (ga_cons (g_var (pv 7)) (ga_cons (g_callH G__law_frac (hr.mono (by omega)) (by rfl) ps0 (ga_cons (g_bin og_mul (g_var (pv 9)) (g_var (pv 6))) (ga_cons (g_var (pv 10)) ga_nil))) ga_nil))))))
      gss_nil)))
      (gss_one (gs_store (hu64 hr) (g_var (pv 7)) (pv 2) (g_var (pv 3)))))))
      (gss_one (gs_ret (g_fz (pv 2))))))
/-! ### _law_lots -/
abbrev s__law_lots : Stmt := top 43
abbrev N__law_lots : List Str := ["folk", "found", "one", "lot"]
theorem sc__law_lots : FnScope N__law_lots ["folk"] (defScope s__law_lots) := ⟨rfl, rfl, rfl, by decide +kernel, rfl, by decide +kernel, by decide +kernel⟩
def m__law_lots : MS :=
  mSeq (mSet 1 (mLst (mCons (mTup (mNil)) (mNil))))
  (mSeq (mFor (iSq (mVar 0)) (mGN 2)
  (mSet 1 (mBin addD (mVar 1) (mLc (iSq (mVar 1)) (mGN 3) (mYes) (mBin addD (mVar 3) (mTup (mCons (mVar 2) (mNil)))) [3]))))
  (mRet (mVar 1)))
def b__law_lots : PSp := bodyD 1 N__law_lots (m__law_lots)
theorem ok__law_lots {P : Program} {w : World} {K : PySem.W.Frag} {mg : Str → Option Value} {base : Heap} (z : Zs K mg) {f : Addr} {fd : FuncData} (F : Fun K "_law_lots" "_law_lots" s__law_lots f fd) :
    FnOk P w K mg base CX0 (0 + 1) f fd ["folk"] (spD K mg 1 (b__law_lots)) := by
  have sc := sc__law_lots
  exact fn_okD F sc rfl fun cdv A outer s H E hr => by
    exact (gss_cons (gs_set (i := 1) sc.nd rfl (.inl rfl) (g_E (gn_lst (ga_cons (g_tup ga_nil) ga_nil))))
      (gss_cons (gs_for PassesOwn.never rfl (gi_seq (g_var (pv 0))) (gg_name (pg_name (i := 2) sc.nd rfl (.inr rfl)))
      (gss_one (gs_set (i := 1) sc.nd rfl (.inl rfl) (g_bin og_add (g_var (pv 1)) (g_E (gn_lc (own := [("lot", 3)]) rfl sc.nd (gi_seq (g_var (pv 1))) (blkOk_by (own := [("lot", 3)]) (N := N__law_lots) (sc := defScope s__law_lots) (by decide +kernel)) (fun _ _ _ _ _ => (gg_name (pg_name (i := 3) sc.nd rfl (by first | exact .inl rfl | exact .inr rfl)))) (fun _ _ _ _ _ => gts_nil) (fun _ _ _ _ _ => (g_bin og_add (g_var (pv 3)) (g_tup (ga_cons (g_var (pv 2)) ga_nil))))))))))
      (gss_one (gs_ret (g_var (pv 1))))))
/-! ### _law_glad -/
abbrev s__law_glad : Stmt := top 44
abbrev N__law_glad : List Str := ["things", "some", "paid", "one"]
theorem sc__law_glad : FnScope N__law_glad ["things", "some"] (defScope s__law_glad) := ⟨rfl, rfl, rfl, by decide +kernel, rfl, by decide +kernel, by decide +kernel⟩
def m__law_glad (p__law_shares : PSp) (p__law_less : PSp) : MS :=
  mSeq (mSet 2 (mCall p__law_shares Wish.no.RE (mCons (mVar 0) (mCons (mVar 1) (mNil)))))
  (mRet (mCmp eqD (mLc (iSq (mVar 1)) (mGN 3) (mT (mCall p__law_less Wish.no.RE (mCons (mTup (mCons (mIx (mVar 3) (mC (.int 2))) (mCons (mC (.int 1)) (mNil)))) (mCons (mIx (mVar 2) (mIx (mVar 3) (mC (.int 0)))) (mNil))))) (mVar 3) [3]) (mLst (mNil))))
def b__law_glad (p__law_shares : PSp) (p__law_less : PSp) : PSp := bodyD 2 N__law_glad (m__law_glad p__law_shares p__law_less)
theorem ok__law_glad {P : Program} {w : World} {K : PySem.W.Frag} {mg : Str → Option Value} {base : Heap} (z : Zs K mg) {p__law_shares : PSp} {p__law_less : PSp} (G__law_shares : Has P w K mg base 3 "_law_shares" ["things", "some"] (spD K mg 2 p__law_shares)) (G__law_less : Has P w K mg base 1 "_law_less" ["one", "other"] (spD K mg 2 p__law_less)) {f : Addr} {fd : FuncData} (F : Fun K "_law_glad" "_law_glad" s__law_glad f fd) :
    FnOk P w K mg base CX0 (3 + 1) f fd ["things", "some"] (spD K mg 2 (b__law_glad p__law_shares p__law_less)) := by
  have sc := sc__law_glad
  exact fn_okD F sc rfl fun cdv A outer s H E hr => by
    exact (gss_cons (gs_set (i := 2) sc.nd rfl (.inr rfl) (g_callH G__law_shares hr (by rfl) ps0 (ga_cons (g_var (pv 0)) (ga_cons (g_var (pv 1)) ga_nil))))
      (gss_one (gs_ret (g_cmp (cg_eq (hu64 hr)) (g_E (gn_lc (own := [("one", 3)]) rfl sc.nd (gi_seq (g_var (pv 1))) (blkOk_by (own := [("one", 3)]) (N := N__law_glad) (sc := defScope s__law_glad) (by decide +kernel)) (fun _ _ _ _ _ => (gg_name (pg_name (i := 3) sc.nd rfl (by first | exact .inl rfl | exact .inr rfl)))) (fun _ _ _ _ _ => (gts_one (gt_val (g_callH G__law_less (hr.mono (by omega)) (by rfl) ps0 (ga_cons (g_tup (ga_cons (g_ix (hu64 hr) (g_var (pv 3)) g_int (fun _ _ => rfl)) (ga_cons g_int ga_nil))) (ga_cons (g_ix (hu64 hr) (g_var (pv 2)) (g_ix (hu64 hr) (g_var (pv 3)) g_int (fun _ _ => rfl)) (fun _ _ => rfl)) ga_nil)))))) (fun _ _ _ _ _ => (g_var (pv 3))))) (g_C (g_E (gn_lst ga_nil))) rfl))))
/-! ### _law_greatest -/
abbrev s__law_greatest : Stmt := top 45
abbrev N__law_greatest : List Str := ["things", "folk", "found", "lot", "one"]
theorem sc__law_greatest : FnScope N__law_greatest ["things", "folk"] (defScope s__law_greatest) := ⟨rfl, rfl, rfl, by decide +kernel, rfl, by decide +kernel, by decide +kernel⟩
def m__law_greatest (p__law_lots : PSp) (p__law_glad : PSp) : MS :=
  mSeq (mSetN 2 (mDict0))
  (mSeq (mFor (iSq (mCall p__law_lots Wish.no.RE (mCons (mVar 1) (mNil)))) (mGN 3)
  (mIfS (mAnd (mCmpB neD (mLc (iSq (mVar 3)) (mGN 4) (mCmpB (inD true) (mIx (mVar 4) (mC (.int 0))) (mVarC 2)) (mVar 4) [4]) (mLst (mNil))) (mT (mCall p__law_glad Wish.no.RE (mCons (mVar 0) (mCons (mVar 3) (mNil))))))
  (mFor (iSq (mVar 3)) (mGN 4)
  (mStore 2 (mIx (mVar 4) (mC (.int 0))) (mC (.bool true))))
  (mNx)))
  (mRet (mCall1 tupD (mCall1 sortedD (mVarC 2)))))
def b__law_greatest (p__law_lots : PSp) (p__law_glad : PSp) : PSp := bodyD 2 N__law_greatest (m__law_greatest p__law_lots p__law_glad)
theorem ok__law_greatest {P : Program} {w : World} {K : PySem.W.Frag} {mg : Str → Option Value} {base : Heap} (z : Zs K mg) {p__law_lots : PSp} {p__law_glad : PSp} (G__law_lots : Has P w K mg base 1 "_law_lots" ["folk"] (spD K mg 1 p__law_lots)) (G__law_glad : Has P w K mg base 4 "_law_glad" ["things", "some"] (spD K mg 2 p__law_glad)) {f : Addr} {fd : FuncData} (F : Fun K "_law_greatest" "_law_greatest" s__law_greatest f fd) :
    FnOk P w K mg base CX0 (4 + 1) f fd ["things", "folk"] (spD K mg 2 (b__law_greatest p__law_lots p__law_glad)) := by
  have sc := sc__law_greatest
  exact fn_okD F sc rfl fun cdv A outer s H E hr => by
    exact (gss_cons (gs_setN (i := 2) sc.nd rfl (.inr rfl) gn_d0)
      (gss_cons (gs_for PassesOwn.never rfl (gi_seq (g_callH G__law_lots (hr.mono (by omega)) (by rfl) ps0 (ga_cons (g_var (pv 1)) ga_nil))) (gg_name (pg_name (i := 3) sc.nd rfl (.inl rfl)))
      (gss_one (gs_if (gw_and (gt_cmp (cg_ne (hu64 hr)) (g_E (gn_lc (own := [("one", 4)]) rfl sc.nd (gi_seq (g_var (pv 3))) (blkOk_by (own := [("one", 4)]) (N := N__law_greatest) (sc := defScope s__law_greatest) (by decide +kernel)) (fun _ _ _ _ _ => (gg_name (pg_name (i := 4) sc.nd rfl (by first | exact .inl rfl | exact .inr rfl)))) (fun _ _ _ _ _ => (gts_one (gt_cmp (cg_notIn (hu64 hr)) (g_ix (hu64 hr) (g_var (pv 4)) g_int (fun _ _ => rfl)) (g_varC (pv 2)) rfl))) (fun _ _ _ _ _ => (g_var (pv 4))))) (g_C (g_E (gn_lst ga_nil))) rfl) (gw_and1 (gt_val (g_callH G__law_glad hr (by rfl) ps0 (ga_cons (g_var (pv 0)) (ga_cons (g_var (pv 3)) ga_nil)))))).pt
      (gss_one (gs_for PassesOwn.never rfl (gi_seq (g_var (pv 3))) (gg_name (pg_name (i := 4) sc.nd rfl (.inl rfl)))
      (gss_one (gs_store (hu64 hr) g_bl (pv 2) (g_ix (hu64 hr) (g_var (pv 4)) g_int (fun _ _ => rfl))))))
      gss_nil)))
      (gss_one (gs_ret (g_t1 cg_tuple (by rfl) z.z_tuple boots_tuple (g_C (g_E (gn_b1 (cn_sorted (hu200 hr) rfl) (by rfl) z.z_sorted boots_sorted (g_varC (pv 2))))))))))
/-! ### _law_said -/
abbrev s__law_said : Stmt := top 46
abbrev N__law_said : List Str := ["folk", "name", "worth", "one"]
theorem sc__law_said : FnScope N__law_said ["folk", "name", "worth"] (defScope s__law_said) := ⟨rfl, rfl, rfl, by decide +kernel, rfl, by decide +kernel, by decide +kernel⟩
def m__law_said : MS :=
  mRet (mCall1 tupD (mLc (iSq (mVar 0)) (mGN 3) (mYes) (mIf (mCmpB eqD (mIx (mVar 3) (mC (.int 0))) (mVar 1)) (mBin addD (mBin addD (mSl (mVar 3) mNo (mPart (mC (.int 2)))) (mTup (mCons (mVar 2) (mNil)))) (mSl (mVar 3) (mPart (mC (.int 3))) mNo)) (mVar 3)) [3]))
def b__law_said : PSp := bodyD 3 N__law_said (m__law_said)
theorem ok__law_said {P : Program} {w : World} {K : PySem.W.Frag} {mg : Str → Option Value} {base : Heap} (z : Zs K mg) {f : Addr} {fd : FuncData} (F : Fun K "_law_said" "_law_said" s__law_said f fd) :
    FnOk P w K mg base CX0 (0 + 1) f fd ["folk", "name", "worth"] (spD K mg 3 (b__law_said)) := by
  have sc := sc__law_said
  exact fn_okD F sc rfl fun cdv A outer s H E hr => by
    exact (gss_one (gs_ret (g_t1 cg_tuple (by rfl) z.z_tuple boots_tuple (g_C (g_E (gn_lc (own := [("one", 3)]) rfl sc.nd (gi_seq (g_var (pv 0))) (blkOk_by (own := [("one", 3)]) (N := N__law_said) (sc := defScope s__law_said) (by decide +kernel)) (fun _ _ _ _ _ => (gg_name (pg_name (i := 3) sc.nd rfl (by first | exact .inl rfl | exact .inr rfl)))) (fun _ _ _ _ _ => gts_nil) (fun _ _ _ _ _ => (g_if (gt_cmp (cg_eq (hu64 hr)) (g_ix (hu64 hr) (g_var (pv 3)) g_int (fun _ _ => rfl)) (g_C (g_var (pv 1))) rfl) (g_bin og_add (g_bin og_add (g_sl (g_var (pv 3)) go_none (go_some g_int)) (g_tup (ga_cons (g_var (pv 2)) ga_nil))) (g_sl (g_var (pv 3)) (go_some g_int) go_none)) (g_var (pv 3))))))))))
/-! ### _law_drawn_order -/
abbrev s__law_drawn_order : Stmt := top 47
abbrev N__law_drawn_order : List Str := ["well", "folk", "names", "found", "one"]
theorem sc__law_drawn_order : FnScope N__law_drawn_order ["well", "folk"] (defScope s__law_drawn_order) := ⟨rfl, rfl, rfl, by decide +kernel, rfl, by decide +kernel, by decide +kernel⟩
def m__law_drawn_order (p__law_take : PSp) : MS :=
  mSeq (mPar2 2 3 (pN (mLc (iSq (mVar 1)) (mGN 4) (mYes) (mIx (mVar 4) (mC (.int 0))) [4]) (pN (mLst (mNil)) (pNil))))
  (mSeq (mWhile (mCmpOB neD 2 (mLst (mNil)))
  (mDrop (mMut 3 appendD (mCons (mMut 2 popAtD (mCons (mCallR p__law_take Wish.no.RE 0 0 (mHere 0 (mCons (mCall1 lenD (mVarC 2)) (mNil)))) (mNil))) (mNil)))))
  (mRet (mCall1 tupD (mVarC 3))))
def b__law_drawn_order (p__law_take : PSp) : PSp := bodyD 2 N__law_drawn_order (m__law_drawn_order p__law_take)
theorem ok__law_drawn_order {P : Program} {w : World} {K : PySem.W.Frag} {mg : Str → Option Value} {base : Heap} (z : Zs K mg) {p__law_take : PSp} (G__law_take : Has P w K mg base 1 "_law_take" ["well", "many"] (spD K mg 2 p__law_take)) {f : Addr} {fd : FuncData} (F : Fun K "_law_drawn_order" "_law_drawn_order" s__law_drawn_order f fd) :
    FnOk P w K mg base CX0 (1 + 1) f fd ["well", "folk"] (spD K mg 2 (b__law_drawn_order p__law_take)) := by
  have sc := sc__law_drawn_order
  exact fn_okD F sc rfl fun cdv A outer s H E hr => by
    exact (gss_cons (gs_par (i := 2) (j := 3) rfl sc.nd rfl rfl (by decide) rfl rfl (gp_N (gn_lc (own := [("one", 4)]) rfl sc.nd (gi_seq (g_var (pv 1))) (blkOk_by (own := [("one", 4)]) (N := N__law_drawn_order) (sc := defScope s__law_drawn_order) (by decide +kernel)) (fun _ _ _ _ _ => (gg_name (pg_name (i := 4) sc.nd rfl (by first | exact .inl rfl | exact .inr rfl)))) (fun _ _ _ _ _ => gts_nil) (fun _ _ _ _ _ => (g_ix (hu64 hr) (g_var (pv 4)) g_int (fun _ _ => rfl)))) (gp_N (gn_lst ga_nil) gp_nil)) (by with_unfolding_all rfl))
      (gss_cons (gs_while PassesOwn.never (gt_cmpO (cg_ne (hu64 hr)) (pv 2) (g_C (g_E (gn_lst ga_nil))) rfl)
      (gss_one (gs_expr (g_mut PySem.F.slot_list_append PySem.F.type_list_append mt_append mr_append (pv 3) (ga_cons (g_mut PySem.F.slot_list_pop PySem.F.type_list_pop mt_popAt mr_popAt (pv 2) (ga_cons (g_callRH G__law_take hr (by rfl) ps0 (gar_here (pv 0) (ga_cons (g_b1 cg_len (by rfl) z.z_len boots_len (g_varC (pv 2))) ga_nil))) ga_nil) (pe_bm PySem.F.plainAttrs_list PySem.F.slot_list_pop PySem.F.type_list_pop mt_popAt (pv 2) (ga_cons (g_callRH G__law_take hr (by rfl) ps0 (gar_here (pv 0) (ga_cons (g_b1 cg_len (by rfl) z.z_len boots_len (g_varC (pv 2))) ga_nil))) ga_nil))) ga_nil) (pe_bm PySem.F.plainAttrs_list PySem.F.slot_list_append PySem.F.type_list_append mt_append (pv 3) (ga_cons (g_mut PySem.F.slot_list_pop PySem.F.type_list_pop mt_popAt mr_popAt (pv 2) (ga_cons (g_callRH G__law_take hr (by rfl) ps0 (gar_here (pv 0) (ga_cons (g_b1 cg_len (by rfl) z.z_len boots_len (g_varC (pv 2))) ga_nil))) ga_nil) (pe_bm PySem.F.plainAttrs_list PySem.F.slot_list_pop PySem.F.type_list_pop mt_popAt (pv 2) (ga_cons (g_callRH G__law_take hr (by rfl) ps0 (gar_here (pv 0) (ga_cons (g_b1 cg_len (by rfl) z.z_len boots_len (g_varC (pv 2))) ga_nil))) ga_nil))) ga_nil))))))
      (gss_one (gs_ret (g_t1 cg_tuple (by rfl) z.z_tuple boots_tuple (g_varC (pv 3)))))))
/-! ### _law_asked -/
abbrev s__law_asked : Stmt := top 48
abbrev N__law_asked : List Str := ["things", "folk", "order", "some", "gone", "quiet", "name", "here", "one"]
theorem sc__law_asked : FnScope N__law_asked ["things", "folk", "order"] (defScope s__law_asked) := ⟨rfl, rfl, rfl, by decide +kernel, rfl, by decide +kernel, by decide +kernel⟩
def m__law_asked (p__law_less : PSp) (p__law_shares : PSp) : MS :=
  mSeq (mPar3 3 4 5 (pN (mCall1 listD (mVar 1)) (pN (mLst (mNil)) (pE (mC (.int 0)) (pNil)))))
  (mSeq (mWhile (mCmpB ltD (mVar 5) (mCallM max2D (mCons (mC (.int 1)) (mCons (mCall1 lenD (mVar 2)) (mNil)))))
  (mSeq (mFor (iSq (mVar 2)) (mGN 6)
  (mSeq (mSet 5 (mBin addD (mVar 5) (mC (.int 1))))
  (mSeq (mSet 7 (mLcO 3 (mGN 8) (mCmpB eqD (mIx (mVar 8) (mC (.int 0))) (mVar 6)) (mVar 8) [8]))
  (mIfS (mAnd (mCmpB neD (mVar 7) (mLst (mNil))) (mT (mCall p__law_less Wish.no.RE (mCons (mTup (mCons (mIx (mIx (mVar 7) (mC (.int 0))) (mC (.int 2))) (mCons (mC (.int 1)) (mNil)))) (mCons (mIx (mCallL p__law_shares Wish.no.RE 1 3 (mCons (mVar 0) (mHere 3 (mNil)))) (mVar 6)) (mNil))))))
  (mSeq (mDrop (mMut 3 removeD (mCons (mIx (mVar 7) (mC (.int 0))) (mNil))))
  (mSeq (mDrop (mMut 4 appendD (mCons (mVar 6) (mNil))))
  (mSet 5 (mC (.int 0)))))
  (mNx)))))
  (mSet 5 (mBin addD (mVar 5) (mCall1 intD (mCmp eqD (mVar 2) (mTup (mNil))))))))
  (mRet (mTup (mCons (mCall1 tupD (mLcO 3 (mGN 8) (mYes) (mIx (mVar 8) (mC (.int 0))) [8])) (mCons (mCall1 tupD (mVarC 4)) (mNil))))))
def b__law_asked (p__law_less : PSp) (p__law_shares : PSp) : PSp := bodyD 3 N__law_asked (m__law_asked p__law_less p__law_shares)
theorem ok__law_asked {P : Program} {w : World} {K : PySem.W.Frag} {mg : Str → Option Value} {base : Heap} (z : Zs K mg) {p__law_less : PSp} {p__law_shares : PSp} (G__law_less : Has P w K mg base 1 "_law_less" ["one", "other"] (spD K mg 2 p__law_less)) (G__law_shares : Has P w K mg base 3 "_law_shares" ["things", "some"] (spD K mg 2 p__law_shares)) {f : Addr} {fd : FuncData} (F : Fun K "_law_asked" "_law_asked" s__law_asked f fd) :
    FnOk P w K mg base CX0 (3 + 1) f fd ["things", "folk", "order"] (spD K mg 3 (b__law_asked p__law_less p__law_shares)) := by
  have sc := sc__law_asked
  exact fn_okD F sc rfl fun cdv A outer s H E hr => by
    exact (gss_cons (gs_par3 (i := 3) (j := 4) (l := 5) rfl sc.nd rfl rfl rfl (by decide) (by decide) (by decide) rfl rfl rfl (gp_N (gn_t1 cn_list (by rfl) z.z_list boots_list (g_C (g_var (pv 1)))) (gp_N (gn_lst ga_nil) (gp_E g_int gp_nil))) (by with_unfolding_all rfl))
      (gss_cons (gs_while PassesOwn.never (gt_cmp cg_lt (g_var (pv 5)) (g_C (g_bm (cm_max2 rfl) (by rfl) z.z_max boots_max (ga_cons g_int (ga_cons (g_b1 cg_len (by rfl) z.z_len boots_len (g_C (g_var (pv 2)))) ga_nil)))) rfl)
      (gss_cons (gs_for PassesOwn.never rfl (gi_seq (g_var (pv 2))) (gg_name (pg_name (i := 6) sc.nd rfl (.inr rfl)))
      (gss_cons (gs_set (i := 5) sc.nd rfl (.inl rfl) (g_bin og_add (g_var (pv 5)) g_int))
      (gss_cons (gs_setLcO (j := 7) (own := [("one", 8)]) rfl sc.nd rfl rfl (sw_true rfl rfl rfl (by decide +kernel)) (pv 3) (blkOk_by (own := [("one", 8)]) (N := N__law_asked) (sc := defScope s__law_asked) (by decide +kernel)) (fun _ _ _ _ _ => (gg_name (pg_name (i := 8) sc.nd rfl (by first | exact .inl rfl | exact .inr rfl)))) (fun _ _ _ _ _ => (gts_one (gt_cmp (cg_eq (hu64 hr)) (g_ix (hu64 hr) (g_var (pv 8)) g_int (fun _ _ => rfl)) (g_C (g_var (pv 6))) rfl))) (fun _ _ _ _ _ => (g_var (pv 8))))
      (gss_one (gs_if (gw_and (gt_cmp (cg_ne (hu64 hr)) (g_var (pv 7)) (g_C (g_E (gn_lst ga_nil))) rfl) (gw_and1 (gt_val (g_callH G__law_less (hr.mono (by omega)) (by rfl) ps0 (ga_cons (g_tup (ga_cons (g_ix (hu64 hr) (g_ix (hu64 hr) (g_var (pv 7)) g_int (fun _ _ => rfl)) g_int (fun _ _ => rfl)) (ga_cons g_int ga_nil))) (ga_cons (g_ix (hu64 hr) (g_callL G__law_shares hr (by rfl) ps0 (gar_next (g_var (pv 0)) (gar_here (pv 3) ga_nil))) (g_var (pv 6)) (fun _ _ => rfl)) ga_nil)))))).pt
      (gss_cons (gs_expr (g_mut PySem.F.slot_list_remove PySem.F.type_list_remove (mt_remove (hu64 hr)) mr_remove (pv 3) (ga_cons (g_ix (hu64 hr) (g_var (pv 7)) g_int (fun _ _ => rfl)) ga_nil) (pe_bm PySem.F.plainAttrs_list PySem.F.slot_list_remove PySem.F.type_list_remove (mt_remove (hu64 hr)) (pv 3) (ga_cons (g_ix (hu64 hr) (g_var (pv 7)) g_int (fun _ _ => rfl)) ga_nil))))
      (gss_cons (gs_expr (g_mut PySem.F.slot_list_append PySem.F.type_list_append mt_append mr_append (pv 4) (ga_cons (g_var (pv 6)) ga_nil) (pe_bm PySem.F.plainAttrs_list PySem.F.slot_list_append PySem.F.type_list_append mt_append (pv 4) (ga_cons (g_var (pv 6)) ga_nil))))
      (gss_one (gs_set (i := 5) sc.nd rfl (.inl rfl) g_int))))
      gss_nil)))))
      (gss_one (gs_set (i := 5) sc.nd rfl (.inl rfl) (g_bin og_add (g_var (pv 5)) (g_t1 cg_int (by rfl) z.z_int boots_int (g_C (g_cmp (cg_eq (hu64 hr)) (g_var (pv 2)) (g_C (g_tup ga_nil)) rfl))))))))
      (gss_one (gs_ret (g_tup (ga_cons (g_t1 cg_tuple (by rfl) z.z_tuple boots_tuple (g_C (g_E (gn_lcO (own := [("one", 8)]) rfl sc.nd (pv 3) (blkOk_by (own := [("one", 8)]) (N := N__law_asked) (sc := defScope s__law_asked) (by decide +kernel)) (fun _ _ _ _ _ => (gg_name (pg_name (i := 8) sc.nd rfl (by first | exact .inl rfl | exact .inr rfl)))) (fun _ _ _ _ _ => gts_nil) (fun _ _ _ _ _ => (g_ix (hu64 hr) (g_var (pv 8)) g_int (fun _ _ => rfl))))))) (ga_cons (g_t1 cg_tuple (by rfl) z.z_tuple boots_tuple (g_varC (pv 4))) ga_nil)))))))
/-! ### _law_better -/
abbrev s__law_better : Stmt := top 49
abbrev N__law_better : List Str := ["well", "things", "folk", "found", "at", "name", "cost", "one"]
theorem sc__law_better : FnScope N__law_better ["well", "things", "folk"] (defScope s__law_better) := ⟨rfl, rfl, rfl, by decide +kernel, rfl, by decide +kernel, by decide +kernel⟩
def m__law_better (p__law_take : PSp) (p__law_said : PSp) (p__law_one : PSp) : MS :=
  mSeq (mSetN 3 (mLst (mNil)))
  (mSeq (mSet 4 (mCallR p__law_take Wish.no.RE 0 0 (mHere 0 (mCons (mCall1 lenD (mVar 1)) (mNil)))))
  (mSeq (mAsg (mIx (mVar 1) (mVar 4)) (mGT [mGN 5, mGN 6]))
  (mSeq (mDrop (mMut 3 appendD (mCons (mTup (mCons (mBin addD (mBin addD (mSl (mVar 1) mNo (mPart (mVar 4))) (mTup (mCons (mTup (mCons (mVar 5) (mCons (mCallR p__law_take Wish.no.RE 0 0 (mHere 0 (mCons (mBin addD (mVar 6) (mC (.int 1))) (mNil)))) (mNil)))) (mNil)))) (mSl (mVar 1) (mPart (mBin addD (mVar 4) (mC (.int 1)))) mNo)) (mCons (mVar 2) (mNil)))) (mNil))))
  (mSeq (mIfS (mCmpB neD (mVar 2) (mTup (mNil)))
  (mSeq (mSet 7 (mIx (mVar 2) (mCallR p__law_take Wish.no.RE 0 0 (mHere 0 (mCons (mCall1 lenD (mVar 2)) (mNil))))))
  (mDrop (mMut 3 appendD (mCons (mTup (mCons (mVar 1) (mCons (mCall p__law_said Wish.no.RE (mCons (mVar 2) (mCons (mIx (mVar 7) (mC (.int 0))) (mCons (mCallM min2D (mCons (mC (.int 1000)) (mCons (mBin addD (mBin addD (mIx (mVar 7) (mC (.int 2))) (mC (.int 1))) (mCallR p__law_take Wish.no.RE 0 0 (mHere 0 (mCons (mC (.int 90)) (mNil))))) (mNil)))) (mNil))))) (mNil)))) (mNil)))))
  (mNx))
  (mSeq (mIfS (mCmpB ltD (mCall1 lenD (mVar 2)) (mC (.int 8)))
  (mDrop (mMut 3 appendD (mCons (mTup (mCons (mVar 1) (mCons (mBin addD (mVar 2) (mTup (mCons (mCallR p__law_one Wish.no.RE 0 0 (mHere 0 (mCons (mVar 1) (mCons (mC (.str "zed")) (mCons (mC (.bool false)) (mNil)))))) (mNil)))) (mNil)))) (mNil))))
  (mNx))
  (mRet (mFz 3)))))))
def b__law_better (p__law_take : PSp) (p__law_said : PSp) (p__law_one : PSp) : PSp := bodyD 3 N__law_better (m__law_better p__law_take p__law_said p__law_one)
theorem ok__law_better {P : Program} {w : World} {K : PySem.W.Frag} {mg : Str → Option Value} {base : Heap} (z : Zs K mg) {p__law_take : PSp} {p__law_said : PSp} {p__law_one : PSp} (G__law_take : Has P w K mg base 1 "_law_take" ["well", "many"] (spD K mg 2 p__law_take)) (G__law_said : Has P w K mg base 1 "_law_said" ["folk", "name", "worth"] (spD K mg 3 p__law_said)) (G__law_one : Has P w K mg base 2 "_law_one" ["well", "things", "name", "even"] (spD K mg 4 p__law_one)) {f : Addr} {fd : FuncData} (F : Fun K "_law_better" "_law_better" s__law_better f fd) :
    FnOk P w K mg base CX0 (2 + 1) f fd ["well", "things", "folk"] (spD K mg 3 (b__law_better p__law_take p__law_said p__law_one)) := by
  have sc := sc__law_better
  exact fn_okD F sc rfl fun cdv A outer s H E hr => by
    exact (gss_cons (gs_setN (i := 3) sc.nd rfl (.inl rfl) (gn_lst ga_nil))
      (gss_cons (gs_set (i := 4) sc.nd rfl (.inl rfl) (g_callRH G__law_take (hr.mono (by omega)) (by rfl) ps0 (gar_here (pv 0) (ga_cons (g_b1 cg_len (by rfl) z.z_len boots_len (g_C (g_var (pv 1)))) ga_nil))))
      (gss_cons (gs_asg (g_ix (hu64 hr) (g_var (pv 1)) (g_var (pv 4)) (fun _ _ => rfl)) (gg_tup rfl (ggs_cons (gg_name (pg_name (i := 5) sc.nd rfl (.inl rfl))) (ggs_cons (gg_name (pg_name (i := 6) sc.nd rfl (.inl rfl))) ggs_nil))))
      (gss_cons (gs_expr (g_mut PySem.F.slot_list_append PySem.F.type_list_append mt_append mr_append (pv 3) (ga_cons (g_tup (ga_cons (g_bin og_add (g_bin og_add (g_sl (g_var (pv 1)) go_none (go_some (g_var (pv 4)))) (g_tup (ga_cons (g_tup (ga_cons (g_var (pv 5)) (ga_cons (g_callRH G__law_take (hr.mono (by omega)) (by rfl) ps0 (gar_here (pv 0) (ga_cons (g_bin og_add (g_var (pv 6)) g_int) ga_nil))) ga_nil))) ga_nil))) (g_sl (g_var (pv 1)) (go_some (g_bin og_add (g_var (pv 4)) g_int)) go_none)) (ga_cons (g_var (pv 2)) ga_nil))) ga_nil) (pe_bm PySem.F.plainAttrs_list PySem.F.slot_list_append PySem.F.type_list_append mt_append (pv 3) (ga_cons (g_tup (ga_cons (g_bin og_add (g_bin og_add (g_sl (g_var (pv 1)) go_none (go_some (g_var (pv 4)))) (g_tup (ga_cons (g_tup (ga_cons (g_var (pv 5)) (ga_cons (g_callRH G__law_take (hr.mono (by omega)) (by rfl) ps0 (gar_here (pv 0) (ga_cons (g_bin og_add (g_var (pv 6)) g_int) ga_nil))) ga_nil))) ga_nil))) (g_sl (g_var (pv 1)) (go_some (g_bin og_add (g_var (pv 4)) g_int)) go_none)) (ga_cons (g_var (pv 2)) ga_nil))) ga_nil))))
      (gss_cons (gs_if (gt_cmp (cg_ne (hu64 hr)) (g_var (pv 2)) (g_C (g_tup ga_nil)) rfl)
      (gss_cons (gs_set (i := 7) sc.nd rfl (.inl rfl) (g_ix (hu64 hr) (g_var (pv 2)) (g_callRH G__law_take (hr.mono (by omega)) (by rfl) ps0 (gar_here (pv 0) (ga_cons (g_b1 cg_len (by rfl) z.z_len boots_len (g_C (g_var (pv 2)))) ga_nil))) (fun _ _ => rfl)))
      (gss_one (gs_expr (g_mut PySem.F.slot_list_append PySem.F.type_list_append mt_append mr_append (pv 3) (ga_cons (g_tup (ga_cons (g_var (pv 1)) (ga_cons (g_callH G__law_said (hr.mono (by omega)) (by rfl) ps0 (ga_cons (g_var (pv 2)) (ga_cons (g_ix (hu64 hr) (g_var (pv 7)) g_int (fun _ _ => rfl)) (ga_cons (g_bm (cm_min2 rfl) (by rfl) z.z_min boots_min (ga_cons g_int (ga_cons (g_bin og_add (g_bin og_add (g_ix (hu64 hr) (g_var (pv 7)) g_int (fun _ _ => rfl)) g_int) (g_callRH G__law_take (hr.mono (by omega)) (by rfl) ps0 (gar_here (pv 0) (ga_cons g_int ga_nil)))) ga_nil))) ga_nil)))) ga_nil))) ga_nil) (pe_bm PySem.F.plainAttrs_list PySem.F.slot_list_append PySem.F.type_list_append mt_append (pv 3) (ga_cons (g_tup (ga_cons (g_var (pv 1)) (ga_cons (g_callH G__law_said (hr.mono (by omega)) (by rfl) ps0 (ga_cons (g_var (pv 2)) (ga_cons (g_ix (hu64 hr) (g_var (pv 7)) g_int (fun _ _ => rfl)) (ga_cons (g_bm (cm_min2 rfl) (by rfl) z.z_min boots_min (ga_cons g_int (ga_cons (g_bin og_add (g_bin og_add (g_ix (hu64 hr) (g_var (pv 7)) g_int (fun _ _ => rfl)) g_int) (g_callRH G__law_take (hr.mono (by omega)) (by rfl) ps0 (gar_here (pv 0) (ga_cons g_int ga_nil)))) ga_nil))) ga_nil)))) ga_nil))) ga_nil))))))
      gss_nil)
      (gss_cons (gs_if (gt_cmp cg_lt (g_b1 cg_len (by rfl) z.z_len boots_len (g_C (g_var (pv 2)))) (g_C g_int) rfl)
      (gss_one (gs_expr (g_mut PySem.F.slot_list_append PySem.F.type_list_append mt_append mr_append (pv 3) (ga_cons (g_tup (ga_cons (g_var (pv 1)) (ga_cons (g_bin og_add (g_var (pv 2)) (g_tup (ga_cons (g_callRH G__law_one hr (by rfl) ps0 (gar_here (pv 0) (ga_cons (g_var (pv 1)) (ga_cons g_str (ga_cons g_bl ga_nil))))) ga_nil))) ga_nil))) ga_nil) (pe_bm PySem.F.plainAttrs_list PySem.F.slot_list_append PySem.F.type_list_append mt_append (pv 3) (ga_cons (g_tup (ga_cons (g_var (pv 1)) (ga_cons (g_bin og_add (g_var (pv 2)) (g_tup (ga_cons (g_callRH G__law_one hr (by rfl) ps0 (gar_here (pv 0) (ga_cons (g_var (pv 1)) (ga_cons g_str (ga_cons g_bl ga_nil))))) ga_nil))) ga_nil))) ga_nil)))))
      gss_nil)
      (gss_one (gs_ret (g_fz (pv 3))))))))))
/-! ### law -/
abbrev s_law : Stmt := top 50
abbrev N_law : List Str := ["script", "k", "well", "things", "folk", "told", "turn", "order", "due", "cheap", "some", "one", "three", "name"]
theorem sc_law : FnScope N_law ["script"] (defScope s_law) := ⟨rfl, rfl, rfl, by decide +kernel, rfl, by decide +kernel, by decide +kernel⟩
def m_law (p__law_well : PSp) (p__law_things : PSp) (p__law_folk : PSp) (p_left : PSp) (p__law_greatest : PSp) (p__law_drawn_order : PSp) (p__law_asked : PSp) (p_asked : PSp) (p__law_better : PSp) : MS :=
  mSeq (mFor (iRg (mCallM max2D (mCons (mC (.int 5)) (mCons (mCallM min2D (mCons (mC (.int 24)) (mCons (mLenS 0) (mNil)))) (mNil))))) (mGN 1)
  (mSeq (mSetN 2 (mCallRN p__law_well Wish.no.RE 0 0 (mHere 0 (mCons (mVar 1) (mNil)))))
  (mSeq (mSet 3 (mCallR p__law_things Wish.no.RE 0 2 (mHere 2 (mCons (mC (.int 8)) (mNil)))))
  (mSeq (mSet 4 (mCallR p__law_folk Wish.no.RE 0 2 (mHere 2 (mCons (mVar 3) (mCons (mC (.int 8)) (mCons (mC (.bool false)) (mNil)))))))
  (mSeq (mSet 5 (mCall p_left Wish.no.RE (mCons (mVar 3) (mCons (mVar 4) (mNil)))))
  (mSeq (mIfS (mCmpB neD (mVar 5) (mCall p__law_greatest Wish.no.RE (mCons (mVar 3) (mCons (mVar 4) (mNil)))))
  (mRet (mC (.bool false)))
  (mNx))
  (mSeq (mFor (iRg (mC (.int 3))) (mGN 6)
  (mSeq (mSet 7 (mCallR p__law_drawn_order Wish.no.RE 0 2 (mHere 2 (mCons (mVar 4) (mNil)))))
  (mSeq (mSet 8 (mCall p__law_asked Wish.no.RE (mCons (mVar 3) (mCons (mVar 4) (mCons (mVar 7) (mNil))))))
  (mIfS (mOr (mCmpB neD (mCall p_asked Wish.no.RE (mCons (mVar 3) (mCons (mVar 4) (mCons (mVar 7) (mNil))))) (mVar 8)) (mCmpB neD (mIx (mVar 8) (mC (.int 0))) (mVar 5)))
  (mRet (mC (.bool false)))
  (mNx)))))
  (mFor (iSq (mCallR p__law_better Wish.no.RE 0 2 (mHere 2 (mCons (mVar 3) (mCons (mVar 4) (mNil)))))) (mGT [mGN 9, mGN 10])
  (mIfS (mCmpB neD (mLc (iSq (mVar 5)) (mGN 13) (mCmpB (inD true) (mVar 13) (mCall p_left Wish.no.RE (mCons (mVar 9) (mCons (mVar 10) (mNil))))) (mVar 13) [13]) (mLst (mNil)))
  (mRet (mC (.bool false)))
  (mNx))))))))))
  (mSeq (mSet 11 (mTup (mCons (mTup (mCons (mC (.str "road")) (mCons (mC (.int 9)) (mNil)))) (mNil))))
  (mSeq (mSet 12 (mTup (mCons (mTup (mCons (mC (.str "a")) (mCons (mTup (mCons (mC (.str "road")) (mNil))) (mCons (mC (.int 5)) (mCons (mC (.int 1)) (mNil)))))) (mCons (mTup (mCons (mC (.str "b")) (mCons (mTup (mCons (mC (.str "road")) (mNil))) (mCons (mC (.int 4)) (mCons (mC (.int 1)) (mNil)))))) (mCons (mTup (mCons (mC (.str "c")) (mCons (mTup (mCons (mC (.str "road")) (mNil))) (mCons (mC (.int 2)) (mCons (mC (.int 1)) (mNil)))))) (mNil))))))
  (mSeq (mIfS (mCmpB neD (mCall p_asked Wish.no.RE (mCons (mVar 11) (mCons (mVar 12) (mCons (mTup (mCons (mC (.str "c")) (mCons (mC (.str "b")) (mCons (mC (.str "a")) (mNil))))) (mNil))))) (mTup (mCons (mTup (mNil)) (mCons (mTup (mCons (mC (.str "c")) (mCons (mC (.str "b")) (mCons (mC (.str "a")) (mNil))))) (mNil)))))
  (mRet (mC (.bool false)))
  (mNx))
  (mSeq (mIfS (mCmpB neD (mCall p_left Wish.no.RE (mCons (mVar 11) (mCons (mBin addD (mSl (mVar 12) mNo (mPart (mC (.int 2)))) (mTup (mCons (mTup (mCons (mC (.str "c")) (mCons (mTup (mCons (mC (.str "road")) (mNil))) (mCons (mC (.int 3)) (mCons (mC (.int 1)) (mNil)))))) (mNil)))) (mNil)))) (mTup (mCons (mC (.str "a")) (mCons (mC (.str "b")) (mCons (mC (.str "c")) (mNil))))))
  (mRet (mC (.bool false)))
  (mNx))
  (mRet (mCmp eqD (mCall p_asked Wish.no.RE (mCons (mVar 11) (mCons (mVar 12) (mCons (mTup (mCons (mC (.str "a")) (mCons (mC (.str "b")) (mCons (mC (.str "c")) (mNil))))) (mNil))))) (mTup (mCons (mTup (mNil)) (mCons (mTup (mCons (mC (.str "c")) (mCons (mC (.str "b")) (mCons (mC (.str "a")) (mNil))))) (mNil))))))))))
def b_law (p__law_well : PSp) (p__law_things : PSp) (p__law_folk : PSp) (p_left : PSp) (p__law_greatest : PSp) (p__law_drawn_order : PSp) (p__law_asked : PSp) (p_asked : PSp) (p__law_better : PSp) : PSp := bodyD 1 N_law (m_law p__law_well p__law_things p__law_folk p_left p__law_greatest p__law_drawn_order p__law_asked p_asked p__law_better)
theorem ok_law {P : Program} {w : World} {K : PySem.W.Frag} {mg : Str → Option Value} {base : Heap} (z : Zs K mg) {p__law_well : PSp} {p__law_things : PSp} {p__law_folk : PSp} {p_left : PSp} {p__law_greatest : PSp} {p__law_drawn_order : PSp} {p__law_asked : PSp} {p_asked : PSp} {p__law_better : PSp} (G__law_well : Has P w K mg base 1 "_law_well" ["script", "k"] (spN K mg 2 p__law_well)) (G__law_things : Has P w K mg base 2 "_law_things" ["well", "top"] (spD K mg 2 p__law_things)) (G__law_folk : Has P w K mg base 3 "_law_folk" ["well", "things", "top", "even"] (spD K mg 4 p__law_folk)) (G_left : Has P w K mg base 6 "left" ["things", "folk"] (spD K mg 2 p_left)) (G__law_greatest : Has P w K mg base 5 "_law_greatest" ["things", "folk"] (spD K mg 2 p__law_greatest)) (G__law_drawn_order : Has P w K mg base 2 "_law_drawn_order" ["well", "folk"] (spD K mg 2 p__law_drawn_order)) (G__law_asked : Has P w K mg base 4 "_law_asked" ["things", "folk", "order"] (spD K mg 3 p__law_asked)) (G_asked : Has P w K mg base 6 "asked" ["things", "folk", "order"] (spD K mg 3 p_asked)) (G__law_better : Has P w K mg base 3 "_law_better" ["well", "things", "folk"] (spD K mg 3 p__law_better)) {f : Addr} {fd : FuncData} (F : Fun K "law" "law" s_law f fd) :
    FnOk P w K mg base CX0 (6 + 1) f fd ["script"] (spD K mg 1 (b_law p__law_well p__law_things p__law_folk p_left p__law_greatest p__law_drawn_order p__law_asked p_asked p__law_better)) := by
  have sc := sc_law
  exact fn_okD F sc rfl fun cdv A outer s H E hr => by
    exact (gss_cons (gs_for PassesOwn.never rfl (gi_range (by rfl) z.z_range (g_bm (cm_max2 rfl) (by rfl) z.z_max boots_max (ga_cons g_int (ga_cons (g_bm (cm_min2 rfl) (by rfl) z.z_min boots_min (ga_cons g_int (ga_cons (g_lenS (by rfl) z.z_len (pv 0)) ga_nil))) ga_nil)))) (gg_name (pg_name (i := 1) sc.nd rfl (.inl rfl)))
      (gss_cons (gs_setN (i := 2) sc.nd rfl (.inl rfl) (gn_callRH G__law_well (hr.mono (by omega)) (by rfl) ps0 (gar_here (pv 0) (ga_cons (g_var (pv 1)) ga_nil))))
      (gss_cons (gs_set (i := 3) sc.nd rfl (.inl rfl) (g_callRH G__law_things (hr.mono (by omega)) (by rfl) ps0 (gar_here (pv 2) (ga_cons g_int ga_nil))))
      (gss_cons (gs_set (i := 4) sc.nd rfl (.inl rfl) (g_callRH G__law_folk (hr.mono (by omega)) (by rfl) ps0 (gar_here (pv 2) (ga_cons (g_var (pv 3)) (ga_cons g_int (ga_cons g_bl ga_nil))))))
      (gss_cons (gs_set (i := 5) sc.nd rfl (.inl rfl) (g_callH G_left hr (by rfl) ps0 (ga_cons (g_var (pv 3)) (ga_cons (g_var (pv 4)) ga_nil))))
      (gss_cons (gs_if (gt_cmp (cg_ne (hu64 hr)) (g_var (pv 5)) (g_C (g_callH G__law_greatest (hr.mono (by omega)) (by rfl) ps0 (ga_cons (g_var (pv 3)) (ga_cons (g_var (pv 4)) ga_nil)))) rfl)
      (gss_one (gs_ret g_bl))
      gss_nil)
      (gss_cons (gs_for PassesOwn.never rfl (gi_range (by rfl) z.z_range g_int) (gg_name (pg_name (i := 6) sc.nd rfl (.inl rfl)))
      (gss_cons (gs_set (i := 7) sc.nd rfl (.inl rfl) (g_callRH G__law_drawn_order (hr.mono (by omega)) (by rfl) ps0 (gar_here (pv 2) (ga_cons (g_var (pv 4)) ga_nil))))
      (gss_cons (gs_set (i := 8) sc.nd rfl (.inl rfl) (g_callH G__law_asked (hr.mono (by omega)) (by rfl) ps0 (ga_cons (g_var (pv 3)) (ga_cons (g_var (pv 4)) (ga_cons (g_var (pv 7)) ga_nil)))))
      (gss_one (gs_if (gw_or (gt_cmp (cg_ne (hu64 hr)) (g_callH G_asked hr (by rfl) ps0 (ga_cons (g_var (pv 3)) (ga_cons (g_var (pv 4)) (ga_cons (g_var (pv 7)) ga_nil)))) (g_C (g_var (pv 8))) rfl) (gw_or1 (gt_cmp (cg_ne (hu64 hr)) (g_ix (hu64 hr) (g_var (pv 8)) g_int (fun _ _ => rfl)) (g_C (g_var (pv 5))) rfl))).pt
      (gss_one (gs_ret g_bl))
      gss_nil)))))
      (gss_one (gs_for PassesOwn.never rfl (gi_seq (g_callRH G__law_better (hr.mono (by omega)) (by rfl) ps0 (gar_here (pv 2) (ga_cons (g_var (pv 3)) (ga_cons (g_var (pv 4)) ga_nil))))) (gg_tup rfl (ggs_cons (gg_name (pg_name (i := 9) sc.nd rfl (.inr rfl))) (ggs_cons (gg_name (pg_name (i := 10) sc.nd rfl (.inr rfl))) ggs_nil)))
      (gss_one (gs_if (gt_cmp (cg_ne (hu64 hr)) (g_E (gn_lc (own := [("name", 13)]) rfl sc.nd (gi_seq (g_var (pv 5))) (blkOk_by (own := [("name", 13)]) (N := N_law) (sc := defScope s_law) (by decide +kernel)) (fun _ _ _ _ _ => (gg_name (pg_name (i := 13) sc.nd rfl (by first | exact .inl rfl | exact .inr rfl)))) (fun _ _ _ _ _ => (gts_one (gt_cmp (cg_notIn (hu64 hr)) (g_var (pv 13)) (g_C (g_callH G_left hr (by rfl) ps0 (ga_cons (g_var (pv 9)) (ga_cons (g_var (pv 10)) ga_nil)))) rfl))) (fun _ _ _ _ _ => (g_var (pv 13))))) (g_C (g_E (gn_lst ga_nil))) rfl)
      (gss_one (gs_ret g_bl))
      gss_nil)))))))))))
      (gss_cons (gs_set (i := 11) sc.nd rfl (.inl rfl) (g_tup (ga_cons (g_tup (ga_cons g_str (ga_cons g_int ga_nil))) ga_nil)))
      (gss_cons (gs_set (i := 12) sc.nd rfl (.inl rfl) (g_tup (ga_cons (g_tup (ga_cons g_str (ga_cons (g_tup (ga_cons g_str ga_nil)) (ga_cons g_int (ga_cons g_int ga_nil))))) (ga_cons (g_tup (ga_cons g_str (ga_cons (g_tup (ga_cons g_str ga_nil)) (ga_cons g_int (ga_cons g_int ga_nil))))) (ga_cons (g_tup (ga_cons g_str (ga_cons (g_tup (ga_cons g_str ga_nil)) (ga_cons g_int (ga_cons g_int ga_nil))))) ga_nil)))))
      (gss_cons (gs_if (gt_cmp (cg_ne (hu64 hr)) (g_callH G_asked hr (by rfl) ps0 (ga_cons (g_var (pv 11)) (ga_cons (g_var (pv 12)) (ga_cons (g_tup (ga_cons g_str (ga_cons g_str (ga_cons g_str ga_nil)))) ga_nil)))) (g_C (g_tup (ga_cons (g_tup ga_nil) (ga_cons (g_tup (ga_cons g_str (ga_cons g_str (ga_cons g_str ga_nil)))) ga_nil)))) rfl)
      (gss_one (gs_ret g_bl))
      gss_nil)
      (gss_cons (gs_if (gt_cmp (cg_ne (hu64 hr)) (g_callH G_left hr (by rfl) ps0 (ga_cons (g_var (pv 11)) (ga_cons (g_bin og_add (g_sl (g_var (pv 12)) go_none (go_some g_int)) (g_tup (ga_cons (g_tup (ga_cons g_str (ga_cons (g_tup (ga_cons g_str ga_nil)) (ga_cons g_int (ga_cons g_int ga_nil))))) ga_nil))) ga_nil))) (g_C (g_tup (ga_cons g_str (ga_cons g_str (ga_cons g_str ga_nil))))) rfl)
      (gss_one (gs_ret g_bl))
      gss_nil)
      (gss_one (gs_ret (g_cmp (cg_eq (hu64 hr)) (g_callH G_asked hr (by rfl) ps0 (ga_cons (g_var (pv 11)) (ga_cons (g_var (pv 12)) (ga_cons (g_tup (ga_cons g_str (ga_cons g_str (ga_cons g_str ga_nil)))) ga_nil)))) (g_C (g_tup (ga_cons (g_tup ga_nil) (ga_cons (g_tup (ga_cons g_str (ga_cons g_str (ga_cons g_str ga_nil)))) ga_nil)))) rfl))))))))
end K11


set_option Elab.async false
set_option maxRecDepth 100000
set_option maxHeartbeats 1000000
/-! GP1: plain rules for meanings: tests, loops, comprehensions, values with a type. -/
namespace G
open PySem PySem.Spec PyProof.Rows L2
open PySem.W (Datum)

theorem iteB {b : Bool} {A B : Prop} (h : b = true → A) (k : b = false → B) : if b = true then A else B := by
  cases b with
  | true => exact h rfl
  | false => exact k rfl
theorem iteY {b : Bool} {A B : Prop} (hb : b = true) (h : A) : if b = true then A else B := by rw [if_pos hb]; exact h
theorem iteNo {b : Bool} {A B : Prop} (hb : b = false) (h : B) : if b = true then A else B := by rw [hb, if_neg Bool.false_ne_true]; exact h

/-! ### values with a type -/
theorem gd_dat {α : Type} [DecidableEq α] [Datum α] (a : α) (h : Datum.depth α ≤ 60 := by decide) : Gd 60 (Datum.toD a) := ⟨Datum.plain a, Nat.le_trans (Datum.depth_le a) h⟩
theorem eq_dat {α : Type} [DecidableEq α] [Datum α] {a b : α} {R : Bool → Prop} (q : R (decide (a = b))) (h : Datum.depth α ≤ 60 := by decide) : eqD (Datum.toD a) (Datum.toD b) R := by
  rw [eqD_is]
  exact ⟨gd_dat a h, gd_dat b h, by rw [Datum.eqv]; exact q⟩
theorem ne_dat {α : Type} [DecidableEq α] [Datum α] {a b : α} {R : Bool → Prop} (q : R (!decide (a = b))) (h : Datum.depth α ≤ 60 := by decide) : neD (Datum.toD a) (Datum.toD b) R := by
  rw [neD_is]
  exact ⟨gd_dat a h, gd_dat b h, by rw [Datum.eqv]; exact q⟩
theorem in_lst {α : Type} [DecidableEq α] [Datum α] {a : α} {l : List α} {neg : Bool} {R : Bool → Prop} (q : R (neg ^^ decide (a ∈ l))) (h : Datum.depth α + 1 ≤ 60 := by decide) : inD neg (Datum.toD a) (.list (l.map Datum.toD)) R := by
  rw [inD_is]
  have e : inD0 neg (Datum.toD a) (.list (l.map Datum.toD)) R = (Gd 60 (Datum.toD a) ∧ Gd 60 (.list (l.map Datum.toD)) ∧ R (neg ^^ ((l.map Datum.toD).any fun y => PyData.eqv y (Datum.toD a)))) := by
    cases (Datum.toD a) <;> rfl
  rw [e, PySem.W.any_datum]
  exact ⟨gd_dat a (by omega), gd_dat (α := List α) l h, q⟩
theorem in_tup {α : Type} [DecidableEq α] [Datum α] {a : α} {l : List α} {neg : Bool} {R : Bool → Prop} (q : R (neg ^^ decide (a ∈ l))) (h : Datum.depth α + 1 ≤ 60 := by decide) : inD neg (Datum.toD a) (.tuple (l.map Datum.toD)) R := by
  rw [inD_is]
  have e : inD0 neg (Datum.toD a) (.tuple (l.map Datum.toD)) R = (Gd 60 (Datum.toD a) ∧ Gd 60 (.tuple (l.map Datum.toD)) ∧ R (neg ^^ ((l.map Datum.toD).any fun y => PyData.eqv y (Datum.toD a)))) := by
    cases (Datum.toD a) <;> rfl
  rw [e, PySem.W.any_datum]
  exact ⟨gd_dat a (by omega), gd_dat (α := PySem.W.Tup α) ⟨l⟩ h, q⟩
theorem in_strs {a : Str} {l : List Str} {neg : Bool} {R : Bool → Prop} (q : R (neg ^^ decide (a ∈ l))) : inD neg (.str a) (.list (l.map .str)) R := in_lst (α := Str) q
theorem in_strT {a : Str} {l : List Str} {neg : Bool} {R : Bool → Prop} (q : R (neg ^^ decide (a ∈ l))) : inD neg (.str a) (.tuple (l.map .str)) R := in_tup (α := Str) q

theorem in_chr {c : Nat} {z : Str} {neg : Bool} {R : Bool → Prop} (q : R (neg ^^ decide (c ∈ z.cps.toList))) : inD neg (.str ⟨#[c]⟩) (.str z) R := by
  rw [inD_is]
  exact ⟨c, rfl, q⟩
theorem in_dict {β : Type} {v : β → PyData} {k : Str} {l : List (PyData × PyData)} {neg : Bool} {R : Bool → Prop} (q : R (neg ^^ (dget l k).isSome)) : inD neg (.str k) (.dict l) R := by
  rw [inD_is]
  exact q
/-! ### loops -/
theorem forL {α : Type} {g : MG} {tb : MS} {D : PEnd} (enc : α → PyData) (l : List α) (I : List α → Ms → Prop) {ρ : Ms} (h : I [] ρ) (done : ∀ ρ, I l ρ → D.nx ρ)
    (step : ∀ p x r ρ (N : Ms → Prop), l = p ++ x :: r → I p ρ → (∀ ρ', I (p ++ [x]) ρ' → N ρ') → g (enc x) ρ fun ρ1 => tb { D with nx := N, ct := N, bk := D.nx } ρ1) : mForL g tb D (l.map enc) ρ := by
  have key : ∀ (r p : List α) ρ, l = p ++ r → I p ρ → mForL g tb D (r.map enc) ρ := by
    intro r
    induction r with
    | nil => intro p ρ e h; rw [List.append_nil] at e; subst e; exact done ρ h
    | cons x r ih => intro p ρ e h; exact step p x r ρ _ e h fun ρ' h' => ih (p ++ [x]) ρ' (by rw [e]; simp) h'
  exact key l [] ρ rfl h
/-- the counted loop -/
theorem forR {g : MG} {tb : MS} {D : PEnd} (n : Nat) (I : Nat → Ms → Prop) {ρ : Ms} (h : I 0 ρ) (done : ∀ ρ, I n ρ → D.nx ρ)
    (step : ∀ k ρ (N : Ms → Prop), k < n → I k ρ → (∀ ρ', I (k + 1) ρ' → N ρ') → g (.int (k : Int)) ρ fun ρ1 => tb { D with nx := N, ct := N, bk := D.nx } ρ1) : mForL g tb D (rangeD n) ρ := by
  refine forL (fun (k : Nat) => PyData.int (k : Int)) (List.range n) (fun p ρ => I p.length ρ) h (fun ρ q => done ρ (by rwa [List.length_range] at q)) fun p x r ρ N e h q => ?_
  have hx : p.length < n := by have := congrArg List.length e; rw [List.length_range, List.length_append, List.length_cons] at this; omega
  have ex : x = p.length := by
    have e2 : (List.range n)[p.length]? = some x := by rw [e, List.getElem?_append_right (Nat.le_refl _), Nat.sub_self]; rfl
    rw [List.getElem?_range hx] at e2
    exact (Option.some.inj e2).symm
  subst ex
  exact step p.length ρ N hx h fun ρ' h' => q ρ' (by rwa [List.length_append])
theorem whileL {c : MB} {tb : MS} {D : PEnd} {ρ : Ms} (J : Nat → Ms → Prop) (m : Nat) (h : J m ρ) (step : ∀ m ρ, J m ρ → c ρ fun b ρ1 =>
  if b = true then tb { D with nx := fun ρ' => ∃ m', m' < m ∧ J m' ρ', ct := fun ρ' => ∃ m', m' < m ∧ J m' ρ', bk := D.nx } ρ1 else D.nx ρ1) : mWhile c tb D ρ := ⟨J, ⟨m, h⟩, step⟩

/-! ### comprehensions whose items change nothing -/
theorem lcL {α : Type} {g : MG} {tt : MB} {te : ME} {vs : List Nat} {R : List PyData → Ms → Prop} {ρ0 : Ms} (enc : α → PyData) (l : List α) (c : α → Bool) (f : α → PyData)
    (q : R ((l.filter c).map f) ρ0)
    (h : ∀ x ∈ l, ∀ (Ky : PyData → Ms → Prop) (Kn : Ms → Prop), (c x = true → Ky (f x) ρ0) → (c x = false → Kn ρ0) → g (enc x) ρ0 fun ρ1 => tt ρ1 fun b ρ2 => if b = true then te ρ2 fun y ρ3 => Ky y (wipeM ρ3 vs) else Kn (wipeM ρ2 vs)) :
    mLcL g tt te vs R (l.map enc) [] ρ0 := by
  have key : ∀ (r : List α) (acc : List PyData), (∀ x ∈ r, x ∈ l) → R (acc ++ (r.filter c).map f) ρ0 → mLcL g tt te vs R (r.map enc) acc ρ0 := by
    intro r
    induction r with
    | nil => intro acc _ q; rw [List.filter_nil, List.map_nil, List.append_nil] at q; exact q
    | cons x r ih =>
      intro acc hs q
      refine h x (hs x (List.mem_cons_self ..)) (fun y ρ => mLcL g tt te vs R (r.map enc) (acc ++ [y]) ρ) (fun ρ => mLcL g tt te vs R (r.map enc) acc ρ) (fun e => ?_) fun e => ?_
      · refine ih _ (fun z hz => hs z (List.mem_cons_of_mem _ hz)) ?_
        rw [List.filter_cons_of_pos e] at q
        simpa using q
      · refine ih _ (fun z hz => hs z (List.mem_cons_of_mem _ hz)) ?_
        rw [List.filter_cons_of_neg (by rw [e]; exact Bool.false_ne_true)] at q
        exact q
  exact key l [] (fun _ h => h) (by simpa using q)
/-- .. without a test -/
theorem lcA {α : Type} {g : MG} {te : ME} {vs : List Nat} {R : List PyData → Ms → Prop} {ρ0 : Ms} (enc : α → PyData) (l : List α) (f : α → PyData) (q : R (l.map f) ρ0)
    (h : ∀ x ∈ l, ∀ (Ky : PyData → Ms → Prop), Ky (f x) ρ0 → g (enc x) ρ0 fun ρ1 => te ρ1 fun y ρ3 => Ky y (wipeM ρ3 vs)) :
    mLcL g mYes te vs R (l.map enc) [] ρ0 := by
  have key : ∀ (r : List α) (acc : List PyData), (∀ x ∈ r, x ∈ l) → R (acc ++ r.map f) ρ0 → mLcL g mYes te vs R (r.map enc) acc ρ0 := by
    intro r
    induction r with
    | nil => intro acc _ q; rw [List.map_nil, List.append_nil] at q; exact q
    | cons x r ih =>
      intro acc hs q
      show g (enc x) ρ0 fun ρ1 => te ρ1 fun y ρ3 => mLcL g mYes te vs R (r.map enc) (acc ++ [y]) (wipeM ρ3 vs)
      exact h x (hs x (List.mem_cons_self ..)) (fun y ρ => mLcL g mYes te vs R (r.map enc) (acc ++ [y]) ρ) (ih _ (fun z hz => hs z (List.mem_cons_of_mem _ hz)) (by simpa using q))
  exact key l [] (fun _ h => h) (by simpa using q)
/-- .. whose items change the slots: an invariant over what is there so far -/
theorem lcI {α : Type} {g : MG} {tt : MB} {te : ME} {vs : List Nat} {R : List PyData → Ms → Prop} {ρ0 : Ms} (enc : α → PyData) (l : List α) (I : List α → List PyData → Ms → Prop) (h0 : I [] [] ρ0) (done : ∀ acc ρ, I l acc ρ → R acc ρ)
    (h : ∀ p x r acc ρ, l = p ++ x :: r → I p acc ρ → ∀ (Ky : PyData → Ms → Prop) (Kn : Ms → Prop), (∀ y ρ', I (p ++ [x]) (acc ++ [y]) ρ' → Ky y ρ') → (∀ ρ', I (p ++ [x]) acc ρ' → Kn ρ') → g (enc x) ρ fun ρ1 => tt ρ1 fun b ρ2 => if b = true then te ρ2 fun y ρ3 => Ky y (wipeM ρ3 vs) else Kn (wipeM ρ2 vs)) :
    mLcL g tt te vs R (l.map enc) [] ρ0 := by
  have key : ∀ (r p : List α) (acc : List PyData) ρ, l = p ++ r → I p acc ρ → mLcL g tt te vs R (r.map enc) acc ρ := by
    intro r
    induction r with
    | nil => intro p acc ρ e q; rw [List.append_nil] at e; subst e; exact done acc ρ q
    | cons x r ih =>
      intro p acc ρ e q
      exact h p x r acc ρ e q (fun y ρ' => mLcL g tt te vs R (r.map enc) (acc ++ [y]) ρ') (fun ρ' => mLcL g tt te vs R (r.map enc) acc ρ') (fun y ρ' z => ih _ _ _ (by rw [e]; simp) z) fun ρ' z => ih _ _ _ (by rw [e]; simp) z
  exact key l [] [] ρ0 rfl h0
/-- dict comprehensions, no test, items that change nothing -/
theorem dcA {α : Type} {g : MG} {tk te : ME} {vs : List Nat} {R : List (PyData × PyData) → Ms → Prop} {ρ0 : Ms} (enc : α → PyData) (l : List α) (k : α → Str) (f : α → PyData) (q : R (mergeD (l.map fun x => (k x, f x))) ρ0)
    (h : ∀ x ∈ l, ∀ (K : Str → PyData → Ms → Prop), K (k x) (f x) ρ0 → g (enc x) ρ0 fun ρ1 => tk ρ1 fun n ρ2 => te ρ2 fun y ρ3 => match n with
      | .str n => K n y (wipeM ρ3 vs)
      | _ => False) :
    mDcL g mYes tk te vs R (l.map enc) [] ρ0 := by
  have key : ∀ (r : List α) (acc : List (PyData × PyData)), (∀ x ∈ r, x ∈ l) → R ((r.map fun x => (k x, f x)).foldl (fun acc p => dput acc p.1 p.2) acc) ρ0 → mDcL g mYes tk te vs R (r.map enc) acc ρ0 := by
    intro r
    induction r with
    | nil => intro acc _ q; exact q
    | cons x r ih =>
      intro acc hs q
      show g (enc x) ρ0 fun ρ1 => tk ρ1 fun n ρ2 => te ρ2 fun y ρ3 => match n with
          | .str n => mDcL g mYes tk te vs R (r.map enc) (dput acc n y) (wipeM ρ3 vs)
          | _ => False
      exact h x (hs x (List.mem_cons_self ..)) (fun n y ρ => mDcL g mYes tk te vs R (r.map enc) (dput acc n y) ρ) (ih _ (fun z hz => hs z (List.mem_cons_of_mem _ hz)) q)
  exact key l [] (fun _ h => h) q

/-! ### dicts with text keys, in a plain form -/
def dS {β : Type} (v : β → PyData) (l : List (Str × β)) : List (PyData × PyData) := l.map fun p => (.str p.1, v p.2)
def lput {β : Type} (l : List (Str × β)) (k : Str) (b : β) : List (Str × β) := if k ∈ l.map (·.1) then l.map (fun p => if p.1 = k then (p.1, b) else p) else l ++ [(k, b)]
def lget {β : Type} : List (Str × β) → Str → Option β
  | [], _ => none
  | p :: r, k => if p.1 = k then some p.2 else lget r k
section
variable {β : Type} {v : β → PyData}
theorem dS_any : ∀ (l : List (Str × β)) (k : Str), ((dS v l).any fun p => isK p.1 k) = decide (k ∈ l.map (·.1))
  | [], k => by simp [dS]
  | p :: r, k => by
    have ih := dS_any r k
    unfold dS at ih ⊢
    rw [List.map_cons, List.any_cons, ih, List.map_cons]
    show (decide (p.1 = k) || _) = _
    by_cases h : p.1 = k
    · subst h; simp
    · have h' : ¬ k = p.1 := fun z => h z.symm
      simp [h, h']
theorem dS_put (l : List (Str × β)) (k : Str) (b : β) : dput (dS v l) k (v b) = dS v (lput l k b) := by
  unfold dput lput
  rw [dS_any]
  by_cases h : k ∈ l.map (·.1)
  · rw [if_pos (decide_eq_true h), if_pos h]
    unfold dS
    rw [List.map_map, List.map_map]
    refine List.map_congr_left fun p _ => ?_
    show (if isK (.str p.1) k = true then _ else _) = _
    show (if decide (p.1 = k) = true then _ else _) = _
    by_cases e : p.1 = k
    · simp [e]
    · simp [e]
  · rw [if_neg (by simp only [decide_eq_true_eq]; exact h), if_neg h]
    unfold dS
    rw [List.map_append]; rfl
theorem dS_get : ∀ (l : List (Str × β)) (k : Str), dget (dS v l) k = (lget l k).map v
  | [], _ => rfl
  | p :: r, k => by
    have ih := dS_get r k
    unfold dS at ih ⊢
    rw [List.map_cons]
    unfold dget lget
    by_cases e : p.1 = k
    · simp [e]
    · simp only [e, if_false]; exact ih
theorem dS_drop (l : List (Str × β)) (k : Str) : ddrop (dS v l) k = dS v (l.filter fun p => !decide (p.1 = k)) := by
  unfold ddrop dS
  rw [List.filter_map]
  rfl
def lmerge (l : List (Str × β)) : List (Str × β) := l.foldl (fun acc p => lput acc p.1 p.2) []
theorem mergeD_dS (l : List (Str × β)) : mergeD (l.map fun p => (p.1, v p.2)) = dS v (lmerge l) := by
  have key : ∀ (l acc : List (Str × β)), (l.map fun p => (p.1, v p.2)).foldl (fun acc p => dput acc p.1 p.2) (dS v acc) = dS v (l.foldl (fun acc p => lput acc p.1 p.2) acc) := by
    intro l
    induction l with
    | nil => intro acc; rfl
    | cons p r ih =>
      intro acc
      rw [List.map_cons, List.foldl_cons, List.foldl_cons]
      dsimp only
      rw [dS_put]
      exact ih _
  exact key l []
theorem lmerge_nodup {l : List (Str × β)} (h : (l.map (·.1)).Nodup) : lmerge l = l := by
  have key : ∀ (l acc : List (Str × β)), ((acc ++ l).map (·.1)).Nodup → l.foldl (fun acc p => lput acc p.1 p.2) acc = acc ++ l := by
    intro l
    induction l with
    | nil => intro acc _; rw [List.append_nil]; rfl
    | cons p r ih =>
      intro acc hn
      rw [List.foldl_cons]
      have hp : p.1 ∉ acc.map (·.1) := by
        rw [List.map_append, List.nodup_append] at hn
        intro z
        exact hn.2.2 p.1 z p.1 (by simp) rfl
      have e : lput acc p.1 p.2 = acc ++ [p] := by unfold lput; rw [if_neg hp]
      rw [e, ih _ (by rw [List.append_assoc]; exact hn), List.append_assoc]; rfl
  exact key l [] (by simpa using h)
theorem lget_mem {l : List (Str × β)} (h : (l.map (·.1)).Nodup) {p : Str × β} (hp : p ∈ l) : lget l p.1 = some p.2 := by
  induction l with
  | nil => cases hp
  | cons q r ih =>
    unfold lget
    rw [List.map_cons, List.nodup_cons] at h
    rcases List.mem_cons.mp hp with rfl | hp
    · rw [if_pos rfl]
    · have : q.1 ≠ p.1 := fun z => h.1 (by rw [z]; exact List.mem_map_of_mem hp)
      rw [if_neg this]
      exact ih h.2 hp
theorem lget_none {l : List (Str × β)} {k : Str} (h : k ∉ l.map (·.1)) : lget l k = none := by
  induction l with
  | nil => rfl
  | cons q r ih =>
    unfold lget
    rw [List.map_cons, List.mem_cons, not_or] at h
    rw [if_neg fun z => h.1 z.symm]
    exact ih h.2
end
end G


set_option Elab.async false
set_option maxRecDepth 100000
set_option maxHeartbeats 1000000
/-! GP2: fractions, things, folk, as data. -/
namespace G
open PySem PySem.Spec PyProof.Rows L2
open PySem.W (Datum)

theorem noOwn_nil : NoOwn [] := fun _ h => by cases h
theorem noOwn_dat {d : PyData} {ss : List Sl} (h : NoOwn ss) : NoOwn (.dat d :: ss) := fun e m => by
  rcases List.mem_cons.mp m with z | z
  · cases z
  · exact h e z
theorem noOwn_scr {ns : List Int} {ss : List Sl} (h : NoOwn ss) : NoOwn (.scr ns :: ss) := fun e m => by
  rcases List.mem_cons.mp m with z | z
  · cases z
  · exact h e z
theorem noOwn_inn {a : Addr} {d : PyData} {ss : List Sl} (h : NoOwn ss) : NoOwn (.inn a d :: ss) := fun e m => by
  rcases List.mem_cons.mp m with z | z
  · cases z
  · exact h e z

/-! ### fractions -/
def fr (q : Rat) : PyData := .tuple [.int q.num, .int (q.den : Int)]
instance : Datum Rat where
  toD := fr
  plain _ := rfl
  eqv p q := by
    show PyData.eqv (.tuple [.int p.num, .int (p.den : Int)]) (.tuple [.int q.num, .int (q.den : Int)]) = _
    have e := Datum.eqv (α := Int × Int) (p.num, (p.den : Int)) (q.num, (q.den : Int))
    refine e.trans (decide_eq_decide.mpr ⟨fun h => ?_, fun h => by rw [h]⟩)
    have h1 := congrArg Prod.fst h
    have h2 := congrArg Prod.snd h
    exact Rat.ext h1 (Int.ofNat.inj h2)
  depth := 1
  depth_le _ := Nat.le_refl _
/-- numerator and denominator have at most n bits -/
def Bd (n : Nat) (q : Rat) : Prop := q.num.natAbs < 2 ^ n ∧ q.den < 2 ^ n
theorem Bd.mono {m n : Nat} {q : Rat} (h : Bd m q) (k : m ≤ n) : Bd n q :=
  ⟨Nat.lt_of_lt_of_le h.1 (Nat.pow_le_pow_right (by decide) k), Nat.lt_of_lt_of_le h.2 (Nat.pow_le_pow_right (by decide) k)⟩
theorem Bd.num {n : Nat} {q : Rat} (h : Bd n q) (k : n ≤ 4000) : Sm q.num := sm_of h.1 k
theorem Bd.den {n : Nat} {q : Rat} (h : Bd n q) (k : n ≤ 4000) : Sm (q.den : Int) := sm_of (n := n) (by rw [Int.natAbs_natCast]; exact h.2) k
theorem divInt_num_le (a : Int) (b : Nat) (hb : 0 < b) : (mkRat a b).num.natAbs ≤ a.natAbs ∧ (mkRat a b).den ≤ b := by
  rw [Rat.num_mkRat, Rat.den_mkRat]
  rw [if_neg (by omega), if_neg (by omega)]
  exact ⟨by rw [Int.natAbs_ediv_of_dvd (by have := Nat.gcd_dvd_right b a.natAbs; exact Int.ofNat_dvd_left.mpr this)]; exact Nat.div_le_self _ _, Nat.div_le_self _ _⟩
theorem bd_mk {a : Int} {b : Nat} {n : Nat} (hb : 0 < b) (h1 : a.natAbs < 2 ^ n) (h2 : b < 2 ^ n) : Bd n (mkRat a b) := by
  have := divInt_num_le a b hb
  exact ⟨Nat.lt_of_le_of_lt this.1 h1, Nat.lt_of_le_of_lt this.2 h2⟩
theorem mul_lt_pow {a b m n : Nat} (h : a < 2 ^ m) (k : b < 2 ^ n) : a * b < 2 ^ (m + n) := by
  rw [Nat.pow_add]
  rcases Nat.eq_zero_or_pos a with rfl | ha
  · rw [Nat.zero_mul]; exact Nat.mul_pos (Nat.pow_pos (by decide)) (Nat.pow_pos (by decide))
  · exact Nat.lt_of_le_of_lt (Nat.mul_le_mul_right _ (Nat.le_of_lt h)) (Nat.mul_lt_mul_of_pos_left k (Nat.pow_pos (by decide)))
theorem bd_add {m n : Nat} {p q : Rat} (h : Bd m p) (k : Bd n q) : Bd (m + n + 1) (p + q) := by
  rw [Rat.add_def']
  have hd : p.den * q.den < 2 ^ (m + n) := mul_lt_pow h.2 k.2
  have e : (2 : Nat) ^ (m + n + 1) = 2 ^ (m + n) + 2 ^ (m + n) := by rw [Nat.pow_succ]; omega
  refine bd_mk (Nat.mul_pos p.den_pos q.den_pos) ?_ (by omega)
  have h1 : (p.num * (q.den : Int)).natAbs < 2 ^ (m + n) := by rw [Int.natAbs_mul, Int.natAbs_natCast]; exact mul_lt_pow h.1 k.2
  have h2 : (q.num * (p.den : Int)).natAbs < 2 ^ (n + m) := by rw [Int.natAbs_mul, Int.natAbs_natCast]; exact mul_lt_pow k.1 h.2
  have := Int.natAbs_add_le (p.num * (q.den : Int)) (q.num * (p.den : Int))
  rw [Nat.add_comm n m] at h2
  omega
theorem sm_mul {a b : Int} {m n : Nat} (h : a.natAbs < 2 ^ m) (k : b.natAbs < 2 ^ n) (l : m + n ≤ 4000) : Sm (a * b) := sm_of (by rw [Int.natAbs_mul]; exact mul_lt_pow h k) l

/-! ### things and folk -/
structure One where
  name : Str
  wants : List Str
  worth : Int
  weight : Int
deriving DecidableEq
def sD (x : Str) : PyData := .str x
def tD (p : Str × Int) : PyData := .tuple [.str p.1, .int p.2]
def oD (o : One) : PyData := .tuple [.str o.name, .tuple (o.wants.map sD), .int o.worth, .int o.weight]
def tsD (t : List (Str × Int)) : PyData := .tuple (t.map tD)
def fsD (f : List One) : PyData := .tuple (f.map oD)
def flD (f : List One) : PyData := .list (f.map oD)
def nsT (l : List Str) : PyData := .tuple (l.map sD)
def nsL (l : List Str) : PyData := .list (l.map sD)
instance : Datum One where
  toD := oD
  plain o := by
    show PyData.plain (.tuple [.str o.name, .tuple (o.wants.map sD), .int o.worth, .int o.weight]) = true
    have := PySem.W.plainAll_map o.wants
    simp only [PyData.plain, PyData.plainAll, Bool.true_and, Bool.and_true]
    exact this
  eqv o p := by
    show PyData.eqv (.tuple [.str o.name, .tuple (o.wants.map sD), .int o.worth, .int o.weight]) (.tuple [.str p.name, .tuple (p.wants.map sD), .int p.worth, .int p.weight]) = _
    have h1 := Datum.eqv (α := Str) o.name p.name
    have h2 := Datum.eqv (α := PySem.W.Tup Str) ⟨o.wants⟩ ⟨p.wants⟩
    have h3 := Datum.eqv (α := Int) o.worth p.worth
    have h4 := Datum.eqv (α := Int) o.weight p.weight
    have h2' : PyData.eqv (.tuple (o.wants.map sD)) (.tuple (p.wants.map sD)) = decide (o.wants = p.wants) := h2.trans (decide_eq_decide.mpr ⟨fun e => congrArg PySem.W.Tup.items e, fun e => by rw [e]⟩)
    have h1' : PyData.eqv (.str o.name) (.str p.name) = decide (o.name = p.name) := h1
    have h3' : PyData.eqv (.int o.worth) (.int p.worth) = decide (o.worth = p.worth) := h3
    have h4' : PyData.eqv (.int o.weight) (.int p.weight) = decide (o.weight = p.weight) := h4
    rw [PyData.eqv]
    simp only [PyData.eqvAll]
    rw [h1', h2', h3', h4', Bool.and_true, ← Bool.decide_and, ← Bool.decide_and, ← Bool.decide_and]
    refine decide_eq_decide.mpr ⟨fun ⟨a, b, c, d⟩ => ?_, fun e => by rw [e]; exact ⟨rfl, rfl, rfl, rfl⟩⟩
    cases o
    cases p
    simp only at a b c d
    subst a; subst b; subst c; subst d
    rfl
  depth := 2
  depth_le o := by
    show PyData.depth (.tuple [.str o.name, .tuple (o.wants.map sD), .int o.worth, .int o.weight]) ≤ 2
    have h := PySem.W.depthAll_map o.wants
    have h : PyData.depthAll (o.wants.map sD) ≤ 0 := h
    simp only [PyData.depth, PyData.depthAll]
    omega
/-- strictly rising texts -/
def Lt (a b : Str) : Prop := a.cps.toList < b.cps.toList
def Rising : List Str → Prop
  | [] => True
  | [_] => True
  | a :: b :: r => Lt a b ∧ Rising (b :: r)
theorem Lt.trans {a b c : Str} (h : Lt a b) (k : Lt b c) : Lt a c := List.lt_trans h k
theorem Lt.irr {a : Str} (h : Lt a a) : False := List.lt_irrefl _ h
theorem Rising.head {a : Str} : ∀ {l : List Str}, Rising (a :: l) → ∀ b ∈ l, Lt a b
  | [], _, b, h => by cases h
  | c :: r, h, b, hb => by
    rcases List.mem_cons.mp hb with rfl | hb
    · exact h.1
    · exact h.1.trans (Rising.head h.2 b hb)
theorem Rising.tail {a : Str} : ∀ {l : List Str}, Rising (a :: l) → Rising l
  | [], _ => trivial
  | _ :: _, h => h.2
theorem Rising.pw : ∀ {l : List Str}, Rising l → l.Pairwise Lt
  | [], _ => .nil
  | a :: l, h => .cons (fun b hb => h.head b hb) (Rising.pw h.tail)
theorem Rising.of : ∀ {l : List Str}, l.Pairwise Lt → Rising l
  | [], _ => trivial
  | [_], _ => trivial
  | a :: b :: r, h => by
    cases h with
    | cons h k => exact ⟨h b (List.mem_cons_self ..), Rising.of k⟩
theorem Rising.nodup {l : List Str} (h : Rising l) : l.Nodup := h.pw.imp fun {a b} k e => by subst e; exact k.irr
def Name (x : Str) : Prop := 1 ≤ x.length ∧ x.length ≤ 8 ∧ ∀ c ∈ x.cps.toList, c ∈ ("abcdefghijklmnopqrstuvwxyz" : Str).cps.toList
structure VT (t : List (Str × Int)) : Prop where
  le : 1 ≤ t.length ∧ t.length ≤ 8
  nm : ∀ p ∈ t, Name p.1
  co : ∀ p ∈ t, 0 ≤ p.2 ∧ p.2 ≤ 1000
  up : Rising (t.map (·.1))
structure VO (t : List (Str × Int)) (o : One) : Prop where
  nm : Name o.name
  ws : ∀ x ∈ o.wants, x ∈ t.map (·.1)
  up : Rising o.wants
  ne : o.wants ≠ []
  wo : 0 ≤ o.worth ∧ o.worth ≤ 1000
  we : 1 ≤ o.weight ∧ o.weight ≤ 9
structure VF (t : List (Str × Int)) (f : List One) : Prop where
  le : f.length ≤ 8
  on : ∀ o ∈ f, VO t o
  up : Rising (f.map (·.name))
end G


set_option Elab.async false
set_option maxRecDepth 100000
set_option maxHeartbeats 1000000
/-! GP3: what the common defs promise. -/
namespace G
open PySem PySem.Spec PyProof.Rows L2
open PySem.W (Datum)
def iD (i : Int) : PyData := .int i
def p_divisor : PSp := fun ss R _ => ∃ a b : Nat, ss = [.dat (.int (a : Int)), .dat (.int (b : Int))] ∧ R (.int (Nat.gcd a b : Nat)) ss
def p_fraction : PSp := fun ss R _ => ∃ (a : Int) (b n : Nat), 0 < b ∧ b < 2 ^ n ∧ n ≤ 3999 ∧ ss = [.dat (.int a), .dat (.int (b : Int))] ∧ R (fr (mkRat a b)) ss
def p_plus : PSp := fun ss R _ => ∃ (p q : Rat) (m n : Nat), Bd m p ∧ Bd n q ∧ m + n ≤ 3998 ∧ ss = [.dat (fr p), .dat (fr q)] ∧ R (fr (p + q)) ss
def p_minus : PSp := fun ss R _ => ∃ (p q : Rat) (m n : Nat), Bd m p ∧ Bd n q ∧ m + n ≤ 3998 ∧ ss = [.dat (fr p), .dat (fr q)] ∧ R (fr (p - q)) ss
def p_is_less : PSp := fun ss R _ => ∃ (p q : Rat) (m n : Nat), Bd m p ∧ Bd n q ∧ m + n ≤ 3998 ∧ ss = [.dat (fr p), .dat (fr q)] ∧ R (.bool (decide (p < q))) ss
def p_is_whole : PSp := fun ss R _ => ∃ i lo hi : Int, lo ≤ i ∧ i ≤ hi ∧ ss = [.dat (.int i), .dat (.int lo), .dat (.int hi)] ∧ R (.bool true) ss
def p_is_name : PSp := fun ss R _ => ∃ x, Name x ∧ ss = [.dat (.str x)] ∧ R (.bool true) ss
def p_is_number : PSp := fun ss R _ => ∃ i : Int, 0 ≤ i ∧ i ≤ 1000 ∧ ss = [.dat (.int i)] ∧ R (.bool true) ss
def p_are_rising : PSp := fun ss R _ => ∃ d l, Rising l ∧ l.length ≤ 1000 ∧ (d = nsL l ∨ d = nsT l) ∧ ss = [.dat d] ∧ R (.bool true) ss
def p_are_things : PSp := fun ss R _ => ∃ t, VT t ∧ ss = [.dat (tsD t)] ∧ R (.bool true) ss
def p_are_of : PSp := fun ss R _ => ∃ ns l, (∀ x ∈ l, x ∈ ns) ∧ Rising l ∧ l.length ≤ 1000 ∧ ss = [.dat (nsL ns), .dat (nsT l)] ∧ R (.bool true) ss
def p_is_one : PSp := fun ss R _ => ∃ t o, VT t ∧ VO t o ∧ ss = [.dat (tsD t), .dat (oD o)] ∧ R (.bool true) ss
def p_are_folk_of : PSp := fun ss R _ => ∃ t f, VT t ∧ VF t f ∧ ss = [.dat (tsD t), .dat (fsD f)] ∧ R (.bool true) ss
def p_need_things : PSp := fun ss R _ => ∃ t, VT t ∧ ss = [.dat (tsD t)] ∧ R .none ss
def p_need_folk : PSp := fun ss R _ => ∃ t f, VT t ∧ VF t f ∧ ss = [.dat (tsD t), .dat (fsD f)] ∧ R .none ss
def nmsOf (f : List One) : List Str := f.map (·.name)
def p_need_lot : PSp := fun ss R _ => ∃ t f l, VT t ∧ VF t f ∧ (∀ x ∈ l, x ∈ nmsOf f) ∧ Rising l ∧ ss = [.dat (tsD t), .dat (fsD f), .dat (nsT l)] ∧ R .none ss
def p_need_name : PSp := fun ss R _ => ∃ t f x, VT t ∧ VF t f ∧ x ∈ nmsOf f ∧ ss = [.dat (tsD t), .dat (fsD f), .dat (.str x)] ∧ R .none ss
def p_names_of : PSp := fun ss R _ => ∃ d f, seqOf d = some (f.map oD) ∧ ss = [.dat d] ∧ R (nsL (nmsOf f)) ss

/-! ### shares -/
def usersOf (f : List One) (x : Str) : List One := f.filter fun o => decide (x ∈ o.wants)
def weightOf (f : List One) (x : Str) : Int := ((usersOf f x).map (·.weight)).sum
def part (f : List One) (p : Str × Int) (o : One) : Rat := mkRat (p.2 * o.weight) (weightOf f p.1).toNat
def share (t : List (Str × Int)) (f : List One) (o : One) : Rat := ((t.filter fun p => decide (p.1 ∈ o.wants)).map fun p => part f p o).sum
def sharesOf (t : List (Str × Int)) (f : List One) : List (Str × Rat) := f.map fun o => (o.name, share t f o)
def p_shares_of : PSp := fun ss R _ => ∃ t d f, VT t ∧ VF t f ∧ seqOf d = some (f.map oD) ∧ ss = [.dat (tsD t), .dat d] ∧ R (.dict (dS fr (sharesOf t f))) ss
theorem share_nil (f : List One) (o : One) : share [] f o = 0 := rfl
theorem share_snoc (t : List (Str × Int)) (p : Str × Int) (f : List One) (o : One) : share (t ++ [p]) f o = if p.1 ∈ o.wants then share t f o + part f p o else share t f o := by
  unfold share
  rw [List.filter_append]
  by_cases h : p.1 ∈ o.wants
  · rw [if_pos h, List.filter_cons_of_pos (by simpa using h), List.filter_nil, List.map_append, List.sum_append, List.map_cons, List.map_nil, List.sum_cons, List.sum_nil, Rat.add_zero]
  · rw [if_neg h, List.filter_cons_of_neg (by simpa using h), List.filter_nil, List.append_nil]
theorem weight_pos {t : List (Str × Int)} {f : List One} (h : ∀ o ∈ f, VO t o) (hl : f.length ≤ 8) (x : Str) : 0 ≤ weightOf f x ∧ weightOf f x ≤ 72 ∧ ∀ o ∈ f, x ∈ o.wants → 0 < weightOf f x := by
  have key : ∀ l : List One, (∀ o ∈ l, 1 ≤ o.weight ∧ o.weight ≤ 9) → 0 ≤ (l.map (·.weight)).sum ∧ (l.map (·.weight)).sum ≤ 9 * l.length ∧ (l ≠ [] → 0 < (l.map (·.weight)).sum) := by
    intro l
    induction l with
    | nil => intro _; exact ⟨Int.le_refl _, Int.le_refl _, fun h => (h rfl).elim⟩
    | cons a l ih =>
      intro h
      have h1 := h a (List.mem_cons_self ..)
      obtain ⟨i1, i2, _⟩ := ih fun o ho => h o (List.mem_cons_of_mem _ ho)
      rw [List.map_cons, List.sum_cons, List.length_cons]
      exact ⟨by omega, by omega, fun _ => by omega⟩
  obtain ⟨k1, k2, k3⟩ := key (usersOf f x) fun o ho => (h o (List.mem_filter.mp ho).1).we
  have : (usersOf f x).length ≤ 8 := Nat.le_trans (List.length_filter_le ..) hl
  refine ⟨k1, by unfold weightOf; omega, fun o ho hx => k3 fun z => ?_⟩
  have : o ∈ usersOf f x := List.mem_filter.mpr ⟨ho, by simpa using hx⟩
  rw [z] at this
  cases this
theorem part_bd {t : List (Str × Int)} {f : List One} (h : ∀ o ∈ f, VO t o) (hl : f.length ≤ 8) {p : Str × Int} (hp : 0 ≤ p.2 ∧ p.2 ≤ 1000) {o : One} (ho : o ∈ f) (hx : p.1 ∈ o.wants) : Bd 14 (part f p o) := by
  obtain ⟨w0, w1, w2⟩ := weight_pos h hl p.1
  have w3 := w2 o ho hx
  have w := (h o ho).we
  have m1 : 0 ≤ p.2 * o.weight := Int.mul_nonneg hp.1 (by omega)
  have m2 : p.2 * o.weight ≤ 1000 * 9 := Int.mul_le_mul hp.2 w.2 (by omega) (by omega)
  exact bd_mk (by omega) (by omega) (by omega)
theorem share_bd {t : List (Str × Int)} {f : List One} (h : ∀ o ∈ f, VO t o) (hl : f.length ≤ 8) : ∀ {s : List (Str × Int)}, (∀ p ∈ s, 0 ≤ p.2 ∧ p.2 ≤ 1000) → ∀ {o}, o ∈ f → Bd (1 + 15 * s.length) (share s f o) := by
  intro s hs o ho
  have key : ∀ s : List (Str × Int), (∀ p ∈ s, 0 ≤ p.2 ∧ p.2 ≤ 1000) → Bd (1 + 15 * s.length) (share s.reverse f o) := by
    intro s
    induction s with
    | nil => intro _; rw [show share [].reverse f o = 0 from rfl]; exact ⟨by decide, by decide⟩
    | cons p s ih =>
      intro hs
      have i := ih fun q hq => hs q (List.mem_cons_of_mem _ hq)
      rw [List.reverse_cons, share_snoc, List.length_cons]
      split
      · rename_i hx
        exact (bd_add i (part_bd h hl (hs p (List.mem_cons_self ..)) ho hx)).mono (by omega)
      · exact i.mono (by omega)
  have := key s.reverse fun p hp => hs p (List.mem_reverse.mp hp)
  rwa [List.reverse_reverse, List.length_reverse] at this
theorem all_yes {α : Type} (l : List α) {R : PyData → Prop} (h : R (.bool true)) : allD (.list (l.map fun _ => .bool true)) R := by
  refine ⟨l.map fun _ => true, by rw [List.map_map]; rfl, ?_⟩
  have e : ((l.map fun _ => true).all fun b => b) = true := by simp
  rw [e]
  exact h
theorem map_sD {α : Type} (l : List α) (f : α → Str) : l.map (fun x => sD (f x)) = (l.map f).map sD := by rw [List.map_map]; rfl
theorem nodup_len {l m : List Str} (h : l.Nodup) (s : ∀ x ∈ l, x ∈ m) : l.length ≤ m.length := by
  induction l generalizing m with
  | nil => exact Nat.zero_le _
  | cons a l ih =>
    rw [List.nodup_cons] at h
    have ha := s a (List.mem_cons_self ..)
    have := ih (m := m.erase a) h.2 fun x hx => (List.mem_erase_of_ne fun (z : x = a) => h.1 (z ▸ hx)).mpr (s x (List.mem_cons_of_mem _ hx))
    rw [List.length_erase_of_mem ha] at this
    have hp : 0 < m.length := List.length_pos_of_mem ha
    rw [List.length_cons]; omega
theorem seq_run {d : PyData} {ds : List PyData} (h : seqOf d = some ds) {K : List PyData → Prop} (q : K ds) : (match seqOf d with
  | some ds => K ds
  | none => False) := by rw [h]; exact q
end G


set_option Elab.async false
set_option maxRecDepth 100000
set_option maxHeartbeats 1000000
/-! GP4: sorted pairs; the well. -/
namespace G
open PySem PySem.Spec PyProof.Rows L2
open PySem.W (Datum)
/-! ### sorted, where it is sorted -/
theorem sortD_same {ds : List PyData} (h : ds.Pairwise fun a b => PySem.W.dataLt b a = false) : sortD ds = ds := by
  unfold sortD
  refine List.mergeSort_of_pairwise (h.imp fun {a b} q => ?_)
  rw [PySem.W.dataLe_eq]
  show (!PySem.W.dataLt b a) = true
  rw [q]; rfl
theorem lt_not {a b : Str} (h : Lt a b) : PySem.W.dataLt (.str b) (.str a) = false := by
  rw [PySem.W.dataLt_str]
  exact decide_eq_false fun (k : Lt b a) => (h.trans k).irr
theorem str_not {a b : Str} (h : Lt a b) : PyData.eqv (.str b) (.str a) = false := by
  have e := Datum.eqv (α := Str) b a
  exact e.trans (decide_eq_false fun z => by subst z; exact h.irr)
def pD {β : Type} (v : β → PyData) (p : Str × β) : PyData := .tuple [.str p.1, v p.2]
theorem items_dS {β : Type} (v : β → PyData) (l : List (Str × β)) : itemsD (dS v l) = l.map (pD v) := by
  unfold itemsD dS
  rw [List.map_map]; rfl
theorem sortD_items {β : Type} {v : β → PyData} {l : List (Str × β)} (h : Rising (l.map (·.1))) (al : ∀ a b : β, PySem.W.alike (v a) (v b) = true) : sortD (l.map (pD v)) = l.map (pD v) := by
  refine sortD_same ?_
  rw [List.pairwise_map]
  have h' := h.pw
  rw [List.pairwise_map] at h'
  refine h'.imp fun {p q} k => ?_
  show PySem.W.dataLt (.tuple [.str q.1, v q.2]) (.tuple [.str p.1, v p.2]) = false
  rw [PySem.W.dataLt_pair rfl (al _ _), str_not k, if_neg Bool.false_ne_true, lt_not k]
theorem sortOk_items {β : Type} {v : β → PyData} {l : List (Str × β)} (al : ∀ a b : β, PySem.W.alike (v a) (v b) = true) (dp : ∀ a : β, (v a).depth ≤ 50) (hl : l.length ≤ 1000) : SortOk (l.map (pD v)) := by
  refine ⟨fun d hd e he => ?_, .inl fun d hd => ?_, fun d hd => ?_, by rw [List.length_map]; exact hl⟩
  · obtain ⟨p, _, rfl⟩ := List.mem_map.mp hd
    obtain ⟨q, _, rfl⟩ := List.mem_map.mp he
    show PySem.W.alike (.tuple [.str p.1, v p.2]) (.tuple [.str q.1, v q.2]) = true
    simp only [PySem.W.alike, PySem.W.alikeAll, al, Bool.and_self]
  · obtain ⟨p, _, rfl⟩ := List.mem_map.mp hd
    exact ⟨_, _, rfl⟩
  · obtain ⟨p, _, rfl⟩ := List.mem_map.mp hd
    show PyData.depth (.tuple [.str p.1, v p.2]) ≤ 60
    have := dp p.2
    simp only [PyData.depth, PyData.depthAll]
    omega
theorem fr_alike (p q : Rat) : PySem.W.alike (fr p) (fr q) = true := by
  unfold fr
  simp only [PySem.W.alike, PySem.W.alikeAll, Bool.and_self]
theorem fr_depth (p : Rat) : (fr p).depth ≤ 50 := by
  unfold fr
  simp only [PyData.depth, PyData.depthAll]
  decide
/-- texts that rise stay as they are -/
theorem sortD_strs {l : List Str} (h : Rising l) : sortD (l.map sD) = l.map sD := by
  refine sortD_same ?_
  rw [List.pairwise_map]
  exact h.pw.imp fun {a b} k => lt_not k
theorem sortOk_strs {l : List Str} (hl : l.length ≤ 1000) : SortOk (l.map sD) := by
  refine ⟨fun d hd e he => ?_, .inr fun d hd => ?_, fun d hd => ?_, by rw [List.length_map]; exact hl⟩
  · obtain ⟨p, _, rfl⟩ := List.mem_map.mp hd
    obtain ⟨q, _, rfl⟩ := List.mem_map.mp he
    rfl
  · obtain ⟨p, _, rfl⟩ := List.mem_map.mp hd
    exact ⟨(nomatch ·), fun _ => (nomatch ·)⟩
  · obtain ⟨p, _, rfl⟩ := List.mem_map.mp hd
    exact Nat.zero_le _

/-! ### folk by names -/
theorem VF.sub {t : List (Str × Int)} {f g : List One} (h : VF t f) (s : g.Sublist f) : VF t g :=
  ⟨Nat.le_trans s.length_le h.le, fun o ho => h.on o (s.subset ho), Rising.of (h.up.pw.sublist (s.map _))⟩
theorem VF.nodup {t : List (Str × Int)} {f : List One} (h : VF t f) : (f.map (·.name)).Nodup := h.up.nodup
theorem sharesOf_names (t : List (Str × Int)) (f : List One) : (sharesOf t f).map (·.1) = nmsOf f := by unfold sharesOf nmsOf; rw [List.map_map]; rfl
def pickOf (f : List One) (l : List Str) : List One := f.filter fun o => decide (o.name ∈ l)
def p_shares : PSp := fun ss R _ => ∃ t f l, VT t ∧ VF t f ∧ (∀ x ∈ l, x ∈ nmsOf f) ∧ Rising l ∧ ss = [.dat (tsD t), .dat (fsD f), .dat (nsT l)] ∧ R (.list ((sharesOf t (pickOf f l)).map (pD fr))) ss

/-! ### the well -/
def Well (d : PyData) : Prop := ∃ c s p : Int, d = .list [.int c, .int s, .int p] ∧ 0 ≤ c ∧ 0 ≤ s ∧ s < 2 ^ 40 ∧ 0 < p ∧ p < 2 ^ 31
def p__law_well : PSp := fun ss R _ => ∃ (ns : List Int) (k : Nat), k < 10000 ∧ ss = [.scr ns, .dat (.int (k : Int))] ∧ ∀ d, Well d → R d ss
def p__law_take : PSp := fun ss R _ => ∃ (a : Addr) (d : PyData) (m : Int), Well d ∧ 0 < m ∧ m < 2 ^ 60 ∧ ss = [.inn a d, .dat (.int m)] ∧ ∀ i d', 0 ≤ i → i < m → Well d' → R (.int i) [.inn a d', .dat (.int m)]
def p__law_frac : PSp := fun ss R _ => ∃ (a : Int) (b n : Nat), 0 < b ∧ b < 2 ^ n ∧ n ≤ 3999 ∧ ss = [.dat (.int a), .dat (.int (b : Int))] ∧ R (fr (mkRat a b)) ss
def p__law_plus : PSp := p_plus
def p__law_minus : PSp := p_minus
def p__law_less : PSp := p_is_less
def p__law_things : PSp := fun ss R _ => ∃ (a : Addr) (d : PyData) (m : Int), Well d ∧ 0 < m ∧ m ≤ 8 ∧ ss = [.inn a d, .dat (.int m)] ∧ ∀ t d', VT t → (t.length : Int) ≤ m → Well d' → R (tsD t) [.inn a d', .dat (.int m)]
def p__law_one : PSp := fun ss R _ => ∃ (a : Addr) (d : PyData) (t : List (Str × Int)) (x : Str) (b : Bool), Well d ∧ VT t ∧ Name x ∧ ss = [.inn a d, .dat (tsD t), .dat (.str x), .dat (.bool b)] ∧ ∀ o d', VO t o → o.name = x → (b = true → o.weight = 1) → Well d' → R (oD o) [.inn a d', .dat (tsD t), .dat (.str x), .dat (.bool b)]
def p__law_folk : PSp := fun ss R _ => ∃ (a : Addr) (d : PyData) (t : List (Str × Int)) (m : Int) (b : Bool), Well d ∧ VT t ∧ 0 ≤ m ∧ m ≤ 8 ∧ ss = [.inn a d, .dat (tsD t), .dat (.int m), .dat (.bool b)] ∧ ∀ f d', VF t f → (f.length : Int) ≤ m → (b = true → ∀ o ∈ f, o.weight = 1) → (∀ o ∈ f, o.name ∈ (["al", "bo", "cy", "di", "ed", "fay", "gus", "hal"] : List Str)) → Well d' → R (fsD f) [.inn a d', .dat (tsD t), .dat (.int m), .dat (.bool b)]
/-! orders -/
def ords : Nat → List Str → List (List Str)
  | 0, _ => [[]]
  | n + 1, l => l.flatMap fun x => (ords n (l.filter fun y => !decide (y = x))).map (x :: ·)
def p__law_all_orders (n : Nat) : PSp := fun ss R _ => ∃ l : List Str, l.Nodup ∧ l.length = n ∧ n ≤ 8 ∧ ss = [.dat (nsL l)] ∧ R (.list ((ords n l).map nsT)) ss
theorem gn_free {ρ : Ms} {i : Nat} {d : PyData} {R : Ms → Prop} (h : freeS ρ i = true) (q : R (ρ.set i (.dat d))) : mGN i d ρ R := by
  unfold mGN
  unfold freeS at h
  split
  · rename_i e; rw [e] at h; cases h
  · exact q
theorem outs_here {a : Addr} {d d' : PyData} {ss : List Sl} {ρ : Ms} : outs (.inn a d :: ss) (.inn a d' :: ρ) = .inn a d' :: outs ss ρ := by simp [outs]
def bk (s : Sl) : Sl := match s with
  | .dat d => .dat d
  | .scr n => .scr n
  | .raw x => .raw x
  | _ => .un
def freeO (s : Sl) : Bool := match s with
  | .inn _ _ => false
  | _ => true
theorem bk_free (s : Sl) : freeO (bk s) = true := by cases s <;> rfl
theorem gt_free {ρ : Ms} {i j : Nat} {d e : PyData} {R : Ms → Prop} (h : freeS ρ i = true) (k : freeS (ρ.set i (.dat d)) j = true) (q : R ((ρ.set i (.dat d)).set j (.dat e))) : mGT [mGN i, mGN j] (.tuple [d, e]) ρ R := by
  show mGN i d ρ fun ρ1 => mGN j e ρ1 fun ρ2 => R ρ2
  refine gn_free h ?_
  exact gn_free k q
theorem ixd_dict {es : List (PyData × PyData)} {k : Str} {d : PyData} {R : PyData → Prop} (e : dget es k = some d) (q : R d) : ixD (.dict es) (.str k) R := by
  show (match dget es k with
    | some d => R d
    | none => False)
  rw [e]
  exact q
theorem nodup_of_map {α β : Type} {f : α → β} {l : List α} (h : (l.map f).Nodup) : l.Nodup := by
  have h' : (l.map f).Pairwise (· ≠ ·) := h
  rw [List.pairwise_map] at h'
  exact h'.imp fun {a b} k z => k (by rw [z])
theorem name_inj {f : List One} (h : (f.map (·.name)).Nodup) : ∀ {o p : One}, o ∈ f → p ∈ f → o.name = p.name → o = p := by
  induction f with
  | nil => intro o p h1; cases h1
  | cons a f ih =>
    intro o p h1 h2 e
    rw [List.map_cons, List.nodup_cons] at h
    rcases List.mem_cons.mp h1 with e1 | k1 <;> rcases List.mem_cons.mp h2 with e2 | k2
    · rw [e1, e2]
    · exact (h.1 (by rw [← e1, e]; exact List.mem_map_of_mem k2)).elim
    · exact (h.1 (by rw [← e2, ← e]; exact List.mem_map_of_mem k1)).elim
    · exact ih h.2 k1 k2 e
end G


set_option Elab.async false
set_option maxRecDepth 100000
set_option maxHeartbeats 1000000
/-! GP5: places, pieces, sums. -/
namespace G
open PySem PySem.Spec PyProof.Rows L2
open PySem.W (Datum)
theorem ix_any {l : List PyData} {i : Int} {R : PyData → Prop} (h0 : 0 ≤ i) (h1 : i < l.length) (q : ∀ d ∈ l, R d) : ixD (.list l) (.int i) R := by
  obtain ⟨k, rfl⟩ : ∃ k : Nat, i = k := ⟨i.toNat, by omega⟩
  have hk : k < l.length := by omega
  show (match atI l (k : Int) with
    | some d => R d
    | none => False)
  rw [atI_nat (List.getElem?_eq_getElem hk)]
  exact q _ (List.getElem_mem hk)
theorem ixT_any {l : List PyData} {i : Int} {R : PyData → Prop} (h0 : 0 ≤ i) (h1 : i < l.length) (q : ∀ d ∈ l, R d) : ixD (.tuple l) (.int i) R := by
  obtain ⟨k, rfl⟩ : ∃ k : Nat, i = k := ⟨i.toNat, by omega⟩
  have hk : k < l.length := by omega
  show (match atI l (k : Int) with
    | some d => R d
    | none => False)
  rw [atI_nat (List.getElem?_eq_getElem hk)]
  exact q _ (List.getElem_mem hk)
theorem cut_take (ds : List PyData) {k : Int} (h : 0 ≤ k) : cutD ds none (some k) = ds.take k.toNat := by
  have e1 : HT.sIx ds.length 0 none = 0 := rfl
  have e2 : HT.sIx ds.length ds.length (some k) = min k.toNat ds.length := by
    unfold HT.sIx
    first | omega | (simp only [] ; split <;> omega) | (split <;> omega)
  unfold cutD
  rw [e1, e2, List.drop_zero, Nat.sub_zero]
  rcases Nat.le_total k.toNat ds.length with h | h
  · rw [Nat.min_eq_left h]
  · rw [Nat.min_eq_right h, List.take_length, List.take_of_length_le h]
theorem sl_take {α : Type} {f : α → PyData} {l : List α} {k : Int} {R : PyData → Prop} (h : 0 ≤ k) (q : R (.list ((l.take k.toNat).map f))) : slD (.list (l.map f)) none (some k) R := by
  show R (.list (cutD (l.map f) none (some k)))
  rw [cut_take _ h, ← List.map_take]
  exact q
theorem addI {a b : Int} {R : PyData → Prop} (q : R (.int (a + b))) : addD (.int a) (.int b) R := q
instance (a b : Str) : Decidable (Lt a b) := inferInstanceAs (Decidable (a.cps.toList < b.cps.toList))
instance (x : Str) : Decidable (Name x) := inferInstanceAs (Decidable (1 ≤ x.length ∧ x.length ≤ 8 ∧ ∀ c ∈ x.cps.toList, c ∈ ("abcdefghijklmnopqrstuvwxyz" : Str).cps.toList))
def thingNames : List Str := ["arch", "boat", "cart", "dam", "edge", "fence", "gate", "hut"]
def folkNames : List Str := ["al", "bo", "cy", "di", "ed", "fay", "gus", "hal"]
theorem thingNames_up : thingNames.Pairwise Lt := by decide +kernel
theorem folkNames_up : folkNames.Pairwise Lt := by decide +kernel
theorem thingNames_nm : ∀ x ∈ thingNames, Name x := by decide +kernel
theorem folkNames_nm : ∀ x ∈ folkNames, Name x := by decide +kernel
theorem sum_bd : ∀ (l : List (Str × Int)), (∀ p ∈ l, 0 ≤ p.2 ∧ p.2 ≤ 1000) → 0 ≤ (l.map (·.2)).sum ∧ (l.map (·.2)).sum ≤ 1000 * l.length
  | [], _ => by decide
  | p :: l, h => by
    have h1 := h p (List.mem_cons_self ..)
    have h2 := sum_bd l fun q hq => h q (List.mem_cons_of_mem _ hq)
    rw [List.map_cons, List.sum_cons, List.length_cons]
    omega
theorem setN_free {ρ : Ms} {i : Nat} {d : PyData} {R : Ms → Prop} (h : freeS ρ i = true) (q : R (ρ.set i (.own d))) : (match slot ρ i with
  | .inn _ _ => False
  | _ => R (ρ.set i (.own d))) := by
  unfold freeS at h
  split
  · rename_i e; rw [e] at h; cases h
  · exact q
theorem head_run {a b : Int} {l : List Int} {ρ : Ms} {R : List PyData → Ms → Prop} (a0 : 0 ≤ a) (a1 : a ≤ 100) (b0 : 0 ≤ b) (b1 : b ≤ 100) (q : ∀ m : Nat, m ≤ 100 → R (rangeD m) (.scr l :: ρ)) :
    iRg (mCallM max2D (mCons (mC (.int a)) (mCons (mCallM min2D (mCons (mC (.int b)) (mCons (mLenS 0) mNil))) mNil))) (.scr l :: ρ) R := by
  show (-10000 ≤ (if (if (l.length : Int) < b then (l.length : Int) else b) > a then (if (l.length : Int) < b then (l.length : Int) else b) else a) ∧ (if (if (l.length : Int) < b then (l.length : Int) else b) > a then (if (l.length : Int) < b then (l.length : Int) else b) else a) < 10000) ∧ R (rangeD (Int.toNat (if (if (l.length : Int) < b then (l.length : Int) else b) > a then (if (l.length : Int) < b then (l.length : Int) else b) else a))) _
  have e : 0 ≤ (if (if (l.length : Int) < b then (l.length : Int) else b) > a then (if (l.length : Int) < b then (l.length : Int) else b) else a) ∧ (if (if (l.length : Int) < b then (l.length : Int) else b) > a then (if (l.length : Int) < b then (l.length : Int) else b) else a) ≤ 100 := by
    split <;> split <;> omega
  exact ⟨⟨by omega, by omega⟩, q _ (by omega)⟩
/-- one statement done: what stands behind it is told -/
theorem seq_to {t u : MS} {D : PEnd} {ρ : Ms} (ρ' : Ms) (h : ∀ K : Ms → Prop, K ρ' → t { D with nx := K } ρ) (q : u D ρ') : mSeq t u D ρ := h _ q
theorem seq_by {t u : MS} {D : PEnd} {ρ : Ms} (P : Ms → Prop) (h : ∀ K : Ms → Prop, (∀ ρ', P ρ' → K ρ') → t { D with nx := K } ρ) (q : ∀ ρ', P ρ' → u D ρ') : mSeq t u D ρ := h _ q
theorem mT_true {ρ : Ms} {R : Bool → Ms → Prop} (q : R true ρ) : mT (mC (.bool true)) ρ R := q
def AllF (ρ : Ms) : Prop := ∀ i, freeS ρ i = true
theorem allF_nil : AllF [] := fun _ => rfl
theorem allF_cons {s : Sl} {ρ : Ms} (h : freeO s = true) (k : AllF ρ) : AllF (s :: ρ)
  | 0 => h
  | i + 1 => k i
end G


set_option Elab.async false
set_option maxRecDepth 100000
set_option maxHeartbeats 1000000
/-! ML: who is left, in plain Lean. -/
namespace G
open PySem PySem.Spec PyProof.Rows L2
/-- weights are whole and above nought -/
def Wt (f : List One) : Prop := ∀ o ∈ f, 1 ≤ o.weight
/-- costs are nought at least -/
def Co (t : List (Str × Int)) : Prop := ∀ p ∈ t, 0 ≤ p.2
theorem VF.wt {t : List (Str × Int)} {f : List One} (h : VF t f) : Wt f := fun o ho => (h.on o ho).we.1
theorem VT.coo {t : List (Str × Int)} (h : VT t) : Co t := fun p hp => (h.co p hp).1
theorem sumw_sub {f g : List One} (s : g.Sublist f) (h : Wt f) : (g.map (·.weight)).sum ≤ (f.map (·.weight)).sum ∧ 0 ≤ (g.map (·.weight)).sum := by
  induction s with
  | slnil => exact ⟨Int.le_refl _, Int.le_refl _⟩
  | cons a s ih =>
    have i := ih fun o ho => h o (List.mem_cons_of_mem _ ho)
    have := h a (List.mem_cons_self ..)
    rw [List.map_cons, List.sum_cons]
    omega
  | cons_cons a s ih =>
    have i := ih fun o ho => h o (List.mem_cons_of_mem _ ho)
    have := h a (List.mem_cons_self ..)
    rw [List.map_cons, List.sum_cons, List.map_cons, List.sum_cons]
    omega
theorem weight_sub {f g : List One} (s : g.Sublist f) (h : Wt f) (x : Str) : weightOf g x ≤ weightOf f x ∧ 0 ≤ weightOf g x :=
  sumw_sub (s.filter _) fun o ho => h o (List.mem_filter.mp ho).1
theorem weight_one {f : List One} (h : Wt f) {o : One} (ho : o ∈ f) {x : Str} (hx : x ∈ o.wants) : 1 ≤ weightOf f x := by
  have m : o ∈ usersOf f x := List.mem_filter.mpr ⟨ho, by simpa using hx⟩
  have s : [o].Sublist (usersOf f x) := List.singleton_sublist.mpr m
  have := (sumw_sub s fun o ho => h o (List.mem_filter.mp ho).1).1
  have w := h o ho
  unfold weightOf
  rw [List.map_cons, List.map_nil, List.sum_cons, List.sum_nil] at this
  omega
theorem mk_le {a : Int} {m n : Nat} (ha : 0 ≤ a) (hm : 0 < m) (h : m ≤ n) : mkRat a n ≤ mkRat a m := by
  rw [Rat.mkRat_eq_div, Rat.mkRat_eq_div]
  have hm' : (0 : Rat) < (m : Rat) := Rat.natCast_pos.mpr hm
  have hn' : (0 : Rat) < (n : Rat) := Rat.natCast_pos.mpr (by omega)
  have ha' : (0 : Rat) ≤ (a : Rat) := Rat.intCast_nonneg.mpr ha
  have hmn : (m : Rat) ≤ (n : Rat) := Rat.natCast_le_natCast.mpr h
  have hm0 : (m : Rat) ≠ 0 := fun z => by rw [z] at hm'; exact Rat.lt_irrefl hm'
  have hn0 : (n : Rat) ≠ 0 := fun z => by rw [z] at hn'; exact Rat.lt_irrefl hn'
  have e1 : (a : Rat) / n * n = a := Rat.div_mul_cancel hn0
  have e2 : (a : Rat) / m * m = a := Rat.div_mul_cancel hm0
  have p : (0 : Rat) ≤ (a : Rat) / m := by
    have : (0 : Rat) ≤ (a : Rat) / m * m := by rw [e2]; exact ha'
    refine Rat.le_of_mul_le_mul_right (c := (m : Rat)) ?_ hm'
    rw [Rat.zero_mul]; exact this
  refine Rat.le_of_mul_le_mul_right (c := (n : Rat)) ?_ hn'
  rw [e1]
  have := Rat.mul_le_mul_of_nonneg_left hmn p
  rw [e2] at this
  exact this
theorem mk_nonneg {a : Int} {m : Nat} (ha : 0 ≤ a) : 0 ≤ mkRat a m := by
  rw [← Rat.divInt_ofNat]
  exact Rat.divInt_nonneg ha (Int.natCast_nonneg _)
theorem part_mono {f g : List One} (s : g.Sublist f) (h : Wt f) {o : One} (ho : o ∈ g) {p : Str × Int} (hp : 0 ≤ p.2) (hx : p.1 ∈ o.wants) : part f p o ≤ part g p o := by
  have w := weight_sub s h p.1
  have w1 := weight_one (fun o ho => h o (s.subset ho)) ho hx
  have := h o (s.subset ho)
  exact mk_le (Int.mul_nonneg hp (by omega)) (by omega) (by omega)
theorem part_nonneg {f : List One} {o : One} (ho : 1 ≤ o.weight) {p : Str × Int} (hp : 0 ≤ p.2) : 0 ≤ part f p o := mk_nonneg (Int.mul_nonneg hp (by omega))
theorem rsum_le {α : Type} (l : List α) (a b : α → Rat) (h : ∀ x ∈ l, a x ≤ b x) : (l.map a).sum ≤ (l.map b).sum := by
  induction l with
  | nil => exact Rat.le_refl
  | cons x l ih =>
    rw [List.map_cons, List.map_cons, List.sum_cons, List.sum_cons]
    exact Rat.le_trans (Rat.add_le_add_right.mpr (h x (List.mem_cons_self ..))) (Rat.add_le_add_left.mpr (ih fun y hy => h y (List.mem_cons_of_mem _ hy)))
theorem rsum_nonneg {α : Type} (l : List α) (a : α → Rat) (h : ∀ x ∈ l, 0 ≤ a x) : 0 ≤ (l.map a).sum := by
  induction l with
  | nil => exact Rat.le_refl
  | cons x l ih =>
    rw [List.map_cons, List.sum_cons]
    exact Rat.add_nonneg (h x (List.mem_cons_self ..)) (ih fun y hy => h y (List.mem_cons_of_mem _ hy))
/-- with fewer around, each one's share is no smaller -/
theorem share_mono {t : List (Str × Int)} (hc : Co t) {f g : List One} (s : g.Sublist f) (h : Wt f) {o : One} (ho : o ∈ g) : share t f o ≤ share t g o := by
  refine rsum_le _ _ _ fun p hp => ?_
  obtain ⟨hp, hx⟩ := List.mem_filter.mp hp
  exact part_mono s h ho (hc p hp) (by simpa using hx)
theorem share_nonneg {t : List (Str × Int)} (hc : Co t) {f : List One} {o : One} (ho : 1 ≤ o.weight) : 0 ≤ share t f o :=
  rsum_nonneg _ _ fun p hp => part_nonneg ho (hc p (List.mem_filter.mp hp).1)

/-! ### who pays gladly -/
def pays (t : List (Str × Int)) (ex : Str → Option Rat) (f : List One) (o : One) : Bool := match ex o.name with
  | none => true
  | some e => !decide ((o.worth : Rat) + e < share t f o)
def Glad (t : List (Str × Int)) (ex : Str → Option Rat) (f : List One) : Prop := ∀ o ∈ f, pays t ex f o = true
def lstep (t : List (Str × Int)) (ex : Str → Option Rat) (f : List One) : List One := f.filter (pays t ex f)
def lleft (t : List (Str × Int)) (ex : Str → Option Rat) : Nat → List One → List One
  | 0, f => f
  | n + 1, f => if (lstep t ex f).length = f.length then f else lleft t ex n (lstep t ex f)
def leftOf (t : List (Str × Int)) (ex : Str → Option Rat) (f : List One) : List One := lleft t ex f.length f
variable {t : List (Str × Int)} {ex : Str → Option Rat}
theorem pays_mono (hc : Co t) {f g : List One} (s : g.Sublist f) (h : Wt f) {o : One} (ho : o ∈ g) (p : pays t ex g o = true) : pays t ex f o = true := by
  unfold pays at p ⊢
  split at p
  · rfl
  · rename_i e _
    simp only [Bool.not_eq_true', decide_eq_false_iff_not] at p ⊢
    exact fun z => p (Rat.not_le.mp fun k => Rat.not_le.mpr z (Rat.le_trans (share_mono hc s h ho) k))
theorem lstep_sub (f : List One) : (lstep t ex f).Sublist f := List.filter_sublist
theorem lleft_sub : ∀ (n : Nat) (f : List One), (lleft t ex n f).Sublist f
  | 0, f => List.Sublist.refl f
  | n + 1, f => by
    unfold lleft
    split
    · exact List.Sublist.refl f
    · exact (lleft_sub n _).trans (lstep_sub f)
theorem leftOf_sub (f : List One) : (leftOf t ex f).Sublist f := lleft_sub _ f
theorem lstep_same {f : List One} (h : (lstep t ex f).length = f.length) : Glad t ex f := fun o ho => by
  have e : lstep t ex f = f := (lstep_sub f).eq_of_length h
  have : o ∈ lstep t ex f := e.symm ▸ ho
  exact (List.mem_filter.mp this).2
theorem lleft_glad : ∀ (n : Nat) (f : List One), f.length ≤ n → Glad t ex (lleft t ex n f)
  | 0, f, h => by
    have : f = [] := List.length_eq_zero_iff.mp (Nat.le_zero.mp h)
    subst this
    intro o ho; cases ho
  | n + 1, f, h => by
    unfold lleft
    split
    · rename_i e
      exact lstep_same e
    · rename_i e
      have l := (lstep_sub (t := t) (ex := ex) f).length_le
      exact lleft_glad n _ (by omega)
theorem leftOf_glad (f : List One) : Glad t ex (leftOf t ex f) := lleft_glad _ f (Nat.le_refl _)
theorem lleft_all (hc : Co t) {g : List One} : ∀ (n : Nat) (f : List One), Wt f → g.Sublist f → Glad t ex g → g.Sublist (lleft t ex n f)
  | 0, f, _, s, _ => s
  | n + 1, f, h, s, hg => by
    unfold lleft
    split
    · exact s
    · refine lleft_all hc n _ (fun o ho => h o ((lstep_sub f).subset ho)) ?_ hg
      have e : g.filter (pays t ex f) = g := List.filter_eq_self.mpr fun o ho => pays_mono hc s h ho (hg o ho)
      have := s.filter (pays t ex f)
      rw [e] at this
      exact this
/-- whoever is glad somewhere is left -/
theorem leftOf_all (hc : Co t) {f g : List One} (h : Wt f) (s : g.Sublist f) (hg : Glad t ex g) : g.Sublist (leftOf t ex f) := lleft_all hc _ f h s hg
/-- fuel does not matter -/
theorem lleft_more : ∀ (n m : Nat) (f : List One), f.length ≤ n → f.length ≤ m → lleft t ex n f = lleft t ex m f
  | 0, 0, f, _, _ => rfl
  | 0, m + 1, f, h, _ => by
    have : f = [] := List.length_eq_zero_iff.mp (Nat.le_zero.mp h)
    subst this
    rfl
  | n + 1, 0, f, _, h => by
    have : f = [] := List.length_eq_zero_iff.mp (Nat.le_zero.mp h)
    subst this
    rfl
  | n + 1, m + 1, f, h, k => by
    unfold lleft
    split
    · rfl
    · rename_i e
      have l := (lstep_sub (t := t) (ex := ex) f).length_le
      exact lleft_more n m _ (by omega) (by omega)
theorem leftOf_step {f : List One} (h : (lstep t ex f).length ≠ f.length) : leftOf t ex f = leftOf t ex (lstep t ex f) := by
  have l := (lstep_sub (t := t) (ex := ex) f).length_le
  unfold leftOf
  have e : lleft t ex f.length f = lleft t ex (f.length + 1) f := lleft_more _ _ _ (Nat.le_refl _) (by omega)
  rw [e]
  conv => lhs; unfold lleft
  rw [if_neg h]
  exact lleft_more _ _ _ (by omega) (Nat.le_refl _)
theorem leftOf_same {f : List One} (h : (lstep t ex f).length = f.length) : leftOf t ex f = f := by
  unfold leftOf
  have e : lleft t ex f.length f = lleft t ex (f.length + 1) f := lleft_more _ _ _ (Nat.le_refl _) (by omega)
  rw [e]
  unfold lleft
  rw [if_pos h]
end G


set_option Elab.async false
set_option maxRecDepth 100000
set_option maxHeartbeats 1000000
/-! M23: shares are means over all orders, in plain Lean. -/
namespace G
open PySem PySem.Spec PyProof.Rows L2
def fct : Nat → Nat
  | 0 => 1
  | n + 1 => (n + 1) * fct n
theorem fct_pos : ∀ n, 0 < fct n
  | 0 => by decide
  | n + 1 => Nat.mul_pos (by omega) (fct_pos n)
theorem ords_len : ∀ (n : Nat) (l : List Str), ∀ r ∈ ords n l, r.length = n
  | 0, l, r, h => by
    unfold ords at h
    simp only [List.mem_cons, List.not_mem_nil, or_false] at h
    subst h; rfl
  | n + 1, l, r, h => by
    unfold ords at h
    obtain ⟨x, _, h⟩ := List.mem_flatMap.mp h
    obtain ⟨r', h', rfl⟩ := List.mem_map.mp h
    rw [List.length_cons, ords_len n _ r' h']
theorem ords_sub : ∀ (n : Nat) (l : List Str), ∀ r ∈ ords n l, ∀ x ∈ r, x ∈ l
  | 0, l, r, h, x, hx => by
    unfold ords at h
    simp only [List.mem_cons, List.not_mem_nil, or_false] at h
    subst h; cases hx
  | n + 1, l, r, h, x, hx => by
    unfold ords at h
    obtain ⟨y, hy, h⟩ := List.mem_flatMap.mp h
    obtain ⟨r', h', rfl⟩ := List.mem_map.mp h
    rcases List.mem_cons.mp hx with rfl | hx
    · exact hy
    · exact (List.mem_filter.mp (ords_sub n _ r' h' x hx)).1
theorem ords_nodup : ∀ (n : Nat) (l : List Str), ∀ r ∈ ords n l, r.Nodup
  | 0, l, r, h => by
    unfold ords at h
    simp only [List.mem_cons, List.not_mem_nil, or_false] at h
    subst h; exact List.nodup_nil
  | n + 1, l, r, h => by
    unfold ords at h
    obtain ⟨y, hy, h⟩ := List.mem_flatMap.mp h
    obtain ⟨r', h', rfl⟩ := List.mem_map.mp h
    refine List.nodup_cons.mpr ⟨fun z => ?_, ords_nodup n _ r' h'⟩
    have := (List.mem_filter.mp (ords_sub n _ r' h' y z)).2
    simp at this
theorem rest_len {l : List Str} (h : l.Nodup) {x : Str} (hx : x ∈ l) : (l.filter fun y => !decide (y = x)).length + 1 = l.length := by
  induction l with
  | nil => cases hx
  | cons a l ih =>
    rw [List.nodup_cons] at h
    by_cases e : a = x
    · subst e
      rw [List.filter_cons_of_neg (by simp), List.length_cons]
      have : l.filter (fun y => !decide (y = a)) = l := List.filter_eq_self.mpr fun y hy => by
        have : y ≠ a := fun z => h.1 (z ▸ hy)
        simp [this]
      rw [this]
    · rw [List.filter_cons_of_pos (by simp [e]), List.length_cons, List.length_cons]
      rcases List.mem_cons.mp hx with z | hx
      · exact (e z.symm).elim
      · rw [ih h.2 hx]
theorem ords_count : ∀ (n : Nat) (l : List Str), l.Nodup → l.length = n → (ords n l).length = fct n
  | 0, l, _, _ => rfl
  | n + 1, l, hn, hl => by
    unfold ords
    rw [List.length_flatMap]
    have e : (l.map fun x => ((ords n (l.filter fun y => !decide (y = x))).map (x :: ·)).length) = l.map fun _ => fct n := List.map_congr_left fun x hx => by
      rw [List.length_map, ords_count n _ (hn.sublist List.filter_sublist) (by have := rest_len hn hx; omega)]
    rw [e]
    have : ∀ m : List Str, (m.map fun _ => fct n).sum = m.length * fct n := by
      intro m
      induction m with
      | nil => simp
      | cons a m ih => rw [List.map_cons, List.sum_cons, ih, List.length_cons, Nat.add_mul, Nat.one_mul, Nat.add_comm]
    rw [this, hl]; rfl
section
variable (W : Str → List Str) (P : Str → Int)
def frsh (h : List Str) (m : Str) : List Str := (W m).filter fun x => !decide (x ∈ h)
def stp (s : List Str × (Str → Int)) (m : Str) : List Str × (Str → Int) := (s.1 ++ frsh W s.1 m, fun n => if n = m then s.2 n + ((frsh W s.1 m).map P).sum else s.2 n)
def gain (h : List Str) : List Str → Str → Int
  | [], _ => 0
  | m :: r, n => (if n = m then ((frsh W h m).map P).sum else 0) + gain (h ++ frsh W h m) r n
def firstIn (x : Str) : List Str → Str → Int
  | [], _ => 0
  | m :: r, n => if m = n then 1 else if x ∈ W m then 0 else firstIn x r n
theorem run_gain : ∀ (r h : List Str) (a : Str → Int) (n : Str), (r.foldl (stp W P) (h, a)).2 n = a n + gain W P h r n
  | [], h, a, n => by show a n = a n + 0; omega
  | m :: r, h, a, n => by
    rw [List.foldl_cons]
    unfold stp gain
    dsimp only
    rw [show (fun (s : List Str × (Str → Int)) m => (s.1 ++ frsh W s.1 m, fun n => if n = m then s.2 n + ((frsh W s.1 m).map P).sum else s.2 n)) = stp W P from rfl, run_gain r]
    split <;> omega
def addAll (os : List (List Str)) : Str → Int := os.foldl (fun a r => (r.foldl (stp W P) ([], a)).2) fun _ => 0
theorem addAll_sum (os : List (List Str)) (n : Str) : addAll W P os n = (os.map fun r => gain W P [] r n).sum := by
  have key : ∀ (os : List (List Str)) (a : Str → Int), os.foldl (fun a r => (r.foldl (stp W P) ([], a)).2) a n = a n + (os.map fun r => gain W P [] r n).sum := by
    intro os
    induction os with
    | nil => intro a; simp
    | cons r os ih =>
      intro a
      rw [List.foldl_cons, ih, run_gain, List.map_cons, List.sum_cons]; omega
  rw [addAll, key]; simp
theorem gain_out : ∀ (r h : List Str) (n : Str), n ∉ r → gain W P h r n = 0
  | [], _, _, _ => rfl
  | m :: r, h, n, hn => by
    rw [List.mem_cons, not_or] at hn
    unfold gain
    rw [if_neg hn.1, gain_out r _ n hn.2]; rfl
theorem sum_filter {α : Type} (l : List α) (c : α → Bool) (g : α → Int) : ((l.filter c).map g).sum = (l.map fun x => if c x = true then g x else 0).sum := by
  induction l with
  | nil => rfl
  | cons a l ih =>
    by_cases h : c a = true
    · rw [List.filter_cons_of_pos h, List.map_cons, List.sum_cons, ih, List.map_cons, List.sum_cons, if_pos h]
    · rw [List.filter_cons_of_neg h, ih, List.map_cons, List.sum_cons, if_neg h]; omega
theorem gain_first : ∀ (r h : List Str) (n : Str), r.Nodup → gain W P h r n = ((W n).map fun x => if x ∈ h then 0 else P x * firstIn W x r n).sum
  | [], h, n, _ => by
    unfold gain firstIn
    have : ((W n).map fun x => if x ∈ h then (0 : Int) else P x * 0) = (W n).map fun _ => 0 := List.map_congr_left fun x _ => by split <;> omega
    rw [this]
    have : ∀ m : List Str, (m.map fun _ => (0 : Int)).sum = 0 := by
      intro m
      induction m with
      | nil => rfl
      | cons a m ih => rw [List.map_cons, List.sum_cons, ih]; rfl
    rw [this]
  | m :: r, h, n, hn => by
    rw [List.nodup_cons] at hn
    unfold gain
    by_cases e : n = m
    · subst e
      rw [if_pos rfl, gain_out W P r _ n hn.1]
      unfold frsh
      rw [sum_filter, Int.add_zero]
      refine congrArg List.sum (List.map_congr_left fun x _ => ?_)
      unfold firstIn
      rw [if_pos rfl, Int.mul_one]
      by_cases k : x ∈ h <;> simp [k]
    · rw [if_neg e, gain_first r _ n hn.2, Int.zero_add]
      refine congrArg List.sum (List.map_congr_left fun x _ => ?_)
      have e' : ¬ m = n := fun z => e z.symm
      conv => rhs; unfold firstIn
      rw [if_neg e']
      have mm : (x ∈ h ++ frsh W h m) ↔ (x ∈ h ∨ x ∈ W m) := by
        unfold frsh
        rw [List.mem_append, List.mem_filter]
        by_cases k : x ∈ h <;> simp [k]
      by_cases k : x ∈ h
      · rw [if_pos (mm.mpr (.inl k)), if_pos k]
      · by_cases k2 : x ∈ W m
        · rw [if_pos (mm.mpr (.inr k2)), if_neg k, if_pos k2, Int.mul_zero]
        · rw [if_neg (fun z => (mm.mp z).elim k k2), if_neg k, if_neg k2]
theorem sum_swap {α β : Type} (as : List α) (bs : List β) (g : α → β → Int) : (as.map fun a => (bs.map fun b => g a b).sum).sum = (bs.map fun b => (as.map fun a => g a b).sum).sum := by
  induction as with
  | nil =>
    simp only [List.map_nil, List.sum_nil]
    induction bs with
    | nil => rfl
    | cons b bs ih => rw [List.map_cons, List.sum_cons, ← ih]; rfl
  | cons a as ih =>
    rw [List.map_cons, List.sum_cons, ih]
    clear ih
    induction bs with
    | nil => rfl
    | cons b bs ih => simp only [List.map_cons, List.sum_cons] at ih ⊢; omega
theorem sum_mul {α : Type} (l : List α) (g : α → Int) (c : Int) : (l.map fun a => c * g a).sum = c * (l.map g).sum := by
  induction l with
  | nil => simp
  | cons a l ih => rw [List.map_cons, List.sum_cons, ih, List.map_cons, List.sum_cons, Int.mul_add]
theorem sum_flat {α β : Type} (l : List α) (f : α → List β) (g : β → Int) : ((l.flatMap f).map g).sum = (l.map fun a => ((f a).map g).sum).sum := by
  induction l with
  | nil => rfl
  | cons a l ih => rw [List.flatMap_cons, List.map_append, List.sum_append, ih, List.map_cons, List.sum_cons]
theorem sum_const {α : Type} (l : List α) (c : Int) : (l.map fun _ => c).sum = l.length * c := by
  induction l with
  | nil => simp
  | cons a l ih => rw [List.map_cons, List.sum_cons, ih, List.length_cons, Int.natCast_add, Int.add_mul]; omega
theorem pick_out (l : List Str) (x m : Str) (K F : Int) (hm : m ∉ l) : (l.map fun y => if y = m then K else if x ∈ W y then 0 else F).sum + F * ((l.filter fun y => decide (x ∈ W y)).length : Int) = F * l.length := by
  induction l with
  | nil => simp
  | cons a l ih =>
    rw [List.mem_cons, not_or] at hm
    have i := ih hm.2
    rw [List.map_cons, List.sum_cons, if_neg fun z => hm.1 z.symm, List.length_cons]
    by_cases k : x ∈ W a
    · rw [List.filter_cons_of_pos (by simp [k]), if_pos k, List.length_cons, Int.natCast_add, Int.natCast_add, Int.mul_add, Int.mul_add]; omega
    · rw [List.filter_cons_of_neg (by simp [k]), if_neg k, Int.natCast_add, Int.mul_add]; omega
theorem pick_in (l : List Str) (x m : Str) (K F : Int) (hn : l.Nodup) (hm : m ∈ l) (hx : x ∈ W m) : (l.map fun y => if y = m then K else if x ∈ W y then 0 else F).sum + F * ((l.filter fun y => decide (x ∈ W y)).length : Int) = K + F * l.length := by
  induction l with
  | nil => cases hm
  | cons a l ih =>
    rw [List.nodup_cons] at hn
    rw [List.map_cons, List.sum_cons, List.length_cons]
    by_cases e : a = m
    · subst e
      have i := pick_out W l x a K F hn.1
      rw [if_pos rfl, List.filter_cons_of_pos (by simp [hx]), List.length_cons, Int.natCast_add, Int.natCast_add, Int.mul_add, Int.mul_add]; omega
    · have i := ih hn.2 ((List.mem_cons.mp hm).resolve_left fun z => e z.symm)
      rw [if_neg e]
      by_cases k : x ∈ W a
      · rw [List.filter_cons_of_pos (by simp [k]), if_pos k, List.length_cons, Int.natCast_add, Int.natCast_add, Int.mul_add, Int.mul_add]; omega
      · rw [List.filter_cons_of_neg (by simp [k]), if_neg k, Int.natCast_add, Int.mul_add]; omega
theorem users_rest {l : List Str} {x y : Str} (h : x ∉ W y) : ((l.filter fun z => !decide (z = y)).filter fun z => decide (x ∈ W z)) = l.filter fun z => decide (x ∈ W z) := by
  rw [List.filter_filter]
  refine List.filter_congr fun z _ => ?_
  by_cases e : z = y
  · subst e; simp [h]
  · simp [e]
/-- in how many orders the one is ahead of all others that want x -/
theorem sum_first : ∀ (n : Nat) (l : List Str) (x m : Str), l.Nodup → l.length = n → m ∈ l → x ∈ W m → ((ords n l).map fun r => firstIn W x r m).sum * ((l.filter fun y => decide (x ∈ W y)).length : Int) = fct n
  | 0, l, x, m, _, hl, hm, _ => by
    have : l = [] := List.length_eq_zero_iff.mp hl
    rw [this] at hm; cases hm
  | n + 1, l, x, m, hn, hl, hm, hx => by
    have e0 : ords (n + 1) l = l.flatMap fun y => (ords n (l.filter fun z => !decide (z = y))).map (y :: ·) := rfl
    rw [e0, sum_flat, Int.mul_comm, ← sum_mul]
    have e1 : (l.map fun y => ((l.filter fun y => decide (x ∈ W y)).length : Int) * (((ords n (l.filter fun z => !decide (z = y))).map (y :: ·)).map fun r => firstIn W x r m).sum) = l.map fun y => if y = m then ((l.filter fun y => decide (x ∈ W y)).length : Int) * fct n else if x ∈ W y then 0 else (fct n : Int) := by
      refine List.map_congr_left fun y hy => ?_
      have rl := rest_len hn hy
      have rn : (l.filter fun z => !decide (z = y)).Nodup := hn.sublist List.filter_sublist
      rw [List.map_map]
      by_cases e : y = m
      · subst e
        rw [if_pos rfl]
        have : ((fun r => firstIn W x r y) ∘ fun r => y :: r) = fun _ => (1 : Int) := by
          funext r
          show firstIn W x (y :: r) y = 1
          unfold firstIn
          rw [if_pos rfl]
        rw [this, sum_const, ords_count n _ rn (by omega), Int.mul_one]
      · rw [if_neg e]
        by_cases k : x ∈ W y
        · rw [if_pos k]
          have : ((fun r => firstIn W x r m) ∘ fun r => y :: r) = fun _ => (0 : Int) := by
            funext r
            show firstIn W x (y :: r) m = 0
            unfold firstIn
            rw [if_neg e, if_pos k]
          rw [this, sum_const, Int.mul_zero, Int.mul_zero]
        · rw [if_neg k]
          have : ((fun r => firstIn W x r m) ∘ fun r => y :: r) = fun r => firstIn W x r m := by
            funext r
            show firstIn W x (y :: r) m = _
            conv => lhs; unfold firstIn
            rw [if_neg e, if_neg k]
          have i := sum_first n (l.filter fun z => !decide (z = y)) x m rn (by omega) (List.mem_filter.mpr ⟨hm, by simp; exact fun z => e z.symm⟩) hx
          rw [users_rest W k] at i
          rw [this, Int.mul_comm]
          exact i
    rw [e1]
    have p := pick_in W l x m (((l.filter fun y => decide (x ∈ W y)).length : Int) * fct n) (fct n) hn hm hx
    have e2 : (fct (n + 1) : Int) = (fct n : Int) * (l.length : Nat) := by
      rw [hl]
      show (((n + 1) * fct n : Nat) : Int) = _
      rw [Int.natCast_mul, Int.mul_comm]
    rw [e2]
    have c := Int.mul_comm (fct n : Int) ((l.filter fun y => decide (x ∈ W y)).length : Int)
    omega
end
theorem rising_ext : ∀ {l m : List Str}, Rising l → Rising m → (∀ x, x ∈ l ↔ x ∈ m) → l = m
  | [], [], _, _, _ => rfl
  | [], b :: m, _, _, h => by have := (h b).mpr (List.mem_cons_self ..); cases this
  | a :: l, [], _, _, h => by have := (h a).mp (List.mem_cons_self ..); cases this
  | a :: l, b :: m, hl, hm, h => by
    have e : a = b := by
      rcases List.mem_cons.mp ((h a).mp (List.mem_cons_self ..)) with e | e
      · exact e
      · rcases List.mem_cons.mp ((h b).mpr (List.mem_cons_self ..)) with k | k
        · exact k.symm
        · exact ((hm.head a e).trans (hl.head b k)).irr.elim
    subst e
    refine congrArg (a :: ·) (rising_ext hl.tail hm.tail fun x => ⟨fun hx => ?_, fun hx => ?_⟩)
    · rcases List.mem_cons.mp ((h x).mp (List.mem_cons_of_mem _ hx)) with e | e
      · subst e; exact (hl.head x hx).irr.elim
      · exact e
    · rcases List.mem_cons.mp ((h x).mpr (List.mem_cons_of_mem _ hx)) with e | e
      · subst e; exact (hm.head x hx).irr.elim
      · exact e
def wantsAt (f : List One) (n : Str) : List Str := (lget (f.map fun o => (o.name, o.wants)) n).getD []
def priceAt (t : List (Str × Int)) (x : Str) : Int := (lget t x).getD 0
theorem wantsAt_of {f : List One} (h : (f.map (·.name)).Nodup) {o : One} (ho : o ∈ f) : lget (f.map fun o => (o.name, o.wants)) o.name = some o.wants :=
  lget_mem (p := (o.name, o.wants)) (by rw [List.map_map]; exact h) (List.mem_map.mpr ⟨o, ho, rfl⟩)
theorem priceAt_of {t : List (Str × Int)} (h : (t.map (·.1)).Nodup) {p : Str × Int} (hp : p ∈ t) : lget t p.1 = some p.2 := lget_mem h hp
theorem mk_add (a b : Int) (N : Nat) (hN : N ≠ 0) : mkRat (a + b) N = mkRat a N + mkRat b N := by
  rw [Rat.mkRat_add_mkRat _ _ hN hN, ← Int.add_mul]
  exact (Rat.mkRat_mul_right hN).symm
theorem mk_sum {α : Type} (l : List α) (g : α → Int) (N : Nat) (hN : N ≠ 0) : mkRat (l.map g).sum N = (l.map fun a => mkRat (g a) N).sum := by
  induction l with
  | nil => exact Rat.zero_mkRat N
  | cons a l ih => rw [List.map_cons, List.sum_cons, mk_add _ _ _ hN, ih, List.map_cons, List.sum_cons]
theorem mean_is {t : List (Str × Int)} {f : List One} (ht : VT t) (hf : VF t f) (h1 : ∀ o ∈ f, o.weight = 1) :
    sharesOf t f = f.map fun o => (o.name, mkRat (addAll (wantsAt f) (priceAt t) (ords f.length (nmsOf f)) o.name) (fct f.length)) := by
  unfold sharesOf
  refine List.map_congr_left fun o ho => ?_
  refine congrArg (Prod.mk o.name) ?_
  have nn : (nmsOf f).Nodup := hf.nodup
  have nl : (nmsOf f).length = f.length := List.length_map _
  have fp := fct_pos f.length
  have wo : wantsAt f o.name = o.wants := by unfold wantsAt; rw [wantsAt_of hf.nodup ho]; rfl
  rw [addAll_sum]
  have e1 : ((ords f.length (nmsOf f)).map fun r => gain (wantsAt f) (priceAt t) [] r o.name) = (ords f.length (nmsOf f)).map fun r => (o.wants.map fun x => priceAt t x * firstIn (wantsAt f) x r o.name).sum := by
    refine List.map_congr_left fun r hr => ?_
    rw [gain_first _ _ r [] o.name (ords_nodup _ _ r hr), wo]
    simp only [List.not_mem_nil, if_false]
  rw [e1, sum_swap]
  have e2 : o.wants = (t.filter fun p => decide (p.1 ∈ o.wants)).map (·.1) := by
    refine rising_ext (hf.on o ho).up (Rising.of (ht.up.pw.sublist (List.filter_sublist.map _))) fun x => ?_
    rw [List.mem_map]
    constructor
    · intro hx
      obtain ⟨p, hp, rfl⟩ := List.mem_map.mp ((hf.on o ho).ws x hx)
      exact ⟨p, List.mem_filter.mpr ⟨hp, by simpa using hx⟩, rfl⟩
    · rintro ⟨p, hp, rfl⟩
      simpa using (List.mem_filter.mp hp).2
  unfold share
  rw [mk_sum _ _ _ (by omega)]
  conv => rhs; rw [e2, List.map_map]
  refine congrArg List.sum (List.map_congr_left fun p hp => ?_)
  obtain ⟨hp, hx⟩ := List.mem_filter.mp hp
  have hx : p.1 ∈ o.wants := by simpa using hx
  show part f p o = mkRat ((ords f.length (nmsOf f)).map fun r => priceAt t p.1 * firstIn (wantsAt f) p.1 r o.name).sum (fct f.length)
  rw [sum_mul]
  have pr : priceAt t p.1 = p.2 := by unfold priceAt; rw [priceAt_of ht.up.nodup hp]; rfl
  have sf := sum_first (wantsAt f) f.length (nmsOf f) p.1 o.name nn nl (List.mem_map_of_mem ho) (by rw [wo]; exact hx)
  have ul : ((nmsOf f).filter fun y => decide (p.1 ∈ wantsAt f y)).length = (usersOf f p.1).length := by
    unfold nmsOf usersOf
    rw [List.filter_map, List.length_map]
    refine congrArg List.length (List.filter_congr fun q hq => ?_)
    show decide (p.1 ∈ wantsAt f q.name) = _
    unfold wantsAt
    rw [wantsAt_of hf.nodup hq]; rfl
  rw [ul] at sf
  have wt : weightOf f p.1 = ((usersOf f p.1).length : Int) := by
    unfold weightOf
    have : (usersOf f p.1).map (·.weight) = (usersOf f p.1).map fun _ => (1 : Int) := List.map_congr_left fun q hq => h1 q (List.mem_filter.mp hq).1
    rw [this, sum_const, Int.mul_one]
  unfold part
  rw [wt, Int.toNat_natCast, h1 o ho, Int.mul_one, pr]
  generalize ((ords f.length (nmsOf f)).map fun r => firstIn (wantsAt f) p.1 r o.name).sum = S at sf
  have s0 : 0 < S := by
    have up : (0 : Int) ≤ ((usersOf f p.1).length : Nat) := Int.natCast_nonneg _
    rcases Int.lt_trichotomy S 0 with h | h | h
    · have := Int.mul_nonpos_of_nonpos_of_nonneg (Int.le_of_lt h) up
      omega
    · rw [h, Int.zero_mul] at sf; omega
    · exact h
  obtain ⟨k, rfl⟩ : ∃ k : Nat, S = k := ⟨S.toNat, by omega⟩
  have e3 : fct f.length = (usersOf f p.1).length * k := by
    have : ((k * (usersOf f p.1).length : Nat) : Int) = (fct f.length : Nat) := by rw [Int.natCast_mul]; exact sf
    rw [Nat.mul_comm]; exact (Int.ofNat.inj this).symm
  rw [e3]
  exact (Rat.mkRat_mul_right (by omega)).symm
end G


set_option Elab.async false
set_option maxRecDepth 100000
set_option maxHeartbeats 1000000
/-! GP6: what the defs about those left promise. -/
namespace G
open PySem PySem.Spec PyProof.Rows L2
open PySem.W (Datum)
def oR : Option Rat → PyData
  | none => .none
  | some q => fr q
def exOf (more : List (Str × Option Rat)) (n : Str) : Option Rat := (lget more n).getD (some 0)
def moD (more : List (Str × Option Rat)) : PyData := .dict (dS oR more)
/-- what is given more is not too long a fraction -/
def MoOk (more : List (Str × Option Rat)) : Prop := ∀ n e, exOf more n = some e → Bd 1500 e
def payB (ex : Option Rat) (worth : Int) (s : Rat) : Bool := match ex with
  | none => true
  | some e => !decide ((worth : Rat) + e < s)
theorem pays_is (t : List (Str × Int)) (ex : Str → Option Rat) (f : List One) (o : One) : pays t ex f o = payB (ex o.name) o.worth (share t f o) := by
  unfold pays payB
  cases ex o.name <;> rfl
def p_would_pay : PSp := fun ss R _ => ∃ o s more, Bd 200 s ∧ 0 ≤ o.worth ∧ o.worth ≤ 1000 ∧ MoOk more ∧ ss = [.dat (oD o), .dat (fr s), .dat (moD more)] ∧ R (.bool (payB (exOf more o.name) o.worth s)) ss
def p_left_of : PSp := fun ss R _ => ∃ t d f more, VT t ∧ VF t f ∧ MoOk more ∧ seqOf d = some (f.map oD) ∧ ss = [.dat (tsD t), .dat d, .dat (moD more)] ∧ R (flD (leftOf t (exOf more) f)) ss
/-- nobody is given more -/
def ex0 : Str → Option Rat := fun _ => some 0
theorem exOf_nil : exOf [] = ex0 := rfl
theorem moOk_nil : MoOk [] := fun n e h => by
  have : e = 0 := (Option.some.inj h).symm
  subst this
  exact ⟨by decide, by decide⟩
def p_left : PSp := fun ss R _ => ∃ t f, VT t ∧ VF t f ∧ ss = [.dat (tsD t), .dat (fsD f)] ∧ R (nsT (nmsOf (leftOf t ex0 f))) ss
def namesIn (d : PyData) (l : List Str) : Prop := d = nsL l ∨ d = nsT l
def outOf (f : List One) (l : List Str) : List One := f.filter fun o => !decide (o.name ∈ l)
def p_without : PSp := fun ss R _ => ∃ df f dl l, seqOf df = some (f.map oD) ∧ namesIn dl l ∧ ss = [.dat df, .dat dl] ∧ R (flD (outOf f l)) ss
def p__law_without : PSp := fun ss R _ => ∃ df f dl l, seqOf df = some (f.map oD) ∧ namesIn dl l ∧ ss = [.dat df, .dat dl] ∧ R (fsD (outOf f l)) ss
def p__law_shares : PSp := p_shares_of
def lots {α : Type} (l : List α) : List (List α) := l.foldl (fun acc x => acc ++ acc.map (· ++ [x])) [[]]
def p__law_lots : PSp := fun ss R _ => ∃ d ds, seqOf d = some ds ∧ ds.length ≤ 8 ∧ ss = [.dat d] ∧ R (.list ((lots ds).map .tuple)) ss
def gladB (t : List (Str × Int)) (f : List One) : Bool := decide (f.filter (fun o => decide ((o.worth : Rat) < share t f o)) = [])
def p__law_glad : PSp := fun ss R _ => ∃ t d f, VT t ∧ VF t f ∧ seqOf d = some (f.map oD) ∧ ss = [.dat (tsD t), .dat d] ∧ R (.bool (gladB t f)) ss
def p__law_greatest : PSp := fun ss R _ => ∃ t d f, VT t ∧ VF t f ∧ seqOf d = some (f.map oD) ∧ ss = [.dat (tsD t), .dat d] ∧ R (nsT (nmsOf (leftOf t ex0 f))) ss
theorem in_names {a : Str} {d : PyData} {l : List Str} {neg : Bool} {R : Bool → Prop} (h : namesIn d l) (q : R (neg ^^ decide (a ∈ l))) : inD neg (.str a) d R := by
  rcases h with rfl | rfl
  · exact in_lst (α := Str) (l := l) q
  · exact in_tup (α := Str) (l := l) q
theorem worth_bd {w : Int} (h0 : 0 ≤ w) (h1 : w ≤ 1000) : Bd 10 (w : Rat) := ⟨by show w.natAbs < 2 ^ 10; omega, by show (1 : Nat) < 2 ^ 10; decide⟩
theorem glad_iff {t : List (Str × Int)} {f : List One} : gladB t f = true ↔ Glad t ex0 f := by
  unfold gladB Glad
  rw [decide_eq_true_eq, List.filter_eq_nil_iff]
  refine ⟨fun h o ho => ?_, fun h o ho => ?_⟩
  · have := h o ho
    unfold pays ex0
    simp only [decide_eq_true_eq] at this
    show (!decide ((o.worth : Rat) + 0 < share t f o)) = true
    rw [Rat.add_zero, decide_eq_false this]; rfl
  · have := h o ho
    unfold pays ex0 at this
    have this : (!decide ((o.worth : Rat) + 0 < share t f o)) = true := this
    rw [Rat.add_zero] at this
    simpa using this
theorem share_get {t t' : List (Str × Int)} {f : List One} (hf : VF t f) {o : One} (ho : o ∈ f) : dget (dS fr (sharesOf t' f)) o.name = some (fr (share t' f o)) := by
  have e := lget_mem (l := sharesOf t' f) (p := (o.name, share t' f o)) (by rw [sharesOf_names]; exact hf.nodup) (List.mem_map.mpr ⟨o, ho, rfl⟩)
  rw [dS_get]
  have e : lget (sharesOf t' f) o.name = some (share t' f o) := e
  rw [e]; rfl
theorem share_b200 {t : List (Str × Int)} {f : List One} (ht : VT t) (hf : VF t f) {o : One} (ho : o ∈ f) : Bd 200 (share t f o) :=
  (share_bd hf.on hf.le (fun p hp => ht.co p hp) ho).mono (by have := ht.le; omega)

/-! ### sorted names -/
theorem le_of_not {a b : Str} : a.cps.toList ≤ b.cps.toList ↔ ¬ Lt b a := Iff.rfl
theorem lt_of_le_ne {a b : Str} (h : a.cps.toList ≤ b.cps.toList) (n : a ≠ b) : Lt a b := by
  rcases List.le_total a.cps.toList b.cps.toList with _ | k
  · by_cases z : Lt a b
    · exact z
    · have k : b.cps.toList ≤ a.cps.toList := z
      have e := List.le_antisymm h k
      exact (n (by
        cases a with | mk ca =>
        cases b with | mk cb =>
        have e : ca.toList = cb.toList := e
        exact congrArg Str.mk (Array.toList_inj.mp e))).elim
  · have e := List.le_antisymm h k
    exact (n (by
      cases a with | mk ca =>
      cases b with | mk cb =>
      have e : ca.toList = cb.toList := e
      exact congrArg Str.mk (Array.toList_inj.mp e))).elim
theorem sortD_to {K m : List Str} (hK : K.Nodup) (hm : Rising m) (h : ∀ x, x ∈ K ↔ x ∈ m) : sortD (K.map sD) = m.map sD := by
  let r : Str → Str → Bool := fun a b => decide (a.cps.toList ≤ b.cps.toList)
  have er : ∀ a b : Str, PySem.W.dataLe false (fun d => d) (sD a) (sD b) = r a b := fun a b => by
    have := congrFun (congrFun (PySem.W.dataLe_str (fun s : Str => s)) a) b
    exact this
  have e1 : (K.mergeSort r).map sD = sortD (K.map sD) := List.map_mergeSort fun a _ b _ => (er a b).symm
  rw [← e1]
  refine congrArg (List.map sD) ?_
  have tr : ∀ a b c : Str, r a b = true → r b c = true → r a c = true := fun a b c h1 h2 => by
    simp only [r, decide_eq_true_eq] at h1 h2 ⊢
    exact List.le_trans h1 h2
  have tt : ∀ a b : Str, (r a b || r b a) = true := fun a b => by
    simp only [r, Bool.or_eq_true, decide_eq_true_eq]
    exact List.le_total _ _
  have pw := List.pairwise_mergeSort tr tt K
  have pm := List.mergeSort_perm K r
  have nd : (K.mergeSort r).Nodup := pm.nodup_iff.mpr hK
  have nd' : (K.mergeSort r).Pairwise (· ≠ ·) := nd
  have up : (K.mergeSort r).Pairwise Lt := (pw.and nd').imp fun {a b} ⟨h1, h2⟩ => lt_of_le_ne (by simpa [r] using h1) h2
  exact rising_ext (Rising.of up) hm fun x => (pm.mem_iff).trans (h x)
theorem sortOk_any {K : List Str} (hl : K.length ≤ 1000) : SortOk (K.map sD) := sortOk_strs hl
/-! ### dicts of what is there -/
def truL (K : List Str) : List (PyData × PyData) := dS (fun _ : Unit => PyData.bool true) (K.map fun n => (n, ()))
theorem truL_keys (K : List Str) : (truL K).map (·.1) = K.map sD := by unfold truL dS; rw [List.map_map, List.map_map]; rfl
theorem truL_put (K : List Str) (n : Str) : dput (truL K) n (.bool true) = truL (if n ∈ K then K else K ++ [n]) := by
  have e := dS_put (v := fun _ : Unit => PyData.bool true) (K.map fun n => (n, ())) n ()
  unfold truL
  refine e.trans (congrArg _ ?_)
  unfold lput
  have m : (K.map fun n => (n, ())).map (fun p : Str × Unit => p.1) = K := by
    rw [List.map_map]
    conv => rhs; rw [← List.map_id K]
    rfl
  by_cases c : n ∈ K
  · rw [if_pos (by rw [m]; exact c), if_pos c, List.map_map]
    refine List.map_congr_left fun x _ => ?_
    show (if x = n then (x, ()) else (x, ())) = (x, ())
    split <;> rfl
  · rw [if_neg (by rw [m]; exact c), if_neg c, List.map_append]; rfl
theorem truL_get (K : List Str) (n : Str) : (dget (truL K) n).isSome = decide (n ∈ K) := by
  unfold truL
  rw [dS_get]
  induction K with
  | nil => rfl
  | cons a K ih =>
    rw [List.map_cons]
    unfold lget
    by_cases e : a = n
    · subst e; simp
    · rw [if_neg e, ih]
      have : ¬ n = a := fun z => e z.symm
      simp [this]
/-! ### lots -/
theorem lots_snoc {α : Type} (p : List α) (x : α) : lots (p ++ [x]) = lots p ++ (lots p).map (· ++ [x]) := by unfold lots; rw [List.foldl_append]; rfl
theorem lots_map {α β : Type} (g : α → β) (l : List α) : lots (l.map g) = (lots l).map (List.map g) := by
  have key : ∀ (l : List α) (acc : List (List α)), (l.map g).foldl (fun acc x => acc ++ acc.map (· ++ [x])) (acc.map (List.map g)) = (l.foldl (fun acc x => acc ++ acc.map (· ++ [x])) acc).map (List.map g) := by
    intro l
    induction l with
    | nil => intro acc; rfl
    | cons x l ih =>
      intro acc
      rw [List.map_cons, List.foldl_cons, List.foldl_cons, ← ih]
      refine congrArg (fun z => List.foldl _ z _) ?_
      rw [List.map_append, List.map_map, List.map_map]
      refine congrArg _ (List.map_congr_left fun y _ => ?_)
      show y.map g ++ [g x] = (y ++ [x]).map g
      rw [List.map_append]; rfl
  exact key l [[]]
theorem lots_mem {α : Type} (l : List α) : ∀ m, m ∈ lots l ↔ m.Sublist l := by
  have key : ∀ n (l : List α), l.length = n → ∀ m, m ∈ lots l ↔ m.Sublist l := by
    intro n
    induction n with
    | zero =>
      intro l hl m
      have : l = [] := List.length_eq_zero_iff.mp hl
      subst this
      show m ∈ [[]] ↔ _
      rw [List.mem_singleton, List.sublist_nil]
    | succ n ih =>
      intro l hl m
      have hne : l ≠ [] := fun z => by rw [z] at hl; cases hl
      obtain ⟨q, x, rfl⟩ : ∃ q x, l = q ++ [x] := ⟨l.dropLast, l.getLast hne, (List.dropLast_concat_getLast hne).symm⟩
      have i := ih q (by rw [List.length_append, List.length_cons, List.length_nil] at hl; omega)
      rw [lots_snoc, List.mem_append, List.mem_map]
      constructor
      · rintro (h | ⟨m', h, rfl⟩)
        · exact ((i m).mp h).trans (List.sublist_append_left ..)
        · exact ((i m').mp h).append (List.Sublist.refl _)
      · intro h
        obtain ⟨a, b, e, ha, hb⟩ := List.sublist_append_iff.mp h
        subst e
        cases hb with
        | cons _ hb =>
          rw [List.sublist_nil.mp hb, List.append_nil]
          exact .inl ((i a).mpr ha)
        | cons_cons _ hb =>
          rw [List.sublist_nil.mp hb]
          exact .inr ⟨a, (i a).mpr ha, rfl⟩
  exact key _ l rfl
theorem gt4_free {ρ : Ms} {i j k l : Nat} {a b c d : PyData} {R : Ms → Prop} (h1 : freeS ρ i = true) (h2 : freeS (ρ.set i (.dat a)) j = true) (h3 : freeS ((ρ.set i (.dat a)).set j (.dat b)) k = true) (h4 : freeS (((ρ.set i (.dat a)).set j (.dat b)).set k (.dat c)) l = true)
    (q : R ((((ρ.set i (.dat a)).set j (.dat b)).set k (.dat c)).set l (.dat d))) : mGT [mGN i, mGN j, mGN k, mGN l] (.tuple [a, b, c, d]) ρ R := by
  show mGN i a ρ fun ρ1 => mGN j b ρ1 fun ρ2 => mGN k c ρ2 fun ρ3 => mGN l d ρ3 fun ρ4 => R ρ4
  refine gn_free h1 ?_
  refine gn_free h2 ?_
  refine gn_free h3 ?_
  exact gn_free h4 q
end G


set_option Elab.async false
set_option maxRecDepth 100000
set_option maxHeartbeats 1000000
/-! M22: nobody gains by another word, nor does a lot of them. -/
namespace G
open PySem PySem.Spec PyProof.Rows L2
/-- all say other words -/
def chg (c : Str → Int) (o : One) : One := { o with worth := c o.name }
theorem weight_chg (c : Str → Int) (g : List One) (x : Str) : weightOf (g.map (chg c)) x = weightOf g x := by
  unfold weightOf usersOf
  rw [List.filter_map, List.map_map]
  rfl
theorem share_chg (t : List (Str × Int)) (c : Str → Int) (g : List One) (o : One) : share t (g.map (chg c)) (chg c o) = share t g o := by
  unfold share
  refine congrArg List.sum (List.map_congr_left fun p _ => ?_)
  unfold part
  rw [weight_chg]
  rfl
/-- what one has of it: the true worth less the share, nothing where one is not left -/
def gainOf (t : List (Str × Int)) (L : List One) (o : One) (w : Int) : Rat := if o.name ∈ nmsOf L then (w : Rat) - share t L o else 0
variable {t : List (Str × Int)}
theorem glad_le {f : List One} (h : Glad t ex0 f) {o : One} (ho : o ∈ f) : share t f o ≤ (o.worth : Rat) := by
  have := h o ho
  unfold pays ex0 at this
  have this : (!decide ((o.worth : Rat) + 0 < share t f o)) = true := this
  rw [Rat.add_zero] at this
  simp only [Bool.not_eq_true', decide_eq_false_iff_not] at this
  exact Rat.not_lt.mp this
theorem le_glad {f : List One} (h : ∀ o ∈ f, share t f o ≤ (o.worth : Rat)) : Glad t ex0 f := fun o ho => by
  unfold pays ex0
  show (!decide ((o.worth : Rat) + 0 < share t f o)) = true
  rw [Rat.add_zero]
  simp only [Bool.not_eq_true', decide_eq_false_iff_not]
  exact Rat.not_lt.mpr (h o ho)
theorem mem_of_name {f g : List One} (nd : (f.map (·.name)).Nodup) (s : g.Sublist f) {o : One} (ho : o ∈ f) (h : o.name ∈ nmsOf g) : o ∈ g := by
  obtain ⟨p, hp, e⟩ := List.mem_map.mp h
  have := name_inj nd (s.subset hp) ho e
  exact this ▸ hp
theorem nms_chg (c : Str → Int) (g : List One) : nmsOf (g.map (chg c)) = nmsOf g := by unfold nmsOf; rw [List.map_map]; rfl
/-- where nobody of the lot has less, nobody of it has more -/
theorem no_gain (hc : Co t) {f : List One} (hw : Wt f) (nd : (f.map (·.name)).Nodup) (c : Str → Int) (lot : List Str) (same : ∀ o ∈ f, o.name ∉ lot → c o.name = o.worth)
    (hl : ∀ o ∈ f, o.name ∈ lot → gainOf t (leftOf t ex0 f) o o.worth ≤ gainOf t (leftOf t ex0 (f.map (chg c))) o o.worth) :
    ∀ o ∈ f, o.name ∈ lot → gainOf t (leftOf t ex0 (f.map (chg c))) o o.worth ≤ gainOf t (leftOf t ex0 f) o o.worth := by
  have gR := leftOf_glad (t := t) (ex := ex0) f
  have sR := leftOf_sub (t := t) (ex := ex0) f
  have gS := leftOf_glad (t := t) (ex := ex0) (f.map (chg c))
  obtain ⟨g, sg, eg⟩ := List.sublist_map_iff.mp (leftOf_sub (t := t) (ex := ex0) (f.map (chg c)))
  rw [eg] at gS hl ⊢
  have all := fun {u : List One} (su : u.Sublist f) (hu : Glad t ex0 u) => leftOf_all (ex := ex0) hc hw su hu
  generalize leftOf t ex0 f = R at gR sR hl all ⊢
  have shg : ∀ o : One, share t (g.map (chg c)) o = share t g o := fun o => share_chg t c g o
  let u := f.filter fun o => decide (o.name ∈ nmsOf R) || decide (o.name ∈ nmsOf g)
  have su : u.Sublist f := List.filter_sublist
  have wu : Wt u := fun o ho => hw o (su.subset ho)
  have sRu : R.Sublist u := by
    have := sR.filter (fun o => decide (o.name ∈ nmsOf R) || decide (o.name ∈ nmsOf g))
    rwa [List.filter_eq_self.mpr fun o ho => by rw [decide_eq_true (show o.name ∈ nmsOf R from List.mem_map_of_mem ho)]; rfl] at this
  have sgu : g.Sublist u := by
    have := sg.filter (fun o => decide (o.name ∈ nmsOf R) || decide (o.name ∈ nmsOf g))
    rwa [List.filter_eq_self.mpr fun o ho => by rw [decide_eq_true (show o.name ∈ nmsOf g from List.mem_map_of_mem ho), Bool.or_true]] at this
  have gu : Glad t ex0 u := le_glad fun o ho => by
    have hof := su.subset ho
    by_cases h1 : o.name ∈ nmsOf R
    · have hoR := mem_of_name nd sR hof h1
      exact Rat.le_trans (share_mono hc sRu wu hoR) (glad_le gR hoR)
    · have h2 : o.name ∈ nmsOf g := by
        have := (List.mem_filter.mp ho).2
        simpa [h1] using this
      have hog := mem_of_name nd sg hof h2
      refine Rat.le_trans (share_mono hc sgu wu hog) ?_
      by_cases h3 : o.name ∈ lot
      · have := hl o hof h3
        unfold gainOf at this
        rw [if_neg h1, nms_chg, if_pos h2, shg] at this
        grind
      · have k := glad_le gS (List.mem_map_of_mem (f := chg c) hog)
        rw [share_chg] at k
        have e : (chg c o).worth = o.worth := same o hof h3
        rw [e] at k
        exact k
  have sgR : g.Sublist R := sgu.trans (all su gu)
  have wR : Wt R := fun o ho => hw o (sR.subset ho)
  intro o hof _
  unfold gainOf
  rw [nms_chg, shg]
  by_cases h2 : o.name ∈ nmsOf g
  · have hog := mem_of_name nd sg hof h2
    have h1 : o.name ∈ nmsOf R := List.mem_map_of_mem (sgR.subset hog)
    rw [if_pos h2, if_pos h1]
    have := share_mono hc sgR wR hog
    grind
  · rw [if_neg h2]
    split
    · rename_i h1
      have := glad_le gR (mem_of_name nd sR hof h1)
      grind
    · exact Rat.le_refl
/-- whoever says the truth has nothing less -/
theorem truth_ok {f : List One} (nd : (f.map (·.name)).Nodup) {o : One} (ho : o ∈ f) : 0 ≤ gainOf t (leftOf t ex0 f) o o.worth := by
  unfold gainOf
  split
  · rename_i h
    have := glad_le (leftOf_glad f) (mem_of_name nd (leftOf_sub f) ho h)
    grind
  · exact Rat.le_refl
end G


set_option Elab.async false
set_option maxRecDepth 100000
set_option maxHeartbeats 1000000
/-! M21: the least word from which on one is left; all measures so many times as great. -/
namespace G
open PySem PySem.Spec PyProof.Rows L2
/-- one says another worth -/
def sayW (x : Str) (w : Int) (o : One) : One := if o.name = x then { o with worth := w } else o
theorem sayW_name (x : Str) (w : Int) (o : One) : (sayW x w o).name = o.name := by unfold sayW; split <;> rfl
theorem sayW_wants (x : Str) (w : Int) (o : One) : (sayW x w o).wants = o.wants := by unfold sayW; split <;> rfl
theorem sayW_weight (x : Str) (w : Int) (o : One) : (sayW x w o).weight = o.weight := by unfold sayW; split <;> rfl
theorem sayW_ne {x : Str} {w : Int} {o : One} (h : o.name ≠ x) : sayW x w o = o := by unfold sayW; rw [if_neg h]
theorem sayW_worth {x : Str} {w : Int} {o : One} (h : o.name = x) : (sayW x w o).worth = w := by unfold sayW; rw [if_pos h]
section
variable {h : One → One}
theorem weight_map (h1 : ∀ o, (h o).wants = o.wants) (h2 : ∀ o, (h o).weight = o.weight) (g : List One) (x : Str) : weightOf (g.map h) x = weightOf g x := by
  unfold weightOf usersOf
  rw [List.filter_map, List.map_map]
  have e1 : ((fun o : One => decide (x ∈ o.wants)) ∘ h) = fun o : One => decide (x ∈ o.wants) := funext fun o => by show decide (x ∈ (h o).wants) = _; rw [h1]
  have e2 : ((fun o : One => o.weight) ∘ h) = fun o : One => o.weight := funext fun o => h2 o
  rw [e1, e2]
theorem share_map (t : List (Str × Int)) (h1 : ∀ o, (h o).wants = o.wants) (h2 : ∀ o, (h o).weight = o.weight) (g : List One) (o : One) : share t (g.map h) (h o) = share t g o := by
  unfold share
  rw [h1]
  refine congrArg List.sum (List.map_congr_left fun p _ => ?_)
  unfold part
  rw [weight_map h1 h2, h2]
end
theorem nms_map {h : One → One} (h0 : ∀ o, (h o).name = o.name) (g : List One) : nmsOf (g.map h) = nmsOf g := by
  unfold nmsOf
  rw [List.map_map]
  exact List.map_congr_left fun o _ => h0 o
theorem share_say (t : List (Str × Int)) (x : Str) (w : Int) (g : List One) (o : One) : share t (g.map (sayW x w)) (sayW x w o) = share t g o := share_map t (sayW_wants x w) (sayW_weight x w) g o
/-- one would pay whatever it is -/
def exN (n : Str) : Str → Option Rat := fun m => if m = n then none else some 0
def wordOf (t : List (Str × Int)) (f : List One) (o : One) : Rat := share t (leftOf t (exN o.name) f) o
variable {t : List (Str × Int)}
theorem gladN_iff {n : Str} {g : List One} : Glad t (exN n) g ↔ ∀ p ∈ g, p.name ≠ n → share t g p ≤ (p.worth : Rat) := by
  constructor
  · intro h p hp hn
    have := h p hp
    unfold pays exN at this
    rw [if_neg hn] at this
    have this : (!decide ((p.worth : Rat) + 0 < share t g p)) = true := this
    rw [Rat.add_zero] at this
    simp only [Bool.not_eq_true', decide_eq_false_iff_not] at this
    exact Rat.not_lt.mp this
  · intro h p hp
    unfold pays exN
    by_cases hn : p.name = n
    · rw [if_pos hn]
    · rw [if_neg hn]
      show (!decide ((p.worth : Rat) + 0 < share t g p)) = true
      rw [Rat.add_zero]
      simp only [Bool.not_eq_true', decide_eq_false_iff_not]
      exact Rat.not_lt.mpr (h p hp hn)
theorem word_in (hc : Co t) {f : List One} (hw : Wt f) {o : One} (ho : o ∈ f) : o ∈ leftOf t (exN o.name) f := by
  have s : [o].Sublist f := List.singleton_sublist.mpr ho
  have g : Glad t (exN o.name) [o] := gladN_iff.mpr fun p hp hn => (hn (by rw [List.mem_singleton.mp hp])).elim
  exact (leftOf_all hc hw s g).subset (List.mem_singleton.mpr rfl)
theorem wt_map {f : List One} {h : One → One} (h2 : ∀ o, (h o).weight = o.weight) (hw : Wt f) : Wt (f.map h) := fun o ho => by
  obtain ⟨p, hp, rfl⟩ := List.mem_map.mp ho
  rw [h2]; exact hw p hp
/-- one is left just from the least word on -/
theorem word_left (hc : Co t) {f : List One} (hw : Wt f) (nd : (f.map (·.name)).Nodup) {o : One} (ho : o ∈ f) (w : Int) : o.name ∈ nmsOf (leftOf t ex0 (f.map (sayW o.name w))) ↔ wordOf t f o ≤ (w : Rat) := by
  have sA := leftOf_sub (t := t) (ex := exN o.name) f
  have gA := leftOf_glad (t := t) (ex := exN o.name) f
  have oA := word_in hc hw ho
  have allA := fun {u : List One} (su : u.Sublist f) (hu : Glad t (exN o.name) u) => leftOf_all (ex := exN o.name) hc hw su hu
  unfold wordOf
  generalize leftOf t (exN o.name) f = A at sA gA oA allA
  have wA : Wt A := fun p hp => hw p (sA.subset hp)
  have only : ∀ p ∈ f, p.name = o.name → p = o := fun p hp e => name_inj nd hp ho e
  constructor
  · intro hin
    have gL := leftOf_glad (t := t) (ex := ex0) (f.map (sayW o.name w))
    obtain ⟨g, sg, eg⟩ := List.sublist_map_iff.mp (leftOf_sub (t := t) (ex := ex0) (f.map (sayW o.name w)))
    rw [eg] at gL hin
    have gg : Glad t (exN o.name) g := gladN_iff.mpr fun p hp hn => by
      have k := glad_le gL (List.mem_map_of_mem (f := sayW o.name w) hp)
      rw [share_say, sayW_ne hn] at k
      exact k
    have og : o ∈ g := mem_of_name nd sg ho (by rwa [nms_map (sayW_name _ _)] at hin)
    have k := glad_le gL (List.mem_map_of_mem (f := sayW o.name w) og)
    rw [share_say, sayW_worth rfl] at k
    exact Rat.le_trans (share_mono hc (allA sg gg) wA og) k
  · intro hle
    have gS : Glad t ex0 (A.map (sayW o.name w)) := le_glad fun q hq => by
      obtain ⟨p, hp, rfl⟩ := List.mem_map.mp hq
      rw [share_say]
      by_cases hn : p.name = o.name
      · rw [sayW_worth hn, only p (sA.subset hp) hn]; exact hle
      · rw [sayW_ne hn]; exact gladN_iff.mp gA p hp hn
    have s := leftOf_all (ex := ex0) hc (wt_map (sayW_weight o.name w) hw) (sA.map _) gS
    have m := s.subset (List.mem_map_of_mem (f := sayW o.name w) oA)
    have := List.mem_map_of_mem (f := fun o : One => o.name) m
    rw [sayW_name] at this
    exact this
theorem say_same {f : List One} (nd : (f.map (·.name)).Nodup) {o : One} (ho : o ∈ f) : f.map (sayW o.name o.worth) = f := by
  have : f.map (sayW o.name o.worth) = f.map id := List.map_congr_left fun p hp => by
    by_cases hn : p.name = o.name
    · have := name_inj nd hp ho hn
      subst this
      unfold sayW
      rw [if_pos rfl]; rfl
    · rw [sayW_ne hn]; rfl
  rw [this, List.map_id]
theorem word_stay (hc : Co t) {f : List One} (hw : Wt f) (nd : (f.map (·.name)).Nodup) {o : One} (ho : o ∈ f) : o.name ∈ nmsOf (leftOf t ex0 f) ↔ wordOf t f o ≤ (o.worth : Rat) := by
  have := word_left hc hw nd ho o.worth
  rwa [say_same nd ho] at this
/-- who is left pays just the least word -/
theorem word_share (hc : Co t) {f : List One} (hw : Wt f) (nd : (f.map (·.name)).Nodup) {o : One} (ho : o ∈ leftOf t ex0 f) : share t (leftOf t ex0 f) o = wordOf t f o := by
  have sL := leftOf_sub (t := t) (ex := ex0) f
  have gL := leftOf_glad (t := t) (ex := ex0) f
  have sA := leftOf_sub (t := t) (ex := exN o.name) f
  have gA := leftOf_glad (t := t) (ex := exN o.name) f
  have a1 : (leftOf t ex0 f).Sublist (leftOf t (exN o.name) f) := leftOf_all hc hw sL (gladN_iff.mpr fun p hp _ => glad_le gL hp)
  have wA : Wt (leftOf t (exN o.name) f) := fun p hp => hw p (sA.subset hp)
  have a2 : (leftOf t (exN o.name) f).Sublist (leftOf t ex0 f) := leftOf_all hc hw sA (le_glad fun p hp => by
    by_cases hn : p.name = o.name
    · have e := name_inj nd (sA.subset hp) (sL.subset ho) hn
      subst e
      exact Rat.le_trans (share_mono hc a1 wA ho) (glad_le gL ho)
    · exact gladN_iff.mp gA p hp hn)
  unfold wordOf
  rw [a1.eq_of_length_le a2.length_le]
/-! ### measures so many times as great -/
theorem lleft_map {t t' : List (Str × Int)} {ex ex' : Str → Option Rat} {h : One → One} (hp : ∀ g o, pays t' ex' (g.map h) (h o) = pays t ex g o) : ∀ (n : Nat) (f : List One), lleft t' ex' n (f.map h) = (lleft t ex n f).map h
  | 0, f => rfl
  | n + 1, f => by
    have e : lstep t' ex' (f.map h) = (lstep t ex f).map h := by
      unfold lstep
      rw [List.filter_map]
      refine congrArg (List.map h) (List.filter_congr fun o _ => ?_)
      exact hp f o
    unfold lleft
    rw [e, List.length_map, List.length_map]
    split
    · rfl
    · exact lleft_map hp n _
theorem leftOf_map {t t' : List (Str × Int)} {ex ex' : Str → Option Rat} {h : One → One} (hp : ∀ g o, pays t' ex' (g.map h) (h o) = pays t ex g o) (f : List One) : leftOf t' ex' (f.map h) = (leftOf t ex f).map h := by
  unfold leftOf
  rw [List.length_map]
  exact lleft_map hp _ f
def sct (by_ : Int) (t : List (Str × Int)) : List (Str × Int) := t.map fun p => (p.1, by_ * p.2)
def scO (by_ : Int) (o : One) : One := { o with worth := by_ * o.worth }
theorem mk_mul (k a : Int) (b : Nat) : mkRat (k * a) b = (k : Rat) * mkRat a b := by
  by_cases hb : b = 0
  · subst hb; simp
  rw [Rat.mkRat_eq_div, Rat.mkRat_eq_div, Rat.intCast_mul, Rat.div_def, Rat.div_def, Rat.mul_assoc]
theorem sum_mulQ {α : Type} (k : Rat) (g : α → Rat) : ∀ l : List α, (l.map fun x => k * g x).sum = k * (l.map g).sum
  | [] => by simp
  | x :: l => by rw [List.map_cons, List.sum_cons, List.map_cons, List.sum_cons, sum_mulQ k g l, Rat.mul_add]
theorem share_sct (k : Int) (t : List (Str × Int)) (g : List One) (o : One) : share (sct k t) g o = (k : Rat) * share t g o := by
  unfold share sct
  rw [List.filter_map, List.map_map, ← sum_mulQ]
  refine congrArg List.sum (List.map_congr_left fun p _ => ?_)
  show part g (p.1, k * p.2) o = (k : Rat) * part g p o
  unfold part
  rw [Int.mul_assoc, mk_mul]
theorem share_sc (k : Int) (t : List (Str × Int)) (g : List One) (o : One) : share (sct k t) (g.map (scO k)) (scO k o) = (k : Rat) * share t g o := by
  rw [share_map (h := scO k) _ (fun _ => rfl) (fun _ => rfl), share_sct]
theorem pays_sc {k : Int} (hk : 0 < k) (ex : Str → Option Rat) (he : ∀ n e, ex n = some e → e = 0) (g : List One) (o : One) : pays (sct k t) ex (g.map (scO k)) (scO k o) = pays t ex g o := by
  unfold pays
  rw [share_sc]
  show (match ex o.name with | none => true | some e => !decide (((k * o.worth : Int) : Rat) + e < (k : Rat) * share t g o)) = _
  cases e : ex o.name with
  | none => rfl
  | some x =>
    have := he _ _ e
    subst this
    show (!decide (((k * o.worth : Int) : Rat) + 0 < (k : Rat) * share t g o)) = !decide ((o.worth : Rat) + 0 < share t g o)
    rw [Rat.add_zero, Rat.add_zero, Rat.intCast_mul]
    refine congrArg _ (decide_eq_decide.mpr ?_)
    have hk' : (0 : Rat) < (k : Rat) := by exact_mod_cast Rat.intCast_lt_intCast.mpr hk
    exact Rat.mul_lt_mul_left hk'
theorem word_sc {k : Int} (hk : 0 < k) (f : List One) (o : One) : wordOf (sct k t) (f.map (scO k)) (scO k o) = (k : Rat) * wordOf t f o := by
  unfold wordOf
  have e : leftOf (sct k t) (exN (scO k o).name) (f.map (scO k)) = (leftOf t (exN o.name) f).map (scO k) := leftOf_map (fun g p => pays_sc hk _ (fun n e he => by
    unfold exN at he
    split at he
    · cases he
    · exact (Option.some.inj he).symm) g p) f
  rw [e, share_sc]
/-! ### rounded up -/
theorem rat_le_int {q : Rat} {w : Int} : q ≤ (w : Rat) ↔ q.num ≤ w * q.den := by
  rw [Rat.le_iff]
  show q.num * ((1 : Nat) : Int) ≤ w * q.den ↔ _
  rw [Int.natCast_one, Int.mul_one]
def upOf (q : Rat) : Int := -((-q.num) / q.den)
theorem up_ge (q : Rat) : q ≤ (upOf q : Rat) := by
  rw [rat_le_int]
  unfold upOf
  have hd : (0 : Int) < q.den := Int.natCast_pos.mpr q.den_pos
  have := Int.ediv_mul_le (-q.num) (b := q.den) (by omega)
  rw [Int.neg_mul]
  omega
theorem up_lt (q : Rat) : ¬ q ≤ ((upOf q - 1 : Int) : Rat) := by
  rw [rat_le_int]
  unfold upOf
  have hd : (0 : Int) < q.den := Int.natCast_pos.mpr q.den_pos
  have := Int.lt_ediv_add_one_mul_self (-q.num) hd
  have e : (-(-q.num / ↑q.den) - 1) * (q.den : Int) = -((-q.num / ↑q.den + 1) * ↑q.den) := by
    rw [← Int.neg_mul]; congr 1; omega
  rw [e]
  omega
theorem up_nonneg {q : Rat} (h : 0 ≤ q) : 0 ≤ upOf q := by
  unfold upOf
  have hd : (0 : Int) < q.den := Int.natCast_pos.mpr q.den_pos
  have hn := Rat.num_nonneg.mpr h
  have := Int.ediv_le_ediv hd (show -q.num ≤ 0 by omega)
  rw [Int.zero_ediv] at this
  omega
theorem den_num {q : Rat} {w : Int} : ((q.den : Int) : Rat) * q ≤ (w : Rat) ↔ q.num ≤ w := by
  have e : ((q.den : Int) : Rat) * q = (q.num : Rat) := by
    have h1 : mkRat q.num q.den = q := Rat.mkRat_self q
    have h0 : ((q.den : Int) : Rat) ≠ 0 := fun z => by
      have := Rat.intCast_eq_zero_iff.mp z
      have := q.den_nz
      omega
    rw [Rat.mkRat_eq_div] at h1
    rw [Rat.mul_comm]
    conv => lhs; lhs; rw [← h1]
    exact Rat.div_mul_cancel h0
  rw [e]
  exact Rat.intCast_le_intCast
end G


set_option Elab.async false
set_option maxRecDepth 100000
set_option maxHeartbeats 1000000
/-! MQ21: what the guards promise where numbers may be out of their bounds. -/
namespace G
open PySem PySem.Spec PyProof.Rows L2
open PySem.W (Datum)
/-- things but for their costs -/
structure WT (t : List (Str × Int)) : Prop where
  le : 1 ≤ t.length ∧ t.length ≤ 8
  nm : ∀ p ∈ t, Name p.1
  up : Rising (t.map (·.1))
def coB (t : List (Str × Int)) : Bool := t.all fun p => decide (0 ≤ p.2 ∧ p.2 ≤ 1000)
structure WO (t : List (Str × Int)) (o : One) : Prop where
  nm : Name o.name
  ws : ∀ x ∈ o.wants, x ∈ t.map (·.1)
  up : Rising o.wants
  ne : o.wants ≠ []
def onB (o : One) : Bool := decide (0 ≤ o.worth ∧ o.worth ≤ 1000) && decide (1 ≤ o.weight ∧ o.weight ≤ 9)
structure WF (t : List (Str × Int)) (f : List One) : Prop where
  le : f.length ≤ 8
  on : ∀ o ∈ f, WO t o
  up : Rising (f.map (·.name))
theorem VT.w {t : List (Str × Int)} (h : VT t) : WT t := ⟨h.le, h.nm, h.up⟩
theorem VO.w {t : List (Str × Int)} {o : One} (h : VO t o) : WO t o := ⟨h.nm, h.ws, h.up, h.ne⟩
theorem VF.w {t : List (Str × Int)} {f : List One} (h : VF t f) : WF t f := ⟨h.le, fun o ho => (h.on o ho).w, h.up⟩
theorem VT.b {t : List (Str × Int)} (h : VT t) : coB t = true := List.all_eq_true.mpr fun p hp => decide_eq_true (h.co p hp)
theorem VO.b {t : List (Str × Int)} {o : One} (h : VO t o) : onB o = true := by unfold onB; rw [decide_eq_true h.wo, decide_eq_true h.we]; rfl
theorem VF.b {t : List (Str × Int)} {f : List One} (h : VF t f) : f.all onB = true := List.all_eq_true.mpr fun o ho => (h.on o ho).b
theorem WT.v {t : List (Str × Int)} (h : WT t) (b : coB t = true) : VT t := ⟨h.le, h.nm, fun p hp => of_decide_eq_true (List.all_eq_true.mp b p hp), h.up⟩
theorem WO.v {t : List (Str × Int)} {o : One} (h : WO t o) (b : onB o = true) : VO t o := by
  unfold onB at b
  obtain ⟨b1, b2⟩ := (Bool.and_eq_true _ _).mp b
  exact ⟨h.nm, h.ws, h.up, h.ne, of_decide_eq_true b1, of_decide_eq_true b2⟩
theorem WF.v {t : List (Str × Int)} {f : List One} (h : WF t f) (b : f.all onB = true) : VF t f := ⟨h.le, fun o ho => (h.on o ho).v (List.all_eq_true.mp b o ho), h.up⟩
def q_is_whole : PSp := fun ss R _ => ∃ i lo hi : Int, ss = [.dat (.int i), .dat (.int lo), .dat (.int hi)] ∧ R (.bool (decide (lo ≤ i ∧ i ≤ hi))) ss
def q_is_number : PSp := fun ss R _ => ∃ i : Int, ss = [.dat (.int i)] ∧ R (.bool (decide (0 ≤ i ∧ i ≤ 1000))) ss
def q_are_things : PSp := fun ss R _ => ∃ t, WT t ∧ ss = [.dat (tsD t)] ∧ R (.bool (coB t)) ss
def q_is_one : PSp := fun ss R _ => ∃ t o, WT t ∧ WO t o ∧ ss = [.dat (tsD t), .dat (oD o)] ∧ R (.bool (onB o)) ss
def q_are_folk_of : PSp := fun ss R _ => ∃ t f, WT t ∧ WF t f ∧ ss = [.dat (tsD t), .dat (fsD f)] ∧ R (.bool (f.all onB)) ss
def q_are_folk : PSp := fun ss R _ => ∃ t f, VT t ∧ WF t f ∧ ss = [.dat (tsD t), .dat (fsD f)] ∧ R (.bool (f.all onB)) ss
theorem w_are_things (ss : List Sl) (R) (RE) (h : p_are_things ss R RE) : q_are_things ss R RE := by
  obtain ⟨t, ht, rfl, h⟩ := h
  exact ⟨t, ht.w, rfl, by rw [ht.b]; exact h⟩
theorem w_are_folk_of (ss : List Sl) (R) (RE) (h : p_are_folk_of ss R RE) : q_are_folk_of ss R RE := by
  obtain ⟨t, f, ht, hf, rfl, h⟩ := h
  exact ⟨t, f, ht.w, hf.w, rfl, by rw [hf.b]; exact h⟩
theorem all_say {α : Type} (l : List α) (c : α → Bool) {R : PyData → Prop} (h : R (.bool (l.all c))) : allD (.list (l.map fun x => .bool (c x))) R := by
  refine ⟨l.map c, by rw [List.map_map]; rfl, ?_⟩
  have e : ((l.map c).all fun b => b) = l.all c := by rw [List.all_map]; rfl
  rw [e]
  exact h
theorem has_imp {P : Program} {w : World} {K : PySem.W.Frag} {mg : Str → Option Value} {base : Heap} {k n : Nat} {x : Str} {ps : List Str} {t t' : PSp} (h : Has P w K mg base k x ps (spD K mg n t)) (i : ∀ ss R RE, t' ss R RE → t ss R RE) : Has P w K mg base k x ps (spD K mg n t') := by
  obtain ⟨f, fd, F, r⟩ := h
  exact ⟨f, fd, fn_imp F i, r⟩
theorem pick_left {t : List (Str × Int)} {f L : List One} (hf : VF t f) (s : L.Sublist f) : pickOf f (nmsOf L) = L := by
  have e : L.filter (fun o => decide (o.name ∈ nmsOf L)) = L := List.filter_eq_self.mpr fun o ho => decide_eq_true (show o.name ∈ nmsOf L from List.mem_map_of_mem ho)
  have s1 : L.Sublist (pickOf f (nmsOf L)) := by
    have := s.filter (fun o => decide (o.name ∈ nmsOf L))
    rwa [e] at this
  refine (s1.eq_of_length_le ?_).symm
  have nd : (nmsOf (pickOf f (nmsOf L))).Nodup := hf.nodup.sublist (List.filter_sublist.map _)
  have := nodup_len (m := nmsOf L) nd fun x hx => by
    obtain ⟨o, ho, rfl⟩ := List.mem_map.mp hx
    simpa using (List.mem_filter.mp ho).2
  unfold nmsOf at this
  rwa [List.length_map, List.length_map] at this
def roadT : List (Str × Int) := [("road", 9)]
def threeF (w : Int) : List One := [⟨"a", ["road"], 5, 1⟩, ⟨"b", ["road"], 4, 1⟩, ⟨"c", ["road"], w, 1⟩]
theorem road_ok : VT roadT := ⟨by decide +kernel, by decide +kernel, by decide +kernel, Rising.of (by decide +kernel)⟩
theorem three_ok {w : Int} (h0 : 0 ≤ w) (h1 : w ≤ 1000) : VF roadT (threeF w) := by
  have n1 : Name "a" := by decide +kernel
  have n2 : Name "b" := by decide +kernel
  have n3 : Name "c" := by decide +kernel
  have u : (["a", "b", "c"] : List Str).Pairwise Lt := by decide +kernel
  have m : ∀ x ∈ (["road"] : List Str), x ∈ roadT.map (·.1) := by decide +kernel
  refine ⟨by show 3 ≤ 8; decide, fun o ho => ?_, Rising.of u⟩
  simp only [threeF, List.mem_cons, List.not_mem_nil, or_false] at ho
  rcases ho with rfl | rfl | rfl
  · exact ⟨n1, m, trivial, (fun z => nomatch z), ⟨by decide, by decide⟩, ⟨by decide, by decide⟩⟩
  · exact ⟨n2, m, trivial, (fun z => nomatch z), ⟨by decide, by decide⟩, ⟨by decide, by decide⟩⟩
  · exact ⟨n3, m, trivial, (fun z => nomatch z), ⟨h0, h1⟩, ⟨(by show (1 : Int) ≤ 1; decide), (by show (1 : Int) ≤ 9; decide)⟩⟩
theorem eqvAll_len : ∀ {a b : List PyData}, a.length ≠ b.length → PyData.eqvAll a b = false
  | [], [], h => (h rfl).elim
  | [], _ :: _, _ => by simp [PyData.eqvAll]
  | _ :: _, [], _ => by simp [PyData.eqvAll]
  | x :: a, y :: b, h => by
    rw [PyData.eqvAll, eqvAll_len (a := a) (b := b) (fun e => h (by rw [List.length_cons, List.length_cons, e])), Bool.and_false]
theorem eq_longer {a b : List PyData} {R : Bool → Prop} (ga : ∀ x ∈ a, Gd 59 x) (gb : ∀ x ∈ b, Gd 59 x) (h : a.length ≠ b.length) (q : R false) : eqD (.list a) (.list b) R := by
  rw [eqD_is]
  refine ⟨gd_list ga, gd_list gb, ?_⟩
  have e : PyData.eqv (.list a) (.list b) = false := by rw [PyData.eqv]; exact eqvAll_len h
  rw [e]; exact q
theorem gd_pair (p : Str × Rat) : Gd 59 (pD fr p) := ⟨Datum.plain (α := Str × Rat) p, Nat.le_trans (Datum.depth_le (α := Str × Rat) p) (by decide)⟩
theorem for_by {ti : MI} {g : MG} {tb : MS} {D : PEnd} {ρ ρ1 : Ms} (ds : List PyData) (h : ∀ R : List PyData → Ms → Prop, R ds ρ1 → ti ρ R) (q : mForL g tb D ds ρ1) : mFor ti g tb D ρ := h _ q
/-! ### texts of k21, k42 -/
def leastsOf (t : List (Str × Int)) (f : List One) : List (Str × Rat) := f.map fun o => (o.name, wordOf t f o)
def p_least_words : PSp := fun ss R _ => ∃ t f, VT t ∧ VF t f ∧ ss = [.dat (tsD t), .dat (fsD f)] ∧ R (.list ((leastsOf t f).map (pD fr))) ss
def p__law_is_frac : PSp := fun ss R _ => ∃ (q : Rat) (n : Nat), Bd n q ∧ n ≤ 3999 ∧ ss = [.dat (fr q)] ∧ R (.bool true) ss
def p__law_scaled : PSp := fun ss R _ => ∃ t f k, VT t ∧ VF t f ∧ Sm k ∧ ss = [.dat (tsD t), .dat (fsD f), .dat (.int k)] ∧ R (.tuple [tsD (sct k t), fsD (f.map (scO k))]) ss
def p__law_word_so : PSp := fun ss R _ => ∃ t f o, VT t ∧ VF t f ∧ o ∈ f ∧ ss = [.dat (tsD t), .dat (fsD f), .dat (.str o.name), .dat (fr (wordOf t f o))] ∧ R (.bool true) ss
theorem exOf_one (n : Str) : exOf [(n, none)] = exN n := funext fun m => by
  show (lget [(n, none)] m).getD (some 0) = _
  unfold exN
  by_cases h : m = n
  · subst h
    rw [if_pos rfl]
    show ((if m = m then some none else none : Option (Option Rat))).getD (some 0) = none
    rw [if_pos rfl]; rfl
  · rw [if_neg h]
    show ((if n = m then some none else none : Option (Option Rat))).getD (some 0) = some 0
    rw [if_neg fun e => h e.symm]; rfl
theorem moOk_one (n : Str) : MoOk [(n, none)] := fun m e h => by
  rw [exOf_one] at h
  unfold exN at h
  split at h
  · cases h
  · cases h
    exact ⟨by show (0 : Nat) < 2 ^ 1500; exact Nat.pow_pos (by decide), by show (1 : Nat) < 2 ^ 1500; exact Nat.one_lt_two_pow (by decide)⟩
theorem word_bd {t : List (Str × Int)} {f : List One} (ht : VT t) (hf : VF t f) {o : One} (ho : o ∈ f) : Bd 200 (wordOf t f o) :=
  share_b200 ht (hf.sub (leftOf_sub _)) (word_in ht.coo hf.wt ho)
theorem word_pos {t : List (Str × Int)} {f : List One} (ht : VT t) (hf : VF t f) {o : One} (ho : o ∈ f) : 0 ≤ wordOf t f o := share_nonneg ht.coo (hf.wt o ho)
def p__law_said : PSp := fun ss R _ => ∃ f x w, ss = [.dat (fsD f), .dat (.str x), .dat (.int w)] ∧ R (fsD (f.map (sayW x w))) ss
end G


set_option Elab.async false
set_option maxRecDepth 100000
set_option maxHeartbeats 1000000
/-! M11: all are asked one by one, round and round; nobody drops out where things are cheaper, words higher, one more comes. -/
namespace G
open PySem PySem.Spec PyProof.Rows L2
structure Ask where
  some : List One
  gone : List Str
  quiet : Nat
def dropS (n : Str) (f : List One) : List One := f.filter fun o => !decide (o.name = n)
/-- one who is there and would not pay -/
def outB (t : List (Str × Int)) (f : List One) (n : Str) : Bool := f.any fun o => decide (o.name = n) && !pays t ex0 f o
def ask1 (t : List (Str × Int)) (s : Ask) (n : Str) : Ask := if outB t s.some n = true then ⟨dropS n s.some, s.gone ++ [n], 0⟩ else ⟨s.some, s.gone, s.quiet + 1⟩
def askR (t : List (Str × Int)) (order : List Str) (s : Ask) : Ask := order.foldl (ask1 t) s
def askW (t : List (Str × Int)) (order : List Str) : Nat → Ask → Ask
  | 0, s => s
  | n + 1, s => if s.quiet < order.length then askW t order n (askR t order s) else s
def meas (order : List Str) (s : Ask) : Nat := s.some.length + if s.quiet < order.length then 1 else 0
def askedOf (t : List (Str × Int)) (f : List One) (order : List Str) : Ask := askW t order (f.length + 2) ⟨f, [], 0⟩
variable {t : List (Str × Int)} {order : List Str}
theorem dropS_sub (n : Str) (f : List One) : (dropS n f).Sublist f := List.filter_sublist
theorem dropS_lt {n : Str} {f : List One} (h : outB t f n = true) : (dropS n f).length < f.length := by
  obtain ⟨o, ho, hb⟩ := List.any_eq_true.mp h
  have hn := of_decide_eq_true ((Bool.and_eq_true _ _).mp hb).1
  refine Nat.lt_of_le_of_ne (dropS_sub n f).length_le fun e => ?_
  have := (dropS_sub n f).eq_of_length e
  have h2 : o ∈ dropS n f := by rw [this]; exact ho
  have := (List.mem_filter.mp h2).2
  rw [decide_eq_true hn] at this
  cases this
theorem ask1_out {s : Ask} {n : Str} (h : outB t s.some n = true) : ask1 t s n = ⟨dropS n s.some, s.gone ++ [n], 0⟩ := by unfold ask1; rw [if_pos h]
theorem ask1_in {s : Ask} {n : Str} (h : outB t s.some n = false) : ask1 t s n = ⟨s.some, s.gone, s.quiet + 1⟩ := by unfold ask1; rw [if_neg (by rw [h]; exact Bool.false_ne_true)]
/-- a round, so far -/
theorem askR_turn (s : Ask) : ∀ (l : List Str), (askR t l s).some.Sublist s.some ∧ (((askR t l s).some = s.some ∧ (askR t l s).quiet = s.quiet + l.length ∧ ∀ n ∈ l, outB t s.some n = false) ∨ ((askR t l s).some.length < s.some.length ∧ (askR t l s).quiet < l.length)) := by
  intro l
  obtain ⟨l, rfl⟩ : ∃ m : List Str, m.reverse = l := ⟨l.reverse, List.reverse_reverse l⟩
  induction l with
  | nil => exact ⟨List.Sublist.refl _, .inl ⟨rfl, rfl, fun n h => by cases h⟩⟩
  | cons n l ih =>
    have e : askR t (n :: l).reverse s = ask1 t (askR t l.reverse s) n := by unfold askR; rw [List.reverse_cons, List.foldl_append]; rfl
    have el : (n :: l).reverse.length = l.reverse.length + 1 := by rw [List.length_reverse, List.length_reverse, List.length_cons]
    obtain ⟨i1, i2⟩ := ih
    rw [e, el]
    cases hb : outB t (askR t l.reverse s).some n with
    | true =>
      rw [ask1_out hb]
      refine ⟨(dropS_sub _ _).trans i1, .inr ⟨Nat.lt_of_lt_of_le (dropS_lt hb) i1.length_le, Nat.succ_pos _⟩⟩
    | false =>
      rw [ask1_in hb]
      refine ⟨i1, ?_⟩
      rcases i2 with ⟨a, b, c⟩ | ⟨a, b⟩
      · refine .inl ⟨a, by show _ + 1 = _; rw [b]; omega, fun m hm => ?_⟩
        rcases List.mem_reverse.mp hm with _ | ⟨_, hm⟩
        · rw [← a]; exact hb
        · exact c m (List.mem_reverse.mpr hm)
      · exact .inr ⟨a, Nat.succ_lt_succ b⟩
theorem askR_meas {s : Ask} (h : s.quiet < order.length) : meas order (askR t order s) < meas order s := by
  obtain ⟨_, ⟨a, b, _⟩ | ⟨a, b⟩⟩ := askR_turn (t := t) s order
  · unfold meas
    rw [a, b, if_neg (by omega), if_pos h]
    omega
  · unfold meas
    rw [if_pos b, if_pos h]
    omega
theorem askW_more : ∀ (n m : Nat) (s : Ask), meas order s ≤ n → meas order s ≤ m → askW t order n s = askW t order m s
  | 0, 0, s, _, _ => rfl
  | 0, m + 1, s, h, _ => by
    have : ¬ s.quiet < order.length := fun z => by unfold meas at h; rw [if_pos z] at h; omega
    show s = askW t order (m + 1) s
    unfold askW
    rw [if_neg this]
  | n + 1, 0, s, _, h => by
    have : ¬ s.quiet < order.length := fun z => by unfold meas at h; rw [if_pos z] at h; omega
    show askW t order (n + 1) s = s
    unfold askW
    rw [if_neg this]
  | n + 1, m + 1, s, h1, h2 => by
    unfold askW
    by_cases h : s.quiet < order.length
    · rw [if_pos h, if_pos h]
      have := askR_meas (t := t) h
      exact askW_more n m _ (by omega) (by omega)
    · rw [if_neg h, if_neg h]
theorem askW_turn {s : Ask} (h : s.quiet < order.length) : askW t order (meas order s) s = askW t order (meas order (askR t order s)) (askR t order s) := by
  have k := askR_meas (t := t) h
  obtain ⟨n, hn⟩ : ∃ n, meas order s = n + 1 := ⟨meas order s - 1, by omega⟩
  rw [hn]
  conv => lhs; unfold askW
  rw [if_pos h]
  exact askW_more _ _ _ (by omega) (Nat.le_refl _)
theorem askW_end {s : Ask} (h : ¬ s.quiet < order.length) : askW t order (meas order s) s = s := by
  cases meas order s with
  | zero => rfl
  | succ n => unfold askW; rw [if_neg h]
theorem askedOf_is (f : List One) : askedOf t f order = askW t order (meas order ⟨f, [], 0⟩) ⟨f, [], 0⟩ := by
  unfold askedOf
  refine askW_more _ _ _ ?_ (Nat.le_refl _)
  unfold meas
  show f.length + _ ≤ _
  split <;> omega
theorem outB_pays {f : List One} {n : Str} (h : outB t f n = false) {o : One} (ho : o ∈ f) (e : o.name = n) : pays t ex0 f o = true := by
  have := List.any_eq_false.mp h o ho
  rw [decide_eq_true e] at this
  simpa using this
/-- whoever is left stays -/
theorem askW_left (hc : Co t) {f : List One} (hw : Wt f) (nd : (f.map (·.name)).Nodup) (hn : ∀ o ∈ f, o.name ∈ order) : ∀ (n : Nat) (s : Ask), s.some.Sublist f → (leftOf t ex0 f).Sublist s.some → (s.quiet < order.length ∨ Glad t ex0 s.some) → meas order s ≤ n → (askW t order n s).some = leftOf t ex0 f := by
  have key : ∀ s : Ask, s.some.Sublist f → (leftOf t ex0 f).Sublist s.some → Glad t ex0 s.some → s.some = leftOf t ex0 f := fun s s1 s2 g =>
    (leftOf_all hc hw s1 g).eq_of_length_le s2.length_le
  have step : ∀ (l : List Str) (s : Ask), s.some.Sublist f → (leftOf t ex0 f).Sublist s.some → (leftOf t ex0 f).Sublist (askR t l s).some := by
    intro l
    induction l with
    | nil => exact fun s _ h => h
    | cons n l ih =>
      intro s s1 s2
      show (leftOf t ex0 f).Sublist (askR t l (ask1 t s n)).some
      cases hb : outB t s.some n with
      | false => rw [ask1_in hb]; exact ih _ s1 s2
      | true =>
        rw [ask1_out hb]
        refine ih _ ((dropS_sub n _).trans s1) ?_
        have e : dropS n (leftOf t ex0 f) = leftOf t ex0 f := List.filter_eq_self.mpr fun o ho => by
          by_cases hn : o.name = n
          · obtain ⟨p, hp, hb⟩ := List.any_eq_true.mp hb
            obtain ⟨h1, h2⟩ := (Bool.and_eq_true _ _).mp hb
            have e := name_inj nd (s1.subset hp) (s1.subset (s2.subset ho)) ((of_decide_eq_true h1).trans hn.symm)
            subst e
            have := pays_mono (ex := ex0) hc s2 (fun q hq => hw q (s1.subset hq)) ho (leftOf_glad f p ho)
            rw [this] at h2
            cases h2
          · rw [decide_eq_false hn]; rfl
        rw [← e]
        exact s2.filter _
  intro n
  induction n with
  | zero =>
    intro s s1 s2 h hm
    rcases h with h | h
    · unfold meas at hm; rw [if_pos h] at hm; omega
    · exact key s s1 s2 h
  | succ n ih =>
    intro s s1 s2 h hm
    unfold askW
    by_cases hq : s.quiet < order.length
    · rw [if_pos hq]
      have hlt := askR_meas (t := t) hq
      obtain ⟨t1, t2⟩ := askR_turn (t := t) s order
      refine ih _ (t1.trans s1) (step order s s1 s2) ?_ (by omega)
      rcases t2 with ⟨a, b, c⟩ | ⟨a, b⟩
      · refine .inr ?_
        rw [a]
        exact fun o ho => outB_pays (c o.name (hn o (s1.subset ho))) ho rfl
      · exact .inl b
    · rw [if_neg hq]
      exact key s s1 s2 (h.resolve_left hq)
theorem askedOf_left (hc : Co t) {f : List One} (hw : Wt f) (nd : (f.map (·.name)).Nodup) (hn : ∀ o ∈ f, o.name ∈ order) : (askedOf t f order).some = leftOf t ex0 f := by
  rw [askedOf_is]
  refine askW_left hc hw nd hn _ _ (List.Sublist.refl _) (leftOf_sub f) ?_ (Nat.le_refl _)
  show 0 < order.length ∨ Glad t ex0 f
  cases order with
  | nil =>
    refine .inr fun o ho => ?_
    cases hn o ho
  | cons n l => exact .inl (Nat.succ_pos _)
/-! ### nobody drops out -/
theorem mk_le2 {a b : Int} {n : Nat} (hn : 0 < n) (h : a ≤ b) : mkRat a n ≤ mkRat b n := by
  rw [Rat.mkRat_eq_div, Rat.mkRat_eq_div]
  have hn' : (0 : Rat) < (n : Rat) := Rat.natCast_pos.mpr hn
  have hn0 : (n : Rat) ≠ 0 := fun z => by rw [z] at hn'; exact Rat.lt_irrefl hn'
  refine Rat.le_of_mul_le_mul_right (c := (n : Rat)) ?_ hn'
  rw [Rat.div_mul_cancel hn0, Rat.div_mul_cancel hn0]
  exact Rat.intCast_le_intCast.mpr h
theorem part_le {g : List One} {n : Str} {c c' : Int} (h : c' ≤ c) {o : One} (hw : Wt g) (ho : o ∈ g) (hx : n ∈ o.wants) : part g (n, c') o ≤ part g (n, c) o := by
  have w1 := weight_one hw ho hx
  have := hw o ho
  unfold part
  exact mk_le2 (by show 0 < (weightOf g n).toNat; omega) (Int.mul_le_mul_of_nonneg_right h (by omega))
theorem share_cheap {A B : List (Str × Int)} {n : Str} {c c' : Int} (h : c' ≤ c) {g : List One} {o : One} (hw : Wt g) (ho : o ∈ g) : share (A ++ (n, c') :: B) g o ≤ share (A ++ (n, c) :: B) g o := by
  unfold share
  rw [List.filter_append, List.filter_append, List.map_append, List.map_append, List.sum_append, List.sum_append]
  refine Rat.add_le_add_left.mpr ?_
  by_cases hx : n ∈ o.wants
  · rw [List.filter_cons_of_pos (by simpa using hx), List.filter_cons_of_pos (by simpa using hx), List.map_cons, List.map_cons, List.sum_cons, List.sum_cons]
    exact Rat.add_le_add_right.mpr (part_le h hw ho hx)
  · rw [List.filter_cons_of_neg (by simpa using hx), List.filter_cons_of_neg (by simpa using hx)]
    exact Rat.le_refl
/-- what one more lot of gladness needs -/
theorem left_cheap {A B : List (Str × Int)} {n : Str} {c c' : Int} (h : c' ≤ c) (hc : Co (A ++ (n, c') :: B)) {f : List One} (hw : Wt f) : (leftOf (A ++ (n, c) :: B) ex0 f).Sublist (leftOf (A ++ (n, c') :: B) ex0 f) := by
  have sL := leftOf_sub (t := A ++ (n, c) :: B) (ex := ex0) f
  exact leftOf_all hc hw sL (le_glad fun o ho => Rat.le_trans (share_cheap h (fun p hp => hw p (sL.subset hp)) ho) (glad_le (leftOf_glad f) ho))
theorem left_more {z : One} (hc : Co t) {f : List One} (hw : Wt (f ++ [z])) : (leftOf t ex0 f).Sublist (leftOf t ex0 (f ++ [z])) :=
  leftOf_all hc hw ((leftOf_sub f).trans (List.sublist_append_left ..)) (leftOf_glad f)
theorem left_word (hc : Co t) {f : List One} (hw : Wt f) (nd : (f.map (·.name)).Nodup) {o : One} (ho : o ∈ f) {w : Int} (h : o.worth ≤ w) : ∀ x ∈ nmsOf (leftOf t ex0 f), x ∈ nmsOf (leftOf t ex0 (f.map (sayW o.name w))) := by
  have sL := leftOf_sub (t := t) (ex := ex0) f
  have g : Glad t ex0 ((leftOf t ex0 f).map (sayW o.name w)) := le_glad fun q hq => by
    obtain ⟨p, hp, rfl⟩ := List.mem_map.mp hq
    rw [share_say]
    have k := glad_le (leftOf_glad f) hp
    by_cases hn : p.name = o.name
    · have e := name_inj nd (sL.subset hp) ho hn
      subst e
      rw [sayW_worth rfl]
      exact Rat.le_trans k (Rat.intCast_le_intCast.mpr h)
    · rw [sayW_ne hn]; exact k
  have s := leftOf_all (ex := ex0) hc (wt_map (sayW_weight o.name w) hw) (sL.map _) g
  intro x hx
  rw [← nms_map (sayW_name o.name w)] at hx
  exact (s.map _).subset hx
end G


set_option Elab.async false
set_option maxRecDepth 100000
set_option maxHeartbeats 1000000
namespace G
open PySem PySem.Spec PyProof.Rows L2
open PySem.W (Datum)
def askT (s : Ask) : PyData := .tuple [nsT (nmsOf s.some), nsT s.gone]
def p_asked : PSp := fun ss R _ => ∃ t f l, VT t ∧ VF t f ∧ List.Perm l (nmsOf f) ∧ ss = [.dat (tsD t), .dat (fsD f), .dat (nsT l)] ∧ R (askT (askedOf t f l)) ss
def p__law_asked : PSp := p_asked
def p__law_drawn_order : PSp := fun ss R _ => ∃ (a : Addr) (w : PyData) (t : List (Str × Int)) (f : List One), Well w ∧ VF t f ∧ ss = [.inn a w, .dat (fsD f)] ∧ ∀ l w', List.Perm l (nmsOf f) → Well w' → R (nsT l) [.inn a w', .dat (fsD f)]
def bD (b : List (Str × Int) × List One) : PyData := .tuple [tsD b.1, fsD b.2]
def p__law_better : PSp := fun ss R _ => ∃ (a : Addr) (w : PyData) (t : List (Str × Int)) (f : List One), Well w ∧ VT t ∧ VF t f ∧ (∀ o ∈ f, o.name ∈ (["al", "bo", "cy", "di", "ed", "fay", "gus", "hal"] : List Str)) ∧ ss = [.inn a w, .dat (tsD t), .dat (fsD f)] ∧
  ∀ (bs : List (List (Str × Int) × List One)) w', Well w' → (∀ b ∈ bs, VT b.1 ∧ VF b.1 b.2 ∧ ∀ x ∈ nmsOf (leftOf t ex0 f), x ∈ nmsOf (leftOf b.1 ex0 b.2)) → R (.list (bs.map bD)) [.inn a w', .dat (tsD t), .dat (fsD f)]
/-- folk by names -/
def prs (f : List One) : List (Str × One) := f.map fun o => (o.name, o)
theorem prs_names (f : List One) : (prs f).map (·.1) = nmsOf f := by unfold prs nmsOf; rw [List.map_map]; rfl
theorem prs_get {f : List One} (nd : (f.map (·.name)).Nodup) {o : One} (ho : o ∈ f) : dget (dS oD (prs f)) o.name = some (oD o) := by
  have e : lget (prs f) o.name = some o := lget_mem (p := (o.name, o)) (by rw [prs_names]; exact nd) (List.mem_map.mpr ⟨o, ho, rfl⟩)
  rw [dS_get, e]; rfl
theorem prs_none {f : List One} {n : Str} (h : n ∉ nmsOf f) : dget (dS oD (prs f)) n = none := by
  rw [dS_get, lget_none (by rw [prs_names]; exact h)]; rfl
theorem prs_vals (f : List One) : (dS oD (prs f)).map (·.2) = f.map oD := by unfold dS prs; rw [List.map_map, List.map_map]; rfl
theorem prs_keys (f : List One) : (dS oD (prs f)).map (·.1) = (nmsOf f).map sD := by unfold dS prs nmsOf; rw [List.map_map, List.map_map, List.map_map]; rfl
theorem prs_drop (f : List One) (n : Str) : ddrop (dS oD (prs f)) n = dS oD (prs (dropS n f)) := by
  unfold ddrop dS prs dropS
  rw [List.map_map, List.filter_map, List.map_map]
  refine congrArg (List.map _) (List.filter_congr fun o _ => ?_)
  show (!isK (PyData.str o.name) n) = !decide (o.name = n)
  rfl
theorem prs_make {f : List One} (nd : (f.map (·.name)).Nodup) : mergeD (f.map fun o => (o.name, oD o)) = dS oD (prs f) := by
  have := mergeD_dS (v := oD) (prs f)
  rw [lmerge_nodup (by rw [prs_names]; exact nd)] at this
  unfold prs at this ⊢
  rw [List.map_map] at this
  exact this
variable {t : List (Str × Int)}
theorem outB_of {f : List One} (nd : (f.map (·.name)).Nodup) {o : One} (ho : o ∈ f) : outB t f o.name = !pays t ex0 f o := by
  cases hp : pays t ex0 f o with
  | true =>
    refine List.any_eq_false.mpr fun p hp' => ?_
    intro hb
    obtain ⟨h1, h2⟩ := (Bool.and_eq_true _ _).mp hb
    have e := name_inj nd hp' ho (of_decide_eq_true h1)
    subst e
    rw [hp] at h2
    cases h2
  | false => exact List.any_eq_true.mpr ⟨o, ho, by rw [decide_eq_true rfl, hp]; rfl⟩
theorem outB_none {f : List One} {n : Str} (h : n ∉ nmsOf f) : outB t f n = false := by
  refine List.any_eq_false.mpr fun p hp hb => ?_
  obtain ⟨h1, _⟩ := (Bool.and_eq_true _ _).mp hb
  exact h ((of_decide_eq_true h1) ▸ List.mem_map_of_mem hp)
/-- what stays true while they are asked -/
structure AskI (t : List (Str × Int)) (f : List One) (s : Ask) : Prop where
  sub : s.some.Sublist f
  gl : s.gone.length + s.some.length ≤ 8
theorem AskI.one {f : List One} {s : Ask} (h : AskI t f s) (n : Str) : AskI t f (ask1 t s n) := by
  cases hb : outB t s.some n with
  | true =>
    rw [ask1_out hb]
    refine ⟨(dropS_sub n _).trans h.sub, ?_⟩
    have := dropS_lt hb
    have := h.gl
    show (s.gone ++ [n]).length + (dropS n s.some).length ≤ 8
    rw [List.length_append, List.length_cons, List.length_nil]
    omega
  | false => rw [ask1_in hb]; exact ⟨h.sub, h.gl⟩
theorem AskI.round {f : List One} : ∀ (l : List Str) {s : Ask}, AskI t f s → AskI t f (askR t l s)
  | [], _, h => h
  | n :: l, s, h => AskI.round l (h.one n)
theorem askR_snoc (p : List Str) (n : Str) (s : Ask) : askR t (p ++ [n]) s = ask1 t (askR t p s) n := by unfold askR; rw [List.foldl_append]; rfl
theorem noL_frs (l : List (Str × Rat)) : noL (.dict (dS fr l)) = true := by
  unfold noL dS
  induction l with
  | nil => rfl
  | cons p l ih => rw [List.map_cons, noLd, ih]; rfl
end G


set_option Elab.async false
set_option maxRecDepth 100000
set_option maxHeartbeats 1000000
namespace K11
open PySem PySem.Spec PyProof.Rows L2 G
open PySem.W (Datum)
/-! ### divisor -/
theorem pure_divisor (ss : List Sl) (R) (RE) (h : p_divisor ss R RE) : b_divisor ss R RE := by
  obtain ⟨a, b, rfl, h⟩ := h
  refine ⟨rfl, noOwn_dat (noOwn_dat noOwn_nil), ?_⟩
  refine whileL (fun m ρ => ∃ x y : Nat, m = y ∧ Nat.gcd x y = Nat.gcd a b ∧ ρ = [.dat (.int x), .dat (.int y)]) b ⟨a, b, rfl, rfl, rfl⟩ ?_
  rintro m _ ⟨x, y, rfl, e, rfl⟩
  refine ne_dat (α := Int) (a := (m : Int)) (b := 0) ?_
  refine iteB (fun hb => ?_) (fun hb => ?_)
  · have hy : 0 < m := by simp at hb; omega
    refine ⟨by omega, rfl, x % m, Nat.mod_lt _ hy, m, x % m, rfl, ?_, ?_⟩
    · rw [← e, Nat.gcd_comm x m, Nat.gcd_rec m x, Nat.gcd_comm]
    · exact congrArg (fun z => [Sl.dat (.int (m : Int)), Sl.dat (.int z)]) (Int.natCast_emod x m).symm
  · have hy : m = 0 := by simp at hb; omega
    subst hy
    rw [Nat.gcd_zero_right] at e
    subst e
    exact h
/-! ### fraction -/
theorem pure_fraction (ss : List Sl) (R) (RE) (h : p_fraction ss R RE) : b_fraction p_divisor ss R RE := by
  obtain ⟨a, b, n, hb, hn, hn2, rfl, h⟩ := h
  refine ⟨rfl, noOwn_dat (noOwn_dat noOwn_nil), ?_⟩
  have e1 : (if a < 0 then -a else a) = (a.natAbs : Int) := by split <;> omega
  have e2 : (if (b : Int) < 0 then -(b : Int) else b) = (b : Int) := by split <;> omega
  have hg : 0 < Nat.gcd a.natAbs b := Nat.gcd_pos_of_pos_right _ hb
  have hgl : Nat.gcd a.natAbs b ≤ b := Nat.gcd_le_right _ hb
  have sg : Sm (Nat.gcd a.natAbs b : Nat) := sm_of (n := n) (by rw [Int.natAbs_natCast]; omega) (by omega)
  refine ⟨a.natAbs, b, ?_, ?_⟩
  · show [Sl.dat (.int (if a < 0 then -a else a)), Sl.dat (.int (if (b : Int) < 0 then -(b : Int) else b))] = _
    rw [e1, e2]
  refine iteY (decide_eq_true (show (0 : Int) < b by omega)) ?_
  refine ⟨⟨sg, sm_small (by decide)⟩, ?_⟩
  dsimp only [mGN, slot, List.set]
  have e3 : ((Nat.gcd a.natAbs b : Nat) : Int) * 1 = (Nat.gcd a.natAbs b : Nat) := Int.mul_one _
  refine ⟨by show (0 : Int) < _ ∧ Sm _; rw [e3]; exact ⟨by omega, sg⟩, ?_⟩
  refine ⟨by show (0 : Int) < _ ∧ Sm _; rw [e3]; exact ⟨by omega, sg⟩, ?_⟩
  have e4 : fr (mkRat a b) = .tuple [.int (a / (((Nat.gcd a.natAbs b : Nat) : Int) * 1)), .int ((b : Int) / (((Nat.gcd a.natAbs b : Nat) : Int) * 1))] := by
    unfold fr
    rw [e3, Rat.num_mkRat, Rat.den_mkRat, if_neg (by omega), if_neg (by omega), Nat.gcd_comm b, Int.natCast_ediv]
  rw [e4] at h
  exact h
/-! ### plus -/
theorem pure_plus (ss : List Sl) (R) (RE) (h : p_plus ss R RE) : b_plus p_fraction ss R RE := by
  obtain ⟨p, q, m, n, hp, hq, hmn, rfl, h⟩ := h
  refine ⟨rfl, noOwn_dat (noOwn_dat noOwn_nil), ?_⟩
  refine ⟨⟨hp.num (by omega), hq.den (by omega)⟩, ⟨hq.num (by omega), hp.den (by omega)⟩, ⟨hp.den (by omega), hq.den (by omega)⟩, ?_⟩
  refine ⟨p.num * q.den + q.num * p.den, p.den * q.den, m + n, Nat.mul_pos p.den_pos q.den_pos, mul_lt_pow hp.2 hq.2, by omega, rfl, ?_⟩
  rw [← Rat.add_def']
  exact h
/-! ### is_whole -/
theorem pure_is_whole (ss : List Sl) (R) (RE) (h : p_is_whole ss R RE) : b_is_whole ss R RE := by
  obtain ⟨i, lo, hi, h1, h2, rfl, h⟩ := h
  refine ⟨rfl, noOwn_dat (noOwn_dat (noOwn_dat noOwn_nil)), ?_⟩
  refine iteY (decide_eq_true h1) ?_
  show R (.bool (decide (i ≤ hi))) _
  rw [decide_eq_true h2]
  exact h
/-! ### is_name -/
theorem pure_is_name (ss : List Sl) (R) (RE) (h : p_is_name ss R RE) : b_is_name ss R RE := by
  obtain ⟨x, ⟨h1, h2, h3⟩, rfl, h⟩ := h
  refine ⟨rfl, noOwn_dat noOwn_nil, ?_⟩
  have hl : x.length ≤ sizeLine := Nat.le_trans h2 (by decide)
  refine ⟨hl, iteY (decide_eq_true (by omega)) ?_⟩
  refine iteY (decide_eq_true (show (x.length : Int) ≤ 8 by omega)) ?_
  refine ⟨by omega, ?_⟩
  refine lcA (ρ0 := [.dat (.str x), .un]) (fun c : Nat => PyData.str ⟨#[c]⟩) x.cps.toList (fun _ => .bool true) ?_ ?_
  · refine ⟨x.cps.toList.map fun _ => true, by rw [List.map_map]; rfl, ?_⟩
    have e : ((x.cps.toList.map fun _ => true).all fun b => b) = true := by simp
    rw [e]
    exact h
  · intro c hc Ky q
    refine in_chr ?_
    have e : (false ^^ decide (c ∈ ("abcdefghijklmnopqrstuvwxyz" : Str).cps.toList)) = true := by rw [decide_eq_true (h3 c hc)]; rfl
    rw [e]
    exact q
/-! ### is_number -/
theorem pure_is_number (ss : List Sl) (R) (RE) (h : p_is_number ss R RE) : b_is_number p_is_whole ss R RE := by
  obtain ⟨i, h1, h2, rfl, h⟩ := h
  exact ⟨rfl, noOwn_dat noOwn_nil, i, 0, 1000, h1, h2, rfl, h⟩
/-! ### are_rising -/
theorem pure_are_rising (ss : List Sl) (R) (RE) (h : p_are_rising ss R RE) : b_are_rising ss R RE := by
  obtain ⟨d, l, hr, hl, hd, rfl, h⟩ := h
  refine ⟨rfl, noOwn_dat noOwn_nil, ?_⟩
  have key : ∀ (D : PyData), D = d → mLcL (mGN 1) mYes (mCmp ltD (mIx (mVar 0) (mVar 1)) (mIx (mVar 0) (mBin addD (mVar 1) (mC (.int 1))))) [1]
      (fun acc ρ2 => allD (.list acc) fun c => R c (outs [Sl.dat D] (backM [.dat D, .un] ρ2 [1]))) (rangeD ((l.length : Int) - 1).toNat) [] [.dat D, .un] := by
    intro D eD
    subst eD
    refine lcA (fun k : Nat => PyData.int (k : Int)) (List.range ((l.length : Int) - 1).toNat) (fun _ => .bool true) ?_ ?_
    · refine ⟨(List.range ((l.length : Int) - 1).toNat).map fun _ => true, by rw [List.map_map]; rfl, ?_⟩
      have e : (((List.range ((l.length : Int) - 1).toNat).map fun _ => true).all fun b => b) = true := by simp
      rw [e]
      exact h
    · intro k hk Ky q
      rw [List.mem_range] at hk
      have k1 : k < l.length := by omega
      have k2 : k + 1 < l.length := by omega
      have a1 : atI (l.map sD) (k : Int) = some (.str l[k]) := atI_nat (by rw [List.getElem?_map, List.getElem?_eq_getElem k1]; rfl)
      have a2 : atI (l.map sD) ((k : Int) + 1) = some (.str l[k + 1]) := atI_nat (j := k + 1) (by rw [List.getElem?_map, List.getElem?_eq_getElem k2]; rfl)
      have lt : Lt l[k] l[k + 1] := (List.pairwise_iff_getElem.mp hr.pw) k (k + 1) k1 k2 (by omega)
      have fin : ltD (.str l[k]) (.str l[k + 1]) (fun c => Ky (.bool c) [.dat D, .un]) := by
        show Ky (.bool (decide (l[k].cps.toList < l[k + 1].cps.toList))) _
        rw [decide_eq_true (show l[k].cps.toList < l[k + 1].cps.toList from lt)]
        exact q
      have go : ∀ D', (D' = nsL l ∨ D' = nsT l) → ixD D' (.int (k : Int)) fun c => ixD D' (.int ((k : Int) + 1)) fun c2 => ltD c c2 fun c => Ky (.bool c) [.dat D, .un] := by
        rintro D' (rfl | rfl)
        · show (match atI (l.map sD) (k : Int) with | some d => _ | none => False)
          rw [a1]
          show (match atI (l.map sD) ((k : Int) + 1) with | some d => _ | none => False)
          rw [a2]
          exact fin
        · show (match atI (l.map sD) (k : Int) with | some d => _ | none => False)
          rw [a1]
          show (match atI (l.map sD) ((k : Int) + 1) with | some d => _ | none => False)
          rw [a2]
          exact fin
      exact go D hd
  have lf : ∀ d', (d' = nsL l ∨ d' = nsT l) → ∀ R' : PyData → Prop, R' (.int l.length) → lenD d' R' := by
    rintro d' (rfl | rfl) R' q
    · show R' (.int ((l.map sD).length : Nat))
      rw [List.length_map]; exact q
    · show R' (.int ((l.map sD).length : Nat))
      rw [List.length_map]; exact q
  refine lf d hd _ ?_
  exact ⟨⟨by show (-10000 : Int) ≤ (l.length : Int) - 1; omega, by show (l.length : Int) - 1 < 10000; omega⟩, key d rfl⟩
/-! ### are_things -/
theorem pure_are_things (ss : List Sl) (R) (RE) (h : p_are_things ss R RE) : b_are_things p_is_name p_is_number p_are_rising ss R RE := by
  obtain ⟨t, ht, rfl, h⟩ := h
  refine ⟨rfl, noOwn_dat noOwn_nil, ?_⟩
  have hl : (t.map tD).length = t.length := List.length_map _
  have h1 := ht.le
  refine iteY (decide_eq_true (show (1 : Int) ≤ ((t.map tD).length : Nat) by omega)) ?_
  refine iteNo (show (!decide (((t.map tD).length : Int) ≤ 8)) = false by rw [decide_eq_true (by omega)]; rfl) ?_
  refine lcA tD t (fun _ => .bool true) ?_ ?_
  · refine all_yes t ?_
    refine lcA tD t (fun p => sD p.1) ?_ ?_
    · rw [map_sD]
      exact ⟨_, t.map (·.1), ht.up, by rw [List.length_map]; omega, .inl rfl, rfl, h⟩
    · intro p hp Ky q
      exact q
  · intro p hp Ky q
    refine eq_dat (α := Int) (a := 2) (b := 2) ?_
    refine ⟨p.1, ht.nm p hp, rfl, ?_⟩
    exact ⟨p.2, (ht.co p hp).1, (ht.co p hp).2, rfl, q⟩
/-! ### are_of -/
theorem pure_are_of (ss : List Sl) (R) (RE) (h : p_are_of ss R RE) : b_are_of p_are_rising ss R RE := by
  obtain ⟨ns, l, h1, h2, h3, rfl, h⟩ := h
  refine ⟨rfl, noOwn_dat (noOwn_dat noOwn_nil), ?_⟩
  refine lcA sD l (fun _ => .bool true) ?_ ?_
  · refine all_yes l ?_
    exact ⟨_, l, h2, h3, .inr rfl, rfl, h⟩
  · intro x hx Ky q
    refine in_lst (α := Str) ?_
    rw [decide_eq_true (h1 x hx)]
    exact q
/-! ### is_one -/
theorem pure_is_one (ss : List Sl) (R) (RE) (h : p_is_one ss R RE) : b_is_one p_is_name p_are_of p_is_number p_is_whole ss R RE := by
  obtain ⟨t, o, ht, ho, rfl, h⟩ := h
  refine ⟨rfl, noOwn_dat (noOwn_dat noOwn_nil), ?_⟩
  refine ne_dat (α := Int) (a := 4) (b := 4) ?_
  refine ⟨o.name, ho.nm, rfl, ?_⟩
  refine lcA tD t (fun p => sD p.1) ?_ ?_
  · rw [map_sD]
    have hwl : o.wants.length ≤ 1000 := Nat.le_trans (nodup_len ho.up.nodup ho.ws) (by rw [List.length_map]; have := ht.le; omega)
    refine ⟨t.map (·.1), o.wants, ho.ws, ho.up, hwl, rfl, ?_⟩
    refine eq_dat (α := PySem.W.Tup Str) (a := ⟨o.wants⟩) (b := ⟨[]⟩) ?_
    refine iteNo (decide_eq_false fun e => ho.ne (congrArg PySem.W.Tup.items e)) ?_
    exact ⟨o.worth, ho.wo.1, ho.wo.2, rfl, o.weight, 1, 9, ho.we.1, ho.we.2, rfl, h⟩
  · intro p hp Ky q
    exact q
/-! ### are_folk_of -/
theorem pure_are_folk_of (ss : List Sl) (R) (RE) (h : p_are_folk_of ss R RE) : b_are_folk_of p_is_one p_are_rising ss R RE := by
  obtain ⟨t, f, ht, hf, rfl, h⟩ := h
  refine ⟨rfl, noOwn_dat (noOwn_dat noOwn_nil), ?_⟩
  have hl : (f.map oD).length = f.length := List.length_map _
  have h1 := hf.le
  refine iteNo (show decide ((8 : Int) < ((f.map oD).length : Nat)) = false from decide_eq_false (by omega)) ?_
  refine lcA oD f (fun _ => .bool true) ?_ ?_
  · refine all_yes f ?_
    refine lcA oD f (fun p => sD p.name) ?_ ?_
    · rw [map_sD]
      exact ⟨_, f.map (·.name), hf.up, by rw [List.length_map]; omega, .inl rfl, rfl, h⟩
    · intro p hp Ky q
      exact q
  · intro o ho Ky q
    exact ⟨t, o, ht, hf.on o ho, rfl, q⟩
/-! ### need_things -/
theorem pure_need_things (ss : List Sl) (R) (RE) (h : p_need_things ss R RE) : b_need_things p_are_things ss R RE := by
  obtain ⟨t, ht, rfl, h⟩ := h
  exact ⟨rfl, noOwn_dat noOwn_nil, t, ht, rfl, h⟩
/-! ### need_folk -/
theorem pure_need_folk (ss : List Sl) (R) (RE) (h : p_need_folk ss R RE) : b_need_folk p_need_things p_are_folk_of ss R RE := by
  obtain ⟨t, f, ht, hf, rfl, h⟩ := h
  exact ⟨rfl, noOwn_dat (noOwn_dat noOwn_nil), t, ht, rfl, t, f, ht, hf, rfl, h⟩
/-! ### names_of -/
theorem pure_names_of (ss : List Sl) (R) (RE) (h : p_names_of ss R RE) : b_names_of ss R RE := by
  obtain ⟨d, f, hd, rfl, h⟩ := h
  refine ⟨rfl, noOwn_dat noOwn_nil, ?_⟩
  refine seq_run hd ?_
  refine lcA oD f (fun o => sD o.name) ?_ ?_
  · rw [map_sD]
    exact h
  · intro p hp Ky q
    exact q
/-! ### shares_of -/
theorem pure_shares_of (ss : List Sl) (R) (RE) (h : p_shares_of ss R RE) : b_shares_of p_plus p_fraction ss R RE := by
  obtain ⟨t, d, f, ht, hf, hd, rfl, h⟩ := h
  refine ⟨rfl, noOwn_dat (noOwn_dat noOwn_nil), ?_⟩
  have nd := hf.nodup
  have keys : ∀ g : One → Rat, (f.map fun o => (o.name, g o)).map (·.1) = f.map (·.name) := fun g => by rw [List.map_map]; rfl
  refine seq_run hd ?_
  refine dcA oD f (fun o => o.name) (fun _ => fr 0) ?_ ?_
  case refine_2 => intro o ho K q; exact q
  have e0 : mergeD (f.map fun o => (o.name, fr 0)) = dS fr (f.map fun o => (o.name, share [] f o)) := by
    have := mergeD_dS (v := fr) (f.map fun o => (o.name, share [] f o))
    rw [lmerge_nodup (by rw [keys]; exact nd), List.map_map] at this
    exact this
  rw [e0]
  refine forL tD t (fun p ρ => ∃ s3 s4 s5 s6 s7 s8 s9 : Sl, ρ = [.dat (tsD t), .dat d, .own (.dict (dS fr (f.map fun o => (o.name, share p f o)))), s3, s4, s5, s6, s7, s8, s9] ∧ freeS ρ 3 = true ∧ freeS ρ 4 = true ∧ freeS ρ 5 = true ∧ freeS ρ 6 = true ∧ freeS ρ 7 = true ∧ freeS ρ 8 = true)
    ⟨.un, .un, .un, .un, .un, .un, .un, rfl, rfl, rfl, rfl, rfl, rfl, rfl⟩ ?_ ?_
  · rintro ρ ⟨s3, s4, s5, s6, s7, s8, s9, rfl, _⟩
    exact h
  · rintro p x r ρ N et ⟨s3, s4, s5, s6, s7, s8, s9, rfl, f3, f4, f5, f6, f7, f8⟩ hN
    refine gt_free (d := .str x.1) (e := .int x.2) f3 f4 ?_
    refine seq_run hd ?_
    have hx : x ∈ t := by rw [et]; simp
    refine lcL oD f (fun o => decide (x.1 ∈ o.wants)) (fun o => .tuple [.str o.name, .int o.weight]) ?_ ?_
    case refine_2 =>
      intro o ho Ky Kn q1 q2
      refine in_tup (α := Str) (l := o.wants) ?_
      exact iteB (fun z => q1 (by simpa using z)) (fun z => q2 (by simpa using z))
    refine gn_free f5 ?_
    refine lcA (fun o : One => PyData.tuple [.str o.name, .int o.weight]) (usersOf f x.1) (fun o => .int o.weight) ?_ ?_
    case refine_2 => intro o ho Ky q; exact q
    refine ⟨(usersOf f x.1).map (·.weight), by rw [List.map_map]; rfl, ?_⟩
    refine gn_free f8 ?_
    refine forL (fun o : One => PyData.tuple [.str o.name, .int o.weight]) (usersOf f x.1) (fun us ρ => ∃ s6 s7 : Sl, ρ = [.dat (tsD t), .dat d, .own (.dict (dS fr (f.map fun o => (o.name, if o ∈ us then share p f o + part f x o else share p f o)))), .dat (.str x.1), .dat (.int x.2), .dat (.list ((usersOf f x.1).map fun o => .tuple [.str o.name, .int o.weight])), s6, s7, .dat (.int (weightOf f x.1)), bk s9] ∧ freeS ρ 6 = true ∧ freeS ρ 7 = true)
      ⟨bk s6, bk s7, ?_, bk_free s6, bk_free s7⟩ ?_ ?_
    · simp only [List.not_mem_nil, if_false]
      rfl
    · rintro ρ ⟨s6', s7', rfl, g6, g7⟩
      have e : (f.map fun o => (o.name, share (p ++ [x]) f o)) = f.map fun o => (o.name, if o ∈ usersOf f x.1 then share p f o + part f x o else share p f o) := by
        refine List.map_congr_left fun o ho => ?_
        have m : (o ∈ usersOf f x.1) = (x.1 ∈ o.wants) := by
          unfold usersOf
          rw [List.mem_filter]
          simp [ho]
        rw [share_snoc]
        simp only [m]
      show N _
      rw [← e]
      exact hN _ ⟨_, _, _, s6', s7', _, bk s9, rfl, rfl, rfl, rfl, g6, g7, rfl⟩
    · rintro us o r2 ρ N2 eu ⟨s6', s7', rfl, g6, g7⟩ hN2
      refine gt_free (d := .str o.name) (e := .int o.weight) g6 g7 ?_
      have hou : o ∈ usersOf f x.1 := by rw [eu]; simp
      have ho : o ∈ f := (List.mem_filter.mp hou).1
      have hxo : x.1 ∈ o.wants := by simpa using (List.mem_filter.mp hou).2
      have hno : o ∉ us := by
        have nu : (usersOf f x.1).Nodup := (nodup_of_map nd).sublist List.filter_sublist
        rw [eu, List.nodup_append] at nu
        exact fun z => nu.2.2 o z o (by simp) rfl
      have pc := ht.co x hx
      have bp : Bd (1 + 15 * p.length) (share p f o) := share_bd hf.on hf.le (fun q hq => ht.co q (by rw [et]; simp [hq])) ho
      have bq := part_bd hf.on hf.le pc ho hxo
      have pl : p.length ≤ 8 := by have := ht.le; rw [et, List.length_append, List.length_cons] at this; omega
      obtain ⟨w0, w1, w2⟩ := weight_pos hf.on hf.le x.1
      have w3 := w2 o ho hxo
      have eg : dget (dS fr (f.map fun o => (o.name, if o ∈ us then share p f o + part f x o else share p f o))) o.name = some (fr (share p f o)) := by
        rw [dS_get, lget_mem (p := (o.name, if o ∈ us then share p f o + part f x o else share p f o)) (by rw [keys]; exact nd) (List.mem_map.mpr ⟨o, ho, rfl⟩), if_neg hno]; rfl
      refine ixd_dict eg ?_
      have wo := (hf.on o ho).we
      refine ⟨⟨sm_small (by omega), sm_small (by omega)⟩, ?_⟩
      refine ⟨x.2 * o.weight, (weightOf f x.1).toNat, 7, by omega, by omega, by decide, by rw [Int.toNat_of_nonneg w0]; rfl, ?_⟩
      refine ⟨share p f o, part f x o, _, _, bp, bq, by omega, rfl, ?_⟩
      refine ⟨by unfold dS; rw [List.length_map, List.length_map]; have := hf.le; omega, ?_⟩
      refine hN2 _ ⟨.dat (.str o.name), .dat (.int o.weight), ?_, rfl, rfl⟩
      rw [dS_put]
      have ep : lput (f.map fun o => (o.name, if o ∈ us then share p f o + part f x o else share p f o)) o.name (share p f o + part f x o) = f.map fun o' => (o'.name, if o' ∈ us ++ [o] then share p f o' + part f x o' else share p f o') := by
        unfold lput
        rw [if_pos (by rw [keys]; exact List.mem_map_of_mem ho), List.map_map]
        refine List.map_congr_left fun o' ho' => ?_
        show (if o'.name = o.name then (o'.name, share p f o + part f x o) else (o'.name, _)) = _
        by_cases e : o'.name = o.name
        · have e' : o' = o := name_inj nd ho' ho e
          subst e'
          rw [if_pos rfl, if_pos (by simp)]
        · have e' : o' ≠ o := fun z => e (by rw [z])
          rw [if_neg e]
          simp [e']
      rw [ep]
      rfl
/-! ### _law_take -/
theorem pure__law_take (ss : List Sl) (R) (RE) (h : p__law_take ss R RE) : b__law_take ss R RE := by
  obtain ⟨a, d, m, ⟨c, s, p, rfl, hc, hs0, hs, hp0, hp⟩, hm, hm2, rfl, h⟩ := h
  refine ⟨rfl, noOwn_inn (noOwn_dat noOwn_nil), ?_⟩
  have h : ∀ i d' u ρ, 0 ≤ i → i < m → Well d' → R (.int i) (outs [.inn a (.list [.int c, .int s, .int p]), .dat (.int m)] (.inn a d' :: u :: ρ)) := fun i d' u ρ h1 h2 h3 => by
    rw [outs_here]; exact h i d' h1 h2 h3
  refine iteB (fun hb => ?_) (fun hb => ?_)
  · refine ⟨hm, ⟨hm, sm_small (by omega)⟩, ?_⟩
    exact h (c % m) _ _ _ (Int.emod_nonneg _ (by omega)) (Int.emod_lt_of_pos _ hm) ⟨c / m, s, p, rfl, Int.ediv_nonneg hc (by omega), hs0, hs, hp0, hp⟩
  · have e1 : 0 ≤ s * 48271 % p := Int.emod_nonneg _ (by omega)
    have e2 : s * 48271 % p < p := Int.emod_lt_of_pos _ hp0
    refine ⟨⟨sm_small (by omega), sm_small (by decide)⟩, hp0, ?_⟩
    refine ⟨⟨sm_small (by omega), sm_small (by omega)⟩, (by decide), ⟨(by decide), sm_small (by decide)⟩, hm, ?_⟩
    exact h _ _ _ _ (Int.emod_nonneg _ (by omega)) (Int.emod_lt_of_pos _ hm) ⟨c, s * 48271 % p + 1, p, rfl, hc, by omega, by omega, hp0, hp⟩
/-! ### _law_well -/
theorem pure__law_well (ss : List Sl) (R) (RE) (h : p__law_well ss R RE) : b__law_well ss R RE := by
  obtain ⟨ns, k, hk, rfl, h⟩ := h
  refine ⟨rfl, noOwn_scr (noOwn_dat noOwn_nil), ?_⟩
  -- the primes
  have prime : ∀ (Rr : PyData → Prop), (∀ p : Int, 0 < p → p < 2 ^ 31 → Rr (.int p)) → ixD (.list [.int 2147483647, .int 2147483629, .int 2147483587, .int 2147483579, .int 2147483563, .int 2147483549, .int 2147483543, .int 2147483497]) (.int ((k : Int) % 8)) Rr := by
    intro Rr q
    have h8 : k % 8 < 8 := Nat.mod_lt _ (by decide)
    have e : ((k : Int) % 8) = ((k % 8 : Nat) : Int) := (Int.natCast_emod k 8).symm
    rw [e]
    generalize k % 8 = j at h8
    match j, h8 with
    | 0, _ => exact q _ (by decide) (by decide)
    | 1, _ => exact q _ (by decide) (by decide)
    | 2, _ => exact q _ (by decide) (by decide)
    | 3, _ => exact q _ (by decide) (by decide)
    | 4, _ => exact q _ (by decide) (by decide)
    | 5, _ => exact q _ (by decide) (by decide)
    | 6, _ => exact q _ (by decide) (by decide)
    | 7, _ => exact q _ (by decide) (by decide)
  -- what follows the cell
  have rest : ∀ cell : Int, mSeq (mSet 3 (mLst (mCons (mC (.int 2147483647)) (mCons (mC (.int 2147483629)) (mCons (mC (.int 2147483587)) (mCons (mC (.int 2147483579)) (mCons (mC (.int 2147483563)) (mCons (mC (.int 2147483549)) (mCons (mC (.int 2147483543)) (mCons (mC (.int 2147483497)) (mNil)))))))))))
      (mSeq (mSet 4 (mBin modD (mBin mulD (mBin addD (mBin modD (mVar 2) (mC (.int 2147483489))) (mC (.int 1))) (mBin addD (mC (.int 48271)) (mBin mulD (mC (.int 2)) (mVar 1)))) (mC (.int 2147483489))))
      (mSeq (mSet 4 (mBin addD (mBin addD (mBin modD (mBin mulD (mVar 4) (mVar 4)) (mC (.int 2147483477))) (mVar 1)) (mC (.int 1))))
      (mSeq (mIfS (mCmpB geD (mVar 2) (mBin powD (mC (.int 10)) (mC (.int 18))))
      (mRetN (mLst (mCons (mVar 2) (mCons (mVar 4) (mCons (mIx (mVar 3) (mBin modD (mVar 1) (mC (.int 8)))) (mNil))))))
      (mNx))
      (mRetN (mLst (mCons (mC (.int 0)) (mCons (mVar 4) (mCons (mIx (mVar 3) (mBin modD (mVar 1) (mC (.int 8)))) (mNil)))))))))
      { nx := fun _ => False, rt := fun _ _ => False, ro := fun d ρ' => R d (outs [.scr ns, .dat (.int (k : Int))] ρ') } [.scr ns, .dat (.int (k : Int)), .dat (.int cell), .un, .un] := by
    intro cell
    have a1 : 0 ≤ cell % 2147483489 := Int.emod_nonneg _ (by decide)
    have a2 : cell % 2147483489 < 2147483489 := Int.emod_lt_of_pos _ (by decide)
    refine ⟨by decide, ⟨sm_small (by decide), sm_small (by omega)⟩, ⟨sm_small (by omega), sm_small (by omega)⟩, by decide, ?_⟩
    generalize (cell % 2147483489 + 1) * (48271 + 2 * (k : Int)) = w
    have b1 : 0 ≤ w % 2147483489 := Int.emod_nonneg _ (by decide)
    have b2 : w % 2147483489 < 2147483489 := Int.emod_lt_of_pos _ (by decide)
    refine ⟨⟨sm_small (by omega), sm_small (by omega)⟩, by decide, ?_⟩
    generalize w % 2147483489 = x at b1 b2
    have c1 : 0 ≤ x * x % 2147483477 := Int.emod_nonneg _ (by decide)
    have c2 : x * x % 2147483477 < 2147483477 := Int.emod_lt_of_pos _ (by decide)
    refine ⟨⟨rfl, rfl⟩, ?_⟩
    refine iteB (fun hb => ?_) (fun hb => ?_)
    · have hb := of_decide_eq_true hb
      refine ⟨by decide, prime _ fun p p0 p1 => ?_⟩
      exact h _ ⟨cell, x * x % 2147483477 + k + 1, p, rfl, by omega, by omega, by omega, p0, p1⟩
    · refine ⟨by decide, prime _ fun p p0 p1 => ?_⟩
      exact h _ ⟨0, x * x % 2147483477 + k + 1, p, rfl, by decide, by omega, by omega, p0, p1⟩
  refine iteB (fun hb => ?_) (fun hb => ?_)
  · have hb := of_decide_eq_true hb
    have hk : k < ns.length := by omega
    have e : atI ns (k : Int) = some ns[k] := atI_nat (List.getElem?_eq_getElem hk)
    have go : ∀ Rr : Int → Prop, Rr ns[k] → (match atI ns (k : Int) with
        | some n => Rr n
        | none => False) := fun Rr q => by
      rw [e]
      exact q
    exact go _ (rest _)
  · exact rest 0
/-! ### _law_frac -/
theorem pure__law_frac (ss : List Sl) (R) (RE) (h : p__law_frac ss R RE) : b__law_frac ss R RE := by
  obtain ⟨a, b, n, hb, hn, hn2, rfl, h⟩ := h
  refine ⟨rfl, noOwn_dat (noOwn_dat noOwn_nil), ?_⟩
  have e1 : (if a < 0 then -a else a) = (a.natAbs : Int) := by split <;> omega
  have e2 : (if (b : Int) < 0 then -(b : Int) else b) = (b : Int) := by split <;> omega
  have hg : 0 < Nat.gcd a.natAbs b := Nat.gcd_pos_of_pos_right _ hb
  have hgl : Nat.gcd a.natAbs b ≤ b := Nat.gcd_le_right _ hb
  have sg : Sm (Nat.gcd a.natAbs b : Nat) := sm_of (n := n) (by rw [Int.natAbs_natCast]; omega) (by omega)
  refine ⟨rfl, ?_⟩
  refine whileL (fun m ρ => ∃ x y : Nat, m = y ∧ Nat.gcd x y = Nat.gcd a.natAbs b ∧ ρ = [.dat (.int a), .dat (.int b), .dat (.int x), .dat (.int y)]) b ⟨a.natAbs, b, rfl, rfl, ?_⟩ ?_
  · show [Sl.dat (.int a), Sl.dat (.int (b : Int)), Sl.dat (.int (if a < 0 then -a else a)), Sl.dat (.int (if (b : Int) < 0 then -(b : Int) else b))] = _
    rw [e1, e2]
  rintro m _ ⟨x, y, rfl, e, rfl⟩
  refine iteB (fun hb => ?_) (fun hb => ?_)
  · have hy := of_decide_eq_true hb
    have hy : 0 < m := by omega
    refine ⟨by omega, rfl, x % m, Nat.mod_lt _ hy, m, x % m, rfl, ?_, ?_⟩
    · rw [← e, Nat.gcd_comm x m, Nat.gcd_rec m x, Nat.gcd_comm]
    · exact congrArg (fun z => [Sl.dat (.int a), Sl.dat (.int (b : Int)), Sl.dat (.int (m : Int)), Sl.dat (.int z)]) (Int.natCast_emod x m).symm
  · have hy := of_decide_eq_false hb
    have hy : m = 0 := by omega
    subst hy
    rw [Nat.gcd_zero_right] at e
    subst e
    refine iteY (decide_eq_true (show (0 : Int) < b by omega)) ?_
    refine ⟨⟨by omega, sg⟩, ⟨by omega, sg⟩, ?_⟩
    have e4 : fr (mkRat a b) = .tuple [.int (a / ((Nat.gcd a.natAbs b : Nat) : Int)), .int ((b : Int) / ((Nat.gcd a.natAbs b : Nat) : Int))] := by
      unfold fr
      rw [Rat.num_mkRat, Rat.den_mkRat, if_neg (by omega), if_neg (by omega), Nat.gcd_comm b, Int.natCast_ediv]
    rw [e4] at h
    exact h
/-! ### _law_things -/
theorem pure__law_things (ss : List Sl) (R) (RE) (h : p__law_things ss R RE) : b__law_things p__law_take ss R RE := by
  obtain ⟨a, d, m, hw, hm, hm8, rfl, h⟩ := h
  refine ⟨rfl, noOwn_inn (noOwn_dat noOwn_nil), ?_⟩
  have h : ∀ t d' u ρ, VT t → (t.length : Int) ≤ m → Well d' → R (tsD t) (outs [.inn a d, .dat (.int m)] (.inn a d' :: u :: ρ)) := fun t d' u ρ h1 h2 h3 => by
    rw [outs_here]; exact h t d' h1 h2 h3
  refine ⟨a, d, m, hw, hm, by omega, rfl, fun i d1 i0 i1 hw1 => ?_⟩
  refine addI (a := 1) (b := i) ?_
  refine sl_take (f := sD) (l := thingNames) (k := 1 + i) (by omega) ?_
  refine ⟨a, d1, 3, hw1, by decide, by decide, rfl, fun j d2 j0 j1 hw2 => ?_⟩
  refine ix_any j0 (by show j < 3; omega) fun w hw => ?_
  obtain ⟨w, rfl, w0, w1⟩ : ∃ v : Int, w = .int v ∧ 0 ≤ v ∧ v ≤ 1000 := by
    simp only [List.mem_cons, List.not_mem_nil, or_false] at hw
    rcases hw with rfl | rfl | rfl
    · exact ⟨9, rfl, by decide, by decide⟩
    · exact ⟨60, rfl, by decide, by decide⟩
    · exact ⟨1000, rfl, by decide, by decide⟩
  refine lcI sD (thingNames.take (1 + i).toNat) (fun p acc ρ => ∃ t d', acc = t.map tD ∧ t.map (·.1) = p ∧ (∀ q ∈ t, 0 ≤ q.2 ∧ q.2 ≤ 1000) ∧ Well d' ∧ ρ = [.inn a d', .dat (.int m), .dat (nsL (thingNames.take (1 + i).toNat)), .dat (.int w), .un])
    ⟨[], d2, rfl, rfl, (by intro q hq; cases hq), hw2, rfl⟩ ?_ ?_
  · rintro acc ρ ⟨t, d', rfl, e1, e2, hw', rfl⟩
    have hlen : t.length = (thingNames.take (1 + i).toNat).length := by rw [← e1, List.length_map]
    have hl8 : thingNames.length = 8 := rfl
    rw [List.length_take, hl8] at hlen
    refine h t d' _ _ ⟨by omega, fun p hp => ?_, e2, ?_⟩ (by omega) hw'
    · refine thingNames_nm _ (List.mem_of_mem_take (i := (1 + i).toNat) ?_)
      rw [← e1]; exact List.mem_map_of_mem hp
    · rw [e1]; exact Rising.of (thingNames_up.sublist (List.take_sublist _ _))
  · rintro p x r acc ρ _ ⟨t, d', rfl, e1, e2, hw', rfl⟩ Ky Kn k1 k2
    refine ⟨a, d', w + 1, hw', by omega, by omega, rfl, fun c d'' c0 c1 hw'' => ?_⟩
    refine k1 _ _ ⟨t ++ [(x, c)], d'', ?_, ?_, ?_, hw'', rfl⟩
    · rw [List.map_append]; rfl
    · rw [List.map_append, e1]; rfl
    · intro q hq
      rcases List.mem_append.mp hq with hq | hq
      · exact e2 q hq
      · simp only [List.mem_cons, List.not_mem_nil, or_false] at hq
        subst hq
        exact ⟨c0, by show c ≤ 1000; omega⟩
/-! ### _law_one -/
theorem pure__law_one (ss : List Sl) (R) (RE) (h : p__law_one ss R RE) : b__law_one p__law_take ss R RE := by
  obtain ⟨a, d, t, x, b, hw, ht, hx, rfl, h⟩ := h
  refine ⟨rfl, noOwn_inn (noOwn_dat (noOwn_dat (noOwn_dat noOwn_nil))), ?_⟩
  have h : ∀ o d' u v w ρ, VO t o → o.name = x → (b = true → o.weight = 1) → Well d' → R (oD o) (outs [.inn a d, .dat (tsD t), .dat (.str x), .dat (.bool b)] (.inn a d' :: u :: v :: w :: ρ)) := fun o d' u v w ρ h1 h2 h3 h4 => by
    rw [outs_here]; exact h o d' h1 h2 h3 h4
  have tl := ht.le
  refine lcI tD t (fun p acc ρ => ∃ ws d', acc = ws.map sD ∧ ws.Sublist (p.map (·.1)) ∧ Well d' ∧ ρ = [.inn a d', .dat (tsD t), .dat (.str x), .dat (.bool b), .un, .un, .un, .un, .un])
    ⟨[], d, rfl, List.Sublist.refl _, hw, rfl⟩ ?_ ?_
  case refine_2 =>
    rintro p q r acc ρ _ ⟨ws, d', rfl, sl, hw', rfl⟩ Ky Kn k1 k2
    refine ⟨a, d', 3, hw', by decide, by decide, rfl, fun c d'' c0 c1 hw'' => ?_⟩
    refine eq_dat (α := Int) (a := c) (b := 0) ?_
    refine iteB (fun hb => ?_) (fun hb => ?_)
    · refine k1 _ _ ⟨ws ++ [q.1], d'', by rw [List.map_append]; rfl, ?_, hw'', rfl⟩
      rw [List.map_append]
      exact sl.append (List.Sublist.refl _)
    · refine k2 _ ⟨ws, d'', rfl, ?_, hw'', rfl⟩
      rw [List.map_append]
      exact sl.trans (List.sublist_append_left ..)
  rintro acc ρ ⟨ws, d1, rfl, sl, hw1, rfl⟩
  -- behind the wants
  have rest : ∀ (ws : List Str) (d1 : PyData), Well d1 → ws ≠ [] → ws.Sublist (t.map (·.1)) →
      mSeq (mSet 4 (mCall1 sumD (mLc (iSq (mVar 1)) (mGT [mGN 7, mGN 8]) (mCmpB (inD false) (mVar 7) (mVar 5)) (mVar 8) [7, 8])))
      (mSeq (mSet 6 (mCallM min2D (mCons (mC (.int 1000)) (mCons (mCallR p__law_take Wish.no.RE 0 0 (mHere 0 (mCons (mIx (mLst (mCons (mBin addD (mVar 4) (mC (.int 1))) (mCons (mBin addD (mBin fdivD (mVar 4) (mC (.int 2))) (mC (.int 2))) (mCons (mBin addD (mBin fdivD (mVar 4) (mC (.int 4))) (mC (.int 3))) (mCons (mC (.int 1001)) (mNil)))))) (mCallR p__law_take Wish.no.RE 0 0 (mHere 0 (mCons (mC (.int 4)) (mNil))))) (mNil)))) (mNil)))))
      (mRet (mTup (mCons (mVar 2) (mCons (mCall1 tupD (mVar 5)) (mCons (mVar 6) (mCons (mIf (mT (mVar 3)) (mC (.int 1)) (mBin addD (mC (.int 1)) (mCallR p__law_take Wish.no.RE 0 0 (mHere 0 (mCons (mIx (mLst (mCons (mC (.int 1)) (mCons (mC (.int 3)) (mCons (mC (.int 9)) (mNil))))) (mCallR p__law_take Wish.no.RE 0 0 (mHere 0 (mCons (mC (.int 3)) (mNil))))) (mNil)))))) (mNil))))))))
      { nx := fun ρ' => R .none (outs [.inn a d, .dat (tsD t), .dat (.str x), .dat (.bool b)] ρ'), rt := fun e ρ' => R e (outs [.inn a d, .dat (tsD t), .dat (.str x), .dat (.bool b)] ρ') }
      [.inn a d1, .dat (tsD t), .dat (.str x), .dat (.bool b), .un, .dat (nsL ws), .un, .un, .un] := by
    intro ws d1 hw1 ne sl
    have vo : ∀ wo we : Int, 0 ≤ wo → wo ≤ 1000 → 1 ≤ we → we ≤ 9 → VO t ⟨x, ws, wo, we⟩ := fun wo we a1 a2 a3 a4 =>
      ⟨hx, fun y hy => sl.subset hy, Rising.of (ht.up.pw.sublist sl), ne, ⟨a1, a2⟩, ⟨a3, a4⟩⟩
    refine lcL tD t (fun p => decide (p.1 ∈ ws)) (fun p => .int p.2) ?_ ?_
    case refine_2 =>
      intro p hp Ky Kn q1 q2
      refine in_lst (α := Str) (l := ws) ?_
      exact iteB (fun z => q1 (by simpa using z)) (fun z => q2 (by simpa using z))
    refine ⟨(t.filter fun p => decide (p.1 ∈ ws)).map (·.2), by rw [List.map_map]; rfl, ?_⟩
    obtain ⟨s0, s1⟩ := sum_bd (t.filter fun p => decide (p.1 ∈ ws)) fun p hp => ht.co p (List.mem_filter.mp hp).1
    have s2 := List.length_filter_le (fun p : Str × Int => decide (p.1 ∈ ws)) t
    have s3 : (((t.filter fun p => decide (p.1 ∈ ws)).map (·.2)).sum : Int) ≤ 8000 := by omega
    generalize (((t.filter fun p => decide (p.1 ∈ ws)).map (·.2)).sum : Int) = cost at s0 s3
    refine ⟨⟨by decide, sm_small (by decide)⟩, ⟨by decide, sm_small (by decide)⟩, ?_⟩
    refine ⟨a, d1, 4, hw1, by decide, by decide, rfl, fun j d2 j0 j1 hw2 => ?_⟩
    refine ix_any j0 (by show j < 4; omega) fun w hw => ?_
    obtain ⟨w, rfl, w0, w1⟩ : ∃ v : Int, w = .int v ∧ 0 < v ∧ v < 2 ^ 60 := by
      simp only [List.mem_cons, List.not_mem_nil, or_false] at hw
      rcases hw with rfl | rfl | rfl | rfl
      · exact ⟨_, rfl, by omega, by omega⟩
      · exact ⟨_, rfl, by omega, by omega⟩
      · exact ⟨_, rfl, by omega, by omega⟩
      · exact ⟨1001, rfl, by decide, by decide⟩
    refine ⟨a, d2, w, hw2, w0, w1, rfl, fun u d3 u0 u1 hw3 => ?_⟩
    have worth : 0 ≤ (if u < 1000 then u else 1000) ∧ (if u < 1000 then u else 1000) ≤ 1000 := by split <;> omega
    cases b with
    | true => exact h ⟨x, ws, _, 1⟩ d3 _ _ _ _ (vo _ 1 worth.1 worth.2 (by decide) (by decide)) rfl (fun _ => rfl) hw3
    | false =>
      refine ⟨a, d3, 3, hw3, by decide, by decide, rfl, fun j d4 j0 j1 hw4 => ?_⟩
      refine ix_any j0 (by show j < 3; omega) fun w hw => ?_
      obtain ⟨w, rfl, w0, w1⟩ : ∃ v : Int, w = .int v ∧ 0 < v ∧ v ≤ 9 := by
        simp only [List.mem_cons, List.not_mem_nil, or_false] at hw
        rcases hw with rfl | rfl | rfl
        · exact ⟨_, rfl, by decide, by decide⟩
        · exact ⟨_, rfl, by decide, by decide⟩
        · exact ⟨_, rfl, by decide, by decide⟩
      refine ⟨a, d4, w, hw4, w0, by omega, rfl, fun g d5 g0 g1 hw5 => ?_⟩
      exact h ⟨x, ws, _, 1 + g⟩ d5 _ _ _ _ (vo _ (1 + g) worth.1 worth.2 (by omega) (by omega)) rfl (fun z => nomatch z) hw5
  refine eq_dat (α := List Str) (a := ws) (b := []) ?_
  refine iteB (fun hb => ?_) (fun hb => ?_)
  · have lt : ((t.map tD).length : Int) = t.length := by rw [List.length_map]
    refine ⟨a, d1, ((t.map tD).length : Nat), hw1, by omega, by omega, rfl, fun i d2 i0 i1 hw2 => ?_⟩
    refine ixT_any i0 i1 fun pd hpd => ?_
    obtain ⟨q, hq, e⟩ := List.mem_map.mp hpd
    subst e
    exact rest [q.1] d2 hw2 (by simp) (List.singleton_sublist.mpr (List.mem_map_of_mem hq))
  · have hb := of_decide_eq_false hb
    exact rest ws d1 hw1 hb sl
/-! ### _law_folk -/
theorem pure__law_folk (ss : List Sl) (R) (RE) (h : p__law_folk ss R RE) : b__law_folk p__law_take p__law_one ss R RE := by
  obtain ⟨a, d, t, m, b, hw, ht, m0, m8, rfl, h⟩ := h
  refine ⟨rfl, noOwn_inn (noOwn_dat (noOwn_dat (noOwn_dat noOwn_nil))), ?_⟩
  have h : ∀ f d' u v w ρ, VF t f → (f.length : Int) ≤ m → (b = true → ∀ o ∈ f, o.weight = 1) → (∀ o ∈ f, o.name ∈ folkNames) → Well d' → R (fsD f) (outs [.inn a d, .dat (tsD t), .dat (.int m), .dat (.bool b)] (.inn a d' :: u :: v :: w :: ρ)) := fun o d' u v w ρ h1 h2 h3 h4 h5 => by
    rw [outs_here]; exact h o d' h1 h2 h3 h4 h5
  refine ⟨a, d, m + 1, hw, by omega, by omega, rfl, fun i d1 i0 i1 hw1 => ?_⟩
  refine sl_take (f := sD) (l := folkNames) i0 ?_
  refine lcI sD (folkNames.take i.toNat) (fun p acc ρ => ∃ f d', acc = f.map oD ∧ f.map (·.name) = p ∧ (∀ o ∈ f, VO t o) ∧ (b = true → ∀ o ∈ f, o.weight = 1) ∧ Well d' ∧ ρ = [.inn a d', .dat (tsD t), .dat (.int m), .dat (.bool b), .dat (nsL (folkNames.take i.toNat)), .un])
    ⟨[], d1, rfl, rfl, (by intro q hq; cases hq), (by intro _ q hq; cases hq), hw1, rfl⟩ ?_ ?_
  · rintro acc ρ ⟨f, d', rfl, e1, e2, e3, hw', rfl⟩
    have hlen : f.length = (folkNames.take i.toNat).length := by rw [← e1, List.length_map]
    have hl8 : folkNames.length = 8 := rfl
    rw [List.length_take, hl8] at hlen
    refine h f d' _ _ _ _ ⟨by omega, e2, ?_⟩ (by omega) e3 (fun o ho => ?_) hw'
    · rw [e1]; exact Rising.of (folkNames_up.sublist (List.take_sublist _ _))
    · refine List.mem_of_mem_take (i := i.toNat) ?_
      rw [← e1]; exact List.mem_map_of_mem ho
  · rintro p x r acc ρ ep ⟨f, d', rfl, e1, e2, e3, hw', rfl⟩ Ky Kn k1 k2
    have hx : Name x := folkNames_nm x (List.mem_of_mem_take (i := i.toNat) (by rw [ep]; simp))
    refine ⟨a, d', t, x, b, hw', ht, hx, rfl, fun o d'' h1 h2 h3 hw'' => ?_⟩
    refine k1 _ _ ⟨f ++ [o], d'', ?_, ?_, ?_, ?_, hw'', rfl⟩
    · rw [List.map_append]; rfl
    · rw [List.map_append, e1, List.map_cons, h2]; rfl
    · intro q hq
      rcases List.mem_append.mp hq with hq | hq
      · exact e2 q hq
      · simp only [List.mem_cons, List.not_mem_nil, or_false] at hq
        subst hq; exact h1
    · intro hb q hq
      rcases List.mem_append.mp hq with hq | hq
      · exact e3 hb q hq
      · simp only [List.mem_cons, List.not_mem_nil, or_false] at hq
        subst hq; exact h3 hb
/-! ### is_less -/
theorem pure_is_less (ss : List Sl) (R) (RE) (h : p_is_less ss R RE) : b_is_less ss R RE := by
  obtain ⟨p, q, m, n, hp, hq, hmn, rfl, h⟩ := h
  refine ⟨rfl, noOwn_dat (noOwn_dat noOwn_nil), ?_⟩
  refine ⟨⟨hp.num (by omega), hq.den (by omega)⟩, ⟨hq.num (by omega), hp.den (by omega)⟩, ?_⟩
  have e : decide (p < q) = decide (p.num * q.den < q.num * p.den) := decide_eq_decide.mpr (Rat.lt_iff p q)
  rw [e] at h
  exact h
/-! ### _law_less -/
theorem pure__law_less (ss : List Sl) (R) (RE) (h : p__law_less ss R RE) : b__law_less ss R RE := by
  obtain ⟨p, q, m, n, hp, hq, hmn, rfl, h⟩ := h
  refine ⟨rfl, noOwn_dat (noOwn_dat noOwn_nil), ?_⟩
  refine ⟨⟨hp.num (by omega), hq.den (by omega)⟩, ⟨hq.num (by omega), hp.den (by omega)⟩, ?_⟩
  have e : decide (p < q) = decide (p.num * q.den < q.num * p.den) := decide_eq_decide.mpr (Rat.lt_iff p q)
  rw [e] at h
  exact h
/-! ### _law_plus -/
theorem pure__law_plus (ss : List Sl) (R) (RE) (h : p__law_plus ss R RE) : b__law_plus p__law_frac ss R RE := by
  obtain ⟨p, q, m, n, hp, hq, hmn, rfl, h⟩ := h
  refine ⟨rfl, noOwn_dat (noOwn_dat noOwn_nil), ?_⟩
  refine ⟨⟨hp.num (by omega), hq.den (by omega)⟩, ⟨hq.num (by omega), hp.den (by omega)⟩, ⟨hp.den (by omega), hq.den (by omega)⟩, ?_⟩
  refine ⟨p.num * q.den + q.num * p.den, p.den * q.den, m + n, Nat.mul_pos p.den_pos q.den_pos, mul_lt_pow hp.2 hq.2, by omega, rfl, ?_⟩
  rw [← Rat.add_def']
  exact h
/-! ### would_pay -/
theorem pure_would_pay (ss : List Sl) (R) (RE) (h : p_would_pay ss R RE) : b_would_pay p_is_less p_plus ss R RE := by
  obtain ⟨o, s, more, hs, w0, w1, hm, rfl, h⟩ := h
  refine ⟨rfl, noOwn_dat (noOwn_dat (noOwn_dat noOwn_nil)), trivial, ?_⟩
  have eg : (dget (dS oR more) o.name).getD (.tuple [.int 0, .int 1]) = oR (exOf more o.name) := by
    rw [dS_get]
    unfold exOf
    cases lget more o.name with
    | none => rfl
    | some q => rfl
  have main : ∀ D : PyData, D = oR (exOf more o.name) → mRet (mOrV (mIsN (mVar 3)) (mNotV (mCall p_is_less Wish.no.RE (mCons (mCall p_plus Wish.no.RE (mCons (mTup (mCons (mIx (mVar 0) (mC (.int 2))) (mCons (mC (.int 1)) (mNil)))) (mCons (mVar 3) (mNil)))) (mCons (mVar 1) (mNil))))))
      { nx := fun ρ' => R .none (outs [.dat (oD o), .dat (fr s), .dat (moD more)] ρ'), rt := fun d ρ' => R d (outs [.dat (oD o), .dat (fr s), .dat (moD more)] ρ') } [.dat (oD o), .dat (fr s), .dat (moD more), .dat D] := by
    intro D eD
    subst eD
    cases he : exOf more o.name with
    | none =>
      rw [he] at h
      exact h
    | some e =>
      rw [he] at h
      have be := hm o.name e he
      refine ⟨(o.worth : Rat), e, 10, 1500, worth_bd w0 w1, be, by decide, rfl, ?_⟩
      exact ⟨(o.worth : Rat) + e, s, 1511, 200, bd_add (worth_bd w0 w1) be, hs, by decide, rfl, h⟩
  exact main _ eg
/-! ### left_of -/
theorem pure_left_of (ss : List Sl) (R) (RE) (h : p_left_of ss R RE) : b_left_of p_shares_of p_would_pay ss R RE := by
  obtain ⟨t, d, f, more, ht, hf, hm, hd, rfl, h⟩ := h
  refine ⟨rfl, noOwn_dat (noOwn_dat (noOwn_dat noOwn_nil)), ?_⟩
  refine seq_to [.dat (tsD t), .dat d, .dat (moD more), .dat (flD f), .un, .un, .un] (fun K q => ?_) ?_
  · unfold seqOf at hd
    split at hd
    · cases hd; exact q
    · cases hd; exact q
    · cases hd
  refine whileL (fun m ρ => ∃ (g : List One) (s4 s5 : Sl), m = g.length ∧ VF t g ∧ leftOf t (exOf more) g = leftOf t (exOf more) f ∧ freeO s4 = true ∧ freeO s5 = true ∧ ρ = [.dat (tsD t), .dat d, .dat (moD more), .dat (flD g), s4, s5, .un]) f.length ⟨f, .un, .un, rfl, hf, rfl, rfl, rfl, rfl⟩ ?_
  rintro m _ ⟨g, s4, s5, rfl, hg, e, f4, f5, rfl⟩
  refine mT_true ?_
  refine iteY (b := true) rfl ?_
  refine seq_to [.dat (tsD t), .dat d, .dat (moD more), .dat (flD g), .dat (.dict (dS fr (sharesOf t g))), s5, .un] (fun K q => ?_) ?_
  · refine ⟨t, flD g, g, ht, hg, rfl, rfl, ?_⟩
    exact gn_free (i := 4) f4 q
  have keys : (sharesOf t g).map (·.1) = g.map (·.name) := sharesOf_names t g
  refine seq_to [.dat (tsD t), .dat d, .dat (moD more), .dat (flD g), .dat (.dict (dS fr (sharesOf t g))), .dat (flD (lstep t (exOf more) g)), .un] (fun K q => ?_) ?_
  · refine lcL oD g (pays t (exOf more) g) oD ?_ ?_
    · exact gn_free (i := 5) f5 q
    · intro o ho Ky Kn q1 q2
      have eg := share_get (t' := t) hg ho
      refine ixd_dict eg ?_
      have vo := hg.on o ho
      have bs := share_b200 ht hg ho
      refine ⟨o, share t g o, more, bs, vo.wo.1, vo.wo.2, hm, rfl, ?_⟩
      rw [pays_is] at q1 q2
      exact iteB q1 q2
  refine seq_by (fun ρ' => (lstep t (exOf more) g).length ≠ g.length ∧ ρ' = [.dat (tsD t), .dat d, .dat (moD more), .dat (flD g), .dat (.dict (dS fr (sharesOf t g))), .dat (flD (lstep t (exOf more) g)), .un]) (fun K q => ?_) ?_
  · refine eq_dat (α := Int) (a := ((lstep t (exOf more) g).map oD).length) (b := (g.map oD).length) ?_
    refine iteB (fun hb => ?_) (fun hb => ?_)
    · have hb := of_decide_eq_true hb
      rw [List.length_map, List.length_map] at hb
      have same : leftOf t (exOf more) g = g := leftOf_same (by omega)
      rw [← e, same] at h
      exact h
    · have hb := of_decide_eq_false hb
      rw [List.length_map, List.length_map] at hb
      exact q _ ⟨fun z => hb (by rw [z]), rfl⟩
  rintro _ ⟨hne, rfl⟩
  have sl := (lstep_sub (t := t) (ex := exOf more) g).length_le
  exact ⟨(lstep t (exOf more) g).length, by omega, lstep t (exOf more) g, _, _, rfl, hg.sub (lstep_sub g), by rw [← leftOf_step hne, e], rfl, rfl, rfl⟩
/-! ### left -/
theorem pure_left (ss : List Sl) (R) (RE) (h : p_left ss R RE) : b_left p_need_folk p_names_of p_left_of ss R RE := by
  obtain ⟨t, f, ht, hf, rfl, h⟩ := h
  refine ⟨rfl, noOwn_dat (noOwn_dat noOwn_nil), t, f, ht, hf, rfl, ?_⟩
  refine ⟨t, _, f, [], ht, hf, moOk_nil, rfl, rfl, ?_⟩
  exact ⟨_, leftOf t (exOf []) f, rfl, rfl, h⟩
/-! ### _law_lots -/
theorem pure__law_lots (ss : List Sl) (R) (RE) (h : p__law_lots ss R RE) : b__law_lots ss R RE := by
  obtain ⟨d, ds, hd, hl, rfl, h⟩ := h
  refine ⟨rfl, noOwn_dat noOwn_nil, ?_⟩
  refine seq_run hd ?_
  have lotsS : ∀ (p : List PyData) (x : PyData), lots (p ++ [x]) = lots p ++ (lots p).map (· ++ [x]) := fun p x => by unfold lots; rw [List.foldl_append]; rfl
  have lotsL : ∀ n (p : List PyData), p.length = n → (lots p).length = 2 ^ n ∧ ∀ l ∈ lots p, l.length ≤ n := by
    intro n
    induction n with
    | zero =>
      intro p hp
      have : p = [] := List.length_eq_zero_iff.mp hp
      subst this
      exact ⟨rfl, fun l hl => by simp [lots] at hl; subst hl; exact Nat.le_refl _⟩
    | succ n ih =>
      intro p hp
      have hne : p ≠ [] := fun z => by rw [z] at hp; cases hp
      obtain ⟨q, x, rfl⟩ : ∃ q x, p = q ++ [x] := ⟨p.dropLast, p.getLast hne, (List.dropLast_concat_getLast hne).symm⟩
      obtain ⟨i1, i2⟩ := ih q (by rw [List.length_append, List.length_cons, List.length_nil] at hp; omega)
      rw [lotsS]
      refine ⟨by rw [List.length_append, List.length_map, i1, Nat.pow_succ]; omega, fun l hl => ?_⟩
      rcases List.mem_append.mp hl with hl | hl
      · exact Nat.le_succ_of_le (i2 l hl)
      · obtain ⟨l', hl', rfl⟩ := List.mem_map.mp hl
        have := i2 l' hl'
        rw [List.length_append, List.length_cons, List.length_nil]; omega
  have fin := forL (g := mGN 2) (tb := mSet 1 (mBin addD (mVar 1) (mLc (iSq (mVar 1)) (mGN 3) (mYes) (mBin addD (mVar 3) (mTup (mCons (mVar 2) (mNil)))) [3])))
    (D := { nx := fun ρ' => mRet (mVar 1) { nx := fun ρ' => R .none (outs [.dat d] ρ'), rt := fun e ρ' => R e (outs [.dat d] ρ') } ρ', rt := fun e ρ' => R e (outs [.dat d] ρ') })
    (fun x : PyData => x) ds (fun p ρ => ∃ s2, freeO s2 = true ∧ ρ = [.dat d, .dat (.list ((lots p).map .tuple)), s2, .un]) ⟨.un, rfl, rfl⟩ (fun ρ hρ => by
      obtain ⟨s2, _, rfl⟩ := hρ
      exact h) (ρ := [.dat d, .dat (.list [.tuple []]), .un, .un]) ?_
  · rw [List.map_id'] at fin
    exact fin
  · rintro p x r ρ N ep ⟨s2, f2, rfl⟩ hN
    refine gn_free (i := 2) f2 ?_
    have pl : p.length ≤ 7 := by have := congrArg List.length ep; rw [List.length_append, List.length_cons] at this; omega
    obtain ⟨i1, i2⟩ := lotsL _ p rfl
    have pw : 2 ^ p.length ≤ 2 ^ 7 := Nat.pow_le_pow_right (by decide) pl
    refine lcA (fun l : List PyData => PyData.tuple l) (lots p) (fun l => .tuple (l ++ [x])) ?_ ?_
    · refine ⟨by rw [List.length_map, List.length_map, i1]; show _ ≤ 2 ^ 24; omega, ?_⟩
      refine hN _ ⟨.dat x, rfl, ?_⟩
      rw [lotsS, List.map_append, List.map_map]
      rfl
    · intro l hl' Ky q
      have := i2 l hl'
      exact ⟨by show l.length + 1 ≤ 2 ^ 24; omega, q⟩
/-! ### _law_said -/
theorem pure__law_said (ss : List Sl) (R) (RE) (h : p__law_said ss R RE) : b__law_said ss R RE := by
  obtain ⟨f, x, w, rfl, h⟩ := h
  refine ⟨rfl, noOwn_dat (noOwn_dat (noOwn_dat noOwn_nil)), ?_⟩
  refine lcA oD f (fun o => oD (sayW x w o)) ?_ ?_
  · have e : f.map (fun o => oD (sayW x w o)) = (f.map (sayW x w)).map oD := by rw [List.map_map]; rfl
    rw [e]
    exact h
  · intro o ho Ky q
    refine eq_dat (α := Str) (a := o.name) (b := x) ?_
    refine iteB (fun hb => ?_) (fun hb => ?_)
    · have hb := of_decide_eq_true hb
      unfold sayW at q
      rw [if_pos hb] at q
      exact ⟨(by show 3 ≤ 2 ^ 24; decide), (by show 4 ≤ 2 ^ 24; decide), q⟩
    · have hb := of_decide_eq_false hb
      unfold sayW at q
      rw [if_neg hb] at q
      exact q
end K11


set_option Elab.async false
set_option maxRecDepth 100000
set_option maxHeartbeats 1000000
namespace K11
open PySem PySem.Spec PyProof.Rows L2 G
open PySem.W (Datum)
/-! ### _law_shares -/
theorem pure__law_shares (ss : List Sl) (R) (RE) (h : p__law_shares ss R RE) : b__law_shares p__law_plus p__law_frac ss R RE := by
  obtain ⟨t, d, f, ht, hf, hd, rfl, h⟩ := h
  refine ⟨rfl, noOwn_dat (noOwn_dat noOwn_nil), ?_⟩
  have nd := hf.nodup
  refine seq_to [.dat (tsD t), .dat d, .own (.dict []), .un, .un, .un, .un, .un, .un, .un, .un, .un] (fun K q => q) ?_
  refine seq_run hd ?_
  have keys : ∀ p : List One, (p.map fun o => (o.name, share t f o)).map (·.1) = p.map (·.name) := fun p => by rw [List.map_map]; rfl
  refine forL oD f (fun p ρ => ∃ s3 s4 s5 s6 s7 s8 s9 s10 : Sl, freeO s3 = true ∧ freeO s4 = true ∧ freeO s5 = true ∧ freeO s6 = true ∧ freeO s7 = true ∧ freeO s8 = true ∧ freeO s9 = true ∧ freeO s10 = true ∧
      ρ = [.dat (tsD t), .dat d, .own (.dict (dS fr (p.map fun o => (o.name, share t f o)))), s3, s4, s5, s6, s7, s8, s9, s10, .un])
    ⟨.un, .un, .un, .un, .un, .un, .un, .un, rfl, rfl, rfl, rfl, rfl, rfl, rfl, rfl, rfl⟩ ?_ ?_
  · rintro ρ ⟨s3, s4, s5, s6, s7, s8, s9, s10, _, _, _, _, _, _, _, _, rfl⟩
    exact h
  rintro p o r ρ N ep ⟨s3, s4, s5, s6, s7, s8, s9, s10, f3, f4, f5, f6, f7, f8, f9, f10, rfl⟩ hN
  have ho : o ∈ f := by rw [ep]; simp
  have vo := hf.on o ho
  refine gt4_free (i := 3) (j := 4) (k := 5) (l := 6) (a := .str o.name) (b := nsT o.wants) (c := .int o.worth) (d := .int o.weight) f3 f4 f5 f6 ?_
  refine seq_to [.dat (tsD t), .dat d, .own (.dict (dS fr (p.map fun o => (o.name, share t f o)))), .dat (.str o.name), .dat (nsT o.wants), .dat (.int o.worth), .dat (.int o.weight), .dat (fr (share [] f o)), s8, s9, s10, .un] (fun K q => ?_) ?_
  · exact gn_free (i := 7) f7 q
  refine seq_by (fun ρ' => ∃ s8 s9 s10 : Sl, freeO s8 = true ∧ freeO s9 = true ∧ freeO s10 = true ∧ ρ' = [.dat (tsD t), .dat d, .own (.dict (dS fr (p.map fun o => (o.name, share t f o)))), .dat (.str o.name), .dat (nsT o.wants), .dat (.int o.worth), .dat (.int o.weight), .dat (fr (share t f o)), s8, s9, s10, .un]) (fun K q => ?_) ?_
  · refine forL tD t (fun ts ρ => ∃ s8 s9 s10 : Sl, freeO s8 = true ∧ freeO s9 = true ∧ freeO s10 = true ∧ ρ = [.dat (tsD t), .dat d, .own (.dict (dS fr (p.map fun o => (o.name, share t f o)))), .dat (.str o.name), .dat (nsT o.wants), .dat (.int o.worth), .dat (.int o.weight), .dat (fr (share ts f o)), s8, s9, s10, .un])
      ⟨s8, s9, s10, f8, f9, f10, rfl⟩ (fun ρ hρ => q ρ hρ) ?_
    rintro ts x xs ρ N2 et ⟨s8, s9, s10, f8, f9, f10, rfl⟩ hN2
    have hx : x ∈ t := by rw [et]; simp
    refine gt_free (i := 8) (j := 9) (d := .str x.1) (e := .int x.2) f8 f9 ?_
    refine in_tup (α := Str) (l := o.wants) ?_
    refine iteB (fun hb => ?_) (fun hb => ?_)
    · have hxo : x.1 ∈ o.wants := by simpa using hb
      refine seq_to [.dat (tsD t), .dat d, .own (.dict (dS fr (p.map fun o => (o.name, share t f o)))), .dat (.str o.name), .dat (nsT o.wants), .dat (.int o.worth), .dat (.int o.weight), .dat (fr (share ts f o)), .dat (.str x.1), .dat (.int x.2), .dat (.int (weightOf f x.1)), .un] (fun K q => ?_) ?_
      · refine seq_run hd ?_
        refine lcL oD f (fun o' => decide (x.1 ∈ o'.wants)) (fun o' => .int o'.weight) ?_ ?_
        · refine ⟨(usersOf f x.1).map (·.weight), by rw [List.map_map]; rfl, ?_⟩
          refine gn_free (i := 10) f10 ?_
          exact q
        · intro o' ho' Ky Kn q1 q2
          refine in_tup (α := Str) (l := o'.wants) ?_
          exact iteB (fun z => q1 (by simpa using z)) (fun z => q2 (by simpa using z))
      have pc := ht.co x hx
      have wo := vo.we
      obtain ⟨w0, w1, w2⟩ := weight_pos hf.on hf.le x.1
      have w3 := w2 o ho hxo
      have tl : ts.length ≤ 8 := by have := ht.le; rw [et, List.length_append, List.length_cons] at this; omega
      have bp : Bd (1 + 15 * ts.length) (share ts f o) := share_bd hf.on hf.le (fun q hq => ht.co q (by rw [et]; simp [hq])) ho
      have bq := part_bd hf.on hf.le pc ho hxo
      refine ⟨⟨sm_small (by omega), sm_small (by omega)⟩, ?_⟩
      refine ⟨x.2 * o.weight, (weightOf f x.1).toNat, 7, by omega, by omega, by decide, by rw [Int.toNat_of_nonneg w0]; rfl, ?_⟩
      refine ⟨share ts f o, part f x o, _, _, bp, bq, by omega, rfl, ?_⟩
      refine hN2 _ ⟨.dat (.str x.1), .dat (.int x.2), .dat (.int (weightOf f x.1)), rfl, rfl, rfl, ?_⟩
      rw [share_snoc, if_pos hxo]
      rfl
    · have hxo : x.1 ∉ o.wants := by simpa using hb
      refine hN2 _ ⟨.dat (.str x.1), .dat (.int x.2), s10, rfl, rfl, f10, ?_⟩
      rw [share_snoc, if_neg hxo]
      rfl
  clear f8 f9 f10
  rintro _ ⟨s8, s9, s10, f8, f9, f10, rfl⟩
  have pl : p.length ≤ 8 := by have := congrArg List.length ep; have := hf.le; rw [List.length_append, List.length_cons] at *; omega
  refine ⟨by unfold dS; rw [List.length_map, List.length_map]; omega, ?_⟩
  refine hN _ ⟨.dat (.str o.name), .dat (nsT o.wants), .dat (.int o.worth), .dat (.int o.weight), .dat (fr (share t f o)), s8, s9, s10, rfl, rfl, rfl, rfl, rfl, f8, f9, f10, ?_⟩
  have np : o.name ∉ (p.map fun o => (o.name, share t f o)).map (·.1) := by
    rw [keys]
    rw [ep, List.map_append, List.map_cons, List.nodup_append] at nd
    exact fun z => nd.2.2 _ z _ (List.mem_cons_self ..) rfl
  have e := dS_put (v := fr) (p.map fun o => (o.name, share t f o)) o.name (share t f o)
  unfold lput at e
  rw [if_neg np] at e
  rw [e, List.map_append]
  rfl
/-! ### _law_glad -/
theorem pure__law_glad (ss : List Sl) (R) (RE) (h : p__law_glad ss R RE) : b__law_glad p__law_shares p__law_less ss R RE := by
  obtain ⟨t, d, f, ht, hf, hd, rfl, h⟩ := h
  refine ⟨rfl, noOwn_dat (noOwn_dat noOwn_nil), ?_⟩
  refine seq_to [.dat (tsD t), .dat d, .dat (.dict (dS fr (sharesOf t f))), .un] (fun K q => ?_) ?_
  · exact ⟨t, d, f, ht, hf, hd, rfl, q⟩
  refine seq_run hd ?_
  refine lcL oD f (fun o => decide ((o.worth : Rat) < share t f o)) oD ?_ ?_
  · refine eq_dat (α := List One) (a := f.filter fun o => decide ((o.worth : Rat) < share t f o)) (b := []) ?_
    exact h
  · intro o ho Ky Kn q1 q2
    refine ixd_dict (share_get (t' := t) hf ho) ?_
    have vo := hf.on o ho
    refine ⟨(o.worth : Rat), share t f o, 10, 200, worth_bd vo.wo.1 vo.wo.2, share_b200 ht hf ho, by decide, rfl, ?_⟩
    exact iteB q1 q2
/-! ### _law_greatest -/
theorem pure__law_greatest (ss : List Sl) (R) (RE) (h : p__law_greatest ss R RE) : b__law_greatest p__law_lots p__law_glad ss R RE := by
  obtain ⟨t, d, f, ht, hf, hd, rfl, h⟩ := h
  refine ⟨rfl, noOwn_dat (noOwn_dat noOwn_nil), ?_⟩
  refine seq_to [.dat (tsD t), .dat d, .own (.dict (truL [])), .un, .un] (fun K q => q) ?_
  have fl := hf.le
  refine seq_by (fun ρ' => ∃ (K : List Str) (s3 s4 : Sl), K.Nodup ∧ (∀ n, n ∈ K ↔ ∃ l ∈ lots f, gladB t l = true ∧ n ∈ nmsOf l) ∧ ρ' = [.dat (tsD t), .dat d, .own (.dict (truL K)), s3, s4]) (fun KK q => ?_) ?_
  · refine ⟨d, f.map oD, hd, by rw [List.length_map]; exact fl, rfl, ?_⟩
    rw [lots_map, List.map_map]
    refine forL fsD (lots f) (fun ls ρ => ∃ (K : List Str) (s3 s4 : Sl), K.Nodup ∧ (∀ n, n ∈ K ↔ ∃ l ∈ ls, gladB t l = true ∧ n ∈ nmsOf l) ∧ freeO s3 = true ∧ freeO s4 = true ∧ ρ = [.dat (tsD t), .dat d, .own (.dict (truL K)), s3, s4])
      ⟨[], .un, .un, List.nodup_nil, fun n => ⟨(fun z => nomatch z), (fun ⟨l, hl, _⟩ => nomatch hl)⟩, rfl, rfl, rfl⟩ ?_ ?_
    · rintro ρ ⟨K, s3, s4, k1, k2, _, _, rfl⟩
      exact q _ ⟨K, s3, s4, k1, k2, rfl⟩
    rintro ls l rs ρ N el ⟨K, s3, s4, k1, k2, f3, f4, rfl⟩ hN
    refine gn_free (i := 3) f3 ?_
    have hl : l.Sublist f := (lots_mem f l).mp (by rw [el]; simp)
    have vl := hf.sub hl
    have kl : K.length ≤ 8 := Nat.le_trans (nodup_len (m := nmsOf f) k1 fun n hn => by
      obtain ⟨l', hl', _, hn'⟩ := (k2 n).mp hn
      have s' := (lots_mem f l').mp (by rw [el]; simp [hl'])
      exact (s'.map _).subset hn') (by unfold nmsOf; rw [List.length_map]; exact fl)
    have snoc : ∀ K' : List Str, (∀ n, n ∈ K' ↔ n ∈ K ∨ (gladB t l = true ∧ n ∈ nmsOf l)) → ∀ n, n ∈ K' ↔ ∃ l' ∈ ls ++ [l], gladB t l' = true ∧ n ∈ nmsOf l' := fun K' hK n => by
      rw [hK n, k2 n]
      constructor
      · rintro (⟨l', h1, h2⟩ | h2)
        · exact ⟨l', by simp [h1], h2⟩
        · exact ⟨l, by simp, h2⟩
      · rintro ⟨l', h1, h2⟩
        rcases List.mem_append.mp h1 with h1 | h1
        · exact .inl ⟨l', h1, h2⟩
        · rw [List.mem_singleton] at h1; subst h1; exact .inr h2
    refine lcL oD l (fun o => !decide (o.name ∈ K)) oD ?_ ?_
    case refine_2 =>
      intro o ho Ky Kn q1 q2
      refine in_dict (β := Unit) (v := fun _ => .none) ?_
      rw [truL_get]
      exact iteB (fun z => q1 (by simpa using z)) (fun z => q2 (by simpa using z))
    refine ne_dat (α := List One) (a := l.filter fun o => !decide (o.name ∈ K)) (b := []) ?_
    refine iteB (fun hb => ?_) (fun hb => ?_)
    · refine ⟨t, fsD l, l, ht, vl, rfl, rfl, ?_⟩
      refine iteB (fun hg => ?_) (fun hg => ?_)
      · refine forL oD l (fun p ρ => ∃ (K' : List Str) (s4 : Sl), K'.Nodup ∧ (∀ n, n ∈ K' ↔ n ∈ K ∨ n ∈ nmsOf p) ∧ K'.length ≤ 8 + p.length ∧ freeO s4 = true ∧ ρ = [.dat (tsD t), .dat d, .own (.dict (truL K')), .dat (fsD l), s4])
          ⟨K, bk s4, k1, fun n => ⟨.inl, (fun z => z.elim id (fun y => nomatch y))⟩, by simpa using kl, bk_free s4, rfl⟩ ?_ ?_
        · rintro ρ ⟨K', s4, n1, n2, _, f4, rfl⟩
          refine hN _ ⟨K', .dat (fsD l), s4, n1, snoc K' fun n => ?_, rfl, f4, rfl⟩
          rw [n2 n]
          exact ⟨fun z => z.imp id fun y => ⟨hg, y⟩, fun z => z.imp id fun y => y.2⟩
        · rintro p o r ρ N2 ep ⟨K', s4, n1, n2, nl, f4, rfl⟩ hN2
          refine gn_free (i := 4) f4 ?_
          have pl : p.length ≤ 8 := by have := congrArg List.length ep; have := vl.le; rw [List.length_append, List.length_cons] at *; omega
          refine ⟨by unfold truL dS; rw [List.length_map, List.length_map]; omega, ?_⟩
          rw [truL_put]
          refine hN2 _ ⟨if o.name ∈ K' then K' else K' ++ [o.name], .dat (oD o), ?_, fun n => ?_, ?_, rfl, rfl⟩
          · split
            · exact n1
            · rename_i c
              exact List.nodup_append.mpr ⟨n1, by simp, fun a ha b hb e => by simp at hb; subst hb; subst e; exact c ha⟩
          · unfold nmsOf at n2 ⊢
            rw [List.map_append, List.mem_append, List.map_cons, List.map_nil, List.mem_singleton]
            split
            · rename_i c
              rw [n2 n]
              constructor
              · exact fun z => z.imp id .inl
              · rintro (z | z | z)
                · exact .inl z
                · exact .inr z
                · rw [z]; exact (n2 _).mp c
            · rw [List.mem_append, List.mem_singleton, n2 n]
              exact ⟨fun z => z.elim (fun y => y.imp id .inl) fun y => .inr (.inr y), fun z => z.elim (fun y => .inl (.inl y)) fun y => y.elim (fun w => .inl (.inr w)) .inr⟩
          · rw [List.length_append, List.length_cons, List.length_nil]
            split
            · omega
            · rw [List.length_append, List.length_cons, List.length_nil]; omega
      · refine hN _ ⟨K, .dat (fsD l), bk s4, k1, snoc K fun n => ?_, rfl, bk_free s4, rfl⟩
        rw [hg]
        exact ⟨.inl, (fun z => z.elim id (fun y => nomatch y.1))⟩
    · refine hN _ ⟨K, .dat (fsD l), bk s4, k1, snoc K fun n => ?_, rfl, bk_free s4, rfl⟩
      have hb : l.filter (fun o => !decide (o.name ∈ K)) = [] := by simpa using hb
      rw [List.filter_eq_nil_iff] at hb
      refine ⟨.inl, fun z => z.elim id fun y => ?_⟩
      obtain ⟨o, ho, rfl⟩ := List.mem_map.mp y.2
      simpa using hb o ho
  · rintro _ ⟨K, s3, s4, k1, k2, rfl⟩
    have up : Rising (nmsOf (leftOf t ex0 f)) := (hf.sub (leftOf_sub f)).up
    have mem : ∀ n, n ∈ K ↔ n ∈ nmsOf (leftOf t ex0 f) := fun n => by
      rw [k2 n]
      constructor
      · rintro ⟨l, hl, hg, hn⟩
        have s := leftOf_all (ex := ex0) ht.coo hf.wt ((lots_mem f l).mp hl) (glad_iff.mp hg)
        exact (s.map _).subset hn
      · intro hn
        exact ⟨leftOf t ex0 f, (lots_mem f _).mpr (leftOf_sub f), glad_iff.mpr (leftOf_glad f), hn⟩
    have kl : K.length ≤ 1000 := Nat.le_trans (nodup_len (m := nmsOf (leftOf t ex0 f)) k1 fun n hn => (mem n).mp hn) (by unfold nmsOf; rw [List.length_map]; have := (leftOf_sub (t := t) (ex := ex0) f).length_le; omega)
    have e := sortD_to k1 up mem
    show SortOk ((truL K).map (·.1)) ∧ _
    rw [truL_keys, e]
    exact ⟨sortOk_any kl, h⟩
end K11


set_option Elab.async false
set_option maxRecDepth 100000
set_option maxHeartbeats 1000000
namespace K11
open PySem PySem.Spec PyProof.Rows L2 G
open PySem.W (Datum Tup)
/-! ### asked -/
theorem pure_asked (ss : List Sl) (R) (RE) (h : p_asked ss R RE) : b_asked p_need_folk p_names_of p_would_pay p_shares_of ss R RE := by
  obtain ⟨t, f, l, ht, hf, hl, rfl, h⟩ := h
  refine ⟨rfl, noOwn_dat (noOwn_dat (noOwn_dat noOwn_nil)), ?_⟩
  have nd := hf.nodup
  have lf := hf.le
  have ll : l.length = f.length := by rw [hl.length_eq]; unfold nmsOf; rw [List.length_map]
  refine seq_to [.dat (tsD t), .dat (fsD f), .dat (nsT l), .un, .un, .un, .un, .un] (fun K q => ⟨t, f, ht, hf, rfl, q⟩) ?_
  refine seq_to [.dat (tsD t), .dat (fsD f), .dat (nsT l), .un, .un, .un, .un, .un] (fun K q => ?_) ?_
  · refine lcA sD l (fun _ => .bool true) (all_yes l q) ?_
    intro x hx Ky q
    exact q
  refine seq_to [.dat (tsD t), .dat (fsD f), .dat (nsT l), .un, .un, .un, .un, .un] (fun K q => ?_) ?_
  · refine ⟨sortOk_strs (by omega), ?_⟩
    rw [sortD_to (hl.nodup_iff.mpr nd) hf.up fun x => hl.mem_iff]
    refine ⟨_, f, rfl, rfl, ?_⟩
    refine ne_dat (α := List Str) (a := nmsOf f) (b := nmsOf f) ?_
    rw [decide_eq_true rfl]
    exact q
  refine seq_to [.dat (tsD t), .dat (fsD f), .dat (nsT l), .un, .own (.dict (dS oD (prs f))), .own (.list []), .dat (.int 0), .un] (fun K q => ?_) ?_
  · refine dcA oD f (fun o => o.name) (fun o => oD o) ?_ ?_
    · rw [prs_make nd]
      exact ⟨rfl, q⟩
    · intro o ho K q
      exact q
  have fin : ∀ s : Ask, AskI t f s → askW t l (meas l s) s = askedOf t f l → ¬ s.quiet < l.length → R (askT s) [.dat (tsD t), .dat (fsD f), .dat (nsT l)] := fun s _ e hq => by
    rw [askW_end hq] at e
    rw [e]
    exact h
  refine seq_by (fun ρ' => ∃ (s : Ask) (s3 : Sl), AskI t f s ∧ askW t l (meas l s) s = askedOf t f l ∧ ¬ s.quiet < l.length ∧ ρ' = [.dat (tsD t), .dat (fsD f), .dat (nsT l), s3, .own (.dict (dS oD (prs s.some))), .own (nsL s.gone), .dat (.int s.quiet), .un]) (fun K q => ?_) ?_
  · refine whileL (fun m ρ => ∃ (s : Ask) (s3 : Sl), m = meas l s ∧ AskI t f s ∧ askW t l (meas l s) s = askedOf t f l ∧ freeO s3 = true ∧ ρ = [.dat (tsD t), .dat (fsD f), .dat (nsT l), s3, .own (.dict (dS oD (prs s.some))), .own (nsL s.gone), .dat (.int s.quiet), .un]) _ ⟨⟨f, [], 0⟩, .un, rfl, ⟨List.Sublist.refl _, by show 0 + f.length ≤ 8; omega⟩, (askedOf_is f).symm, rfl, rfl⟩ ?_
    rintro m _ ⟨s, s3, rfl, hs, hw, f3, rfl⟩
    have hlen : ((l.map sD).length : Int) = l.length := by rw [List.length_map]
    have tst : ((s.quiet : Int) < ((l.map sD).length : Nat)) ↔ s.quiet < l.length := by omega
    refine iteB (fun h1 => ?_) (fun h1 => ?_)
    · have h1 := tst.mp (of_decide_eq_true h1)
      refine forL sD l (fun p ρ => ∃ s3 : Sl, freeO s3 = true ∧ ρ = [.dat (tsD t), .dat (fsD f), .dat (nsT l), s3, .own (.dict (dS oD (prs (askR t p s).some))), .own (nsL (askR t p s).gone), .dat (.int (askR t p s).quiet), .un]) ⟨s3, f3, rfl⟩ ?_ ?_
      · rintro ρ ⟨s3, f3, rfl⟩
        refine ⟨_, askR_meas h1, askR t l s, s3, rfl, hs.round l, ?_, f3, rfl⟩
        rw [← askW_turn h1]
        exact hw
      rintro p n r ρ N el ⟨s3, f3, rfl⟩ hN
      have hN := hN
      rw [askR_snoc] at hN
      have hi := hs.round p
      generalize askR t p s = u at hi hN
      refine gn_free (i := 3) f3 ?_
      refine seq_to [.dat (tsD t), .dat (fsD f), .dat (nsT l), .dat (.str n), .own (.dict (dS oD (prs u.some))), .own (nsL u.gone), .dat (.int ((u.quiet : Int) + 1)), .un] (fun K q => q) ?_
      have vu := hf.sub hi.sub
      have ndu := vu.nodup
      have gl := hi.gl
      refine in_dict (β := Unit) (v := fun _ => .none) ?_
      have stay : outB t u.some n = false → N [.dat (tsD t), .dat (fsD f), .dat (nsT l), .dat (.str n), .own (.dict (dS oD (prs u.some))), .own (nsL u.gone), .dat (.int ((u.quiet : Int) + 1)), .un] := fun hb => by
        refine hN _ ⟨.dat (.str n), rfl, ?_⟩
        rw [ask1_in hb]
        rfl
      by_cases hin : n ∈ nmsOf u.some
      · obtain ⟨o, ho, rfl⟩ := List.mem_map.mp hin
        have eg := prs_get ndu ho
        rw [eg]
        refine iteY rfl ?_
        refine ixd_dict eg ?_
        have ev := prs_vals u.some
        refine ⟨t, _, u.some, ht, vu, by show seqOf (.list ((dS oD (prs u.some)).map (·.2))) = _; rw [ev]; rfl, rfl, ?_⟩
        refine ixd_dict (share_get vu ho) ?_
        have vo := vu.on o ho
        refine ⟨o, share t u.some o, [], share_b200 ht vu ho, vo.wo.1, vo.wo.2, moOk_nil, rfl, ?_⟩
        rw [← pays_is t (exOf []) u.some o]
        have ob := outB_of (t := t) ndu ho
        refine iteB (fun hb => ?_) (fun hb => ?_)
        · have hb : outB t u.some o.name = true := by rw [ob]; exact hb
          refine seq_to [.dat (tsD t), .dat (fsD f), .dat (nsT l), .dat (.str o.name), .own (.dict (dS oD (prs (dropS o.name u.some)))), .own (nsL u.gone), .dat (.int ((u.quiet : Int) + 1)), .un] (fun K q => ?_) ?_
          · refine ⟨_, eg, ?_⟩
            rw [prs_drop]
            exact q
          refine seq_to [.dat (tsD t), .dat (fsD f), .dat (nsT l), .dat (.str o.name), .own (.dict (dS oD (prs (dropS o.name u.some)))), .own (nsL (u.gone ++ [o.name])), .dat (.int ((u.quiet : Int) + 1)), .un] (fun K q => ?_) ?_
          · refine ⟨by rw [List.length_map]; omega, ?_⟩
            have e : nsL (u.gone ++ [o.name]) = .list (u.gone.map sD ++ [.str o.name]) := by unfold nsL; rw [List.map_append]; rfl
            rw [e] at q
            exact q
          refine hN _ ⟨.dat (.str o.name), rfl, ?_⟩
          rw [ask1_out hb]
          rfl
        · exact stay (by rw [ob]; exact hb)
      · rw [prs_none hin]
        exact iteNo rfl (stay (outB_none hin))
    · exact q _ ⟨s, s3, hs, hw, fun z => of_decide_eq_false h1 (tst.mpr z), rfl⟩
  rintro _ ⟨s, s3, hs, hw, hq, rfl⟩
  have vs := hf.sub hs.sub
  have gl := hs.gl
  show SortOk ((dS oD (prs s.some)).map (·.1)) ∧ _
  rw [prs_keys, sortD_strs (l := nmsOf s.some) vs.up]
  refine ⟨sortOk_strs (by unfold nmsOf; rw [List.length_map]; omega), ?_⟩
  exact fin s hs hw hq
/-! ### _law_asked -/
theorem place_drop {f : List One} (nd : (f.map (·.name)).Nodup) {o : One} (ho : o ∈ f) : ∃ j, PySem.SeqAt.dataPlace (f.map oD) (oD o) = some j ∧ (f.map oD).eraseIdx j = (dropS o.name f).map oD := by
  induction f with
  | nil => cases ho
  | cons p f ih =>
    have eqv : ∀ q : One, PyData.eqv (oD q) (oD o) = decide (q = o) := fun q => Datum.eqv (α := One) q o
    rw [List.map_cons, List.nodup_cons] at nd
    by_cases hp : p = o
    · subst hp
      refine ⟨0, ?_, ?_⟩
      · unfold PySem.SeqAt.dataPlace
        rw [List.map_cons, List.findIdx?_cons, eqv, decide_eq_true rfl]; rfl
      · have e : dropS p.name f = f := List.filter_eq_self.mpr fun q hq => by
          rw [decide_eq_false (fun z : q.name = p.name => nd.1 (z ▸ List.mem_map_of_mem hq))]; rfl
        unfold dropS at e ⊢
        rw [List.filter_cons_of_neg (by rw [decide_eq_true rfl]; exact Bool.false_ne_true), e]
        rfl
    · have ho : o ∈ f := (List.mem_cons.mp ho).resolve_left fun z => hp z.symm
      obtain ⟨j, h1, h2⟩ := ih nd.2 ho
      refine ⟨j + 1, ?_, ?_⟩
      · unfold PySem.SeqAt.dataPlace at h1 ⊢
        rw [List.map_cons, List.findIdx?_cons, eqv, decide_eq_false hp, h1]; rfl
      · have hn : ¬ p.name = o.name := fun z => nd.1 (z ▸ List.mem_map_of_mem ho)
        have e : dropS o.name (p :: f) = p :: dropS o.name f := by
          unfold dropS
          rw [List.filter_cons_of_pos (by rw [decide_eq_false hn]; rfl)]
        rw [e, List.map_cons, List.map_cons, List.eraseIdx_cons_succ, h2]
theorem here_one {f : List One} (nd : (f.map (·.name)).Nodup) {o : One} (ho : o ∈ f) : f.filter (fun p => decide (p.name = o.name)) = [o] := by
  induction f with
  | nil => cases ho
  | cons p f ih =>
    rw [List.map_cons, List.nodup_cons] at nd
    by_cases hp : p = o
    · subst hp
      rw [List.filter_cons_of_pos (by rw [decide_eq_true rfl])]
      rw [List.filter_eq_nil_iff.mpr fun q hq => by rw [decide_eq_false (fun z : q.name = p.name => nd.1 (z ▸ List.mem_map_of_mem hq))]; exact Bool.false_ne_true]
    · have ho : o ∈ f := (List.mem_cons.mp ho).resolve_left fun z => hp z.symm
      have hn : ¬ p.name = o.name := fun z => nd.1 (z ▸ List.mem_map_of_mem ho)
      rw [List.filter_cons_of_neg (by rw [decide_eq_false hn]; exact Bool.false_ne_true)]
      exact ih nd.2 ho
theorem here_none {f : List One} {n : Str} (h : n ∉ nmsOf f) : f.filter (fun p => decide (p.name = n)) = [] :=
  List.filter_eq_nil_iff.mpr fun q hq => by rw [decide_eq_false (fun z : q.name = n => h (z ▸ List.mem_map_of_mem hq))]; exact Bool.false_ne_true
theorem gd_one (o : One) : Gd 59 (oD o) := ⟨Datum.plain (α := One) o, Nat.le_trans (Datum.depth_le (α := One) o) (by decide)⟩
theorem pure__law_asked (ss : List Sl) (R) (RE) (h : p__law_asked ss R RE) : b__law_asked p__law_less p__law_shares ss R RE := by
  obtain ⟨t, f, l, ht, hf, hl, rfl, h⟩ := h
  refine ⟨rfl, noOwn_dat (noOwn_dat (noOwn_dat noOwn_nil)), ?_⟩
  have nd := hf.nodup
  have lf := hf.le
  have ll : l.length = f.length := by rw [hl.length_eq]; unfold nmsOf; rw [List.length_map]
  refine seq_to [.dat (tsD t), .dat (fsD f), .dat (nsT l), .own (flD f), .own (.list []), .dat (.int 0), .un, .un, .un] (fun K q => ⟨rfl, q⟩) ?_
  have pay_is : ∀ (u : List One) (o : One), (!pays t ex0 u o) = decide ((o.worth : Rat) < share t u o) := fun u o => by
    unfold pays ex0
    show (!(!decide ((o.worth : Rat) + 0 < share t u o))) = _
    rw [Bool.not_not, Rat.add_zero]
  have tst : ∀ q : Nat, ((q : Int) < (if ((l.map sD).length : Int) > 1 then ((l.map sD).length : Int) else 1)) ↔ q < max 1 l.length := fun q => by
    rw [List.length_map]
    split <;> omega
  refine seq_by (fun ρ' => ∃ (s : Ask) (s6 s7 : Sl), AskI t f s ∧ s.some = (askedOf t f l).some ∧ s.gone = (askedOf t f l).gone ∧ ρ' = [.dat (tsD t), .dat (fsD f), .dat (nsT l), .own (flD s.some), .own (nsL s.gone), .dat (.int s.quiet), s6, s7, .un]) (fun K q => ?_) ?_
  · refine whileL (fun m ρ => ∃ (s : Ask) (s6 s7 : Sl), m = s.some.length + (if s.quiet < max 1 l.length then 1 else 0) ∧ AskI t f s ∧ (askW t l (meas l s) s).some = (askedOf t f l).some ∧ (askW t l (meas l s) s).gone = (askedOf t f l).gone ∧ freeO s6 = true ∧ freeO s7 = true ∧ ρ = [.dat (tsD t), .dat (fsD f), .dat (nsT l), .own (flD s.some), .own (nsL s.gone), .dat (.int s.quiet), s6, s7, .un]) _ ⟨⟨f, [], 0⟩, .un, .un, rfl, ⟨List.Sublist.refl _, by show 0 + f.length ≤ 8; omega⟩, by rw [askedOf_is], by rw [askedOf_is], rfl, rfl, rfl⟩ ?_
    rintro m _ ⟨s, s6, s7, rfl, hs, hw1, hw2, f6, f7, rfl⟩
    refine iteB (fun h1 => ?_) (fun h1 => ?_)
    · have h1 := (tst s.quiet).mp (of_decide_eq_true h1)
      refine seq_by (fun ρ' => ∃ s6 s7 : Sl, freeO s6 = true ∧ freeO s7 = true ∧ ρ' = [.dat (tsD t), .dat (fsD f), .dat (nsT l), .own (flD (askR t l s).some), .own (nsL (askR t l s).gone), .dat (.int (askR t l s).quiet), s6, s7, .un]) (fun K q => ?_) ?_
      · refine forL sD l (fun p ρ => ∃ s6 s7 : Sl, freeO s6 = true ∧ freeO s7 = true ∧ ρ = [.dat (tsD t), .dat (fsD f), .dat (nsT l), .own (flD (askR t p s).some), .own (nsL (askR t p s).gone), .dat (.int (askR t p s).quiet), s6, s7, .un]) ⟨s6, s7, f6, f7, rfl⟩ (fun ρ hρ => q ρ hρ) ?_
        clear f6 f7
        rintro p n r ρ N el ⟨s6, s7, f6, f7, rfl⟩ hN
        have hN := hN
        rw [askR_snoc] at hN
        have hi := hs.round p
        generalize askR t p s = u at hi hN
        refine gn_free (i := 6) f6 ?_
        refine seq_to [.dat (tsD t), .dat (fsD f), .dat (nsT l), .own (flD u.some), .own (nsL u.gone), .dat (.int ((u.quiet : Int) + 1)), .dat (.str n), s7, .un] (fun K q => q) ?_
        have vu := hf.sub hi.sub
        have ndu := vu.nodup
        have gl := hi.gl
        refine seq_to [.dat (tsD t), .dat (fsD f), .dat (nsT l), .own (flD u.some), .own (nsL u.gone), .dat (.int ((u.quiet : Int) + 1)), .dat (.str n), .dat (flD (u.some.filter fun p => decide (p.name = n))), .un] (fun K q => fun a => ?_) ?_
        · refine lcL oD u.some (fun p => decide (p.name = n)) oD ⟨rfl, gn_free (i := 7) f7 q⟩ ?_
          intro o ho Ky Kn q1 q2
          refine eq_dat (α := Str) (a := o.name) (b := n) ?_
          exact iteB q1 q2
        have stay : ∀ s7 : Sl, freeO s7 = true → outB t u.some n = false → N [.dat (tsD t), .dat (fsD f), .dat (nsT l), .own (flD u.some), .own (nsL u.gone), .dat (.int ((u.quiet : Int) + 1)), .dat (.str n), s7, .un] := fun s7 f7 hb => by
          refine hN _ ⟨.dat (.str n), s7, rfl, f7, ?_⟩
          rw [ask1_in hb]
          rfl
        by_cases hin : n ∈ nmsOf u.some
        · obtain ⟨o, ho, rfl⟩ := List.mem_map.mp hin
          rw [here_one ndu ho]
          refine ne_dat (α := List One) (a := [o]) (b := []) ?_
          refine iteY (by rw [decide_eq_false (fun z => nomatch z)]; rfl) ?_
          have vo := vu.on o ho
          refine ⟨t, flD u.some, u.some, ht, vu, rfl, rfl, noL_frs _, ?_⟩
          refine ixd_dict (share_get vu ho) ?_
          refine ⟨(o.worth : Rat), share t u.some o, 10, 200, worth_bd vo.wo.1 vo.wo.2, share_b200 ht vu ho, by decide, rfl, ?_⟩
          have ob := outB_of (t := t) ndu ho
          rw [pay_is] at ob
          refine iteB (fun hb => ?_) (fun hb => ?_)
          · have hb : outB t u.some o.name = true := by rw [ob]; exact hb
            obtain ⟨j, hj1, hj2⟩ := place_drop ndu ho
            refine seq_to [.dat (tsD t), .dat (fsD f), .dat (nsT l), .own (flD (dropS o.name u.some)), .own (nsL u.gone), .dat (.int ((u.quiet : Int) + 1)), .dat (.str o.name), .dat (flD [o]), .un] (fun K q => ?_) ?_
            · refine ⟨gd_list fun x hx => ?_, (gd_one o).mono (by decide), j, hj1, ?_⟩
              · obtain ⟨p, _, rfl⟩ := List.mem_map.mp hx
                exact gd_one p
              · rw [hj2]; exact q
            refine seq_to [.dat (tsD t), .dat (fsD f), .dat (nsT l), .own (flD (dropS o.name u.some)), .own (nsL (u.gone ++ [o.name])), .dat (.int ((u.quiet : Int) + 1)), .dat (.str o.name), .dat (flD [o]), .un] (fun K q => ?_) ?_
            · refine ⟨by rw [List.length_map]; omega, ?_⟩
              have e : nsL (u.gone ++ [o.name]) = .list (u.gone.map sD ++ [.str o.name]) := by unfold nsL; rw [List.map_append]; rfl
              rw [e] at q
              exact q
            refine hN _ ⟨.dat (.str o.name), .dat (flD [o]), rfl, rfl, ?_⟩
            rw [ask1_out hb]
            rfl
          · exact stay _ rfl (by rw [ob]; exact hb)
        · rw [here_none hin]
          refine ne_dat (α := List One) (a := []) (b := []) ?_
          exact iteNo (by rw [decide_eq_true rfl]; rfl) (stay _ rfl (outB_none hin))
      clear f6 f7
      rintro _ ⟨s6, s7, f6, f7, rfl⟩
      refine eq_dat (α := Tup Str) (a := ⟨l⟩) (b := ⟨[]⟩) ?_
      by_cases hz : l = []
      · subst hz
        rw [decide_eq_true rfl]
        have hq : s.quiet = 0 := by rw [List.length_nil] at h1; omega
        refine ⟨_, ?_, ⟨s.some, s.gone, s.quiet + 1⟩, s6, s7, rfl, ⟨hs.sub, hs.gl⟩, ?_, ?_, f6, f7, rfl⟩
        · rw [List.length_nil, hq]; show s.some.length + 0 < s.some.length + 1; omega
        · rw [askW_end (by show ¬ s.quiet + 1 < 0; omega)]
          rw [askW_end (by show ¬ s.quiet < 0; omega)] at hw1
          exact hw1
        · rw [askW_end (by show ¬ s.quiet + 1 < 0; omega)]
          rw [askW_end (by show ¬ s.quiet < 0; omega)] at hw2
          exact hw2
      · rw [decide_eq_false (fun z => hz (congrArg Tup.items z))]
        have pos : 0 < l.length := List.length_pos_iff.mpr hz
        have mx : max 1 l.length = l.length := by omega
        rw [mx] at h1 ⊢
        have km := askR_meas (t := t) h1
        rw [askW_turn h1] at hw1 hw2
        refine ⟨_, km, askR t l s, s6, s7, rfl, hs.round l, hw1, hw2, f6, f7, ?_⟩
        show _ = [_, _, _, _, _, Sl.dat (.int (((askR t l s).quiet : Int))), _, _, _]
        have e0 : ((askR t l s).quiet : Int) + 0 = (askR t l s).quiet := Int.add_zero _
        conv => rhs; rw [← e0]
        rfl
    · have hq : ¬ s.quiet < l.length := fun z => of_decide_eq_false h1 ((tst s.quiet).mpr (by omega))
      rw [askW_end hq] at hw1 hw2
      exact q _ ⟨s, s6, s7, hs, hw1, hw2, rfl⟩
  rintro _ ⟨s, s6, s7, hs, e1, e2, rfl⟩
  refine fun a => ?_
  refine lcA oD s.some (fun o => sD o.name) ?_ ?_
  · refine ⟨rfl, ?_⟩
    have e3 : s.some.map (fun o => sD o.name) = (nmsOf s.some).map sD := by unfold nmsOf; rw [List.map_map]; rfl
    rw [e3]
    unfold askT at h
    rw [← e1, ← e2] at h
    exact h
  · intro o ho Ky q
    exact q
end K11


set_option Elab.async false
set_option maxRecDepth 100000
set_option maxHeartbeats 1000000
namespace G
open PySem PySem.Spec PyProof.Rows L2
theorem cut_drop (ds : List PyData) (k : Nat) : cutD ds (some (k : Int)) none = ds.drop k := by
  unfold cutD
  rw [HT.sIx_nat, HT.sIx_none]
  rcases Nat.le_total k ds.length with h | h
  · rw [Nat.min_eq_left h, List.take_of_length_le (by rw [List.length_drop]; exact Nat.le_refl _)]
  · rw [Nat.min_eq_right h, List.drop_length, List.drop_of_length_le h]; simp
theorem erase_perm {α : Type} : ∀ {l : List α} {k : Nat} (h : k < l.length), List.Perm (l[k] :: l.eraseIdx k) l
  | x :: l, 0, _ => List.Perm.refl _
  | x :: l, k + 1, h => (List.Perm.swap x (l[k]'(Nat.lt_of_succ_lt_succ h)) (l.eraseIdx k)).trans (List.Perm.cons x (erase_perm (Nat.lt_of_succ_lt_succ h)))
theorem erase_map {α β : Type} (g : α → β) : ∀ (l : List α) (k : Nat), (l.map g).eraseIdx k = (l.eraseIdx k).map g
  | [], _ => rfl
  | x :: l, 0 => rfl
  | x :: l, k + 1 => by rw [List.map_cons, List.eraseIdx_cons_succ, List.eraseIdx_cons_succ, List.map_cons, erase_map g l k]
theorem slT_take {ds : List PyData} {k : Nat} {R : PyData → Prop} (q : R (.tuple (ds.take k))) : slD (.tuple ds) none (some (k : Int)) R := by
  show R (.tuple (cutD ds none (some (k : Int))))
  rw [cut_take ds (by omega)]
  exact q
theorem slT_drop {ds : List PyData} {k : Nat} {i : Int} {R : PyData → Prop} (e : i = (k : Int)) (q : R (.tuple (ds.drop k))) : slD (.tuple ds) (some i) none R := by
  subst e
  show R (.tuple (cutD ds (some (k : Int)) none))
  rw [cut_drop]
  exact q
theorem ixT_at {l : List PyData} {k : Nat} {d : PyData} {R : PyData → Prop} (e : l[k]? = some d) (q : R d) : ixD (.tuple l) (.int (k : Int)) R := by
  show (match atI l (k : Int) with | some d => R d | none => False)
  rw [atI_nat e]
  exact q
end G
namespace K11
open PySem PySem.Spec PyProof.Rows L2 G
open PySem.W (Datum Tup)
/-! ### _law_drawn_order -/
theorem pure__law_drawn_order (ss : List Sl) (R) (RE) (h : p__law_drawn_order ss R RE) : b__law_drawn_order p__law_take ss R RE := by
  obtain ⟨a, w, t, f, hw, hf, rfl, h⟩ := h
  refine ⟨rfl, noOwn_inn (noOwn_dat noOwn_nil), ?_⟩
  have lf := hf.le
  refine seq_to [.inn a w, .dat (fsD f), .own (nsL (nmsOf f)), .own (.list []), .un] (fun K q => ?_) ?_
  · refine lcA oD f (fun o => sD o.name) ?_ ?_
    · have e3 : f.map (fun o => sD o.name) = (nmsOf f).map sD := by unfold nmsOf; rw [List.map_map]; rfl
      rw [e3]
      exact ⟨rfl, q⟩
    · intro o ho Ky q
      exact q
  refine seq_by (fun ρ' => ∃ w fs, Well w ∧ List.Perm fs (nmsOf f) ∧ ρ' = [.inn a w, .dat (fsD f), .own (nsL []), .own (nsL fs), .un]) (fun K q => ?_) ?_
  · refine whileL (fun m ρ => ∃ w ns fs, m = ns.length ∧ Well w ∧ List.Perm (fs ++ ns) (nmsOf f) ∧ ρ = [.inn a w, .dat (fsD f), .own (nsL ns), .own (nsL fs), .un]) _ ⟨w, nmsOf f, [], rfl, hw, List.Perm.refl _, rfl⟩ ?_
    rintro m _ ⟨w1, ns, fs, rfl, hw1, hp, rfl⟩
    have hl := hp.length_eq
    have e8 : (nmsOf f).length = f.length := by unfold nmsOf; rw [List.length_map]
    rw [List.length_append] at hl
    refine ne_dat (α := List Str) (a := ns) (b := []) ?_
    refine iteB (fun h1 => ?_) (fun h1 => ?_)
    · have h1 : ns ≠ [] := by simpa using h1
      have pos : 0 < ns.length := List.length_pos_iff.mpr h1
      refine ⟨a, w1, ((ns.map sD).length : Nat), hw1, by rw [List.length_map]; omega, by rw [List.length_map]; omega, rfl, fun i w2 i0 i1 hw2 => ?_⟩
      rw [List.length_map] at i1
      have ik : i.toNat < ns.length := by omega
      show (match (ns.map sD)[i.toNat]? with | some y => _ | none => False)
      have e : (ns.map sD)[i.toNat]? = some (sD ns[i.toNat]) := by rw [List.getElem?_map, List.getElem?_eq_getElem ik]; rfl
      rw [e]
      refine ⟨⟨i0, by omega⟩, ?_⟩
      refine ⟨by rw [List.length_map]; omega, ?_⟩
      refine ⟨_, ?_, w2, ns.eraseIdx i.toNat, fs ++ [ns[i.toNat]], rfl, hw2, ?_, ?_⟩
      · rw [List.length_eraseIdx_of_lt ik]; omega
      · refine List.Perm.trans ?_ hp
        rw [List.append_assoc]
        exact List.Perm.append_left fs (erase_perm ik)
      · show _ = [_, _, Sl.own (.list ((ns.eraseIdx i.toNat).map sD)), Sl.own (.list ((fs ++ [ns[i.toNat]]).map sD)), _]
        rw [List.map_append, erase_map]
        rfl
    · have h1 : ns = [] := by simpa using h1
      subst h1
      rw [List.append_nil] at hp
      exact q _ ⟨w1, fs, hw1, hp, rfl⟩
  rintro _ ⟨w1, fs, hw1, hp, rfl⟩
  have h := h fs w1 hp hw1
  have h2 : ∀ ρ, R (nsT fs) (outs [.inn a w, .dat (fsD f)] (.inn a w1 :: .dat (fsD f) :: ρ)) := fun ρ => by rw [outs_here]; exact h
  exact h2 _
/-! ### _law_better -/
theorem pure__law_better (ss : List Sl) (R) (RE) (h : p__law_better ss R RE) : b__law_better p__law_take p__law_said p__law_one ss R RE := by
  obtain ⟨a, w0, t, f, hw0, ht, hf, hnm, rfl, h⟩ := h
  refine ⟨rfl, noOwn_inn (noOwn_dat (noOwn_dat noOwn_nil)), ?_⟩
  have lf := hf.le
  have tl := ht.le
  have nd := hf.nodup
  have h2 : ∀ (bs : List (List (Str × Int) × List One)) w u v ρ, Well w → (∀ b ∈ bs, VT b.1 ∧ VF b.1 b.2 ∧ ∀ x ∈ nmsOf (leftOf t ex0 f), x ∈ nmsOf (leftOf b.1 ex0 b.2)) → R (.list (bs.map bD)) (outs [.inn a w0, .dat (tsD t), .dat (fsD f)] (.inn a w :: u :: v :: ρ)) := fun bs w u v ρ hw hb => by
    rw [outs_here]; exact h bs w hw hb
  clear h
  refine seq_to [.inn a w0, .dat (tsD t), .dat (fsD f), .own (.list []), .un, .un, .un, .un] (fun K q => q) ?_
  refine seq_by (fun ρ' => ∃ w k, Well w ∧ k < t.length ∧ ρ' = [.inn a w, .dat (tsD t), .dat (fsD f), .own (.list []), .dat (.int ((k : Nat) : Int)), .un, .un, .un]) (fun K q => ?_) ?_
  · refine ⟨a, w0, ((t.map tD).length : Nat), hw0, by rw [List.length_map]; omega, by rw [List.length_map]; omega, rfl, fun i w2 i0 i1 hw2 => ?_⟩
    rw [List.length_map] at i1
    have e : i = ((i.toNat : Nat) : Int) := by omega
    refine q _ ⟨w2, i.toNat, hw2, by omega, ?_⟩
    rw [← e]
    rfl
  rintro _ ⟨w, k, hw, hk, rfl⟩
  obtain ⟨A, n, c, B, et, eA⟩ : ∃ A n c B, t = A ++ (n, c) :: B ∧ A.length = k := by
    refine ⟨t.take k, t[k].1, t[k].2, t.drop (k + 1), ?_, by rw [List.length_take]; omega⟩
    have := (List.take_append_drop k t).symm
    rwa [List.drop_eq_getElem_cons hk] at this
  have ek : (t.map tD)[k]? = some (tD (n, c)) := by
    rw [et, List.map_append, List.getElem?_append_right (by rw [List.length_map]; omega), List.length_map, eA, Nat.sub_self]
    rfl
  have hin : (n, c) ∈ t := by rw [et]; simp
  have hc := ht.co _ hin
  refine seq_to [.inn a w, .dat (tsD t), .dat (fsD f), .own (.list []), .dat (.int ((k : Nat) : Int)), .dat (.str n), .dat (.int c), .un] (fun K q => ixT_at ek (gt_free rfl rfl q)) ?_
  have d1 : (t.map tD).take k = A.map tD := by rw [et, List.map_append, ← eA, ← List.length_map (f := tD) (as := A), List.take_left]
  have d2 : (t.map tD).drop (k + 1) = B.map tD := by
    have e : t = (A ++ [(n, c)]) ++ B := by rw [et, List.append_assoc]; rfl
    rw [e, List.map_append, List.drop_left' (by rw [List.length_map, List.length_append, List.length_cons, List.length_nil, eA])]
  have names : ∀ c', (A ++ (n, c') :: B).map (·.1) = t.map (·.1) := fun c' => by rw [et, List.map_append, List.map_append, List.map_cons, List.map_cons]
  have vt : ∀ c', 0 ≤ c' → c' ≤ c → VT (A ++ (n, c') :: B) := fun c' c0 c1 => by
    have el : (A ++ (n, c') :: B).length = t.length := by have := congrArg List.length (names c'); rwa [List.length_map, List.length_map] at this
    refine ⟨by rw [el]; exact tl, fun p hp => ?_, fun p hp => ?_, by rw [names]; exact ht.up⟩
    · have m : p.1 ∈ t.map (·.1) := by rw [← names c']; exact List.mem_map_of_mem hp
      obtain ⟨p2, hp2, e⟩ := List.mem_map.mp m
      rw [← e]; exact ht.nm p2 hp2
    · rcases List.mem_append.mp hp with hp | hp
      · exact ht.co p (by rw [et]; exact List.mem_append_left _ hp)
      · rcases List.mem_cons.mp hp with rfl | hp
        · exact ⟨c0, by show c' ≤ 1000; omega⟩
        · exact ht.co p (by rw [et]; exact List.mem_append_right _ (List.mem_cons_of_mem _ hp))
  have vf : ∀ c', VF (A ++ (n, c') :: B) f := fun c' => ⟨hf.le, fun o ho => by
    have v := hf.on o ho
    exact ⟨v.nm, by rw [names]; exact v.ws, v.up, v.ne, v.wo, v.we⟩, hf.up⟩
  have ls : A.length + B.length + 1 ≤ 8 := by
    have := congrArg List.length et
    rw [List.length_append, List.length_cons] at this
    omega
  refine seq_by (fun ρ' => ∃ w c', Well w ∧ 0 ≤ c' ∧ c' ≤ c ∧ ρ' = [.inn a w, .dat (tsD t), .dat (fsD f), .own (.list [bD (A ++ (n, c') :: B, f)]), .dat (.int ((k : Nat) : Int)), .dat (.str n), .dat (.int c), .un]) (fun K q => ?_) ?_
  · have k1 : cutD (t.map tD) none (some ((k : Nat) : Int)) = A.map tD := by rw [cut_take _ (by omega), Int.toNat_natCast]; exact d1
    have k2 : cutD (t.map tD) (some (((k : Nat) : Int) + 1)) none = B.map tD := by
      have e : ((k : Nat) : Int) + 1 = ((k + 1 : Nat) : Int) := by omega
      rw [e, cut_drop]; exact d2
    refine ⟨a, w, c + 1, hw, by omega, by omega, rfl, fun v w2 v0 v1 hw2 => ?_⟩
    refine ⟨by rw [k1, List.length_map]; show _ + 1 ≤ 2 ^ 24; omega, ?_⟩
    refine ⟨by rw [k1, k2, List.length_append, List.length_map, List.length_map]; show _ + 1 + _ ≤ 2 ^ 24; omega, ?_⟩
    refine ⟨by decide, ?_⟩
    refine q _ ⟨w2, v, hw2, v0, by omega, ?_⟩
    have e : bD (A ++ (n, v) :: B, f) = .tuple [.tuple (cutD (t.map tD) none (some ((k : Nat) : Int)) ++ [.tuple [.str n, .int v]] ++ cutD (t.map tD) (some (((k : Nat) : Int) + 1)) none), fsD f] := by
      rw [k1, k2]
      unfold bD tsD
      show PyData.tuple [.tuple ((A ++ (n, v) :: B).map tD), fsD f] = _
      rw [List.map_append, List.map_cons, List.append_assoc]
      rfl
    rw [e]
    rfl
  clear hw
  rintro _ ⟨w, c', hw, c0, c1, rfl⟩
  have ok1 : VT (A ++ (n, c') :: B) ∧ VF (A ++ (n, c') :: B) f ∧ ∀ x ∈ nmsOf (leftOf t ex0 f), x ∈ nmsOf (leftOf (A ++ (n, c') :: B) ex0 f) := by
    refine ⟨vt c' c0 c1, vf c', fun x hx => ?_⟩
    rw [et] at hx
    exact ((left_cheap c1 (vt c' c0 c1).coo hf.wt).map _).subset hx
  refine seq_by (fun ρ' => ∃ w, ∃ bs : List (List (Str × Int) × List One), ∃ s7 : Sl, Well w ∧ bs.length ≤ 2 ∧ (∀ b ∈ bs, VT b.1 ∧ VF b.1 b.2 ∧ ∀ x ∈ nmsOf (leftOf t ex0 f), x ∈ nmsOf (leftOf b.1 ex0 b.2)) ∧ ρ' = [.inn a w, .dat (tsD t), .dat (fsD f), .own (.list (bs.map bD)), .dat (.int ((k : Nat) : Int)), .dat (.str n), .dat (.int c), s7]) (fun K q => ?_) ?_
  · refine ne_dat (α := Tup One) (a := ⟨f⟩) (b := ⟨[]⟩) ?_
    refine iteB (fun h1 => ?_) (fun h1 => ?_)
    · have h1 : f ≠ [] := by
        intro z
        rw [z, decide_eq_true rfl] at h1
        cases h1
      have pf : 0 < f.length := List.length_pos_iff.mpr h1
      refine seq_by (fun ρ' => ∃ w o, Well w ∧ o ∈ f ∧ ρ' = [.inn a w, .dat (tsD t), .dat (fsD f), .own (.list [bD (A ++ (n, c') :: B, f)]), .dat (.int ((k : Nat) : Int)), .dat (.str n), .dat (.int c), .dat (oD o)]) (fun K2 q2 => ?_) ?_
      · refine ⟨a, w, ((f.map oD).length : Nat), hw, by rw [List.length_map]; omega, by rw [List.length_map]; omega, rfl, fun i w2 i0 i1 hw2 => ?_⟩
        refine ixT_any i0 i1 fun d hd => ?_
        obtain ⟨o, ho, rfl⟩ := List.mem_map.mp hd
        exact q2 _ ⟨w2, o, hw2, ho, rfl⟩
      clear hw
      rintro _ ⟨w, o, hw, ho, rfl⟩
      have vo := (hf.on o ho).wo
      refine ⟨a, w, 90, hw, by decide, by decide, rfl, fun v w2 v0 v1 hw2 => ?_⟩
      refine ⟨f, o.name, (if o.worth + 1 + v < 1000 then o.worth + 1 + v else 1000), rfl, ?_⟩
      refine ⟨by show 1 < 1000; decide, ?_⟩
      refine q _ ⟨w2, [(A ++ (n, c') :: B, f), (t, f.map (sayW o.name (if o.worth + 1 + v < 1000 then o.worth + 1 + v else 1000)))],   .dat (oD o), hw2, Nat.le_refl 2, fun b hb => ?_, rfl⟩
      have lo : o.worth ≤ (if o.worth + 1 + v < 1000 then o.worth + 1 + v else 1000) := by split <;> omega
      have hi : (if o.worth + 1 + v < 1000 then o.worth + 1 + v else 1000) ≤ 1000 := by split <;> omega
      generalize (if o.worth + 1 + v < 1000 then o.worth + 1 + v else 1000) = wo at lo hi hb
      simp only [List.mem_cons, List.not_mem_nil, or_false] at hb
      rcases hb with rfl | rfl
      · exact ok1
      · refine ⟨ht, ⟨by rw [List.length_map]; exact hf.le, fun p hp => ?_, ?_⟩, left_word ht.coo hf.wt nd ho lo⟩
        · obtain ⟨p, hp', rfl⟩ := List.mem_map.mp hp
          have v := hf.on p hp'
          refine ⟨by rw [sayW_name]; exact v.nm, by rw [sayW_wants]; exact v.ws, by rw [sayW_wants]; exact v.up, by rw [sayW_wants]; exact v.ne, ?_, by rw [sayW_weight]; exact v.we⟩
          by_cases hn : p.name = o.name
          · rw [sayW_worth hn]; omega
          · rw [sayW_ne hn]; exact v.wo
        · have e := nms_map (sayW_name o.name wo) f
          unfold nmsOf at e
          show Rising ((f.map (sayW o.name wo)).map (·.name))
          rw [e]; exact hf.up
    · refine q _ ⟨w, [(A ++ (n, c') :: B, f)], .un, hw, Nat.le_succ 1, fun b hb => ?_, rfl⟩
      rw [List.mem_singleton.mp hb]
      exact ok1
  clear hw ok1
  rintro _ ⟨w, bs, s7, hw, lb, ok, rfl⟩
  refine seq_by (fun ρ' => ∃ w, ∃ bs : List (List (Str × Int) × List One), Well w ∧ (∀ b ∈ bs, VT b.1 ∧ VF b.1 b.2 ∧ ∀ x ∈ nmsOf (leftOf t ex0 f), x ∈ nmsOf (leftOf b.1 ex0 b.2)) ∧ ρ' = [.inn a w, .dat (tsD t), .dat (fsD f), .own (.list (bs.map bD)), .dat (.int ((k : Nat) : Int)), .dat (.str n), .dat (.int c), s7]) (fun K q => ?_) ?_
  · refine iteB (fun h1 => ?_) (fun h1 => ?_)
    · have h1 : (((f.map oD).length : Nat) : Int) < 8 := of_decide_eq_true h1
      rw [List.length_map] at h1
      refine ⟨a, w, t, "zed", false, hw, ht, by decide +kernel, rfl, fun z w2 vz nz _ hw2 => ?_⟩
      refine ⟨by rw [List.length_map]; show _ + 1 ≤ 2 ^ 24; omega, ?_⟩
      refine ⟨by rw [List.length_map]; omega, ?_⟩
      have up : Rising ((f ++ [z]).map (·.name)) := by
        rw [List.map_append, List.map_cons, List.map_nil, nz]
        refine Rising.of (List.pairwise_append.mpr ⟨hf.up.pw, List.pairwise_singleton _ _, fun x hx y hy => ?_⟩)
        rw [List.mem_singleton.mp hy]
        obtain ⟨o, ho, rfl⟩ := List.mem_map.mp hx
        have key : ∀ x ∈ (["al", "bo", "cy", "di", "ed", "fay", "gus", "hal"] : List Str), Lt x "zed" := by decide +kernel
        exact key _ (hnm o ho)
      have vfz : VF t (f ++ [z]) := ⟨by rw [List.length_append, List.length_cons, List.length_nil]; omega, fun o ho => by
        rcases List.mem_append.mp ho with ho | ho
        · exact hf.on o ho
        · rw [List.mem_singleton.mp ho]; exact vz, up⟩
      refine q _ ⟨w2, bs ++ [(t, f ++ [z])], hw2, fun b hb => ?_, ?_⟩
      · rcases List.mem_append.mp hb with hb | hb
        · exact ok b hb
        · rw [List.mem_singleton.mp hb]
          exact ⟨ht, vfz, fun x hx => ((left_more ht.coo vfz.wt).map _).subset hx⟩
      · have e : bD (t, f ++ [z]) = .tuple [tsD t, .tuple (f.map oD ++ [oD z])] := by
          unfold bD fsD
          show PyData.tuple [tsD t, .tuple ((f ++ [z]).map oD)] = _
          rw [List.map_append]; rfl
        rw [List.map_append, List.map_cons, List.map_nil, e]
        rfl
    · exact q _ ⟨w, bs, hw, ok, rfl⟩
  clear hw ok lb
  rintro _ ⟨w, bs, hw, ok, rfl⟩
  exact h2 bs w _ _ _ hw ok
end K11


set_option Elab.async false
set_option maxRecDepth 100000
set_option maxHeartbeats 1000000
namespace K11
open PySem PySem.Spec PyProof.Rows L2 G
open PySem.W (Datum Tup)
abbrev TT : Type := Tup Str × Tup Str
def askP (s : Ask) : TT := (⟨nmsOf s.some⟩, ⟨s.gone⟩)
def l1 : List Str := ["c", "b", "a"]
def l2 : List Str := ["a", "b", "c"]
theorem ends1 : askP (askedOf roadT (threeF 2) l1) = ((⟨[]⟩, ⟨l1⟩) : TT) := by decide +kernel
theorem ends2 : askP (askedOf roadT (threeF 2) l2) = ((⟨[]⟩, ⟨l1⟩) : TT) := by decide +kernel
theorem ends3 : (Tup.mk (nmsOf (leftOf roadT ex0 (threeF 3))) : Tup Str) = Tup.mk l2 := by decide +kernel
theorem perm1 : List.Perm l1 (nmsOf (threeF 2)) := by decide +kernel
theorem perm2 : List.Perm l2 (nmsOf (threeF 2)) := by decide +kernel
theorem pure_law (ss : List Sl) (R) (RE) (h : p_law ss R RE) : b_law p__law_well p__law_things p__law_folk p_left p__law_greatest p__law_drawn_order p__law_asked p_asked p__law_better ss R RE := by
  obtain ⟨ns, hl, rfl, h⟩ := h
  refine ⟨rfl, noOwn_scr noOwn_nil, ?_⟩
  refine seq_by (fun ρ' => ∃ s1 s2 s3 s4 s5 s6 s7 s8 s9 s10 s11 s12 : Sl, freeO s11 = true ∧ freeO s12 = true ∧ ρ' = [.scr ns, s1, s2, s3, s4, s5, s6, s7, s8, s9, s10, s11, s12, .un]) (fun KK qq => ?_) ?_
  rotate_left
  · rintro _ ⟨s1, s2, s3, s4, s5, s6, s7, s8, s9, s10, s11, s12, f11, f12, rfl⟩
    refine seq_to [.scr ns, s1, s2, s3, s4, s5, s6, s7, s8, s9, s10, .dat (tsD roadT), s12, .un] (fun K q => gn_free (i := 11) f11 q) ?_
    refine seq_to [.scr ns, s1, s2, s3, s4, s5, s6, s7, s8, s9, s10, .dat (tsD roadT), .dat (fsD (threeF 2)), .un] (fun K q => gn_free (i := 12) f12 q) ?_
    refine seq_to [.scr ns, s1, s2, s3, s4, s5, s6, s7, s8, s9, s10, .dat (tsD roadT), .dat (fsD (threeF 2)), .un] (fun K q => ?_) ?_
    · refine ⟨roadT, threeF 2, l1, road_ok, three_ok (by decide) (by decide), perm1, rfl, ?_⟩
      refine ne_dat (α := TT) (a := askP (askedOf roadT (threeF 2) l1)) (b := (⟨[]⟩, ⟨l1⟩)) ?_
      exact iteNo (by rw [decide_eq_true ends1]; rfl) q
    refine seq_to [.scr ns, s1, s2, s3, s4, s5, s6, s7, s8, s9, s10, .dat (tsD roadT), .dat (fsD (threeF 2)), .un] (fun K q => ?_) ?_
    · refine ⟨by decide, ?_⟩
      refine ⟨roadT, threeF 3, road_ok, three_ok (by decide) (by decide), rfl, ?_⟩
      refine ne_dat (α := Tup Str) (a := ⟨nmsOf (leftOf roadT ex0 (threeF 3))⟩) (b := ⟨l2⟩) ?_
      exact iteNo (by rw [decide_eq_true ends3]; rfl) q
    refine ⟨roadT, threeF 2, l2, road_ok, three_ok (by decide) (by decide), perm2, rfl, ?_⟩
    refine eq_dat (α := TT) (a := askP (askedOf roadT (threeF 2) l2)) (b := (⟨[]⟩, ⟨l1⟩)) ?_
    rw [decide_eq_true ends2]
    exact h
  refine head_run (by decide) (by decide) (by decide) (by decide) fun m _ => ?_
  refine forR m (fun k ρ => ∃ s1 s2 s3 s4 s5 s6 s7 s8 s9 s10 s11 s12 : Sl, ρ = [.scr ns, s1, s2, s3, s4, s5, s6, s7, s8, s9, s10, s11, s12, .un] ∧ AllF ρ)
    ⟨_, _, _, _, _, _, _, _, _, _, _, _, rfl, fun i => by
      match i with
      | 0 | 1 | 2 | 3 | 4 | 5 | 6 | 7 | 8 | 9 | 10 | 11 | 12 | 13 => rfl
      | i + 14 => rfl⟩ ?_ ?_
  · rintro ρ ⟨s1, s2, s3, s4, s5, s6, s7, s8, s9, s10, s11, s12, rfl, fr⟩
    exact qq _ ⟨s1, s2, s3, s4, s5, s6, s7, s8, s9, s10, s11, s12, fr 11, fr 12, rfl⟩
  rintro k ρ N hk ⟨s1, s2, s3, s4, s5, s6, s7, s8, s9, s10, s11, s12, rfl, fr0⟩ hN
  have g1 := fr0 1; have g2 := fr0 2; have g3 := fr0 3; have g4 := fr0 4; have g5 := fr0 5; have g6 := fr0 6; have g7 := fr0 7; have g8 := fr0 8; have g9 := fr0 9; have g10 := fr0 10; have g11 := fr0 11; have g12 := fr0 12
  change freeO s1 = true at g1; change freeO s2 = true at g2; change freeO s3 = true at g3; change freeO s4 = true at g4; change freeO s5 = true at g5; change freeO s6 = true at g6
  change freeO s7 = true at g7; change freeO s8 = true at g8; change freeO s9 = true at g9; change freeO s10 = true at g10; change freeO s11 = true at g11; change freeO s12 = true at g12
  clear fr0
  refine gn_free (i := 1) g1 ?_
  refine seq_by (fun ρ' => ∃ w, Well w ∧ ρ' = [.scr ns, .dat (.int k), .own w, s3, s4, s5, s6, s7, s8, s9, s10, s11, s12, .un]) (fun K q => ?_) ?_
  · refine ⟨ns, k, by omega, rfl, fun w hw => ?_⟩
    exact setN_free (i := 2) g2 (q _ ⟨w, hw, rfl⟩)
  rintro _ ⟨w, hw, rfl⟩
  refine seq_by (fun ρ' => ∃ w t, Well w ∧ VT t ∧ ρ' = [.scr ns, .dat (.int k), .own w, .dat (tsD t), s4, s5, s6, s7, s8, s9, s10, s11, s12, .un]) (fun K q => ?_) ?_
  · refine fun a => ⟨a, w, 8, hw, by decide, by decide, rfl, fun t w2 ht tl hw2 => ?_⟩
    exact gn_free (i := 3) g3 (q _ ⟨w2, t, hw2, ht, rfl⟩)
  clear hw
  rintro _ ⟨w, t, hw, ht, rfl⟩
  refine seq_by (fun ρ' => ∃ w f, Well w ∧ VF t f ∧ (∀ o ∈ f, o.name ∈ (["al", "bo", "cy", "di", "ed", "fay", "gus", "hal"] : List Str)) ∧ ρ' = [.scr ns, .dat (.int k), .own w, .dat (tsD t), .dat (fsD f), s5, s6, s7, s8, s9, s10, s11, s12, .un]) (fun K q => ?_) ?_
  · refine fun a => ⟨a, w, t, 8, false, hw, ht, by decide, by decide, rfl, fun f w3 hf fl h1 hnm hw3 => ?_⟩
    exact gn_free (i := 4) g4 (q _ ⟨w3, f, hw3, hf, hnm, rfl⟩)
  clear hw
  rintro _ ⟨w, f, hw, hf, hnm, rfl⟩
  have nd := hf.nodup
  refine seq_to [.scr ns, .dat (.int k), .own w, .dat (tsD t), .dat (fsD f), .dat (nsT (nmsOf (leftOf t ex0 f))), s6, s7, s8, s9, s10, s11, s12, .un] (fun K q => ?_) ?_
  · exact ⟨t, f, ht, hf, rfl, gn_free (i := 5) g5 q⟩
  refine seq_to [.scr ns, .dat (.int k), .own w, .dat (tsD t), .dat (fsD f), .dat (nsT (nmsOf (leftOf t ex0 f))), s6, s7, s8, s9, s10, s11, s12, .un] (fun K q => ?_) ?_
  · refine ⟨t, _, f, ht, hf, rfl, rfl, ?_⟩
    refine ne_dat (α := Tup Str) (a := ⟨nmsOf (leftOf t ex0 f)⟩) (b := ⟨nmsOf (leftOf t ex0 f)⟩) ?_
    exact iteNo (by rw [decide_eq_true rfl]; rfl) q
  refine seq_by (fun ρ' => ∃ w s6 s7 s8, Well w ∧ freeO s6 = true ∧ freeO s7 = true ∧ freeO s8 = true ∧ ρ' = [.scr ns, .dat (.int k), .own w, .dat (tsD t), .dat (fsD f), .dat (nsT (nmsOf (leftOf t ex0 f))), s6, s7, s8, s9, s10, s11, s12, .un]) (fun K q => ?_) ?_
  · refine ⟨⟨by decide, by decide⟩, ?_⟩
    refine forR 3 (fun _ ρ => ∃ w s6 s7 s8, Well w ∧ freeO s6 = true ∧ freeO s7 = true ∧ freeO s8 = true ∧ ρ = [.scr ns, .dat (.int k), .own w, .dat (tsD t), .dat (fsD f), .dat (nsT (nmsOf (leftOf t ex0 f))), s6, s7, s8, s9, s10, s11, s12, .un]) ⟨w, s6, s7, s8, hw, g6, g7, g8, rfl⟩ (fun ρ hρ => q ρ hρ) ?_
    clear hw g6 g7 g8
    rintro j ρ N2 _ ⟨w, s6, s7, s8, hw, g6, g7, g8, rfl⟩ hN2
    refine gn_free (i := 6) g6 ?_
    refine seq_by (fun ρ' => ∃ w l, Well w ∧ List.Perm l (nmsOf f) ∧ ρ' = [.scr ns, .dat (.int k), .own w, .dat (tsD t), .dat (fsD f), .dat (nsT (nmsOf (leftOf t ex0 f))), .dat (.int j), .dat (nsT l), s8, s9, s10, s11, s12, .un]) (fun K q => ?_) ?_
    · refine fun a => ⟨a, w, t, f, hw, hf, rfl, fun l w2 hl hw2 => ?_⟩
      exact gn_free (i := 7) g7 (q _ ⟨w2, l, hw2, hl, rfl⟩)
    clear hw
    rintro _ ⟨w, l, hw, hl, rfl⟩
    refine seq_to [.scr ns, .dat (.int k), .own w, .dat (tsD t), .dat (fsD f), .dat (nsT (nmsOf (leftOf t ex0 f))), .dat (.int j), .dat (nsT l), .dat (askT (askedOf t f l)), s9, s10, s11, s12, .un] (fun K q => ?_) ?_
    · exact ⟨t, f, l, ht, hf, hl, rfl, gn_free (i := 8) g8 q⟩
    refine ⟨t, f, l, ht, hf, hl, rfl, ?_⟩
    refine ne_dat (α := TT) (a := askP (askedOf t f l)) (b := askP (askedOf t f l)) ?_
    refine iteNo (by rw [decide_eq_true rfl]; rfl) ?_
    refine ne_dat (α := Tup Str) (a := ⟨nmsOf (askedOf t f l).some⟩) (b := ⟨nmsOf (leftOf t ex0 f)⟩) ?_
    have e := askedOf_left (t := t) (order := l) ht.coo hf.wt nd fun o ho => hl.mem_iff.mpr (List.mem_map_of_mem ho)
    rw [e]
    refine iteNo (by rw [decide_eq_true rfl]; rfl) ?_
    exact hN2 _ ⟨w, _, _, _, hw, rfl, rfl, rfl, rfl⟩
  clear hw g6 g7 g8
  rintro _ ⟨w, s6, s7, s8, hw, g6, g7, g8, rfl⟩
  refine fun a => ⟨a, w, t, f, hw, ht, hf, hnm, rfl, fun bs w2 hw2 hb => ?_⟩
  refine forL bD bs (fun _ ρ => ∃ s9 s10 : Sl, freeO s9 = true ∧ freeO s10 = true ∧ ρ = [.scr ns, .dat (.int k), .own w2, .dat (tsD t), .dat (fsD f), .dat (nsT (nmsOf (leftOf t ex0 f))), s6, s7, s8, s9, s10, s11, s12, .un]) ⟨s9, s10, g9, g10, rfl⟩ ?_ ?_
  · rintro _ ⟨s9, s10, g9, g10, rfl⟩
    refine hN _ ⟨_, _, _, _, _, _, _, _, _, _, _, _, rfl, ?_⟩
    exact allF_cons rfl (allF_cons rfl (allF_cons rfl (allF_cons rfl (allF_cons rfl (allF_cons rfl (allF_cons g6 (allF_cons g7 (allF_cons g8 (allF_cons g9 (allF_cons g10 (allF_cons g11 (allF_cons g12 (allF_cons rfl allF_nil)))))))))))))
  clear g9 g10
  rintro p b r ρ N2 eb ⟨s9, s10, g9, g10, rfl⟩ hN2
  have hbb := hb b (by rw [eb]; simp)
  refine gt_free g9 g10 ?_
  refine lcL sD (nmsOf (leftOf t ex0 f)) (fun _ => false) sD ?_ ?_
  · rw [show ((nmsOf (leftOf t ex0 f)).filter fun _ => false) = [] from List.filter_eq_nil_iff.mpr (by simp)]
    refine ne_dat (α := List Str) (a := []) (b := []) ?_
    exact hN2 _ ⟨_, _, rfl, rfl, rfl⟩
  · intro x hx Ky Kn q1 q2
    refine ⟨b.1, b.2, hbb.1, hbb.2.1, rfl, ?_⟩
    refine in_tup (α := Str) (l := nmsOf (leftOf b.1 ex0 b.2)) ?_
    rw [decide_eq_true (hbb.2.2 x hx)]
    exact q2 rfl
end K11


set_option Elab.async false
set_option maxRecDepth 100000
set_option maxHeartbeats 4000000
namespace K11
open PySem PySem.Spec PyProof.Rows L2 G
/-! ### the end -/
theorem all_mk {l : PySem.W.OpenLaw} {w : World} {K : PySem.W.Frag} {h : Heap} {mg : Str → Option Value} {fa f_divisor f_fraction f_plus f_is_less f_is_whole f_is_name f_is_number f_are_rising f_are_things f_are_of f_is_one f_are_folk_of f_need_things f_need_folk f_names_of f_shares_of f_left_of f_would_pay f_left f_asked f__law_well f__law_take f__law_frac f__law_plus f__law_less f__law_things f__law_one f__law_folk f__law_shares f__law_lots f__law_glad f__law_greatest f__law_said f__law_drawn_order f__law_asked f__law_better f_law : Addr} (X : K.In h) (G : h.Ns mainGlobals mg) (hfa : mg "law" = some (.ref fa))
    {od_divisor an_divisor : Option Addr} {sl_divisor : Array (Option Value)} {oc_divisor kV_divisor dc_divisor pm_divisor cd_divisor ct_divisor : Value}
    (a_divisor : PySem.W.nsIn K mainGlobals "divisor" = some (some (.ref f_divisor))) (l_divisor : K.lookup f_divisor = some ⟨oc_divisor, od_divisor, .func (PySem.W.fnOf "divisor" "divisor" (defArgs s_divisor) (defBody s_divisor) (defScope s_divisor) .none kV_divisor dc_divisor pm_divisor an_divisor cd_divisor ct_divisor), sl_divisor⟩) (c_divisor : PySem.W.codeIn K cd_divisor "divisor" = true) (k_divisor : PySem.W.keepIn K (.ref f_divisor) = true)
    {od_fraction an_fraction : Option Addr} {sl_fraction : Array (Option Value)} {oc_fraction kV_fraction dc_fraction pm_fraction cd_fraction ct_fraction : Value}
    (a_fraction : PySem.W.nsIn K mainGlobals "fraction" = some (some (.ref f_fraction))) (l_fraction : K.lookup f_fraction = some ⟨oc_fraction, od_fraction, .func (PySem.W.fnOf "fraction" "fraction" (defArgs s_fraction) (defBody s_fraction) (defScope s_fraction) .none kV_fraction dc_fraction pm_fraction an_fraction cd_fraction ct_fraction), sl_fraction⟩) (c_fraction : PySem.W.codeIn K cd_fraction "fraction" = true) (k_fraction : PySem.W.keepIn K (.ref f_fraction) = true)
    {od_plus an_plus : Option Addr} {sl_plus : Array (Option Value)} {oc_plus kV_plus dc_plus pm_plus cd_plus ct_plus : Value}
    (a_plus : PySem.W.nsIn K mainGlobals "plus" = some (some (.ref f_plus))) (l_plus : K.lookup f_plus = some ⟨oc_plus, od_plus, .func (PySem.W.fnOf "plus" "plus" (defArgs s_plus) (defBody s_plus) (defScope s_plus) .none kV_plus dc_plus pm_plus an_plus cd_plus ct_plus), sl_plus⟩) (c_plus : PySem.W.codeIn K cd_plus "plus" = true) (k_plus : PySem.W.keepIn K (.ref f_plus) = true)
    {od_is_less an_is_less : Option Addr} {sl_is_less : Array (Option Value)} {oc_is_less kV_is_less dc_is_less pm_is_less cd_is_less ct_is_less : Value}
    (a_is_less : PySem.W.nsIn K mainGlobals "is_less" = some (some (.ref f_is_less))) (l_is_less : K.lookup f_is_less = some ⟨oc_is_less, od_is_less, .func (PySem.W.fnOf "is_less" "is_less" (defArgs s_is_less) (defBody s_is_less) (defScope s_is_less) .none kV_is_less dc_is_less pm_is_less an_is_less cd_is_less ct_is_less), sl_is_less⟩) (c_is_less : PySem.W.codeIn K cd_is_less "is_less" = true) (k_is_less : PySem.W.keepIn K (.ref f_is_less) = true)
    {od_is_whole an_is_whole : Option Addr} {sl_is_whole : Array (Option Value)} {oc_is_whole kV_is_whole dc_is_whole pm_is_whole cd_is_whole ct_is_whole : Value}
    (a_is_whole : PySem.W.nsIn K mainGlobals "is_whole" = some (some (.ref f_is_whole))) (l_is_whole : K.lookup f_is_whole = some ⟨oc_is_whole, od_is_whole, .func (PySem.W.fnOf "is_whole" "is_whole" (defArgs s_is_whole) (defBody s_is_whole) (defScope s_is_whole) .none kV_is_whole dc_is_whole pm_is_whole an_is_whole cd_is_whole ct_is_whole), sl_is_whole⟩) (c_is_whole : PySem.W.codeIn K cd_is_whole "is_whole" = true) (k_is_whole : PySem.W.keepIn K (.ref f_is_whole) = true)
    {od_is_name an_is_name : Option Addr} {sl_is_name : Array (Option Value)} {oc_is_name kV_is_name dc_is_name pm_is_name cd_is_name ct_is_name : Value}
    (a_is_name : PySem.W.nsIn K mainGlobals "is_name" = some (some (.ref f_is_name))) (l_is_name : K.lookup f_is_name = some ⟨oc_is_name, od_is_name, .func (PySem.W.fnOf "is_name" "is_name" (defArgs s_is_name) (defBody s_is_name) (defScope s_is_name) .none kV_is_name dc_is_name pm_is_name an_is_name cd_is_name ct_is_name), sl_is_name⟩) (c_is_name : PySem.W.codeIn K cd_is_name "is_name" = true) (k_is_name : PySem.W.keepIn K (.ref f_is_name) = true)
    {od_is_number an_is_number : Option Addr} {sl_is_number : Array (Option Value)} {oc_is_number kV_is_number dc_is_number pm_is_number cd_is_number ct_is_number : Value}
    (a_is_number : PySem.W.nsIn K mainGlobals "is_number" = some (some (.ref f_is_number))) (l_is_number : K.lookup f_is_number = some ⟨oc_is_number, od_is_number, .func (PySem.W.fnOf "is_number" "is_number" (defArgs s_is_number) (defBody s_is_number) (defScope s_is_number) .none kV_is_number dc_is_number pm_is_number an_is_number cd_is_number ct_is_number), sl_is_number⟩) (c_is_number : PySem.W.codeIn K cd_is_number "is_number" = true) (k_is_number : PySem.W.keepIn K (.ref f_is_number) = true)
    {od_are_rising an_are_rising : Option Addr} {sl_are_rising : Array (Option Value)} {oc_are_rising kV_are_rising dc_are_rising pm_are_rising cd_are_rising ct_are_rising : Value}
    (a_are_rising : PySem.W.nsIn K mainGlobals "are_rising" = some (some (.ref f_are_rising))) (l_are_rising : K.lookup f_are_rising = some ⟨oc_are_rising, od_are_rising, .func (PySem.W.fnOf "are_rising" "are_rising" (defArgs s_are_rising) (defBody s_are_rising) (defScope s_are_rising) .none kV_are_rising dc_are_rising pm_are_rising an_are_rising cd_are_rising ct_are_rising), sl_are_rising⟩) (c_are_rising : PySem.W.codeIn K cd_are_rising "are_rising" = true) (k_are_rising : PySem.W.keepIn K (.ref f_are_rising) = true)
    {od_are_things an_are_things : Option Addr} {sl_are_things : Array (Option Value)} {oc_are_things kV_are_things dc_are_things pm_are_things cd_are_things ct_are_things : Value}
    (a_are_things : PySem.W.nsIn K mainGlobals "are_things" = some (some (.ref f_are_things))) (l_are_things : K.lookup f_are_things = some ⟨oc_are_things, od_are_things, .func (PySem.W.fnOf "are_things" "are_things" (defArgs s_are_things) (defBody s_are_things) (defScope s_are_things) .none kV_are_things dc_are_things pm_are_things an_are_things cd_are_things ct_are_things), sl_are_things⟩) (c_are_things : PySem.W.codeIn K cd_are_things "are_things" = true) (k_are_things : PySem.W.keepIn K (.ref f_are_things) = true)
    {od_are_of an_are_of : Option Addr} {sl_are_of : Array (Option Value)} {oc_are_of kV_are_of dc_are_of pm_are_of cd_are_of ct_are_of : Value}
    (a_are_of : PySem.W.nsIn K mainGlobals "are_of" = some (some (.ref f_are_of))) (l_are_of : K.lookup f_are_of = some ⟨oc_are_of, od_are_of, .func (PySem.W.fnOf "are_of" "are_of" (defArgs s_are_of) (defBody s_are_of) (defScope s_are_of) .none kV_are_of dc_are_of pm_are_of an_are_of cd_are_of ct_are_of), sl_are_of⟩) (c_are_of : PySem.W.codeIn K cd_are_of "are_of" = true) (k_are_of : PySem.W.keepIn K (.ref f_are_of) = true)
    {od_is_one an_is_one : Option Addr} {sl_is_one : Array (Option Value)} {oc_is_one kV_is_one dc_is_one pm_is_one cd_is_one ct_is_one : Value}
    (a_is_one : PySem.W.nsIn K mainGlobals "is_one" = some (some (.ref f_is_one))) (l_is_one : K.lookup f_is_one = some ⟨oc_is_one, od_is_one, .func (PySem.W.fnOf "is_one" "is_one" (defArgs s_is_one) (defBody s_is_one) (defScope s_is_one) .none kV_is_one dc_is_one pm_is_one an_is_one cd_is_one ct_is_one), sl_is_one⟩) (c_is_one : PySem.W.codeIn K cd_is_one "is_one" = true) (k_is_one : PySem.W.keepIn K (.ref f_is_one) = true)
    {od_are_folk_of an_are_folk_of : Option Addr} {sl_are_folk_of : Array (Option Value)} {oc_are_folk_of kV_are_folk_of dc_are_folk_of pm_are_folk_of cd_are_folk_of ct_are_folk_of : Value}
    (a_are_folk_of : PySem.W.nsIn K mainGlobals "are_folk_of" = some (some (.ref f_are_folk_of))) (l_are_folk_of : K.lookup f_are_folk_of = some ⟨oc_are_folk_of, od_are_folk_of, .func (PySem.W.fnOf "are_folk_of" "are_folk_of" (defArgs s_are_folk_of) (defBody s_are_folk_of) (defScope s_are_folk_of) .none kV_are_folk_of dc_are_folk_of pm_are_folk_of an_are_folk_of cd_are_folk_of ct_are_folk_of), sl_are_folk_of⟩) (c_are_folk_of : PySem.W.codeIn K cd_are_folk_of "are_folk_of" = true) (k_are_folk_of : PySem.W.keepIn K (.ref f_are_folk_of) = true)
    {od_need_things an_need_things : Option Addr} {sl_need_things : Array (Option Value)} {oc_need_things kV_need_things dc_need_things pm_need_things cd_need_things ct_need_things : Value}
    (a_need_things : PySem.W.nsIn K mainGlobals "need_things" = some (some (.ref f_need_things))) (l_need_things : K.lookup f_need_things = some ⟨oc_need_things, od_need_things, .func (PySem.W.fnOf "need_things" "need_things" (defArgs s_need_things) (defBody s_need_things) (defScope s_need_things) .none kV_need_things dc_need_things pm_need_things an_need_things cd_need_things ct_need_things), sl_need_things⟩) (c_need_things : PySem.W.codeIn K cd_need_things "need_things" = true) (k_need_things : PySem.W.keepIn K (.ref f_need_things) = true)
    {od_need_folk an_need_folk : Option Addr} {sl_need_folk : Array (Option Value)} {oc_need_folk kV_need_folk dc_need_folk pm_need_folk cd_need_folk ct_need_folk : Value}
    (a_need_folk : PySem.W.nsIn K mainGlobals "need_folk" = some (some (.ref f_need_folk))) (l_need_folk : K.lookup f_need_folk = some ⟨oc_need_folk, od_need_folk, .func (PySem.W.fnOf "need_folk" "need_folk" (defArgs s_need_folk) (defBody s_need_folk) (defScope s_need_folk) .none kV_need_folk dc_need_folk pm_need_folk an_need_folk cd_need_folk ct_need_folk), sl_need_folk⟩) (c_need_folk : PySem.W.codeIn K cd_need_folk "need_folk" = true) (k_need_folk : PySem.W.keepIn K (.ref f_need_folk) = true)
    {od_names_of an_names_of : Option Addr} {sl_names_of : Array (Option Value)} {oc_names_of kV_names_of dc_names_of pm_names_of cd_names_of ct_names_of : Value}
    (a_names_of : PySem.W.nsIn K mainGlobals "names_of" = some (some (.ref f_names_of))) (l_names_of : K.lookup f_names_of = some ⟨oc_names_of, od_names_of, .func (PySem.W.fnOf "names_of" "names_of" (defArgs s_names_of) (defBody s_names_of) (defScope s_names_of) .none kV_names_of dc_names_of pm_names_of an_names_of cd_names_of ct_names_of), sl_names_of⟩) (c_names_of : PySem.W.codeIn K cd_names_of "names_of" = true) (k_names_of : PySem.W.keepIn K (.ref f_names_of) = true)
    {od_shares_of an_shares_of : Option Addr} {sl_shares_of : Array (Option Value)} {oc_shares_of kV_shares_of dc_shares_of pm_shares_of cd_shares_of ct_shares_of : Value}
    (a_shares_of : PySem.W.nsIn K mainGlobals "shares_of" = some (some (.ref f_shares_of))) (l_shares_of : K.lookup f_shares_of = some ⟨oc_shares_of, od_shares_of, .func (PySem.W.fnOf "shares_of" "shares_of" (defArgs s_shares_of) (defBody s_shares_of) (defScope s_shares_of) .none kV_shares_of dc_shares_of pm_shares_of an_shares_of cd_shares_of ct_shares_of), sl_shares_of⟩) (c_shares_of : PySem.W.codeIn K cd_shares_of "shares_of" = true) (k_shares_of : PySem.W.keepIn K (.ref f_shares_of) = true)
    {od_left_of an_left_of : Option Addr} {sl_left_of : Array (Option Value)} {oc_left_of kV_left_of dc_left_of pm_left_of cd_left_of ct_left_of : Value}
    (a_left_of : PySem.W.nsIn K mainGlobals "left_of" = some (some (.ref f_left_of))) (l_left_of : K.lookup f_left_of = some ⟨oc_left_of, od_left_of, .func (PySem.W.fnOf "left_of" "left_of" (defArgs s_left_of) (defBody s_left_of) (defScope s_left_of) .none kV_left_of dc_left_of pm_left_of an_left_of cd_left_of ct_left_of), sl_left_of⟩) (c_left_of : PySem.W.codeIn K cd_left_of "left_of" = true) (k_left_of : PySem.W.keepIn K (.ref f_left_of) = true)
    {od_would_pay an_would_pay : Option Addr} {sl_would_pay : Array (Option Value)} {oc_would_pay kV_would_pay dc_would_pay pm_would_pay cd_would_pay ct_would_pay : Value}
    (a_would_pay : PySem.W.nsIn K mainGlobals "would_pay" = some (some (.ref f_would_pay))) (l_would_pay : K.lookup f_would_pay = some ⟨oc_would_pay, od_would_pay, .func (PySem.W.fnOf "would_pay" "would_pay" (defArgs s_would_pay) (defBody s_would_pay) (defScope s_would_pay) .none kV_would_pay dc_would_pay pm_would_pay an_would_pay cd_would_pay ct_would_pay), sl_would_pay⟩) (c_would_pay : PySem.W.codeIn K cd_would_pay "would_pay" = true) (k_would_pay : PySem.W.keepIn K (.ref f_would_pay) = true)
    {od_left an_left : Option Addr} {sl_left : Array (Option Value)} {oc_left kV_left dc_left pm_left cd_left ct_left : Value}
    (a_left : PySem.W.nsIn K mainGlobals "left" = some (some (.ref f_left))) (l_left : K.lookup f_left = some ⟨oc_left, od_left, .func (PySem.W.fnOf "left" "left" (defArgs s_left) (defBody s_left) (defScope s_left) .none kV_left dc_left pm_left an_left cd_left ct_left), sl_left⟩) (c_left : PySem.W.codeIn K cd_left "left" = true) (k_left : PySem.W.keepIn K (.ref f_left) = true)
    {od_asked an_asked : Option Addr} {sl_asked : Array (Option Value)} {oc_asked kV_asked dc_asked pm_asked cd_asked ct_asked : Value}
    (a_asked : PySem.W.nsIn K mainGlobals "asked" = some (some (.ref f_asked))) (l_asked : K.lookup f_asked = some ⟨oc_asked, od_asked, .func (PySem.W.fnOf "asked" "asked" (defArgs s_asked) (defBody s_asked) (defScope s_asked) .none kV_asked dc_asked pm_asked an_asked cd_asked ct_asked), sl_asked⟩) (c_asked : PySem.W.codeIn K cd_asked "asked" = true) (k_asked : PySem.W.keepIn K (.ref f_asked) = true)
    {od__law_well an__law_well : Option Addr} {sl__law_well : Array (Option Value)} {oc__law_well kV__law_well dc__law_well pm__law_well cd__law_well ct__law_well : Value}
    (a__law_well : PySem.W.nsIn K mainGlobals "_law_well" = some (some (.ref f__law_well))) (l__law_well : K.lookup f__law_well = some ⟨oc__law_well, od__law_well, .func (PySem.W.fnOf "_law_well" "_law_well" (defArgs s__law_well) (defBody s__law_well) (defScope s__law_well) .none kV__law_well dc__law_well pm__law_well an__law_well cd__law_well ct__law_well), sl__law_well⟩) (c__law_well : PySem.W.codeIn K cd__law_well "_law_well" = true) (k__law_well : PySem.W.keepIn K (.ref f__law_well) = true)
    {od__law_take an__law_take : Option Addr} {sl__law_take : Array (Option Value)} {oc__law_take kV__law_take dc__law_take pm__law_take cd__law_take ct__law_take : Value}
    (a__law_take : PySem.W.nsIn K mainGlobals "_law_take" = some (some (.ref f__law_take))) (l__law_take : K.lookup f__law_take = some ⟨oc__law_take, od__law_take, .func (PySem.W.fnOf "_law_take" "_law_take" (defArgs s__law_take) (defBody s__law_take) (defScope s__law_take) .none kV__law_take dc__law_take pm__law_take an__law_take cd__law_take ct__law_take), sl__law_take⟩) (c__law_take : PySem.W.codeIn K cd__law_take "_law_take" = true) (k__law_take : PySem.W.keepIn K (.ref f__law_take) = true)
    {od__law_frac an__law_frac : Option Addr} {sl__law_frac : Array (Option Value)} {oc__law_frac kV__law_frac dc__law_frac pm__law_frac cd__law_frac ct__law_frac : Value}
    (a__law_frac : PySem.W.nsIn K mainGlobals "_law_frac" = some (some (.ref f__law_frac))) (l__law_frac : K.lookup f__law_frac = some ⟨oc__law_frac, od__law_frac, .func (PySem.W.fnOf "_law_frac" "_law_frac" (defArgs s__law_frac) (defBody s__law_frac) (defScope s__law_frac) .none kV__law_frac dc__law_frac pm__law_frac an__law_frac cd__law_frac ct__law_frac), sl__law_frac⟩) (c__law_frac : PySem.W.codeIn K cd__law_frac "_law_frac" = true) (k__law_frac : PySem.W.keepIn K (.ref f__law_frac) = true)
    {od__law_plus an__law_plus : Option Addr} {sl__law_plus : Array (Option Value)} {oc__law_plus kV__law_plus dc__law_plus pm__law_plus cd__law_plus ct__law_plus : Value}
    (a__law_plus : PySem.W.nsIn K mainGlobals "_law_plus" = some (some (.ref f__law_plus))) (l__law_plus : K.lookup f__law_plus = some ⟨oc__law_plus, od__law_plus, .func (PySem.W.fnOf "_law_plus" "_law_plus" (defArgs s__law_plus) (defBody s__law_plus) (defScope s__law_plus) .none kV__law_plus dc__law_plus pm__law_plus an__law_plus cd__law_plus ct__law_plus), sl__law_plus⟩) (c__law_plus : PySem.W.codeIn K cd__law_plus "_law_plus" = true) (k__law_plus : PySem.W.keepIn K (.ref f__law_plus) = true)
    {od__law_less an__law_less : Option Addr} {sl__law_less : Array (Option Value)} {oc__law_less kV__law_less dc__law_less pm__law_less cd__law_less ct__law_less : Value}
    (a__law_less : PySem.W.nsIn K mainGlobals "_law_less" = some (some (.ref f__law_less))) (l__law_less : K.lookup f__law_less = some ⟨oc__law_less, od__law_less, .func (PySem.W.fnOf "_law_less" "_law_less" (defArgs s__law_less) (defBody s__law_less) (defScope s__law_less) .none kV__law_less dc__law_less pm__law_less an__law_less cd__law_less ct__law_less), sl__law_less⟩) (c__law_less : PySem.W.codeIn K cd__law_less "_law_less" = true) (k__law_less : PySem.W.keepIn K (.ref f__law_less) = true)
    {od__law_things an__law_things : Option Addr} {sl__law_things : Array (Option Value)} {oc__law_things kV__law_things dc__law_things pm__law_things cd__law_things ct__law_things : Value}
    (a__law_things : PySem.W.nsIn K mainGlobals "_law_things" = some (some (.ref f__law_things))) (l__law_things : K.lookup f__law_things = some ⟨oc__law_things, od__law_things, .func (PySem.W.fnOf "_law_things" "_law_things" (defArgs s__law_things) (defBody s__law_things) (defScope s__law_things) .none kV__law_things dc__law_things pm__law_things an__law_things cd__law_things ct__law_things), sl__law_things⟩) (c__law_things : PySem.W.codeIn K cd__law_things "_law_things" = true) (k__law_things : PySem.W.keepIn K (.ref f__law_things) = true)
    {od__law_one an__law_one : Option Addr} {sl__law_one : Array (Option Value)} {oc__law_one kV__law_one dc__law_one pm__law_one cd__law_one ct__law_one : Value}
    (a__law_one : PySem.W.nsIn K mainGlobals "_law_one" = some (some (.ref f__law_one))) (l__law_one : K.lookup f__law_one = some ⟨oc__law_one, od__law_one, .func (PySem.W.fnOf "_law_one" "_law_one" (defArgs s__law_one) (defBody s__law_one) (defScope s__law_one) .none kV__law_one dc__law_one pm__law_one an__law_one cd__law_one ct__law_one), sl__law_one⟩) (c__law_one : PySem.W.codeIn K cd__law_one "_law_one" = true) (k__law_one : PySem.W.keepIn K (.ref f__law_one) = true)
    {od__law_folk an__law_folk : Option Addr} {sl__law_folk : Array (Option Value)} {oc__law_folk kV__law_folk dc__law_folk pm__law_folk cd__law_folk ct__law_folk : Value}
    (a__law_folk : PySem.W.nsIn K mainGlobals "_law_folk" = some (some (.ref f__law_folk))) (l__law_folk : K.lookup f__law_folk = some ⟨oc__law_folk, od__law_folk, .func (PySem.W.fnOf "_law_folk" "_law_folk" (defArgs s__law_folk) (defBody s__law_folk) (defScope s__law_folk) .none kV__law_folk dc__law_folk pm__law_folk an__law_folk cd__law_folk ct__law_folk), sl__law_folk⟩) (c__law_folk : PySem.W.codeIn K cd__law_folk "_law_folk" = true) (k__law_folk : PySem.W.keepIn K (.ref f__law_folk) = true)
    {od__law_shares an__law_shares : Option Addr} {sl__law_shares : Array (Option Value)} {oc__law_shares kV__law_shares dc__law_shares pm__law_shares cd__law_shares ct__law_shares : Value}
    (a__law_shares : PySem.W.nsIn K mainGlobals "_law_shares" = some (some (.ref f__law_shares))) (l__law_shares : K.lookup f__law_shares = some ⟨oc__law_shares, od__law_shares, .func (PySem.W.fnOf "_law_shares" "_law_shares" (defArgs s__law_shares) (defBody s__law_shares) (defScope s__law_shares) .none kV__law_shares dc__law_shares pm__law_shares an__law_shares cd__law_shares ct__law_shares), sl__law_shares⟩) (c__law_shares : PySem.W.codeIn K cd__law_shares "_law_shares" = true) (k__law_shares : PySem.W.keepIn K (.ref f__law_shares) = true)
    {od__law_lots an__law_lots : Option Addr} {sl__law_lots : Array (Option Value)} {oc__law_lots kV__law_lots dc__law_lots pm__law_lots cd__law_lots ct__law_lots : Value}
    (a__law_lots : PySem.W.nsIn K mainGlobals "_law_lots" = some (some (.ref f__law_lots))) (l__law_lots : K.lookup f__law_lots = some ⟨oc__law_lots, od__law_lots, .func (PySem.W.fnOf "_law_lots" "_law_lots" (defArgs s__law_lots) (defBody s__law_lots) (defScope s__law_lots) .none kV__law_lots dc__law_lots pm__law_lots an__law_lots cd__law_lots ct__law_lots), sl__law_lots⟩) (c__law_lots : PySem.W.codeIn K cd__law_lots "_law_lots" = true) (k__law_lots : PySem.W.keepIn K (.ref f__law_lots) = true)
    {od__law_glad an__law_glad : Option Addr} {sl__law_glad : Array (Option Value)} {oc__law_glad kV__law_glad dc__law_glad pm__law_glad cd__law_glad ct__law_glad : Value}
    (a__law_glad : PySem.W.nsIn K mainGlobals "_law_glad" = some (some (.ref f__law_glad))) (l__law_glad : K.lookup f__law_glad = some ⟨oc__law_glad, od__law_glad, .func (PySem.W.fnOf "_law_glad" "_law_glad" (defArgs s__law_glad) (defBody s__law_glad) (defScope s__law_glad) .none kV__law_glad dc__law_glad pm__law_glad an__law_glad cd__law_glad ct__law_glad), sl__law_glad⟩) (c__law_glad : PySem.W.codeIn K cd__law_glad "_law_glad" = true) (k__law_glad : PySem.W.keepIn K (.ref f__law_glad) = true)
    {od__law_greatest an__law_greatest : Option Addr} {sl__law_greatest : Array (Option Value)} {oc__law_greatest kV__law_greatest dc__law_greatest pm__law_greatest cd__law_greatest ct__law_greatest : Value}
    (a__law_greatest : PySem.W.nsIn K mainGlobals "_law_greatest" = some (some (.ref f__law_greatest))) (l__law_greatest : K.lookup f__law_greatest = some ⟨oc__law_greatest, od__law_greatest, .func (PySem.W.fnOf "_law_greatest" "_law_greatest" (defArgs s__law_greatest) (defBody s__law_greatest) (defScope s__law_greatest) .none kV__law_greatest dc__law_greatest pm__law_greatest an__law_greatest cd__law_greatest ct__law_greatest), sl__law_greatest⟩) (c__law_greatest : PySem.W.codeIn K cd__law_greatest "_law_greatest" = true) (k__law_greatest : PySem.W.keepIn K (.ref f__law_greatest) = true)
    {od__law_said an__law_said : Option Addr} {sl__law_said : Array (Option Value)} {oc__law_said kV__law_said dc__law_said pm__law_said cd__law_said ct__law_said : Value}
    (a__law_said : PySem.W.nsIn K mainGlobals "_law_said" = some (some (.ref f__law_said))) (l__law_said : K.lookup f__law_said = some ⟨oc__law_said, od__law_said, .func (PySem.W.fnOf "_law_said" "_law_said" (defArgs s__law_said) (defBody s__law_said) (defScope s__law_said) .none kV__law_said dc__law_said pm__law_said an__law_said cd__law_said ct__law_said), sl__law_said⟩) (c__law_said : PySem.W.codeIn K cd__law_said "_law_said" = true) (k__law_said : PySem.W.keepIn K (.ref f__law_said) = true)
    {od__law_drawn_order an__law_drawn_order : Option Addr} {sl__law_drawn_order : Array (Option Value)} {oc__law_drawn_order kV__law_drawn_order dc__law_drawn_order pm__law_drawn_order cd__law_drawn_order ct__law_drawn_order : Value}
    (a__law_drawn_order : PySem.W.nsIn K mainGlobals "_law_drawn_order" = some (some (.ref f__law_drawn_order))) (l__law_drawn_order : K.lookup f__law_drawn_order = some ⟨oc__law_drawn_order, od__law_drawn_order, .func (PySem.W.fnOf "_law_drawn_order" "_law_drawn_order" (defArgs s__law_drawn_order) (defBody s__law_drawn_order) (defScope s__law_drawn_order) .none kV__law_drawn_order dc__law_drawn_order pm__law_drawn_order an__law_drawn_order cd__law_drawn_order ct__law_drawn_order), sl__law_drawn_order⟩) (c__law_drawn_order : PySem.W.codeIn K cd__law_drawn_order "_law_drawn_order" = true) (k__law_drawn_order : PySem.W.keepIn K (.ref f__law_drawn_order) = true)
    {od__law_asked an__law_asked : Option Addr} {sl__law_asked : Array (Option Value)} {oc__law_asked kV__law_asked dc__law_asked pm__law_asked cd__law_asked ct__law_asked : Value}
    (a__law_asked : PySem.W.nsIn K mainGlobals "_law_asked" = some (some (.ref f__law_asked))) (l__law_asked : K.lookup f__law_asked = some ⟨oc__law_asked, od__law_asked, .func (PySem.W.fnOf "_law_asked" "_law_asked" (defArgs s__law_asked) (defBody s__law_asked) (defScope s__law_asked) .none kV__law_asked dc__law_asked pm__law_asked an__law_asked cd__law_asked ct__law_asked), sl__law_asked⟩) (c__law_asked : PySem.W.codeIn K cd__law_asked "_law_asked" = true) (k__law_asked : PySem.W.keepIn K (.ref f__law_asked) = true)
    {od__law_better an__law_better : Option Addr} {sl__law_better : Array (Option Value)} {oc__law_better kV__law_better dc__law_better pm__law_better cd__law_better ct__law_better : Value}
    (a__law_better : PySem.W.nsIn K mainGlobals "_law_better" = some (some (.ref f__law_better))) (l__law_better : K.lookup f__law_better = some ⟨oc__law_better, od__law_better, .func (PySem.W.fnOf "_law_better" "_law_better" (defArgs s__law_better) (defBody s__law_better) (defScope s__law_better) .none kV__law_better dc__law_better pm__law_better an__law_better cd__law_better ct__law_better), sl__law_better⟩) (c__law_better : PySem.W.codeIn K cd__law_better "_law_better" = true) (k__law_better : PySem.W.keepIn K (.ref f__law_better) = true)
    {od_law an_law : Option Addr} {sl_law : Array (Option Value)} {oc_law kV_law dc_law pm_law cd_law ct_law : Value}
    (a_law : PySem.W.nsIn K mainGlobals "law" = some (some (.ref f_law))) (l_law : K.lookup f_law = some ⟨oc_law, od_law, .func (PySem.W.fnOf "law" "law" (defArgs s_law) (defBody s_law) (defScope s_law) .none kV_law dc_law pm_law an_law cd_law ct_law), sl_law⟩) (c_law : PySem.W.codeIn K cd_law "law" = true) (k_law : PySem.W.keepIn K (.ref f_law) = true)
    (z_abs : PySem.W.nsIn K mainGlobals "abs" = some none)
    (z_all : PySem.W.nsIn K mainGlobals "all" = some none)
    (z_bool : PySem.W.nsIn K mainGlobals "bool" = some none)
    (z_int : PySem.W.nsIn K mainGlobals "int" = some none)
    (z_isinstance : PySem.W.nsIn K mainGlobals "isinstance" = some none)
    (z_len : PySem.W.nsIn K mainGlobals "len" = some none)
    (z_list : PySem.W.nsIn K mainGlobals "list" = some none)
    (z_max : PySem.W.nsIn K mainGlobals "max" = some none)
    (z_min : PySem.W.nsIn K mainGlobals "min" = some none)
    (z_range : PySem.W.nsIn K mainGlobals "range" = some none)
    (z_sorted : PySem.W.nsIn K mainGlobals "sorted" = some none)
    (z_str : PySem.W.nsIn K mainGlobals "str" = some none)
    (z_sum : PySem.W.nsIn K mainGlobals "sum" = some none)
    (z_tuple : PySem.W.nsIn K mainGlobals "tuple" = some none)
    {s1_LETTERS : Tok} (g_LETTERS : PySem.W.nsIn K mainGlobals "LETTERS" = some (some (.str "abcdefghijklmnopqrstuvwxyz" s1_LETTERS)))
    {s1_MOST : Tok} (g_MOST : PySem.W.nsIn K mainGlobals "MOST" = some (some (.int 8 s1_MOST)))
    {s1_MOST_NUMBER : Tok} (g_MOST_NUMBER : PySem.W.nsIn K mainGlobals "MOST_NUMBER" = some (some (.int 1000 s1_MOST_NUMBER)))
    {s1_MOST_WEIGHT : Tok} (g_MOST_WEIGHT : PySem.W.nsIn K mainGlobals "MOST_WEIGHT" = some (some (.int 9 s1_MOST_WEIGHT)))
    {f_NOUGHT : Addr} {s1_NOUGHT s2_NOUGHT : Tok} {n_NOUGHT : Nat} {sl_NOUGHT : Array (Option Value)} (g_NOUGHT : PySem.W.nsIn K mainGlobals "NOUGHT" = some (some (.ref f_NOUGHT))) (m_NOUGHT : K.lookup f_NOUGHT = some ⟨.type "tuple", none, .seq #[.int 0 s1_NOUGHT, .int 1 s2_NOUGHT] n_NOUGHT, sl_NOUGHT⟩)
    : ∃ fd : FuncData, (∀ (s : Shared) (u : Value), BindsTo s fd ⟨[u], []⟩ [("script", u)]) ∧ ∀ base : Heap, K.In base → base.Ns mainGlobals mg → FnOk l.prog w K mg base CX0 7 fa fd ["script"] (spLaw K) := by
  have e := hfa.symm.trans (PySem.W.mg_of X G a_law)
  cases e
  have F_divisor := fun_mk (st := s_divisor) l_divisor c_divisor k_divisor
  have F_fraction := fun_mk (st := s_fraction) l_fraction c_fraction k_fraction
  have F_plus := fun_mk (st := s_plus) l_plus c_plus k_plus
  have F_is_less := fun_mk (st := s_is_less) l_is_less c_is_less k_is_less
  have F_is_whole := fun_mk (st := s_is_whole) l_is_whole c_is_whole k_is_whole
  have F_is_name := fun_mk (st := s_is_name) l_is_name c_is_name k_is_name
  have F_is_number := fun_mk (st := s_is_number) l_is_number c_is_number k_is_number
  have F_are_rising := fun_mk (st := s_are_rising) l_are_rising c_are_rising k_are_rising
  have F_are_things := fun_mk (st := s_are_things) l_are_things c_are_things k_are_things
  have F_are_of := fun_mk (st := s_are_of) l_are_of c_are_of k_are_of
  have F_is_one := fun_mk (st := s_is_one) l_is_one c_is_one k_is_one
  have F_are_folk_of := fun_mk (st := s_are_folk_of) l_are_folk_of c_are_folk_of k_are_folk_of
  have F_need_things := fun_mk (st := s_need_things) l_need_things c_need_things k_need_things
  have F_need_folk := fun_mk (st := s_need_folk) l_need_folk c_need_folk k_need_folk
  have F_names_of := fun_mk (st := s_names_of) l_names_of c_names_of k_names_of
  have F_shares_of := fun_mk (st := s_shares_of) l_shares_of c_shares_of k_shares_of
  have F_left_of := fun_mk (st := s_left_of) l_left_of c_left_of k_left_of
  have F_would_pay := fun_mk (st := s_would_pay) l_would_pay c_would_pay k_would_pay
  have F_left := fun_mk (st := s_left) l_left c_left k_left
  have F_asked := fun_mk (st := s_asked) l_asked c_asked k_asked
  have F__law_well := fun_mk (st := s__law_well) l__law_well c__law_well k__law_well
  have F__law_take := fun_mk (st := s__law_take) l__law_take c__law_take k__law_take
  have F__law_frac := fun_mk (st := s__law_frac) l__law_frac c__law_frac k__law_frac
  have F__law_plus := fun_mk (st := s__law_plus) l__law_plus c__law_plus k__law_plus
  have F__law_less := fun_mk (st := s__law_less) l__law_less c__law_less k__law_less
  have F__law_things := fun_mk (st := s__law_things) l__law_things c__law_things k__law_things
  have F__law_one := fun_mk (st := s__law_one) l__law_one c__law_one k__law_one
  have F__law_folk := fun_mk (st := s__law_folk) l__law_folk c__law_folk k__law_folk
  have F__law_shares := fun_mk (st := s__law_shares) l__law_shares c__law_shares k__law_shares
  have F__law_lots := fun_mk (st := s__law_lots) l__law_lots c__law_lots k__law_lots
  have F__law_glad := fun_mk (st := s__law_glad) l__law_glad c__law_glad k__law_glad
  have F__law_greatest := fun_mk (st := s__law_greatest) l__law_greatest c__law_greatest k__law_greatest
  have F__law_said := fun_mk (st := s__law_said) l__law_said c__law_said k__law_said
  have F__law_drawn_order := fun_mk (st := s__law_drawn_order) l__law_drawn_order c__law_drawn_order k__law_drawn_order
  have F__law_asked := fun_mk (st := s__law_asked) l__law_asked c__law_asked k__law_asked
  have F__law_better := fun_mk (st := s__law_better) l__law_better c__law_better k__law_better
  have F_law := fun_mk (st := s_law) l_law c_law k_law
  have b_divisor := F_divisor.binds (ps := ["one", "other"]) fun _ _ _ _ _ _ us hl => match us, hl with | [_, _], _ => rfl
  have b_fraction := F_fraction.binds (ps := ["top", "bottom"]) fun _ _ _ _ _ _ us hl => match us, hl with | [_, _], _ => rfl
  have b_plus := F_plus.binds (ps := ["one", "other"]) fun _ _ _ _ _ _ us hl => match us, hl with | [_, _], _ => rfl
  have b_is_less := F_is_less.binds (ps := ["one", "other"]) fun _ _ _ _ _ _ us hl => match us, hl with | [_, _], _ => rfl
  have b_is_whole := F_is_whole.binds (ps := ["thing", "low", "high"]) fun _ _ _ _ _ _ us hl => match us, hl with | [_, _, _], _ => rfl
  have b_is_name := F_is_name.binds (ps := ["thing"]) fun _ _ _ _ _ _ us hl => match us, hl with | [_], _ => rfl
  have b_is_number := F_is_number.binds (ps := ["thing"]) fun _ _ _ _ _ _ us hl => match us, hl with | [_], _ => rfl
  have b_are_rising := F_are_rising.binds (ps := ["some"]) fun _ _ _ _ _ _ us hl => match us, hl with | [_], _ => rfl
  have b_are_things := F_are_things.binds (ps := ["thing"]) fun _ _ _ _ _ _ us hl => match us, hl with | [_], _ => rfl
  have b_are_of := F_are_of.binds (ps := ["names", "thing"]) fun _ _ _ _ _ _ us hl => match us, hl with | [_, _], _ => rfl
  have b_is_one := F_is_one.binds (ps := ["things", "thing"]) fun _ _ _ _ _ _ us hl => match us, hl with | [_, _], _ => rfl
  have b_are_folk_of := F_are_folk_of.binds (ps := ["things", "thing"]) fun _ _ _ _ _ _ us hl => match us, hl with | [_, _], _ => rfl
  have b_need_things := F_need_things.binds (ps := ["things"]) fun _ _ _ _ _ _ us hl => match us, hl with | [_], _ => rfl
  have b_need_folk := F_need_folk.binds (ps := ["things", "folk"]) fun _ _ _ _ _ _ us hl => match us, hl with | [_, _], _ => rfl
  have b_names_of := F_names_of.binds (ps := ["folk"]) fun _ _ _ _ _ _ us hl => match us, hl with | [_], _ => rfl
  have b_shares_of := F_shares_of.binds (ps := ["things", "some"]) fun _ _ _ _ _ _ us hl => match us, hl with | [_, _], _ => rfl
  have b_left_of := F_left_of.binds (ps := ["things", "folk", "more"]) fun _ _ _ _ _ _ us hl => match us, hl with | [_, _, _], _ => rfl
  have b_would_pay := F_would_pay.binds (ps := ["one", "share", "more"]) fun _ _ _ _ _ _ us hl => match us, hl with | [_, _, _], _ => rfl
  have b_left := F_left.binds (ps := ["things", "folk"]) fun _ _ _ _ _ _ us hl => match us, hl with | [_, _], _ => rfl
  have b_asked := F_asked.binds (ps := ["things", "folk", "order"]) fun _ _ _ _ _ _ us hl => match us, hl with | [_, _, _], _ => rfl
  have b__law_well := F__law_well.binds (ps := ["script", "k"]) fun _ _ _ _ _ _ us hl => match us, hl with | [_, _], _ => rfl
  have b__law_take := F__law_take.binds (ps := ["well", "many"]) fun _ _ _ _ _ _ us hl => match us, hl with | [_, _], _ => rfl
  have b__law_frac := F__law_frac.binds (ps := ["top", "bottom"]) fun _ _ _ _ _ _ us hl => match us, hl with | [_, _], _ => rfl
  have b__law_plus := F__law_plus.binds (ps := ["one", "other"]) fun _ _ _ _ _ _ us hl => match us, hl with | [_, _], _ => rfl
  have b__law_less := F__law_less.binds (ps := ["one", "other"]) fun _ _ _ _ _ _ us hl => match us, hl with | [_, _], _ => rfl
  have b__law_things := F__law_things.binds (ps := ["well", "top"]) fun _ _ _ _ _ _ us hl => match us, hl with | [_, _], _ => rfl
  have b__law_one := F__law_one.binds (ps := ["well", "things", "name", "even"]) fun _ _ _ _ _ _ us hl => match us, hl with | [_, _, _, _], _ => rfl
  have b__law_folk := F__law_folk.binds (ps := ["well", "things", "top", "even"]) fun _ _ _ _ _ _ us hl => match us, hl with | [_, _, _, _], _ => rfl
  have b__law_shares := F__law_shares.binds (ps := ["things", "some"]) fun _ _ _ _ _ _ us hl => match us, hl with | [_, _], _ => rfl
  have b__law_lots := F__law_lots.binds (ps := ["folk"]) fun _ _ _ _ _ _ us hl => match us, hl with | [_], _ => rfl
  have b__law_glad := F__law_glad.binds (ps := ["things", "some"]) fun _ _ _ _ _ _ us hl => match us, hl with | [_, _], _ => rfl
  have b__law_greatest := F__law_greatest.binds (ps := ["things", "folk"]) fun _ _ _ _ _ _ us hl => match us, hl with | [_, _], _ => rfl
  have b__law_said := F__law_said.binds (ps := ["folk", "name", "worth"]) fun _ _ _ _ _ _ us hl => match us, hl with | [_, _, _], _ => rfl
  have b__law_drawn_order := F__law_drawn_order.binds (ps := ["well", "folk"]) fun _ _ _ _ _ _ us hl => match us, hl with | [_, _], _ => rfl
  have b__law_asked := F__law_asked.binds (ps := ["things", "folk", "order"]) fun _ _ _ _ _ _ us hl => match us, hl with | [_, _, _], _ => rfl
  have b__law_better := F__law_better.binds (ps := ["well", "things", "folk"]) fun _ _ _ _ _ _ us hl => match us, hl with | [_, _, _], _ => rfl
  have b_law := F_law.binds (ps := ["script"]) fun _ _ _ _ _ _ us hl => match us, hl with | [_], _ => rfl
  have z : Zs K mg := ⟨PySem.W.mg_none_of X G z_abs, PySem.W.mg_none_of X G z_all, PySem.W.mg_none_of X G z_bool, PySem.W.mg_none_of X G z_int, PySem.W.mg_none_of X G z_isinstance, PySem.W.mg_none_of X G z_len, PySem.W.mg_none_of X G z_list, PySem.W.mg_none_of X G z_max, PySem.W.mg_none_of X G z_min, PySem.W.mg_none_of X G z_range, PySem.W.mg_none_of X G z_sorted, PySem.W.mg_none_of X G z_str, PySem.W.mg_none_of X G z_sum, PySem.W.mg_none_of X G z_tuple, lit_str (PySem.W.mg_of X G g_LETTERS), lit_int (PySem.W.mg_of X G g_MOST), lit_int (PySem.W.mg_of X G g_MOST_NUMBER), lit_int (PySem.W.mg_of X G g_MOST_WEIGHT), lit_ii (PySem.W.mg_of X G g_NOUGHT) m_NOUGHT rfl rfl rfl⟩
  refine ⟨PySem.W.fnOf "law" "law" (defArgs s_law) (defBody s_law) (defScope s_law) .none kV_law dc_law pm_law an_law cd_law ct_law, fun s v => .of_eq rfl, fun base _ _ => ?_⟩
  have G_divisor : Has l.prog w K mg base 1 "divisor" ["one", "other"] (spD K mg 2 p_divisor) := ⟨_, _, fn_imp (ok_divisor z F_divisor) pure_divisor, PySem.W.mg_of X G a_divisor, k_divisor, b_divisor⟩
  have G_is_less : Has l.prog w K mg base 1 "is_less" ["one", "other"] (spD K mg 2 p_is_less) := ⟨_, _, fn_imp (ok_is_less z F_is_less) pure_is_less, PySem.W.mg_of X G a_is_less, k_is_less, b_is_less⟩
  have G_is_whole : Has l.prog w K mg base 1 "is_whole" ["thing", "low", "high"] (spD K mg 3 p_is_whole) := ⟨_, _, fn_imp (ok_is_whole z F_is_whole) pure_is_whole, PySem.W.mg_of X G a_is_whole, k_is_whole, b_is_whole⟩
  have G_is_name : Has l.prog w K mg base 1 "is_name" ["thing"] (spD K mg 1 p_is_name) := ⟨_, _, fn_imp (ok_is_name z F_is_name) pure_is_name, PySem.W.mg_of X G a_is_name, k_is_name, b_is_name⟩
  have G_are_rising : Has l.prog w K mg base 1 "are_rising" ["some"] (spD K mg 1 p_are_rising) := ⟨_, _, fn_imp (ok_are_rising z F_are_rising) pure_are_rising, PySem.W.mg_of X G a_are_rising, k_are_rising, b_are_rising⟩
  have G_names_of : Has l.prog w K mg base 1 "names_of" ["folk"] (spD K mg 1 p_names_of) := ⟨_, _, fn_imp (ok_names_of z F_names_of) pure_names_of, PySem.W.mg_of X G a_names_of, k_names_of, b_names_of⟩
  have G__law_well : Has l.prog w K mg base 1 "_law_well" ["script", "k"] (spN K mg 2 p__law_well) := ⟨_, _, fn_impN (ok__law_well z F__law_well) pure__law_well, PySem.W.mg_of X G a__law_well, k__law_well, b__law_well⟩
  have G__law_take : Has l.prog w K mg base 1 "_law_take" ["well", "many"] (spD K mg 2 p__law_take) := ⟨_, _, fn_imp (ok__law_take z F__law_take) pure__law_take, PySem.W.mg_of X G a__law_take, k__law_take, b__law_take⟩
  have G__law_frac : Has l.prog w K mg base 1 "_law_frac" ["top", "bottom"] (spD K mg 2 p__law_frac) := ⟨_, _, fn_imp (ok__law_frac z F__law_frac) pure__law_frac, PySem.W.mg_of X G a__law_frac, k__law_frac, b__law_frac⟩
  have G__law_less : Has l.prog w K mg base 1 "_law_less" ["one", "other"] (spD K mg 2 p__law_less) := ⟨_, _, fn_imp (ok__law_less z F__law_less) pure__law_less, PySem.W.mg_of X G a__law_less, k__law_less, b__law_less⟩
  have G__law_lots : Has l.prog w K mg base 1 "_law_lots" ["folk"] (spD K mg 1 p__law_lots) := ⟨_, _, fn_imp (ok__law_lots z F__law_lots) pure__law_lots, PySem.W.mg_of X G a__law_lots, k__law_lots, b__law_lots⟩
  have G__law_said : Has l.prog w K mg base 1 "_law_said" ["folk", "name", "worth"] (spD K mg 3 p__law_said) := ⟨_, _, fn_imp (ok__law_said z F__law_said) pure__law_said, PySem.W.mg_of X G a__law_said, k__law_said, b__law_said⟩
  have G_fraction : Has l.prog w K mg base 2 "fraction" ["top", "bottom"] (spD K mg 2 p_fraction) := ⟨_, _, fn_imp (ok_fraction z G_divisor F_fraction) pure_fraction, PySem.W.mg_of X G a_fraction, k_fraction, b_fraction⟩
  have G_is_number : Has l.prog w K mg base 2 "is_number" ["thing"] (spD K mg 1 p_is_number) := ⟨_, _, fn_imp (ok_is_number z G_is_whole F_is_number) pure_is_number, PySem.W.mg_of X G a_is_number, k_is_number, b_is_number⟩
  have G_are_of : Has l.prog w K mg base 2 "are_of" ["names", "thing"] (spD K mg 2 p_are_of) := ⟨_, _, fn_imp (ok_are_of z G_are_rising F_are_of) pure_are_of, PySem.W.mg_of X G a_are_of, k_are_of, b_are_of⟩
  have G__law_plus : Has l.prog w K mg base 2 "_law_plus" ["one", "other"] (spD K mg 2 p__law_plus) := ⟨_, _, fn_imp (ok__law_plus z G__law_frac F__law_plus) pure__law_plus, PySem.W.mg_of X G a__law_plus, k__law_plus, b__law_plus⟩
  have G__law_things : Has l.prog w K mg base 2 "_law_things" ["well", "top"] (spD K mg 2 p__law_things) := ⟨_, _, fn_imp (ok__law_things z G__law_take F__law_things) pure__law_things, PySem.W.mg_of X G a__law_things, k__law_things, b__law_things⟩
  have G__law_one : Has l.prog w K mg base 2 "_law_one" ["well", "things", "name", "even"] (spD K mg 4 p__law_one) := ⟨_, _, fn_imp (ok__law_one z G__law_take F__law_one) pure__law_one, PySem.W.mg_of X G a__law_one, k__law_one, b__law_one⟩
  have G__law_drawn_order : Has l.prog w K mg base 2 "_law_drawn_order" ["well", "folk"] (spD K mg 2 p__law_drawn_order) := ⟨_, _, fn_imp (ok__law_drawn_order z G__law_take F__law_drawn_order) pure__law_drawn_order, PySem.W.mg_of X G a__law_drawn_order, k__law_drawn_order, b__law_drawn_order⟩
  have G_plus : Has l.prog w K mg base 3 "plus" ["one", "other"] (spD K mg 2 p_plus) := ⟨_, _, fn_imp (ok_plus z G_fraction F_plus) pure_plus, PySem.W.mg_of X G a_plus, k_plus, b_plus⟩
  have G_are_things : Has l.prog w K mg base 3 "are_things" ["thing"] (spD K mg 1 p_are_things) := ⟨_, _, fn_imp (ok_are_things z G_is_name G_is_number G_are_rising F_are_things) pure_are_things, PySem.W.mg_of X G a_are_things, k_are_things, b_are_things⟩
  have G_is_one : Has l.prog w K mg base 3 "is_one" ["things", "thing"] (spD K mg 2 p_is_one) := ⟨_, _, fn_imp (ok_is_one z G_is_name G_are_of G_is_number G_is_whole F_is_one) pure_is_one, PySem.W.mg_of X G a_is_one, k_is_one, b_is_one⟩
  have G__law_folk : Has l.prog w K mg base 3 "_law_folk" ["well", "things", "top", "even"] (spD K mg 4 p__law_folk) := ⟨_, _, fn_imp (ok__law_folk z G__law_take G__law_one F__law_folk) pure__law_folk, PySem.W.mg_of X G a__law_folk, k__law_folk, b__law_folk⟩
  have G__law_shares : Has l.prog w K mg base 3 "_law_shares" ["things", "some"] (spD K mg 2 p__law_shares) := ⟨_, _, fn_imp (ok__law_shares z G__law_plus G__law_frac F__law_shares) pure__law_shares, PySem.W.mg_of X G a__law_shares, k__law_shares, b__law_shares⟩
  have G__law_better : Has l.prog w K mg base 3 "_law_better" ["well", "things", "folk"] (spD K mg 3 p__law_better) := ⟨_, _, fn_imp (ok__law_better z G__law_take G__law_said G__law_one F__law_better) pure__law_better, PySem.W.mg_of X G a__law_better, k__law_better, b__law_better⟩
  have G_are_folk_of : Has l.prog w K mg base 4 "are_folk_of" ["things", "thing"] (spD K mg 2 p_are_folk_of) := ⟨_, _, fn_imp (ok_are_folk_of z G_is_one G_are_rising F_are_folk_of) pure_are_folk_of, PySem.W.mg_of X G a_are_folk_of, k_are_folk_of, b_are_folk_of⟩
  have G_need_things : Has l.prog w K mg base 4 "need_things" ["things"] (spD K mg 1 p_need_things) := ⟨_, _, fn_imp (ok_need_things z G_are_things F_need_things) pure_need_things, PySem.W.mg_of X G a_need_things, k_need_things, b_need_things⟩
  have G_shares_of : Has l.prog w K mg base 4 "shares_of" ["things", "some"] (spD K mg 2 p_shares_of) := ⟨_, _, fn_imp (ok_shares_of z G_plus G_fraction F_shares_of) pure_shares_of, PySem.W.mg_of X G a_shares_of, k_shares_of, b_shares_of⟩
  have G_would_pay : Has l.prog w K mg base 4 "would_pay" ["one", "share", "more"] (spD K mg 3 p_would_pay) := ⟨_, _, fn_imp (ok_would_pay z G_is_less G_plus F_would_pay) pure_would_pay, PySem.W.mg_of X G a_would_pay, k_would_pay, b_would_pay⟩
  have G__law_glad : Has l.prog w K mg base 4 "_law_glad" ["things", "some"] (spD K mg 2 p__law_glad) := ⟨_, _, fn_imp (ok__law_glad z G__law_shares G__law_less F__law_glad) pure__law_glad, PySem.W.mg_of X G a__law_glad, k__law_glad, b__law_glad⟩
  have G__law_asked : Has l.prog w K mg base 4 "_law_asked" ["things", "folk", "order"] (spD K mg 3 p__law_asked) := ⟨_, _, fn_imp (ok__law_asked z G__law_less G__law_shares F__law_asked) pure__law_asked, PySem.W.mg_of X G a__law_asked, k__law_asked, b__law_asked⟩
  have G_need_folk : Has l.prog w K mg base 5 "need_folk" ["things", "folk"] (spD K mg 2 p_need_folk) := ⟨_, _, fn_imp (ok_need_folk z G_need_things G_are_folk_of F_need_folk) pure_need_folk, PySem.W.mg_of X G a_need_folk, k_need_folk, b_need_folk⟩
  have G_left_of : Has l.prog w K mg base 5 "left_of" ["things", "folk", "more"] (spD K mg 3 p_left_of) := ⟨_, _, fn_imp (ok_left_of z G_shares_of G_would_pay F_left_of) pure_left_of, PySem.W.mg_of X G a_left_of, k_left_of, b_left_of⟩
  have G__law_greatest : Has l.prog w K mg base 5 "_law_greatest" ["things", "folk"] (spD K mg 2 p__law_greatest) := ⟨_, _, fn_imp (ok__law_greatest z G__law_lots G__law_glad F__law_greatest) pure__law_greatest, PySem.W.mg_of X G a__law_greatest, k__law_greatest, b__law_greatest⟩
  have G_left : Has l.prog w K mg base 6 "left" ["things", "folk"] (spD K mg 2 p_left) := ⟨_, _, fn_imp (ok_left z G_need_folk G_names_of G_left_of F_left) pure_left, PySem.W.mg_of X G a_left, k_left, b_left⟩
  have G_asked : Has l.prog w K mg base 6 "asked" ["things", "folk", "order"] (spD K mg 3 p_asked) := ⟨_, _, fn_imp (ok_asked z G_need_folk G_names_of G_would_pay G_shares_of F_asked) pure_asked, PySem.W.mg_of X G a_asked, k_asked, b_asked⟩
  exact law_done (ok_law z G__law_well G__law_things G__law_folk G_left G__law_greatest G__law_drawn_order G__law_asked G_asked G__law_better F_law) pure_law
theorem walk {l : PySem.W.OpenLaw} {q : Program} {loose : List Str} {XP : (Str → Option Value) → Heap → Prop} {YP : World → Heap → Prop} {d : DefRec} {K : Params → PySem.W.Frag} (hn : l.most = some 63) (hdf : d.params.defaults = [])
    (hY : ∀ (w : World) (h : Heap), YP w h → (K w.params).In h)
    (F : ∀ (w : World) (mg : Str → Option Value) (fa : Addr) (h : Heap), (K w.params).In h → h.Ns mainGlobals mg → mg d.name = some (.ref fa) →
      ∃ fd : FuncData, (∀ (s : Shared) (u : Value), BindsTo s fd ⟨[u], []⟩ [("script", u)]) ∧ ∀ base : Heap, (K w.params).In base → base.Ns mainGlobals mg → FnOk l.prog w (K w.params) mg base CX0 7 fa fd ["script"] (spLaw (K w.params))) :
    PySem.W.WalkO q loose XP YP l.row.toRowW d [] (fun f vs => PySem.call f vs) :=
  L2.walk_of (n := 63) (k := 7) (x := "script") (CX := fun _ => CX0) (sp := fun w => spLaw (K w.params)) hn (by decide) hdf ⟨rfl, by decide, by decide⟩ hY F (fun _ _ a ns hl ho hS => ⟨a, ns, rfl, hS, hl, ho, fun _ => rfl⟩) fun _ _ _ _ _ z => z
end K11
open PySem PySem.W PyProof.Rows
set_option maxRecDepth 100000 in
set_option maxHeartbeats 0 in
theorem PySem.Challenge.cw_gladpayers_k11_whole_whoever_is_left_holds : PySem.Challenge.rw_gladpayers_k11_whole_whoever_is_left.Holds := by
  w_on; o_law; k_head; (case hw => w_witness2)
  k_fill
  refine K11.walk (l := PySem.Challenge.rw_gladpayers_k11_whole_whoever_is_left) rfl rfl (fun w h Y => PySem.W.kIn_of Y) ?F
  case F =>
    intro w mg fa h KX G hmg
    refine' K11.all_mk KX G hmg ?a_divisor ?l_divisor ?c_divisor ?k_divisor ?a_fraction ?l_fraction ?c_fraction ?k_fraction ?a_plus ?l_plus ?c_plus ?k_plus ?a_is_less ?l_is_less ?c_is_less ?k_is_less ?a_is_whole ?l_is_whole ?c_is_whole ?k_is_whole ?a_is_name ?l_is_name ?c_is_name ?k_is_name ?a_is_number ?l_is_number ?c_is_number ?k_is_number ?a_are_rising ?l_are_rising ?c_are_rising ?k_are_rising ?a_are_things ?l_are_things ?c_are_things ?k_are_things ?a_are_of ?l_are_of ?c_are_of ?k_are_of ?a_is_one ?l_is_one ?c_is_one ?k_is_one ?a_are_folk_of ?l_are_folk_of ?c_are_folk_of ?k_are_folk_of ?a_need_things ?l_need_things ?c_need_things ?k_need_things ?a_need_folk ?l_need_folk ?c_need_folk ?k_need_folk ?a_names_of ?l_names_of ?c_names_of ?k_names_of ?a_shares_of ?l_shares_of ?c_shares_of ?k_shares_of ?a_left_of ?l_left_of ?c_left_of ?k_left_of ?a_would_pay ?l_would_pay ?c_would_pay ?k_would_pay ?a_left ?l_left ?c_left ?k_left ?a_asked ?l_asked ?c_asked ?k_asked ?a__law_well ?l__law_well ?c__law_well ?k__law_well ?a__law_take ?l__law_take ?c__law_take ?k__law_take ?a__law_frac ?l__law_frac ?c__law_frac ?k__law_frac ?a__law_plus ?l__law_plus ?c__law_plus ?k__law_plus ?a__law_less ?l__law_less ?c__law_less ?k__law_less ?a__law_things ?l__law_things ?c__law_things ?k__law_things ?a__law_one ?l__law_one ?c__law_one ?k__law_one ?a__law_folk ?l__law_folk ?c__law_folk ?k__law_folk ?a__law_shares ?l__law_shares ?c__law_shares ?k__law_shares ?a__law_lots ?l__law_lots ?c__law_lots ?k__law_lots ?a__law_glad ?l__law_glad ?c__law_glad ?k__law_glad ?a__law_greatest ?l__law_greatest ?c__law_greatest ?k__law_greatest ?a__law_said ?l__law_said ?c__law_said ?k__law_said ?a__law_drawn_order ?l__law_drawn_order ?c__law_drawn_order ?k__law_drawn_order ?a__law_asked ?l__law_asked ?c__law_asked ?k__law_asked ?a__law_better ?l__law_better ?c__law_better ?k__law_better ?a_law ?l_law ?c_law ?k_law ?z_abs ?z_all ?z_bool ?z_int ?z_isinstance ?z_len ?z_list ?z_max ?z_min ?z_range ?z_sorted ?z_str ?z_sum ?z_tuple ?g_LETTERS ?g_MOST ?g_MOST_NUMBER ?g_MOST_WEIGHT ?g_NOUGHT ?m_NOUGHT
    (case a_divisor => k_is)
    (case l_divisor => k_is)
    (case c_divisor => k_is)
    (case k_divisor => k_is)
    (case a_fraction => k_is)
    (case l_fraction => k_is)
    (case c_fraction => k_is)
    (case k_fraction => k_is)
    (case a_plus => k_is)
    (case l_plus => k_is)
    (case c_plus => k_is)
    (case k_plus => k_is)
    (case a_is_less => k_is)
    (case l_is_less => k_is)
    (case c_is_less => k_is)
    (case k_is_less => k_is)
    (case a_is_whole => k_is)
    (case l_is_whole => k_is)
    (case c_is_whole => k_is)
    (case k_is_whole => k_is)
    (case a_is_name => k_is)
    (case l_is_name => k_is)
    (case c_is_name => k_is)
    (case k_is_name => k_is)
    (case a_is_number => k_is)
    (case l_is_number => k_is)
    (case c_is_number => k_is)
    (case k_is_number => k_is)
    (case a_are_rising => k_is)
    (case l_are_rising => k_is)
    (case c_are_rising => k_is)
    (case k_are_rising => k_is)
    (case a_are_things => k_is)
    (case l_are_things => k_is)
    (case c_are_things => k_is)
    (case k_are_things => k_is)
    (case a_are_of => k_is)
    (case l_are_of => k_is)
    (case c_are_of => k_is)
    (case k_are_of => k_is)
    (case a_is_one => k_is)
    (case l_is_one => k_is)
    (case c_is_one => k_is)
    (case k_is_one => k_is)
    (case a_are_folk_of => k_is)
    (case l_are_folk_of => k_is)
    (case c_are_folk_of => k_is)
    (case k_are_folk_of => k_is)
    (case a_need_things => k_is)
    (case l_need_things => k_is)
    (case c_need_things => k_is)
    (case k_need_things => k_is)
    (case a_need_folk => k_is)
    (case l_need_folk => k_is)
    (case c_need_folk => k_is)
    (case k_need_folk => k_is)
    (case a_names_of => k_is)
    (case l_names_of => k_is)
    (case c_names_of => k_is)
    (case k_names_of => k_is)
    (case a_shares_of => k_is)
    (case l_shares_of => k_is)
    (case c_shares_of => k_is)
    (case k_shares_of => k_is)
    (case a_left_of => k_is)
    (case l_left_of => k_is)
    (case c_left_of => k_is)
    (case k_left_of => k_is)
    (case a_would_pay => k_is)
    (case l_would_pay => k_is)
    (case c_would_pay => k_is)
    (case k_would_pay => k_is)
    (case a_left => k_is)
    (case l_left => k_is)
    (case c_left => k_is)
    (case k_left => k_is)
    (case a_asked => k_is)
    (case l_asked => k_is)
    (case c_asked => k_is)
    (case k_asked => k_is)
    (case a__law_well => k_is)
    (case l__law_well => k_is)
    (case c__law_well => k_is)
    (case k__law_well => k_is)
    (case a__law_take => k_is)
    (case l__law_take => k_is)
    (case c__law_take => k_is)
    (case k__law_take => k_is)
    (case a__law_frac => k_is)
    (case l__law_frac => k_is)
    (case c__law_frac => k_is)
    (case k__law_frac => k_is)
    (case a__law_plus => k_is)
    (case l__law_plus => k_is)
    (case c__law_plus => k_is)
    (case k__law_plus => k_is)
    (case a__law_less => k_is)
    (case l__law_less => k_is)
    (case c__law_less => k_is)
    (case k__law_less => k_is)
    (case a__law_things => k_is)
    (case l__law_things => k_is)
    (case c__law_things => k_is)
    (case k__law_things => k_is)
    (case a__law_one => k_is)
    (case l__law_one => k_is)
    (case c__law_one => k_is)
    (case k__law_one => k_is)
    (case a__law_folk => k_is)
    (case l__law_folk => k_is)
    (case c__law_folk => k_is)
    (case k__law_folk => k_is)
    (case a__law_shares => k_is)
    (case l__law_shares => k_is)
    (case c__law_shares => k_is)
    (case k__law_shares => k_is)
    (case a__law_lots => k_is)
    (case l__law_lots => k_is)
    (case c__law_lots => k_is)
    (case k__law_lots => k_is)
    (case a__law_glad => k_is)
    (case l__law_glad => k_is)
    (case c__law_glad => k_is)
    (case k__law_glad => k_is)
    (case a__law_greatest => k_is)
    (case l__law_greatest => k_is)
    (case c__law_greatest => k_is)
    (case k__law_greatest => k_is)
    (case a__law_said => k_is)
    (case l__law_said => k_is)
    (case c__law_said => k_is)
    (case k__law_said => k_is)
    (case a__law_drawn_order => k_is)
    (case l__law_drawn_order => k_is)
    (case c__law_drawn_order => k_is)
    (case k__law_drawn_order => k_is)
    (case a__law_asked => k_is)
    (case l__law_asked => k_is)
    (case c__law_asked => k_is)
    (case k__law_asked => k_is)
    (case a__law_better => k_is)
    (case l__law_better => k_is)
    (case c__law_better => k_is)
    (case k__law_better => k_is)
    (case a_law => k_is)
    (case l_law => k_is)
    (case c_law => k_is)
    (case k_law => k_is)
    (case z_abs => k_is)
    (case z_all => k_is)
    (case z_bool => k_is)
    (case z_int => k_is)
    (case z_isinstance => k_is)
    (case z_len => k_is)
    (case z_list => k_is)
    (case z_max => k_is)
    (case z_min => k_is)
    (case z_range => k_is)
    (case z_sorted => k_is)
    (case z_str => k_is)
    (case z_sum => k_is)
    (case z_tuple => k_is)
    (case g_LETTERS => k_is)
    (case g_MOST => k_is)
    (case g_MOST_NUMBER => k_is)
    (case g_MOST_WEIGHT => k_is)
    (case g_NOUGHT => k_is)
    (case m_NOUGHT => k_is)

