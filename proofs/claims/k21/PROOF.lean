import PyProof.Rows.All
import Wide.All
import OpenK.AllK
import Wide.FinOn
import HandS.ForMost
import HandS.Exc
import HandS.TryOnly
import HandS.ExcOwn
import HandS.WordsExc
import HandS.Zip
import HandS.TupAny
import HandS.HotCalls
import HandS.More
import KE.DataEq
import KE.DataCmp
import KE.SortData
import KE.DataMinMax
import KE.DataAny
import KE.DataIsa
import KE.KDictPairs
import PyProof.ListStr
import HandS.ExcCtx
import HandS.Defaults
import HandS.HeadHook4
import HandS.Hot
import HandS.ExcIs
import PyProof.EnumIter
import PyProof.ZipIter
import HandS.Head0
import HandS.Head1
import HandS.Head2
import HandS.HeadEnd
import KE.Datum
import KE.DatumOrd
import PySem.Challenge.RW_mutesolos_k21_presses_and_idle_buttons
set_option Elab.async false
set_option linter.all false
set_option maxRecDepth 100000
set_option maxHeartbeats 200000
/-! D layer, part 0: tuples known to their objects. -/
namespace DL
open PySem L2
/-- at a stands a tuple of vs, an object without a dict of its own -/
def TupX (K : PySem.W.Frag) (G : Hp) (a : Addr) (vs : List V) : Prop :=
  (∃ o, G a = some (.frz o (.tup vs)) ∧ o.cls = .type "tuple" ∧ o.dict = none) ∨
    ∃ (o : Obj) (its : Array Value) (n : Nat), K.lookup a = some o ∧ o.cls = .type "tuple" ∧ o.dict = none ∧ o.data = .seq its n ∧ its.size ≤ sizeLine ∧ Vals vs its.toList
theorem TupX.sq {K : PySem.W.Frag} {G : Hp} {a : Addr} {vs : List V} (h : TupX K G a vs) : SqT K G a vs := by
  rcases h with ⟨o, h, _⟩ | ⟨o, its, n, h1, h2, _, h3, h4, h5⟩
  · exact .inl (.inr ⟨o, h⟩)
  · exact .inr ⟨o, its, n, h1, h2, h3, h4, h5⟩
theorem TupX.mono {K : PySem.W.Frag} {G H : Hp} {a : Addr} {vs : List V} (e : Same G H) (h : TupX K G a vs) : TupX K H a vs := by
  rcases h with ⟨o, h, r⟩ | h
  · exact .inl ⟨o, e _ _ h, r⟩
  · exact .inr h
/-- its object in a state -/
theorem TupX.obj {X : Cx} {pins : List (Addr × Obj)} {σ : L2.St} {H : Hp} {s : Shared} {a : Addr} {vs : List V} (I : Inv X pins σ H s) (h : TupX X.K H a vs) :
    ∃ (o : Obj) (its : List Value) (n : Nat), s.heap.get? a = some o ∧ o.cls = .type "tuple" ∧ o.dict = none ∧ o.data = .seq its.toArray n ∧ Vals vs its ∧ vs.length ≤ sizeLine := by
  rcases h with ⟨o, h, hc, hd⟩ | ⟨o, its, n, h1, hc, hd, h3, h4, h5⟩
  · obtain ⟨e, hz, its, r, o', e', _, n, hs⟩ := I.hok a _ h
    rw [e] at e'
    cases e'
    exact ⟨o, its, n, e, hc, hd, hs, r, hz⟩
  · refine ⟨o, its.toList, n, I.kIn _ _ h1, hc, hd, by simpa using h3, h5, ?_⟩
    rw [h5.length]
    simpa using h4
/-- a new tuple, exactly -/
def NewT (H : Hp) (xs : List V) (Q : VK) : Prop := ∀ p o, H p = none → o.cls = .type "tuple" → o.dict = none → Q (.ref p) (upd H p (.frz o (.tup xs)))
theorem lay_tup {X : Cx} {pins : List (Addr × Obj)} {σ : L2.St} {H : Hp} {s : Shared} {xs : List V} {its : List Value} {Q : VK} (I : Inv X pins σ H s) (r : Vals xs its) (hz : xs.length ≤ sizeLine) (q : NewT H xs Q) :
    EP X pins σ Q (.ref s.heap.objs.size) { s with heap := s.heap.push { cls := .type "tuple", data := .seq its.toArray } } := by
  have hf : H s.heap.objs.size = none := I.hok.fresh (Nat.le_refl _)
  refine ⟨.ref s.heap.objs.size, upd H s.heap.objs.size (.frz { cls := .type "tuple", data := .seq its.toArray } (.tup xs)), I.laid (t' := s.toks) (fun b u e => Heap.get?_push_of_some _ e) (Nat.le_refl _) ?_, rfl, q _ _ hf rfl rfl⟩
  exact ⟨Heap.get?_push_size _ rfl, hz, its, r, _, Heap.get?_push_size _ rfl, rfl, _, rfl⟩
def tTupX (t : TA) : TE := fun σ H Q => t σ H fun xs H1 => xs.length ≤ sizeLine ∧ NewT H1 xs Q
section
variable {X : Cx} {es : List Expr} {t : TA} {pos : Pos}
theorem pe_tupX {x1 : Nat} (h : PA X es t) : PE X (.Tuple es x1 pos) (tTupX t) := by
  refine ⟨fun pins s σ H Q I hq => wpAny_Tuple_spliced (thn (h.run pos pins s σ H _ I hq) fun us s1 hh => ?_)⟩
  obtain ⟨xs, H1, I1, r, z, q⟩ := hh
  exact ⟨by rw [← r.length]; exact z, lay_tup I1 r z q⟩
/-- t + u -/
def rCatX (K : PySem.W.Frag) : R2 := fun x y H Q => ∃ a b xs ys, x = .ref a ∧ y = .ref b ∧ SqT K H a xs ∧ SqT K H b ys ∧ xs.length + ys.length ≤ sizeLine ∧
  (xs = [] → Q (.ref b) H) ∧ (xs ≠ [] → ys = [] → Q (.ref a) H) ∧ (xs ≠ [] → ys ≠ [] → NewT H (xs ++ ys) Q)
theorem op_catX : OpR X (binaryOp .Add) (rCatX X.K) := by
  intro pins s σ H x y v u Q I rx ry h
  obtain ⟨a, b, xs, ys, rfl, rfl, ha, hb, hz, q0, q1, q2⟩ := h
  cases rx
  cases ry
  obtain ⟨its, r1, p1, z1⟩ := I.tuple ha
  obtain ⟨its2, r2, p2, z2⟩ := I.tuple hb
  by_cases hx : xs = []
  · subst hx
    cases r1
    exact cat_tup0 p1 p2 ⟨.ref b, H, I, rfl, q0 rfl⟩
  · have hi : its ≠ [] := fun e => hx (by subst e; exact List.eq_nil_of_length_eq_zero r1.length)
    refine HT.cat_tup p1 p2 hi (fun e => ?_) (fun e => ?_) (by rw [← r1.length, ← r2.length]; exact hz)
    · exact ⟨.ref a, H, I, rfl, q1 hx (List.eq_nil_of_length_eq_zero (by rw [r2.length, e]; rfl))⟩
    · exact lay_tup I (Vals.append r1 r2) (by rw [List.length_append]; exact hz) (q2 hx fun e0 => e (List.eq_nil_of_length_eq_zero (by rw [← r2.length, e0]; rfl)))
/-- t[lo:hi] -/
def rSlX (K : PySem.W.Frag) : V → Option Int → Option Int → Hp → VK → Prop := fun x lo hi H Q => ∃ a xs, x = .ref a ∧ SqT K H a xs ∧
  (HT.sIx xs.length 0 lo = 0 ∧ HT.sIx xs.length xs.length hi = xs.length → Q (.ref a) H) ∧ (¬ (HT.sIx xs.length 0 lo = 0 ∧ HT.sIx xs.length xs.length hi = xs.length) → NewT H (cutV xs lo hi) Q)
theorem sl_tupX : SlR X (rSlX X.K) := by
  intro pins s σ H x v vl vu lo hi sl Q I rx hs pl pu h
  obtain ⟨a, xs, rfl, hx, q1, q2⟩ := h
  cases rx
  obtain ⟨its, r, ht, hz⟩ := I.tuple hx
  have hlen : its.toArray.size = xs.length := by rw [List.size_toArray]; exact r.length.symm
  refine ⟨"tuple", _, PyProof.Rows.slot_tuple_getitem.lookup, ht.typeIs, ?_⟩
  by_cases hw : HT.sIx xs.length 0 lo = 0 ∧ HT.sIx xs.length xs.length hi = xs.length
  · exact getItem_tuple_whole ht hs pl pu (by rw [hlen]; exact hw) ⟨.ref a, H, I, rfl, q1 hw⟩
  · refine HT.getItem_tuple_cut ht hs pl pu (by rw [hlen]; exact hw) (lay_tup I ?_ (Nat.le_trans (cutV_length _ _ _) hz) (q2 hw)) (by rw [hlen]; exact hz)
    rw [hlen]
    exact Vals.take _ (Vals.drop _ r)
/-- tuple(x) -/
def rTupX (K : PySem.W.Frag) : List V → Hp → VK → Prop := fun xs H Q => ∃ p ys, xs = [.ref p] ∧ ((SqL K H p ys ∧ NewT H ys Q) ∨ (SqT K H p ys ∧ Q (.ref p) H))
theorem call_tupX : CallR X (.type "tuple") (rTupX X.K) := by
  intro pins s σ H xs us Q I r h
  obtain ⟨p, ys, rfl, h⟩ := h
  obtain ⟨u, rfl, rx⟩ := vals1 r
  cases rx
  rcases h with ⟨hq, q⟩ | ⟨hq, q⟩
  · obtain ⟨its, r', pl, hz⟩ := I.list hq
    refine call_tuple_list pl.isList (fun h' kp => ?_) (by rw [List.size_toArray, ← r'.length]; exact hz)
    have I1 : Inv X pins σ H { s with heap := h' } := I.kept (t' := s.toks) kp
    exact lay_tup I1 r' hz q
  · obtain ⟨its, r', pl, hz⟩ := I.tuple hq
    exact call_tuple_same pl ⟨.ref p, H, I, rfl, q⟩
end
end DL
set_option maxHeartbeats 200000
/-! D layer, part 1: data, stores, what a state says of them. -/
namespace DL
open PySem L2
/-- a value: plain data, or the i-th object of the store -/
inductive Dv where
  | d (x : PyData)
  | o (i : Nat)
  /-- the script -/
  | s (ns : List Int)
  /-- a thing that is known by its place alone -/
  | e (a : Addr)
/-- an object that may change -/
inductive Ob where
  | lst (xs : List PyData)
  | dct (kvs : List (PyData × PyData))
  | dead
abbrev Sto := List Ob
abbrev Vn := List (Option Dv)
/-- how an expression ends -/
inductive Res (α : Type) where
  | ok (a : α) (st : Sto)
  | exc (c : Str) (st : Sto)
  | stuck
def Res.bind {α β : Type} (r : Res α) (k : α → Sto → Res β) : Res β := match r with
  | .ok a st => k a st
  | .exc c st => .exc c st
  | .stuck => .stuck
@[simp] theorem bind_ok {α β : Type} (a : α) (st : Sto) (k : α → Sto → Res β) : (Res.ok a st).bind k = k a st := rfl
@[simp] theorem bind_exc {α β : Type} (c : Str) (st : Sto) (k : α → Sto → Res β) : (Res.exc c st).bind k = .exc c st := rfl
@[simp] theorem bind_stuck {α β : Type} (k : α → Sto → Res β) : (Res.stuck : Res α).bind k = .stuck := rfl
abbrev SE := Vn → Sto → Res Dv
abbrev SA := Vn → Sto → Res (List Dv)
abbrev SF := List Dv → Sto → Res Dv
/-- how a statement ends -/
inductive Out where
  | nx (r : Vn) (st : Sto)
  | ret (v : Dv) (st : Sto)
  | bk (r : Vn) (st : Sto)
  | ct (r : Vn) (st : Sto)
  | exc (c : Str) (r : Vn) (st : Sto)
  | stuck
abbrev SS := Vn → Sto → Out
/-! ### data in an abstract heap -/
section
variable {K : PySem.W.Frag} {G H : Hp}
theorem Same.seqT {a : Addr} {xs : List V} (e : Same G H) (h : SqT K G a xs) : SqT K H a xs := by
  rcases h with (h | ⟨o, h⟩) | h
  · exact .inl (.inl (e _ _ h))
  · exact .inl (.inr ⟨o, e _ _ h⟩)
  · exact .inr h
mutual
/-- v is the data d: lists that do not change any more, tuples -/
inductive Rp (K : PySem.W.Frag) (G : Hp) : V → PyData → Prop
  | non : Rp K G .non .none
  | bl (b : Bool) : Rp K G (.bl b) (.bool b)
  | int (i : Int) : Rp K G (.int i) (.int i)
  | str (x : Str) : Rp K G (.str x) (.str x)
  | lst {a : Addr} {vs : List V} {ds : List PyData} : G a = some (.lst vs) → ds.length ≤ sizeLine → RpAll K G vs ds → Rp K G (.ref a) (.list ds)
  | tup {a : Addr} {vs : List V} {ds : List PyData} : TupX K G a vs → ds.length ≤ sizeLine → RpAll K G vs ds → Rp K G (.ref a) (.tuple ds)
inductive RpAll (K : PySem.W.Frag) (G : Hp) : List V → List PyData → Prop
  | nil : RpAll K G [] []
  | cons {v : V} {vs : List V} {d : PyData} {ds : List PyData} : Rp K G v d → RpAll K G vs ds → RpAll K G (v :: vs) (d :: ds)
end
mutual
theorem Rp.dp (e : Same G H) : ∀ {v : V} {d : PyData}, Rp K G v d → Dp K H v d
  | _, _, .non => .non
  | _, _, .bl b => .bl b
  | _, _, .int i => .int i
  | _, _, .str x => .str x
  | _, _, .lst h _ t => .lst (SqL.of (e _ _ h)) (RpAll.dp e t)
  | _, _, .tup h _ t => .tup (TupX.mono e h).sq (RpAll.dp e t)
theorem RpAll.dp (e : Same G H) : ∀ {vs : List V} {ds : List PyData}, RpAll K G vs ds → DpAll K H vs ds
  | _, _, .nil => .nil
  | _, _, .cons h t => .cons (Rp.dp e h) (RpAll.dp e t)
end
theorem DpAll.len : ∀ {vs : List V} {ds : List PyData}, DpAll K G vs ds → vs.length = ds.length
  | _, _, .nil => rfl
  | _, _, .cons _ t => by rw [List.length_cons, List.length_cons, DpAll.len t]
mutual
theorem Rp.mono (e : Same G H) : ∀ {v : V} {d : PyData}, Rp K G v d → Rp K H v d
  | _, _, .non => .non
  | _, _, .bl b => .bl b
  | _, _, .int i => .int i
  | _, _, .str x => .str x
  | _, _, .lst h l t => .lst (e _ _ h) l (RpAll.mono e t)
  | _, _, .tup h l t => .tup (TupX.mono e h) l (RpAll.mono e t)
theorem RpAll.mono (e : Same G H) : ∀ {vs : List V} {ds : List PyData}, RpAll K G vs ds → RpAll K H vs ds
  | _, _, .nil => .nil
  | _, _, .cons h t => .cons (Rp.mono e h) (RpAll.mono e t)
end
theorem RpAll.len : ∀ {vs : List V} {ds : List PyData}, RpAll K G vs ds → vs.length = ds.length
  | _, _, .nil => rfl
  | _, _, .cons _ t => by rw [List.length_cons, List.length_cons, RpAll.len t]
theorem RpAll.app : ∀ {vs us : List V} {ds es : List PyData}, RpAll K G vs ds → RpAll K G us es → RpAll K G (vs ++ us) (ds ++ es)
  | _, _, _, _, .nil, s => s
  | _, _, _, _, .cons h t, s => .cons h (RpAll.app t s)
theorem RpAll.snoc {vs : List V} {ds : List PyData} {v : V} {d : PyData} (t : RpAll K G vs ds) (h : Rp K G v d) : RpAll K G (vs ++ [v]) (ds ++ [d]) := RpAll.app t (.cons h .nil)
theorem RpAll.get : ∀ {vs : List V} {ds : List PyData} {i : Nat} {d : PyData}, RpAll K G vs ds → ds[i]? = some d → ∃ v, vs[i]? = some v ∧ Rp K G v d
  | _, _, _, _, .nil, e => by simp at e
  | _, _, 0, _, .cons h _, e => by simp at e; subst e; exact ⟨_, rfl, h⟩
  | _, _, i + 1, d, .cons _ t, e => by
    obtain ⟨v, h1, h2⟩ := RpAll.get (i := i) (d := d) t (by simpa using e)
    exact ⟨v, by simpa using h1, h2⟩
theorem RpAll.getV : ∀ {vs : List V} {ds : List PyData} {i : Nat} {v : V}, RpAll K G vs ds → vs[i]? = some v → ∃ d, ds[i]? = some d ∧ Rp K G v d
  | _, _, _, _, .nil, e => by simp at e
  | _, _, 0, _, .cons h _, e => by simp at e; subst e; exact ⟨_, rfl, h⟩
  | _, _, i + 1, d, .cons _ t, e => by
    obtain ⟨v, h1, h2⟩ := RpAll.getV (i := i) t (by simpa using e)
    exact ⟨v, by simpa using h1, h2⟩
theorem RpAll.take : ∀ {vs : List V} {ds : List PyData} (n : Nat), RpAll K G vs ds → RpAll K G (vs.take n) (ds.take n)
  | _, _, 0, _ => .nil
  | _, _, _ + 1, .nil => .nil
  | _, _, n + 1, .cons h t => .cons h (RpAll.take n t)
theorem RpAll.drop : ∀ {vs : List V} {ds : List PyData} (n : Nat), RpAll K G vs ds → RpAll K G (vs.drop n) (ds.drop n)
  | _, _, 0, t => t
  | _, _, _ + 1, .nil => .nil
  | _, _, n + 1, .cons _ t => RpAll.drop n t
theorem RpAll.set : ∀ {vs : List V} {ds : List PyData} {v : V} {d : PyData} (n : Nat), RpAll K G vs ds → Rp K G v d → RpAll K G (vs.set n v) (ds.set n d)
  | _, _, _, _, _, .nil, _ => .nil
  | _, _, _, _, 0, .cons _ t, h => .cons h t
  | _, _, _, _, n + 1, .cons g t, h => .cons g (RpAll.set n t h)
theorem RpAll.erase : ∀ {vs : List V} {ds : List PyData} (n : Nat), RpAll K G vs ds → RpAll K G (vs.eraseIdx n) (ds.eraseIdx n)
  | _, _, _, .nil => .nil
  | _, _, 0, .cons _ t => t
  | _, _, n + 1, .cons g t => .cons g (RpAll.erase n t)
end
/-! ### values, stores, names -/
/-- keys that are ints and texts -/
def keyD : Key → PyData
  | .inl i => .int i
  | .inr x => .str x
abbrev KvR (K : PySem.W.Frag) (G : Hp) (ks : List (Key × V)) (kvs : List (PyData × PyData)) : Prop := Paired (fun (p : Key × V) (q : PyData × PyData) => keyD p.1 = q.1 ∧ Rp K G p.2 q.2) ks kvs
def VR (K : PySem.W.Frag) (as : List Addr) (G : Hp) (v : V) : Dv → Prop
  | .d x => Rp K G v x
  | .o i => ∃ a, as[i]? = some a ∧ v = .ref a
  | .e a => v = .ref a
  | .s ns => ∃ a, v = .ref a ∧ SqL K G a (ns.map V.int) ∧ ns.length ≤ 63
def ObR (K : PySem.W.Frag) (G H : Hp) (a : Addr) : Ob → Prop
  | .lst ds => G a = none ∧ ds.length ≤ sizeLine ∧ ∃ vs, H a = some (.lst vs) ∧ RpAll K G vs ds
  | .dct kvs => G a = none ∧ ∃ ks, H a = some (.dK ks) ∧ KvR K G ks kvs
  | .dead => True
/-- the store, in the heap H, of which G does not change any more -/
structure ER (K : PySem.W.Frag) (as : List Addr) (G H : Hp) (st : Sto) : Prop where
  sub : Same G H
  len : as.length = st.length
  nd : as.Nodup
  tr : ∀ a ∈ as, H a ≠ none
  ob : ∀ (i : Nat) (a : Addr) (o : Ob), as[i]? = some a → st[i]? = some o → ObR K G H a o
structure Stp (as : List Addr) (G H : Hp) (as' : List Addr) (G' H' : Hp) : Prop where
  pre : ∃ more, as' = as ++ more ∧ ∀ a ∈ more, H a = none
  g : Same G G'
  kp : ∀ a o, H a = some o → a ∉ as → H' a = some o ∧ G' a = G a
  tr : ∀ a, H a ≠ none → H' a ≠ none
theorem Stp.refl (as : List Addr) (G H : Hp) : Stp as G H as G H := ⟨⟨[], by simp, by simp⟩, fun _ _ h => h, fun _ _ h _ => ⟨h, rfl⟩, fun _ h => h⟩
theorem Stp.trans {as as1 as2 : List Addr} {G H G1 H1 G2 H2 : Hp} (p : Stp as G H as1 G1 H1) (q : Stp as1 G1 H1 as2 G2 H2) : Stp as G H as2 G2 H2 := by
  obtain ⟨m, rfl, hm⟩ := p.pre
  obtain ⟨n, rfl, hn⟩ := q.pre
  refine ⟨⟨m ++ n, by simp, fun a ha => ?_⟩, fun b o h => q.g _ _ (p.g _ _ h), fun a o h na => ?_, fun a h => q.tr a (p.tr a h)⟩
  · rcases List.mem_append.mp ha with ha | ha
    · exact hm a ha
    · cases e : H a with
      | none => rfl
      | some o => exact absurd (hn a ha) (p.tr a (by rw [e]; exact fun z => nomatch z))
  · obtain ⟨h1, g1⟩ := p.kp a o h na
    have na1 : a ∉ as ++ m := fun z => by
      rcases List.mem_append.mp z with z | z
      · exact na z
      · rw [hm a z] at h; cases h
    obtain ⟨h2, g2⟩ := q.kp a o h1 na1
    exact ⟨h2, g2.trans g1⟩
theorem VR.mono {K : PySem.W.Frag} {as as' : List Addr} {G H G' H' : Hp} {v : V} {x : Dv} (s : Stp as G H as' G' H') (h : VR K as G v x) : VR K as' G' v x := by
  cases x with
  | d x => exact Rp.mono s.g h
  | o i =>
    obtain ⟨a, e, rfl⟩ := h
    obtain ⟨m, rfl, _⟩ := s.pre
    exact ⟨a, by rw [List.getElem?_append_left (List.getElem?_eq_some_iff.mp e).1]; exact e, rfl⟩
  | e _ => exact h
  | s ns =>
    obtain ⟨a, rfl, h, l⟩ := h
    exact ⟨a, rfl, Same.seq s.g h, l⟩
abbrev VRs (K : PySem.W.Frag) (as : List Addr) (G : Hp) : List V → List Dv → Prop := Paired (VR K as G)
theorem VRs.mono {K : PySem.W.Frag} {as as' : List Addr} {G H G' H' : Hp} {vs : List V} {xs : List Dv} (s : Stp as G H as' G' H') (h : VRs K as G vs xs) : VRs K as' G' vs xs := Paired.mapP h fun _ _ z => VR.mono s z
/-- what the names hold -/
structure SR (K : PySem.W.Frag) (as : List Addr) (G : Hp) (σ : L2.St) (r : Vn) : Prop where
  len : σ.length = r.length
  at_ : ∀ (i : Nat) (x : Dv), r[i]? = some (some x) → ∃ v, σ[i]? = some (some v) ∧ VR K as G v x
theorem SR.mono {K : PySem.W.Frag} {as as' : List Addr} {G H G' H' : Hp} {σ : L2.St} {r : Vn} (s : Stp as G H as' G' H') (h : SR K as G σ r) : SR K as' G' σ r :=
  ⟨h.len, fun i x e => let ⟨v, a, b⟩ := h.at_ i x e; ⟨v, a, VR.mono s b⟩⟩
theorem SR.put {K : PySem.W.Frag} {as : List Addr} {G : Hp} {σ : L2.St} {r : Vn} {v : V} {x : Dv} (h : SR K as G σ r) (i : Nat) (hv : VR K as G v x) : SR K as G (σ.set i (some v)) (r.set i (some x)) := by
  refine ⟨by simp [h.len], fun j y e => ?_⟩
  by_cases hj : i = j
  · subst hj
    rw [List.getElem?_set] at e
    by_cases hl : i < r.length
    · simp [hl] at e
      subst e
      exact ⟨v, by rw [List.getElem?_set]; simp [h.len, hl], hv⟩
    · simp [hl] at e
  · rw [List.getElem?_set_ne hj] at e
    obtain ⟨u, a, b⟩ := h.at_ j y e
    exact ⟨u, by rw [List.getElem?_set_ne hj]; exact a, b⟩
theorem RpAll.ints : ∀ ns : List Int, RpAll K G (ns.map V.int) (ns.map PyData.int)
  | [] => .nil
  | n :: ns => .cons (.int n) (RpAll.ints ns)
/-- the data of a value, as it is read -/
def deref (st : Sto) : Dv → Option PyData
  | .d x => some x
  | .o i => match st[i]? with
    | some (.lst ds) => some (.list ds)
    | _ => none
  | .e _ => none
  | .s ns => some (.list (ns.map .int))
theorem deref_ok {K : PySem.W.Frag} {as : List Addr} {G H : Hp} {st : Sto} {v : V} {x : Dv} {d : PyData} (e : ER K as G H st) (h : VR K as G v x) (hd : deref st x = some d) : Dp K H v d := by
  cases x with
  | d x =>
    cases hd
    exact Rp.dp e.sub h
  | o i =>
    obtain ⟨a, ea, rfl⟩ := h
    simp only [deref] at hd
    split at hd
    · next ds es =>
      cases hd
      obtain ⟨_, hl, vs, hv, hp⟩ := e.ob i a _ ea es
      exact .lst (SqL.of hv) (RpAll.dp e.sub hp)
    · cases hd
  | e _ => cases hd
  | s ns =>
    obtain ⟨a, rfl, h, _⟩ := h
    cases hd
    exact .lst (Same.seq e.sub h) (RpAll.dp e.sub (RpAll.ints ns))
/-- .. and its items -/
def itemsOf (st : Sto) : Dv → Option (List PyData)
  | .d (.list ds) => some ds
  | .d (.tuple ds) => some ds
  | .d _ => none
  | .o i => match st[i]? with
    | some (.lst ds) => some ds
    | _ => none
  | .e _ => none
  | .s ns => some (ns.map .int)
theorem itemsOf_ok {K : PySem.W.Frag} {as : List Addr} {G H : Hp} {st : Sto} {v : V} {x : Dv} {ds : List PyData} (e : ER K as G H st) (h : VR K as G v x) (hd : itemsOf st x = some ds) :
    ∃ a vs, v = .ref a ∧ (SqL K H a vs ∨ SqT K H a vs) ∧ ds.length ≤ sizeLine ∧ RpAll K G vs ds := by
  cases x with
  | d x =>
    cases x <;> simp only [itemsOf] at hd <;> cases hd
    · cases h with
      | lst q l t => exact ⟨_, _, rfl, .inl (SqL.of (e.sub _ _ q)), l, t⟩
    · cases h with
      | tup q l t => exact ⟨_, _, rfl, .inr (TupX.mono e.sub q).sq, l, t⟩
  | o i =>
    obtain ⟨a, ea, rfl⟩ := h
    simp only [itemsOf] at hd
    split at hd
    · next ds es =>
      cases hd
      obtain ⟨_, hl, vs, hv, hp⟩ := e.ob i a _ ea es
      exact ⟨a, vs, rfl, .inl (SqL.of hv), hl, hp⟩
    · cases hd
  | e _ => cases hd
  | s ns =>
    obtain ⟨a, rfl, h, l⟩ := h
    cases hd
    exact ⟨a, _, rfl, .inl (Same.seq e.sub h), by rw [List.length_map]; exact Nat.le_trans l (by decide), RpAll.ints ns⟩
/-- a list alone, as a tracked one -/
def listOf (st : Sto) : Dv → Option (List PyData)
  | .d (.list ds) => some ds
  | .o i => match st[i]? with
    | some (.lst ds) => some ds
    | _ => none
  | _ => none
theorem listOf_ok {K : PySem.W.Frag} {as : List Addr} {G H : Hp} {st : Sto} {v : V} {x : Dv} {ds : List PyData} (e : ER K as G H st) (h : VR K as G v x) (hd : listOf st x = some ds) :
    ∃ a vs, v = .ref a ∧ H a = some (.lst vs) ∧ ds.length ≤ sizeLine ∧ RpAll K G vs ds := by
  cases x with
  | d x =>
    cases x <;> simp only [listOf] at hd <;> cases hd
    cases h with
    | lst q l t => exact ⟨_, _, rfl, e.sub _ _ q, l, t⟩
  | o i =>
    obtain ⟨a, ea, rfl⟩ := h
    simp only [listOf] at hd
    split at hd
    · next ds es =>
      cases hd
      obtain ⟨_, hl, vs, hv, hp⟩ := e.ob i a _ ea es
      exact ⟨a, vs, rfl, hv, hl, hp⟩
    · cases hd
  | e _ => cases hd
  | s ns => cases hd
/-! ### how a store grows -/
section
variable {K : PySem.W.Frag} {as : List Addr} {G H : Hp} {st : Sto} {p : Addr}
theorem Same.upd2 {o : HO} (e : Same G H) : Same (upd G p o) (upd H p o) := fun b u h => by
  by_cases hb : b = p
  · subst hb; rw [upd_same] at h; rw [upd_same]; exact h
  · rw [upd_ne hb] at h; rw [upd_ne hb]; exact e _ _ h
theorem Same.upd1 {o : HO} (e : G p = none) : Same G (upd G p o) := fun b u h => by
  rw [upd_ne (ne_of_none h e)]; exact h
theorem ER.g_none (e : ER K as G H st) (hp : H p = none) : G p = none := e.sub.free hp
theorem ER.not_mem (e : ER K as G H st) (hp : H p = none) : p ∉ as := fun m => e.tr p m hp
/-- a new object that does not change -/
theorem ER.frz {o : HO} (e : ER K as G H st) (hp : H p = none) : ER K as (upd G p o) (upd H p o) st where
  sub := Same.upd2 e.sub
  len := e.len
  nd := e.nd
  tr := fun a m => by
    have hne : a ≠ p := fun q => e.not_mem hp (q ▸ m)
    rw [upd_ne hne]; exact e.tr a m
  ob := fun i a ob h1 h2 => by
    have hne : a ≠ p := fun q => e.not_mem hp (q ▸ List.mem_of_getElem? h1)
    have hs := Same.upd1 (o := o) (e.g_none hp)
    have h := e.ob i a ob h1 h2
    cases ob with
    | lst ds => obtain ⟨g, l, vs, hv, t⟩ := h; exact ⟨by rw [upd_ne hne]; exact g, l, vs, by rw [upd_ne hne]; exact hv, RpAll.mono hs t⟩
    | dct kvs => obtain ⟨g, ks, hv, t⟩ := h; exact ⟨by rw [upd_ne hne]; exact g, ks, by rw [upd_ne hne]; exact hv, Paired.mapP t fun _ _ z => ⟨z.1, Rp.mono hs z.2⟩⟩
    | dead => trivial
theorem Stp.frz {o : HO} (e : ER K as G H st) (hp : H p = none) : Stp as G H as (upd G p o) (upd H p o) :=
  ⟨⟨[], by simp, by simp⟩, Same.upd1 (e.g_none hp), fun a u h _ => by
    have hne : a ≠ p := ne_of_none h hp
    exact ⟨by rw [upd_ne hne]; exact h, by rw [upd_ne hne]⟩, fun a h => by
    by_cases hb : a = p
    · subst hb; rw [upd_same]; exact fun z => nomatch z
    · rw [upd_ne hb]; exact h⟩
/-- a new object of the store -/
theorem ER.new {u : HO} {o : Ob} (e : ER K as G H st) (hp : H p = none) (h : ObR K G (upd H p u) p o) : ER K (as ++ [p]) G (upd H p u) (st ++ [o]) where
  sub := fun b v q => by rw [upd_ne (ne_of_none (e.sub _ _ q) hp)]; exact e.sub _ _ q
  len := by simp [e.len]
  nd := by
    rw [List.nodup_append]
    refine ⟨e.nd, by simp, fun a ha b hb => ?_⟩
    simp at hb
    subst hb
    exact fun q => e.not_mem hp (q ▸ ha)
  tr := fun a m => by
    by_cases hb : a = p
    · subst hb; rw [upd_same]; exact fun z => nomatch z
    · rw [upd_ne hb]
      rcases List.mem_append.mp m with m | m
      · exact e.tr a m
      · exact absurd (List.mem_singleton.mp m) hb
  ob := fun i a ob h1 h2 => by
    rcases Nat.lt_or_ge i as.length with hi | hi
    · rw [List.getElem?_append_left hi] at h1
      rw [List.getElem?_append_left (e.len ▸ hi)] at h2
      have hne : a ≠ p := fun q => e.not_mem hp (q ▸ List.mem_of_getElem? h1)
      have h := e.ob i a ob h1 h2
      cases ob with
      | lst ds => obtain ⟨g, l, vs, hv, t⟩ := h; exact ⟨g, l, vs, by rw [upd_ne hne]; exact hv, t⟩
      | dct kvs => obtain ⟨g, ks, hv, t⟩ := h; exact ⟨g, ks, by rw [upd_ne hne]; exact hv, t⟩
      | dead => trivial
    · rw [List.getElem?_append_right hi] at h1
      rw [List.getElem?_append_right (e.len ▸ hi)] at h2
      have h0 : i - as.length = 0 := by
        rcases Nat.eq_zero_or_pos (i - as.length) with z | z
        · exact z
        · rw [List.getElem?_eq_none (by simp; omega)] at h1; cases h1
      rw [h0] at h1
      rw [← e.len, h0] at h2
      cases h1
      cases h2
      exact h
theorem Stp.new {u : HO} (e : ER K as G H st) (hp : H p = none) : Stp as G H (as ++ [p]) G (upd H p u) :=
  ⟨⟨[p], rfl, fun a m => by rw [List.mem_singleton.mp m]; exact hp⟩, fun _ _ h => h, fun a v h _ => ⟨by rw [upd_ne (ne_of_none h hp)]; exact h, rfl⟩, fun a h => by
    by_cases hb : a = p
    · subst hb; rw [upd_same]; exact fun z => nomatch z
    · rw [upd_ne hb]; exact h⟩
/-- an object of the store is written -/
theorem ER.wr {u : HO} {o : Ob} {i : Nat} (e : ER K as G H st) (hi : as[i]? = some p) (hg : G p = none) (h : ObR K G (upd H p u) p o) : ER K as G (upd H p u) (st.set i o) where
  sub := fun b v q => by rw [upd_ne (ne_of_none q hg)]; exact e.sub _ _ q
  len := by simp [e.len]
  nd := e.nd
  tr := fun a m => by
    by_cases hb : a = p
    · subst hb; rw [upd_same]; exact fun z => nomatch z
    · rw [upd_ne hb]; exact e.tr a m
  ob := fun j a ob h1 h2 => by
    by_cases hj : i = j
    · subst hj
      rw [hi] at h1
      cases h1
      rw [List.getElem?_set] at h2
      by_cases hl : i < st.length
      · simp [hl] at h2
        subst h2
        exact h
      · simp [hl] at h2
    · rw [List.getElem?_set_ne hj] at h2
      have hne : a ≠ p := fun q => hj (nd_ix e.nd hi (q ▸ h1))
      have h := e.ob j a ob h1 h2
      cases ob with
      | lst ds => obtain ⟨g, l, vs, hv, t⟩ := h; exact ⟨g, l, vs, by rw [upd_ne hne]; exact hv, t⟩
      | dct kvs => obtain ⟨g, ks, hv, t⟩ := h; exact ⟨g, ks, by rw [upd_ne hne]; exact hv, t⟩
      | dead => trivial
theorem Stp.wr {u : HO} {i : Nat} (hi : as[i]? = some p) : Stp as G H as G (upd H p u) :=
  ⟨⟨[], by simp, by simp⟩, fun _ _ h => h, fun a v h na => have hne : a ≠ p := fun q => na (q ▸ List.mem_of_getElem? hi); ⟨by rw [upd_ne hne]; exact h, rfl⟩, fun a h => by
    by_cases hb : a = p
    · subst hb; rw [upd_same]; exact fun z => nomatch z
    · rw [upd_ne hb]; exact h⟩
/-- an object of the store does not change from here on -/
theorem ER.stop {i : Nat} {u : HO} (e : ER K as G H st) (hi : as[i]? = some p) (hu : H p = some u) : ER K as (upd G p u) H (st.set i .dead) where
  sub := fun b v q => by
    by_cases hb : b = p
    · subst hb; rw [upd_same] at q; rw [hu]; exact q
    · rw [upd_ne hb] at q; exact e.sub _ _ q
  len := by simp [e.len]
  nd := e.nd
  tr := e.tr
  ob := fun j a ob h1 h2 => by
    by_cases hj : i = j
    · subst hj
      rw [List.getElem?_set] at h2
      by_cases hl : i < st.length
      · simp [hl] at h2
        subst h2
        trivial
      · simp [hl] at h2
    · rw [List.getElem?_set_ne hj] at h2
      have hne : a ≠ p := fun q => hj (nd_ix e.nd hi (q ▸ h1))
      have h := e.ob j a ob h1 h2
      have hs : G p = none → Same G (upd G p u) := fun z => Same.upd1 z
      have hs2 : Same G (upd G p u) := fun b v q => by
        by_cases hb : b = p
        · subst hb; rw [upd_same, ← hu]; exact e.sub _ _ q
        · rw [upd_ne hb]; exact q
      cases ob with
      | lst ds => obtain ⟨g, l, vs, hv, t⟩ := h; exact ⟨by rw [upd_ne hne]; exact g, l, vs, hv, RpAll.mono hs2 t⟩
      | dct kvs => obtain ⟨g, ks, hv, t⟩ := h; exact ⟨by rw [upd_ne hne]; exact g, ks, hv, Paired.mapP t fun _ _ z => ⟨z.1, Rp.mono hs2 z.2⟩⟩
      | dead => trivial
theorem Stp.stop {i : Nat} {u : HO} (e : ER K as G H st) (hi : as[i]? = some p) (hu : H p = some u) : Stp as G H as (upd G p u) H :=
  ⟨⟨[], by simp, by simp⟩, fun b v q => by
    by_cases hb : b = p
    · subst hb; rw [upd_same, ← hu]; exact e.sub _ _ q
    · rw [upd_ne hb]; exact q, fun a v h na => have hne : a ≠ p := fun q => na (q ▸ List.mem_of_getElem? hi); ⟨h, by rw [upd_ne hne]⟩, fun _ h => h⟩
end
/-! ### readings of a fixed form -/
abbrev WS := Str → L2.St → Hp → Prop
/-- what is wanted of an end -/
def RK (K : PySem.W.Frag) (as : List Addr) (G H : Hp) (W : Str → Hp → Prop) (α : Type) (β : Type) (rel : List Addr → Hp → β → α → Prop) (Q : β → Hp → Prop) : Res α → Prop
  | .ok x st' => ∀ v as' G' H', Stp as G H as' G' H' → ER K as' G' H' st' → rel as' G' v x → Q v H'
  | .exc c st' => ∀ as' G' H', Stp as G H as' G' H' → ER K as' G' H' st' → W c H'
  | .stuck => False
theorem RK.from {K : PySem.W.Frag} {as as1 : List Addr} {G H G1 H1 : Hp} {W : Str → Hp → Prop} {α β : Type} {rel : List Addr → Hp → β → α → Prop} {Q : β → Hp → Prop} {r : Res α} (s : Stp as G H as1 G1 H1) (h : RK K as G H W α β rel Q r) : RK K as1 G1 H1 W α β rel Q r := by
  cases r with
  | ok x st => exact fun v as' G' H' s' e q => h v as' G' H' (s.trans s') e q
  | exc c st => exact fun as' G' H' s' e => h as' G' H' (s.trans s') e
  | stuck => exact h
def tE (K : PySem.W.Frag) (W : WS) (f : SE) : TE := fun σ H Q => ∃ r as G st, SR K as G σ r ∧ ER K as G H st ∧ RK K as G H (fun c H' => W c σ H') Dv V (VR K) Q (f r st)
def tA (K : PySem.W.Frag) (W : WS) (f : SA) : TA := fun σ H Q => ∃ r as G st, SR K as G σ r ∧ ER K as G H st ∧ RK K as G H (fun c H' => W c σ H') (List Dv) (List V) (VRs K) Q (f r st)
/-- a test: a bool -/
def asB : Res Dv → Res Bool
  | .ok (.d (.bool b)) st' => .ok b st'
  | .exc c st' => .exc c st'
  | _ => .stuck
def tT (K : PySem.W.Frag) (W : WS) (f : SE) : TT := fun σ H Q => ∃ r as G st, SR K as G σ r ∧ ER K as G H st ∧ RK K as G H (fun c H' => W c σ H') Bool Bool (fun _ _ a b => a = b) Q (asB (f r st))
/-- a statement -/
def OK (K : PySem.W.Frag) (as : List Addr) (G H : Hp) (W : WS) (D : Ends) : Out → Prop
  | .nx r' st' => ∀ σ' as' G' H', Stp as G H as' G' H' → ER K as' G' H' st' → SR K as' G' σ' r' → D.nx σ' H'
  | .bk r' st' => ∀ σ' as' G' H', Stp as G H as' G' H' → ER K as' G' H' st' → SR K as' G' σ' r' → D.bk σ' H'
  | .ct r' st' => ∀ σ' as' G' H', Stp as G H as' G' H' → ER K as' G' H' st' → SR K as' G' σ' r' → D.ct σ' H'
  | .ret x st' => ∀ v as' G' H', Stp as G H as' G' H' → ER K as' G' H' st' → VR K as' G' v x → D.rt v H'
  | .exc c r' st' => ∀ σ' as' G' H', Stp as G H as' G' H' → ER K as' G' H' st' → SR K as' G' σ' r' → W c σ' H'
  | .stuck => False
theorem OK.from {K : PySem.W.Frag} {as as1 : List Addr} {G H G1 H1 : Hp} {W : WS} {D : Ends} {r : Out} (s : Stp as G H as1 G1 H1) (h : OK K as G H W D r) : OK K as1 G1 H1 W D r := by
  cases r with
  | stuck => exact h
  | ret x st => exact fun v as' G' H' s' => h v as' G' H' (s.trans s')
  | _ => exact fun σ' as' G' H' s' => h σ' as' G' H' (s.trans s')
def tS (K : PySem.W.Frag) (W : WS) (F : SS) : TS := fun D σ H => ∃ r as G st, SR K as G σ r ∧ ER K as G H st ∧ OK K as G H W D (F r st)
end DL
set_option maxHeartbeats 200000
/-! D layer, part 2: rules for expressions. -/
namespace DL
open PySem L2
theorem PE.impI {X : Cx} {e : Expr} {t t' : TE} (h : PE X e t) (k : ∀ (pins : List (Addr × Obj)) (s : Shared) (σ : L2.St) (H : Hp) (Q : VK), Inv X pins σ H s → t' σ H Q → t σ H Q) : PE X e t' := ⟨fun pins s σ H Q I q => h.run pins s σ H Q I (k pins s σ H Q I q)⟩
theorem PT.impI {X : Cx} {e : Expr} {t t' : TT} (h : PT X e t) (k : ∀ (pins : List (Addr × Obj)) (s : Shared) (σ : L2.St) (H : Hp) (Q : Bool → Hp → Prop), Inv X pins σ H s → t' σ H Q → t σ H Q) : PT X e t' := ⟨fun pins s σ H Q I q => h.run pins s σ H Q I (k pins s σ H Q I q)⟩
theorem PW.impI {X : Cx} {e : Expr} {t t' : TT} (h : PW X e t) (k : ∀ (σ : L2.St) (H : Hp) (Q : Bool → Hp → Prop), t' σ H Q → t σ H Q) : PW X e t' := ⟨fun whole pins s σ H Q I q => h.run whole pins s σ H Q I (k σ H Q q)⟩
theorem PA.impI {X : Cx} {es : List Expr} {t t' : TA} (h : PA X es t) (k : ∀ (σ : L2.St) (H : Hp) (Q : List V → Hp → Prop), t' σ H Q → t σ H Q) : PA X es t' := ⟨fun pos pins s σ H Q I q => h.run pos pins s σ H Q I (k σ H Q q)⟩
theorem RK.seq {K : PySem.W.Frag} {as : List Addr} {G H : Hp} {W : Str → Hp → Prop} {α β γ δ : Type} {r1 : List Addr → Hp → β → α → Prop} {r2 : List Addr → Hp → δ → γ → Prop} {Q : δ → Hp → Prop} {Q' : β → Hp → Prop} {f : Res α} {k : α → Sto → Res γ}
    (h : RK K as G H W γ δ r2 Q (f.bind k)) (c : ∀ x st1 v as1 G1 H1, f = .ok x st1 → Stp as G H as1 G1 H1 → ER K as1 G1 H1 st1 → r1 as1 G1 v x → RK K as1 G1 H1 W γ δ r2 Q (k x st1) → Q' v H1) : RK K as G H W α β r1 Q' f := by
  cases f with
  | ok x st1 => exact fun v as1 G1 H1 s e q => c _ _ v as1 G1 H1 rfl s e q (RK.from s h)
  | exc cl st1 => exact h
  | stuck => exact h
/-- an answer that is data -/
def ansD (st : Sto) : Option PyData → Res Dv
  | some d => .ok (.d d) st
  | none => .stuck
/-- a new list of the store -/
def ansN (st : Sto) : Option (List PyData) → Res Dv
  | some ds => .ok (.o st.length) (st ++ [.lst ds])
  | none => .stuck
section
variable {X : Cx} {W : WS} {a b c : Expr} {fa fb fc : SE} {pos : Pos}
/-! ### names and constants -/
def eV (i : Nat) : SE := fun r st => match r[i]? with
  | some (some x) => .ok x st
  | _ => .stuck
def eK (d : PyData) : SE := fun _ st => .ok (.d d) st
theorem de_v {x : Str} (i : Nat) (h : PE X (.Name x pos) (tVar i)) : PE X (.Name x pos) (tE X.K W (eV i)) := by
  refine PE.impI h fun pins s σ H Q I q => ?_
  obtain ⟨r, as, G, st, sr, er, k⟩ := q
  simp only [eV] at k
  split at k
  · next x e =>
    obtain ⟨v, h1, h2⟩ := sr.at_ i x e
    exact ⟨v, h1, k v as G H (.refl _ _ _) er h2⟩
  · exact k.elim
theorem de_c {v : V} {d : PyData} (h : PE X a (tC v)) (hv : ∀ G : Hp, Rp X.K G v d) : PE X a (tE X.K W (eK d)) := by
  refine PE.impI h fun pins s σ H Q I q => ?_
  obtain ⟨r, as, G, st, sr, er, k⟩ := q
  exact k v as G H (.refl _ _ _) er (hv G)
theorem de_int {i : Int} {j : Nat} : PE X (.Constant (.int i) j pos) (tE X.K W (eK (.int i))) := de_c pe_int fun _ => .int i
theorem de_str {x : Str} {j : Nat} : PE X (.Constant (.str x) j pos) (tE X.K W (eK (.str x))) := de_c pe_str fun _ => .str x
theorem de_bool {x : Bool} {j : Nat} : PE X (.Constant (.bool x) j pos) (tE X.K W (eK (.bool x))) := de_c pe_bl fun _ => .bl x
theorem de_none {j : Nat} : PE X (.Constant .none j pos) (tE X.K W (eK .none)) := de_c pe_non fun _ => .non
/-! ### argument lists -/
def aNil : SA := fun _ st => .ok [] st
def aCons (fa : SE) (fr : SA) : SA := fun r st => (fa r st).bind fun x s1 => (fr r s1).bind fun xs s2 => .ok (x :: xs) s2
theorem da_nil : PA X [] (tA X.K W aNil) := by
  refine PA.impI pa_nil fun σ H Q q => ?_
  obtain ⟨r, as, G, st, sr, er, k⟩ := q
  exact k [] as G H (.refl _ _ _) er .nil
theorem da_cons {es : List Expr} {fr : SA} (ha : PE X a (tE X.K W fa)) (hr : PA X es (tA X.K W fr)) (hs : starEach (a :: es) X.env = (false, eval a X.env) :: starEach es X.env := by rfl) : PA X (a :: es) (tA X.K W (aCons fa fr)) := by
  refine PA.impI (pa_cons ha hr hs) fun σ H Q q => ?_
  obtain ⟨r, as, G, st, sr, er, k⟩ := q
  exact ⟨r, as, G, st, sr, er, RK.seq k fun x s1 v as1 G1 H1 _ p1 e1 v1 k1 => ⟨r, as1, G1, s1, sr.mono p1, e1, RK.seq k1 fun xs s2 vs as2 G2 H2 _ p2 e2 v2 k2 =>
    k2 (v :: vs) as2 G2 H2 (.refl _ _ _) e2 (.cons (VR.mono p2 v1) v2)⟩⟩
/-- all items are data -/
def datas : List Dv → Option (List PyData)
  | [] => some []
  | .d x :: r => (datas r).map (x :: ·)
  | _ :: _ => none
theorem datas_ok {K : PySem.W.Frag} {as : List Addr} {G : Hp} : ∀ {vs : List V} {xs : List Dv} {ds : List PyData}, VRs K as G vs xs → datas xs = some ds → RpAll K G vs ds
  | _, _, _, .nil, e => by cases e; exact .nil
  | _, .d x :: r, _, .cons h t, e => by
    simp only [datas, Option.map_eq_some_iff] at e
    obtain ⟨ds, e1, rfl⟩ := e
    exact .cons h (datas_ok t e1)
  | _, .o _ :: _, _, .cons _ _, e => by cases e
  | _, .e _ :: _, _, .cons _ _, e => by cases e
  | _, .s _ :: _, _, .cons _ _, e => by cases e
def few (ds : List PyData) : Option (List PyData) := if ds.length ≤ 1000000 then some ds else none
theorem few_ok {ds es : List PyData} (h : few ds = some es) : es = ds ∧ ds.length ≤ sizeLine := by
  unfold few at h
  split at h
  · next q => cases h; exact ⟨rfl, Nat.le_trans q (by decide)⟩
  · cases h
/-! ### displays -/
def eTup (f : SA) : SE := fun r st => (f r st).bind fun xs s1 => ansD s1 (((datas xs).bind few).map .tuple)
theorem de_tup {es : List Expr} {f : SA} {x1 : Nat} (h : PA X es (tA X.K W f)) : PE X (.Tuple es x1 pos) (tE X.K W (eTup f)) := by
  refine PE.impI (pe_tupX h) fun pins s σ H Q I q => ?_
  obtain ⟨r, as, G, st, sr, er, k⟩ := q
  refine ⟨r, as, G, st, sr, er, RK.seq k fun xs s1 vs as1 G1 H1 _ p1 e1 v1 k1 => ?_⟩
  cases e : (datas xs).bind few with
  | none => rw [e] at k1; exact k1.elim
  | some ds =>
    rw [e] at k1
    obtain ⟨d0, ed, ef⟩ := Option.bind_eq_some_iff.mp e
    obtain ⟨rfl, hl⟩ := few_ok ef
    have hv := datas_ok v1 ed
    refine ⟨by rw [RpAll.len hv]; exact hl, fun p o hp hc hd => ?_⟩
    exact k1 _ _ _ _ (Stp.frz e1 hp) (e1.frz hp) (.tup (.inl ⟨o, upd_same, hc, hd⟩) hl (RpAll.mono (Same.upd1 (e1.g_none hp)) hv))
/-- a fresh list's two uses -/
theorem fin_frz {K : PySem.W.Frag} {as : List Addr} {G H : Hp} {st : Sto} {σ : L2.St} {Wc : Str → Hp → Prop} {Q : VK} {ds : List PyData} (er : ER K as G H st) (k : RK K as G H Wc Dv V (VR K) Q (ansD st (some (.list ds)))) {p : Addr} {vs : List V} (hp : H p = none) (hl : ds.length ≤ sizeLine) (hv : RpAll K G vs ds) : Q (.ref p) (upd H p (.lst vs)) :=
  k _ _ _ _ (Stp.frz er hp) (er.frz hp) (.lst upd_same hl (RpAll.mono (Same.upd1 (er.g_none hp)) hv))
theorem fin_new {K : PySem.W.Frag} {as : List Addr} {G H : Hp} {st : Sto} {Wc : Str → Hp → Prop} {Q : VK} {ds : List PyData} (er : ER K as G H st) (k : RK K as G H Wc Dv V (VR K) Q (ansN st (some ds))) {p : Addr} {vs : List V} (hp : H p = none) (hl : ds.length ≤ sizeLine) (hv : RpAll K G vs ds) : Q (.ref p) (upd H p (.lst vs)) :=
  k (.ref p) (as ++ [p]) G (upd H p (.lst vs)) (Stp.new er hp) (er.new hp ⟨er.g_none hp, hl, vs, upd_same, hv⟩) ⟨p, by rw [List.getElem?_append_right (by rw [er.len]; exact Nat.le_refl _)]; simp [er.len], rfl⟩
def eLst (f : SA) : SE := fun r st => (f r st).bind fun xs s1 => ansD s1 (((datas xs).bind few).map .list)
def eLstN (f : SA) : SE := fun r st => (f r st).bind fun xs s1 => ansN s1 ((datas xs).bind few)
theorem de_lst {es : List Expr} {f : SA} (h : PA X es (tA X.K W f)) : PE X (.List es pos) (tE X.K W (eLst f)) := by
  refine PE.impI (pe_lst h) fun pins s σ H Q I q => ?_
  obtain ⟨r, as, G, st, sr, er, k⟩ := q
  refine ⟨r, as, G, st, sr, er, RK.seq k fun xs s1 vs as1 G1 H1 _ p1 e1 v1 k1 => ?_⟩
  cases e : (datas xs).bind few with
  | none => rw [e] at k1; exact k1.elim
  | some ds =>
    rw [e] at k1
    obtain ⟨d0, ed, ef⟩ := Option.bind_eq_some_iff.mp e
    obtain ⟨rfl, hl⟩ := few_ok ef
    have hv := datas_ok v1 ed
    exact ⟨by rw [RpAll.len hv]; exact hl, fun p hp => fin_frz (σ := σ) e1 k1 hp hl hv⟩
theorem de_lstN {es : List Expr} {f : SA} (h : PA X es (tA X.K W f)) : PE X (.List es pos) (tE X.K W (eLstN f)) := by
  refine PE.impI (pe_lst h) fun pins s σ H Q I q => ?_
  obtain ⟨r, as, G, st, sr, er, k⟩ := q
  refine ⟨r, as, G, st, sr, er, RK.seq k fun xs s1 vs as1 G1 H1 _ p1 e1 v1 k1 => ?_⟩
  cases e : (datas xs).bind few with
  | none => rw [e] at k1; exact k1.elim
  | some ds =>
    rw [e] at k1
    obtain ⟨d0, ed, ef⟩ := Option.bind_eq_some_iff.mp e
    obtain ⟨rfl, hl⟩ := few_ok ef
    have hv := datas_ok v1 ed
    exact ⟨by rw [RpAll.len hv]; exact hl, fun p hp => fin_new e1 k1 hp hl hv⟩
/-! ### two-place operations -/
abbrev G2 := Dv → Dv → Sto → Option PyData
abbrev G2L := Dv → Dv → Sto → Option (List PyData)
/-- the rule rr does what g says -/
def Snd2 (K : PySem.W.Frag) (rr : R2) (g : G2) : Prop :=
  ∀ (as : List Addr) (G H : Hp) (st : Sto) (v u : V) (x y : Dv) (d : PyData) (Q : VK), ER K as G H st → VR K as G v x → VR K as G u y → g x y st = some d →
    (∀ w G' H', Stp as G H as G' H' → ER K as G' H' st → Rp K G' w d → Q w H') → rr v u H Q
def Snd2L (K : PySem.W.Frag) (rr : R2) (g : G2L) : Prop :=
  ∀ (as : List Addr) (G H : Hp) (st : Sto) (v u : V) (x y : Dv) (ds : List PyData) (Q : VK), ER K as G H st → VR K as G v x → VR K as G u y → g x y st = some ds →
    (∀ p vs, H p = none → ds.length ≤ sizeLine → RpAll K G vs ds → Q (.ref p) (upd H p (.lst vs))) → rr v u H Q
def eBin (g : G2) (fa fb : SE) : SE := fun r st => (fa r st).bind fun x s1 => (fb r s1).bind fun y s2 => ansD s2 (g x y s2)
def eBinN (g : G2L) (fa fb : SE) : SE := fun r st => (fa r st).bind fun x s1 => (fb r s1).bind fun y s2 => ansN s2 (g x y s2)
theorem Snd2L.frz {K : PySem.W.Frag} {rr : R2} {g : G2L} (h : Snd2L K rr g) : Snd2 K rr (fun x y st => (g x y st).map .list) := by
  intro as G H st v u x y d Q er vx vy e k
  obtain ⟨ds, e1, rfl⟩ := Option.map_eq_some_iff.mp e
  exact h as G H st v u x y ds Q er vx vy e1 fun p vs hp hl hv => k _ _ _ (Stp.frz er hp) (er.frz hp) (.lst upd_same hl (RpAll.mono (Same.upd1 (er.g_none hp)) hv))
theorem two {f g : V → V → Hp → VK → Prop} : True := trivial
theorem bin_r {rr : R2} {g : G2} (hg : Snd2 X.K rr g) {σ : L2.St} {H : Hp} {Q : VK} (q : tE X.K W (eBin g fa fb) σ H Q) : tOp rr (tE X.K W fa) (tE X.K W fb) σ H Q := by
  obtain ⟨r, as, G, st, sr, er, k⟩ := q
  exact ⟨r, as, G, st, sr, er, RK.seq k fun x s1 v as1 G1 H1 _ p1 e1 v1 k1 => ⟨r, as1, G1, s1, sr.mono p1, e1, RK.seq k1 fun y s2 u as2 G2 H2 _ p2 e2 v2 k2 => by
    cases e : g x y s2 with
    | none => rw [e] at k2; exact k2.elim
    | some d =>
      rw [e] at k2
      exact hg as2 G2 H2 s2 v u x y d Q e2 (VR.mono p2 v1) v2 e fun w G' H' s' e' h' => k2 w as2 G' H' s' e' h'⟩⟩
theorem bin_n {rr : R2} {g : G2L} (hg : Snd2L X.K rr g) {σ : L2.St} {H : Hp} {Q : VK} (q : tE X.K W (eBinN g fa fb) σ H Q) : tOp rr (tE X.K W fa) (tE X.K W fb) σ H Q := by
  obtain ⟨r, as, G, st, sr, er, k⟩ := q
  exact ⟨r, as, G, st, sr, er, RK.seq k fun x s1 v as1 G1 H1 _ p1 e1 v1 k1 => ⟨r, as1, G1, s1, sr.mono p1, e1, RK.seq k1 fun y s2 u as2 G2 H2 _ p2 e2 v2 k2 => by
    cases e : g x y s2 with
    | none => rw [e] at k2; exact k2.elim
    | some ds =>
      rw [e] at k2
      exact hg as2 G2 H2 s2 v u x y ds Q e2 (VR.mono p2 v1) v2 e fun p vs hp hl hv => fin_new e2 k2 hp hl hv⟩⟩
theorem de_bin {op : Operator} {rr : R2} {g : G2} (ho : OpR X (binaryOp op) rr) (hg : Snd2 X.K rr g) (ha : PE X a (tE X.K W fa)) (hb : PE X b (tE X.K W fb)) : PE X (.BinOp a op b pos) (tE X.K W (eBin g fa fb)) :=
  PE.impI (pe_op ho ha hb) fun _ _ _ _ _ _ q => bin_r hg q
theorem de_binN {op : Operator} {rr : R2} {g : G2L} (ho : OpR X (binaryOp op) rr) (hg : Snd2L X.K rr g) (ha : PE X a (tE X.K W fa)) (hb : PE X b (tE X.K W fb)) : PE X (.BinOp a op b pos) (tE X.K W (eBinN g fa fb)) :=
  PE.impI (pe_op ho ha hb) fun _ _ _ _ _ _ q => bin_n hg q
theorem de_cmp {op : CmpOp} {rr : R2} {g : G2} (ho : OpR X (compareOp op) rr) (hg : Snd2 X.K rr g) (ha : PE X a (tE X.K W fa)) (hb : PE X b (tE X.K W fb)) (hm : behindInMarks op b = false) : PE X (.Compare a [op] [b] pos) (tE X.K W (eBin g fa fb)) :=
  PE.impI (pe_cmpR ho ha hb hm) fun _ _ _ _ _ _ q => bin_r hg q
/-- a op b op' c -/
def eChain (g g' : G2) (fa fb fc : SE) : SE := fun r st => (fa r st).bind fun x s1 => (fb r s1).bind fun y s2 => match g x y s2 with
  | some (.bool true) => (fc r s2).bind fun z s3 => ansD s3 (g' y z s3)
  | some (.bool false) => .ok (.d (.bool false)) s2
  | _ => .stuck
theorem de_chain {op op' : CmpOp} {r1 r2 : R2} {g g' : G2} (ho : OpR X (compareOp op) r1) (hg : Snd2 X.K r1 g) (ho' : OpR X (compareOp op') r2) (hg' : Snd2 X.K r2 g') (ha : PE X a (tE X.K W fa)) (hb : PE X b (tE X.K W fb)) (hc : PE X c (tE X.K W fc)) (hm : lastMarks [op, op'] [b, c] = false := by with_unfolding_all rfl) : PE X (.Compare a [op, op'] [b, c] pos) (tE X.K W (eChain g g' fa fb fc)) := by
  refine PE.impI (pe_chain ho ho' ha hb hc hm) fun pins s σ H Q I q => ?_
  obtain ⟨r, as, G, st, sr, er, k⟩ := q
  refine ⟨r, as, G, st, sr, er, RK.seq k fun x s1 v as1 G1 H1 _ p1 e1 v1 k1 => ⟨r, as1, G1, s1, sr.mono p1, e1, RK.seq k1 fun y s2 u as2 G2 H2 _ p2 e2 v2 k2 => ?_⟩⟩
  split at k2
  · next e =>
    refine hg as2 G2 H2 s2 v u x y _ _ e2 (VR.mono p2 v1) v2 e fun w G' H' s' e' h' => ?_
    cases h'
    refine ⟨true, rfl, iteT ⟨r, as2, G', s2, (sr.mono p1).mono (p2.trans s'), e', RK.seq (RK.from s' k2) fun z s3 w' as3 G3 H3 _ p3 e3 v3 k3 => ?_⟩⟩
    cases e : g' y z s3 with
    | none => rw [e] at k3; exact k3.elim
    | some d =>
      rw [e] at k3
      exact hg' as3 G3 H3 s3 u w' y z d Q e3 (VR.mono (s'.trans p3) v2) v3 e fun w G' H' s' e' h' => k3 w as3 G' H' s' e' h'
  · next e =>
    refine hg as2 G2 H2 s2 v u x y _ _ e2 (VR.mono p2 v1) v2 e fun w G' H' s' e' h' => ?_
    cases h'
    exact ⟨false, rfl, iteF (k2 _ _ _ _ s' e' (.bl false))⟩
  · exact k2.elim
end
end DL
set_option maxHeartbeats 200000
/-! D layer, part 3: tests, and, or, not, if; calls. -/
namespace DL
open PySem L2
def asB1 : Dv → Sto → Res Bool
  | .d (.bool b), st => .ok b st
  | _, _ => .stuck
theorem asB_bind (r : Res Dv) : asB r = r.bind asB1 := by
  cases r with
  | ok x st => cases x with
    | d x => cases x <;> rfl
    | o i => rfl
    | e _ => rfl
    | s ns => rfl
  | exc c st => rfl
  | stuck => rfl
theorem asB_cases {K : PySem.W.Frag} {as : List Addr} {G H : Hp} {Wc : Str → Hp → Prop} {Q : Bool → Hp → Prop} {x : Dv} {st : Sto} {v : V} (er : ER K as G H st) (hv : VR K as G v x) (k : RK K as G H Wc Bool Bool (fun _ _ a b => a = b) Q (asB1 x st)) : ∃ b, v = .bl b ∧ x = .d (.bool b) ∧ Q b H := by
  cases x with
  | d x =>
    cases x with
    | bool b => cases hv; exact ⟨b, rfl, rfl, k b as G H (.refl _ _ _) er rfl⟩
    | _ => exact k.elim
  | o i => exact k.elim
  | e _ => exact k.elim
  | s ns => exact k.elim
section
variable {X : Cx} {W : WS} {a b c : Expr} {fa fb fc : SE} {pos : Pos} {rest : List Expr}
/-- a value that is a bool, as a test -/
theorem dt_val (h : PE X a (tE X.K W fa)) (he : ∀ whole, isTrue a X.env whole = (do let v ← whole; standAt a.pos; holding [v] (truthy v)) := by intro _; rfl) : PT X a (tT X.K W fa) := by
  refine PT.impI (pt_val h he) fun pins s σ H Q I q => ?_
  obtain ⟨r, as, G, st, sr, er, k⟩ := q
  rw [asB_bind] at k
  exact ⟨r, as, G, st, sr, er, RK.seq k fun x s1 v as1 G1 H1 _ p1 e1 v1 k1 => let ⟨b, h1, _, h3⟩ := asB_cases e1 v1 k1; ⟨b, h1, h3⟩⟩
theorem tst_r {t : TE} {σ : L2.St} {H : Hp} {Q : Bool → Hp → Prop} {f : SE} (h : ∀ Q', tE X.K W f σ H Q' → t σ H Q') (q : tT X.K W f σ H Q) : tTest t σ H Q := by
  refine h _ ?_
  obtain ⟨r, as, G, st, sr, er, k⟩ := q
  rw [asB_bind] at k
  exact ⟨r, as, G, st, sr, er, RK.seq k fun x s1 v as1 G1 H1 _ p1 e1 v1 k1 => let ⟨b, h1, _, h3⟩ := asB_cases e1 v1 k1; ⟨b, h1, h3⟩⟩
theorem dt_cmp {op : CmpOp} {rr : R2} {g : G2} (ho : OpR X (compareOp op) rr) (hg : Snd2 X.K rr g) (ha : PE X a (tE X.K W fa)) (hb : PE X b (tE X.K W fb)) (hm : behindInMarks op b = false) : PT X (.Compare a [op] [b] pos) (tT X.K W (eBin g fa fb)) :=
  PT.impI (pt_cmpR ho ha hb hm) fun _ _ _ _ _ _ q => tst_r (fun _ z => bin_r hg z) q
theorem chain_r {r1 r2 : R2} {g g' : G2} (hg : Snd2 X.K r1 g) (hg' : Snd2 X.K r2 g') {σ : L2.St} {H : Hp} {Q : VK} (q : tE X.K W (eChain g g' fa fb fc) σ H Q) : tChain r1 r2 (tE X.K W fa) (tE X.K W fb) (tE X.K W fc) σ H Q := by
  obtain ⟨r, as, G, st, sr, er, k⟩ := q
  refine ⟨r, as, G, st, sr, er, RK.seq k fun x s1 v as1 G1 H1 _ p1 e1 v1 k1 => ⟨r, as1, G1, s1, sr.mono p1, e1, RK.seq k1 fun y s2 u as2 G2 H2 _ p2 e2 v2 k2 => ?_⟩⟩
  split at k2
  · next e =>
    refine hg as2 G2 H2 s2 v u x y _ _ e2 (VR.mono p2 v1) v2 e fun w G' H' s' e' h' => ?_
    cases h'
    refine ⟨true, rfl, iteT ⟨r, as2, G', s2, (sr.mono p1).mono (p2.trans s'), e', RK.seq (RK.from s' k2) fun z s3 w' as3 G3 H3 _ p3 e3 v3 k3 => ?_⟩⟩
    cases e : g' y z s3 with
    | none => rw [e] at k3; exact k3.elim
    | some d =>
      rw [e] at k3
      exact hg' as3 G3 H3 s3 u w' y z d Q e3 (VR.mono (s'.trans p3) v2) v3 e fun w G' H' s' e' h' => k3 w as3 G' H' s' e' h'
  · next e =>
    refine hg as2 G2 H2 s2 v u x y _ _ e2 (VR.mono p2 v1) v2 e fun w G' H' s' e' h' => ?_
    cases h'
    exact ⟨false, rfl, iteF (k2 _ _ _ _ s' e' (.bl false))⟩
  · exact k2.elim
theorem dt_chain {op op' : CmpOp} {r1 r2 : R2} {g g' : G2} (ho : OpR X (compareOp op) r1) (hg : Snd2 X.K r1 g) (ho' : OpR X (compareOp op') r2) (hg' : Snd2 X.K r2 g') (ha : PE X a (tE X.K W fa)) (hb : PE X b (tE X.K W fb)) (hc : PE X c (tE X.K W fc)) (hm : lastMarks [op, op'] [b, c] = false := by with_unfolding_all rfl) : PT X (.Compare a [op, op'] [b, c] pos) (tT X.K W (eChain g g' fa fb fc)) :=
  PT.impI (pt_chain ho ho' ha hb hc hm) fun _ _ _ _ _ _ q => tst_r (fun _ z => chain_r hg hg' z) q
/-! ### and, or, not -/
def eAnd (fa fb : SE) : SE := fun r st => (asB (fa r st)).bind fun b s1 => match b with
  | true => fb r s1
  | false => .ok (.d (.bool false)) s1
def eOr (fa fb : SE) : SE := fun r st => (asB (fa r st)).bind fun b s1 => match b with
  | true => .ok (.d (.bool true)) s1
  | false => fb r s1
def eNot (fa : SE) : SE := fun r st => (asB (fa r st)).bind fun b s1 => .ok (.d (.bool (!b))) s1
theorem asB_and (fa fb : SE) (r : Vn) (st : Sto) : asB (eAnd fa fb r st) = (asB (fa r st)).bind fun b s1 => match b with | true => asB (fb r s1) | false => .ok false s1 := by
  unfold eAnd
  cases asB (fa r st) with
  | ok b s => cases b <;> rfl
  | _ => rfl
theorem asB_or (fa fb : SE) (r : Vn) (st : Sto) : asB (eOr fa fb r st) = (asB (fa r st)).bind fun b s1 => match b with | true => .ok true s1 | false => asB (fb r s1) := by
  unfold eOr
  cases asB (fa r st) with
  | ok b s => cases b <;> rfl
  | _ => rfl
theorem asB_not (fa : SE) (r : Vn) (st : Sto) : asB (eNot fa r st) = (asB (fa r st)).bind fun b s1 => .ok (!b) s1 := by
  unfold eNot
  cases asB (fa r st) with
  | ok b s => rfl
  | _ => rfl
theorem dw_and1 (ha : PT X a (tT X.K W fa)) : PW X (.BoolOp .And [a] pos) (tT X.K W fa) := pw_and1 ha
theorem dw_or1 (ha : PT X a (tT X.K W fa)) : PW X (.BoolOp .Or [a] pos) (tT X.K W fa) := pw_or1 ha
theorem dw_and (ha : PT X a (tT X.K W fa)) (hb : PW X (.BoolOp .And (b :: rest) pos) (tT X.K W fb)) : PW X (.BoolOp .And (a :: b :: rest) pos) (tT X.K W (eAnd fa fb)) := by
  refine PW.impI (pw_and ha hb) fun σ H Q q => ?_
  obtain ⟨r, as, G, st, sr, er, k⟩ := q
  rw [asB_and] at k
  refine ⟨r, as, G, st, sr, er, RK.seq k fun x s1 v as1 G1 H1 _ p1 e1 v1 k1 => ?_⟩
  subst v1
  cases v with
  | true => exact iteT ⟨r, as1, G1, s1, sr.mono p1, e1, k1⟩
  | false => exact iteF (k1 false _ _ _ (.refl _ _ _) e1 rfl)
theorem dw_or (ha : PT X a (tT X.K W fa)) (hb : PW X (.BoolOp .Or (b :: rest) pos) (tT X.K W fb)) : PW X (.BoolOp .Or (a :: b :: rest) pos) (tT X.K W (eOr fa fb)) := by
  refine PW.impI (pw_or ha hb) fun σ H Q q => ?_
  obtain ⟨r, as, G, st, sr, er, k⟩ := q
  rw [asB_or] at k
  refine ⟨r, as, G, st, sr, er, RK.seq k fun x s1 v as1 G1 H1 _ p1 e1 v1 k1 => ?_⟩
  subst v1
  cases v with
  | true => exact iteT (k1 true _ _ _ (.refl _ _ _) e1 rfl)
  | false => exact iteF ⟨r, as1, G1, s1, sr.mono p1, e1, k1⟩
theorem dt_not (ha : PT X a (tT X.K W fa)) : PT X (.UnaryOp .Not a pos) (tT X.K W (eNot fa)) := by
  refine PT.impI (pt_not ha) fun pins s σ H Q I q => ?_
  obtain ⟨r, as, G, st, sr, er, k⟩ := q
  rw [asB_not] at k
  refine ⟨r, as, G, st, sr, er, RK.seq k fun x s1 v as1 G1 H1 _ p1 e1 v1 k1 => ?_⟩
  subst v1
  exact k1 _ _ _ _ (.refl _ _ _) e1 rfl
theorem de_one {op : BoolOp} (h : PE X a (tE X.K W fa)) : PE X (.BoolOp op [a] pos) (tE X.K W fa) := pe_one h
theorem de_and (ha : PE X a (tE X.K W fa)) (hb : PE X (.BoolOp .And (b :: rest) pos) (tE X.K W fb)) : PE X (.BoolOp .And (a :: b :: rest) pos) (tE X.K W (eAnd fa fb)) := by
  refine PE.impI (pe_and ha hb) fun pins s σ H Q I q => ?_
  obtain ⟨r, as, G, st, sr, er, k⟩ := q
  have k : RK X.K as G H (fun c H' => W c σ H') Dv V (VR X.K) Q ((fa r st).bind fun x s1 => (asB1 x s1).bind fun b s1 => match b with | true => fb r s1 | false => .ok (.d (.bool false)) s1) := by
    unfold eAnd at k
    rw [asB_bind] at k
    cases e : fa r st with
    | _ => rw [e] at k; exact k
  refine ⟨r, as, G, st, sr, er, RK.seq k fun x s1 v as1 G1 H1 _ p1 e1 v1 k1 => ?_⟩
  cases x with
  | d x =>
    cases x with
    | bool b =>
      cases v1
      cases b with
      | true => exact ⟨true, rfl, iteT ⟨r, as1, G1, s1, sr.mono p1, e1, k1⟩⟩
      | false => exact ⟨false, rfl, iteF (k1 _ _ _ _ (.refl _ _ _) e1 (.bl false))⟩
    | _ => exact k1.elim
  | o i => exact k1.elim
  | e _ => exact k1.elim
  | s ns => exact k1.elim
theorem de_or (ha : PE X a (tE X.K W fa)) (hb : PE X (.BoolOp .Or (b :: rest) pos) (tE X.K W fb)) : PE X (.BoolOp .Or (a :: b :: rest) pos) (tE X.K W (eOr fa fb)) := by
  refine PE.impI (pe_or ha hb) fun pins s σ H Q I q => ?_
  obtain ⟨r, as, G, st, sr, er, k⟩ := q
  have k : RK X.K as G H (fun c H' => W c σ H') Dv V (VR X.K) Q ((fa r st).bind fun x s1 => (asB1 x s1).bind fun b s1 => match b with | true => .ok (.d (.bool true)) s1 | false => fb r s1) := by
    unfold eOr at k
    rw [asB_bind] at k
    cases e : fa r st with
    | _ => rw [e] at k; exact k
  refine ⟨r, as, G, st, sr, er, RK.seq k fun x s1 v as1 G1 H1 _ p1 e1 v1 k1 => ?_⟩
  cases x with
  | d x =>
    cases x with
    | bool b =>
      cases v1
      cases b with
      | true => exact ⟨true, rfl, iteT (k1 _ _ _ _ (.refl _ _ _) e1 (.bl true))⟩
      | false => exact ⟨false, rfl, iteF ⟨r, as1, G1, s1, sr.mono p1, e1, k1⟩⟩
    | _ => exact k1.elim
  | o i => exact k1.elim
  | e _ => exact k1.elim
  | s ns => exact k1.elim
theorem de_not (ha : PE X a (tE X.K W fa)) : PE X (.UnaryOp .Not a pos) (tE X.K W (eNot fa)) := by
  refine PE.impI (pe_not ha) fun pins s σ H Q I q => ?_
  obtain ⟨r, as, G, st, sr, er, k⟩ := q
  have k : RK X.K as G H (fun c H' => W c σ H') Dv V (VR X.K) Q ((fa r st).bind fun x s1 => (asB1 x s1).bind fun b s1 => .ok (.d (.bool (!b))) s1) := by
    unfold eNot at k
    rw [asB_bind] at k
    cases e : fa r st with
    | _ => rw [e] at k; exact k
  refine ⟨r, as, G, st, sr, er, RK.seq k fun x s1 v as1 G1 H1 _ p1 e1 v1 k1 => ?_⟩
  cases x with
  | d x =>
    cases x with
    | bool b =>
      cases v1
      exact ⟨b, rfl, k1 _ _ _ _ (.refl _ _ _) e1 (.bl _)⟩
    | _ => exact k1.elim
  | o i => exact k1.elim
  | e _ => exact k1.elim
  | s ns => exact k1.elim
def eIf (ft fa fb : SE) : SE := fun r st => (asB (ft r st)).bind fun b s1 => match b with
  | true => fa r s1
  | false => fb r s1
theorem de_if (hc : PT X c (tT X.K W fc)) (ha : PE X a (tE X.K W fa)) (hb : PE X b (tE X.K W fb)) : PE X (.IfExp c a b pos) (tE X.K W (eIf fc fa fb)) := by
  refine PE.impI (pe_ifExp hc ha hb) fun pins s σ H Q I q => ?_
  obtain ⟨r, as, G, st, sr, er, k⟩ := q
  refine ⟨r, as, G, st, sr, er, RK.seq k fun x s1 v as1 G1 H1 _ p1 e1 v1 k1 => ?_⟩
  subst v1
  cases v with
  | true => exact iteT ⟨r, as1, G1, s1, sr.mono p1, e1, k1⟩
  | false => exact iteF ⟨r, as1, G1, s1, sr.mono p1, e1, k1⟩
end
/-! ### calls of defs -/
/-- what a def promises: it does what g says; ca: the class of an exception by its name -/
def spD (K : PySem.W.Frag) (ca : Str → Addr) (np : Nat) (g : SF) : Sp := fun vs H Q E => vs.length = np ∧ ∃ as G st xs, ER K as G H st ∧ VRs K as G vs xs ∧
  RK K as G H (fun c H' => E (.ref (ca c)) none H') Dv V (VR K) Q (g xs st)
/-- the wish about exceptions, in the layer's form -/
def wx (ca : Str → Addr) (W : WS) : WX := fun cls d σ H => ∃ c, cls = .ref (ca c) ∧ d = none ∧ W c σ H
def eCall (g : SF) (fa : SA) : SE := fun r st => (fa r st).bind fun xs s1 => g xs s1
section
variable {X : Cx} {W : WS} {ca : Str → Addr} {k np : Nat} {f : Addr} {fd : FuncData} {ps : List Str} {g : SF} {x : Str} {p pos : Pos} {e : Expr} {es : List Expr} {fa : SA}
theorem de_call (F : FnOk X.prog X.w X.K X.mg X.base (L2N.CX X.prog X.w) k f fd ps (spD X.K ca np g)) (hn : (e :: es).length = np) (hr : Room k X.A) (tk : L2N.Takes X (wx ca W)) (hg : Gl X x) (hm : X.mg x = some (.ref f)) (hk : PySem.W.keepIn X.K (.ref f) = true) (hb : Binds X.K fd ps [])
    (ha : PA X (e :: es) (tA X.K W fa)) (hl : ∀ r st xs st', fa r st = .ok xs st' → xs.length = np) (hdb : (x == ("__debug__" : Str)) = false := by decide) (he : starEach (e :: es) X.env = (false, eval e X.env) :: starEach es X.env := by rfl) (hpl : (backTo pos (starEach es X.env)).any (·.1) = false := by rfl) :
    PE X (.Call (.Name x p) (e :: es) [] pos) (tE X.K W (eCall g fa)) := by
  refine PE.impI (pe_callS F hr hg hm hk hb (fun σ => L2N.passAt tk σ) ha hdb he hpl) fun pins s σ H Q I q => ?_
  obtain ⟨r, as, G, st, sr, er, k⟩ := q
  refine ⟨r, as, G, st, sr, er, RK.seq k fun xs s1 vs as1 G1 H1 ex p1 e1 v1 k1 => ⟨(Paired.length v1).trans (hl r st xs s1 ex), as1, G1, s1, xs, e1, v1, ?_⟩⟩
  cases eg : g xs s1 with
  | ok y s2 => rw [eg] at k1; exact k1
  | exc c s2 => rw [eg] at k1; exact fun as' G' H' s' e' => ⟨c, rfl, rfl, k1 as' G' H' s' e'⟩
  | stuck => rw [eg] at k1; exact k1
end
/-- how many values -/
theorem aCons_len {fa : SE} {fr : SA} {n : Nat} (h : ∀ r st xs st', fr r st = .ok xs st' → xs.length = n) : ∀ r st xs st', aCons fa fr r st = .ok xs st' → xs.length = n + 1 := by
  intro r st xs st' e
  unfold aCons at e
  cases e1 : fa r st with
  | ok x s1 =>
    rw [e1] at e
    simp only [bind_ok] at e
    cases e2 : fr r s1 with
    | ok ys s2 =>
      rw [e2] at e
      simp only [bind_ok] at e
      cases e
      rw [List.length_cons, h _ _ _ _ e2]
    | exc c s2 => rw [e2] at e; cases e
    | stuck => rw [e2] at e; cases e
  | exc c s1 => rw [e1] at e; cases e
  | stuck => rw [e1] at e; cases e
theorem aNil_len : ∀ r st xs st', aNil r st = .ok xs st' → xs.length = 0 := by
  intro r st xs st' e
  cases e
  rfl
/-! ### calls of built-ins -/
abbrev G1 := List Dv → Sto → Option PyData
abbrev G1L := List Dv → Sto → Option (List PyData)
def Snd1 (K : PySem.W.Frag) (rr : List V → Hp → VK → Prop) (g : G1) : Prop :=
  ∀ (as : List Addr) (G H : Hp) (st : Sto) (vs : List V) (xs : List Dv) (d : PyData) (Q : VK), ER K as G H st → VRs K as G vs xs → g xs st = some d →
    (∀ w G' H', Stp as G H as G' H' → ER K as G' H' st → Rp K G' w d → Q w H') → rr vs H Q
def Snd1L (K : PySem.W.Frag) (rr : List V → Hp → VK → Prop) (g : G1L) : Prop :=
  ∀ (as : List Addr) (G H : Hp) (st : Sto) (vs : List V) (xs : List Dv) (ds : List PyData) (Q : VK), ER K as G H st → VRs K as G vs xs → g xs st = some ds →
    (∀ p us, H p = none → ds.length ≤ sizeLine → RpAll K G us ds → Q (.ref p) (upd H p (.lst us))) → rr vs H Q
theorem Snd1L.frz {K : PySem.W.Frag} {rr : List V → Hp → VK → Prop} {g : G1L} (h : Snd1L K rr g) : Snd1 K rr (fun xs st => (g xs st).map .list) := by
  intro as G H st vs xs d Q er vx e k
  obtain ⟨ds, e1, rfl⟩ := Option.map_eq_some_iff.mp e
  exact h as G H st vs xs ds Q er vx e1 fun p us hp hl hv => k _ _ _ (Stp.frz er hp) (er.frz hp) (.lst upd_same hl (RpAll.mono (Same.upd1 (er.g_none hp)) hv))
def eB (g : G1) (fa : SA) : SE := fun r st => (fa r st).bind fun xs s1 => ansD s1 (g xs s1)
def eBN (g : G1L) (fa : SA) : SE := fun r st => (fa r st).bind fun xs s1 => ansN s1 (g xs s1)
section
variable {X : Cx} {W : WS} {rr : List V → Hp → VK → Prop} {g : G1} {gl : G1L} {x : Str} {id T : String} {p pos : Pos} {e : Expr} {es : List Expr} {fa : SA}
theorem b_r (hg : Snd1 X.K rr g) {σ : L2.St} {H : Hp} {Q : VK} (q : tE X.K W (eB g fa) σ H Q) : tCB rr (tA X.K W fa) σ H Q := by
  obtain ⟨r, as, G, st, sr, er, k⟩ := q
  refine ⟨r, as, G, st, sr, er, RK.seq k fun xs s1 vs as1 G1 H1 _ p1 e1 v1 k1 => ?_⟩
  cases ed : g xs s1 with
  | none => rw [ed] at k1; exact k1.elim
  | some d =>
    rw [ed] at k1
    exact hg as1 G1 H1 s1 vs xs d Q e1 v1 ed fun w G' H' s' e' h' => k1 w as1 G' H' s' e' h'
theorem b_n (hg : Snd1L X.K rr gl) {σ : L2.St} {H : Hp} {Q : VK} (q : tE X.K W (eBN gl fa) σ H Q) : tCB rr (tA X.K W fa) σ H Q := by
  obtain ⟨r, as, G, st, sr, er, k⟩ := q
  refine ⟨r, as, G, st, sr, er, RK.seq k fun xs s1 vs as1 G1 H1 _ p1 e1 v1 k1 => ?_⟩
  cases ed : gl xs s1 with
  | none => rw [ed] at k1; exact k1.elim
  | some d =>
    rw [ed] at k1
    exact hg as1 G1 H1 s1 vs xs d Q e1 v1 ed fun q us hp hl hv => fin_new e1 k1 hp hl hv
theorem de_b (hc : CallR X (.builtin id) rr) (hg : Snd1 X.K rr g) (hgl : Gl X x) (hm : X.mg x = none) (hv : bootBuiltins x = some (.builtin id)) (ha : PA X (e :: es) (tA X.K W fa)) (hn : x ≠ "__name__" := by decide) (hdb : (x == ("__debug__" : Str)) = false := by decide) (he : starEach (e :: es) X.env = (false, eval e X.env) :: starEach es X.env := by rfl) (hpl : (backTo pos (starEach es X.env)).any (·.1) = false := by rfl) :
    PE X (.Call (.Name x p) (e :: es) [] pos) (tE X.K W (eB g fa)) := PE.impI (pe_callB hc hgl hm hv ha hn hdb he hpl) fun _ _ _ _ _ _ q => b_r hg q
theorem de_bN (hc : CallR X (.builtin id) rr) (hg : Snd1L X.K rr gl) (hgl : Gl X x) (hm : X.mg x = none) (hv : bootBuiltins x = some (.builtin id)) (ha : PA X (e :: es) (tA X.K W fa)) (hn : x ≠ "__name__" := by decide) (hdb : (x == ("__debug__" : Str)) = false := by decide) (he : starEach (e :: es) X.env = (false, eval e X.env) :: starEach es X.env := by rfl) (hpl : (backTo pos (starEach es X.env)).any (·.1) = false := by rfl) :
    PE X (.Call (.Name x p) (e :: es) [] pos) (tE X.K W (eBN gl fa)) := PE.impI (pe_callB hc hgl hm hv ha hn hdb he hpl) fun _ _ _ _ _ _ q => b_n hg q
theorem de_ty (hc : CallR X (.type T) rr) (hg : Snd1 X.K rr g) (hgl : Gl X x) (hm : X.mg x = none) (hv : bootBuiltins x = some (.type T)) (ha : PA X (e :: es) (tA X.K W fa)) (hn : x ≠ "__name__" := by decide) (hdb : (x == ("__debug__" : Str)) = false := by decide) (he : starEach (e :: es) X.env = (false, eval e X.env) :: starEach es X.env := by rfl) (hpl : (backTo pos (starEach es X.env)).any (·.1) = false := by rfl) :
    PE X (.Call (.Name x p) (e :: es) [] pos) (tE X.K W (eB g fa)) := PE.impI (pe_callTy hc hgl hm hv ha hn hdb he hpl) fun _ _ _ _ _ _ q => b_r hg q
theorem de_tyN (hc : CallR X (.type T) rr) (hg : Snd1L X.K rr gl) (hgl : Gl X x) (hm : X.mg x = none) (hv : bootBuiltins x = some (.type T)) (ha : PA X (e :: es) (tA X.K W fa)) (hn : x ≠ "__name__" := by decide) (hdb : (x == ("__debug__" : Str)) = false := by decide) (he : starEach (e :: es) X.env = (false, eval e X.env) :: starEach es X.env := by rfl) (hpl : (backTo pos (starEach es X.env)).any (·.1) = false := by rfl) :
    PE X (.Call (.Name x p) (e :: es) [] pos) (tE X.K W (eBN gl fa)) := PE.impI (pe_callTy hc hgl hm hv ha hn hdb he hpl) fun _ _ _ _ _ _ q => b_n hg q
end
end DL
set_option maxHeartbeats 200000
/-! D layer, part 4: targets, what is walked, statements. -/
namespace DL
open PySem L2
/-! ### targets: a name, several names -/
inductive Tgt where
  | nm (i : Nat)
  | tp (is : List Nat)
def setN : List Nat → List PyData → Vn → Vn
  | i :: is, d :: ds, r => setN is ds (r.set i (some (.d d)))
  | _, _, r => r
def setT : Tgt → Dv → Vn → Option Vn
  | .nm i, x, r => some (r.set i (some x))
  | .tp is, .d (.tuple ds), r => if ds.length = is.length then some (setN is ds r) else none
  | .tp _, _, _ => none
def setV : List Nat → List V → L2.St → L2.St
  | i :: is, v :: vs, σ => setV is vs (σ.set i (some v))
  | _, _, σ => σ
def gNs : List Nat → TGs
  | [] => gNil
  | i :: is => gCons (gName i) (gNs is)
theorem gNs_ok : ∀ {is : List Nat} {vs : List V} {σ : L2.St} {H : Hp} {Q : L2.St → Hp → Prop}, vs.length = is.length → Q (setV is vs σ) H → gNs is vs σ H Q
  | [], [], _, _, _, _, q => ⟨rfl, q⟩
  | i :: is, v :: vs, σ, H, Q, hl, q => ⟨v, vs, rfl, gNs_ok (is := is) (by simpa using hl) q⟩
  | [], _ :: _, _, _, _, hl, _ => by simp at hl
  | _ :: _, [], _, _, _, hl, _ => by simp at hl
def gT (K : PySem.W.Frag) : Tgt → TG
  | .nm i => gName i
  | .tp is => gTup K is.length (gNs is)
theorem SR.puts {K : PySem.W.Frag} {as : List Addr} {G : Hp} : ∀ {is : List Nat} {vs : List V} {ds : List PyData} {σ : L2.St} {r : Vn}, SR K as G σ r → RpAll K G vs ds → SR K as G (setV is vs σ) (setN is ds r)
  | [], _, _, _, _, h, _ => by simpa [setV, setN] using h
  | _ :: _, _, _, _, _, h, .nil => by simpa [setV, setN] using h
  | i :: is, _, _, σ, r, h, .cons q t => by
    rw [setV, setN]
    exact SR.puts (h.put i (x := .d _) q) t
/-- the target's slots -/
def Tgt.slots : Tgt → List Nat
  | .nm i => [i]
  | .tp is => is
theorem setV_len : ∀ (is : List Nat) (vs : List V) (σ : L2.St), (setV is vs σ).length = σ.length
  | [], _, _ => by simp [setV]
  | _ :: _, [], _ => by simp [setV]
  | i :: is, v :: vs, σ => by simp [setV, setV_len is vs]
theorem setV_get : ∀ (is : List Nat) (vs : List V) (σ : L2.St) (j : Nat), j ∉ is → (setV is vs σ)[j]? = σ[j]?
  | [], _, _, _, _ => by simp [setV]
  | _ :: _, [], _, _, _ => by simp [setV]
  | i :: is, v :: vs, σ, j, h => by
    simp only [List.mem_cons, not_or] at h
    rw [setV, setV_get is vs _ j h.2, List.getElem?_set_ne (Ne.symm h.1)]
theorem wipe_get (σ : L2.St) : ∀ (vs : List Nat) (j : Nat), (wipe σ vs)[j]? = if j ∈ vs then (σ[j]?).map (fun _ => none) else σ[j]?
  | [], j => by simp [wipe]
  | v :: vs, j => by
    rw [wipe, List.getElem?_set, wipe_length]
    by_cases e : v = j
    · subst e
      by_cases h : v < σ.length
      · simp [h]
      · simp [h]
    · rw [if_neg e, wipe_get σ vs j]
      have e' : ¬ j = v := fun q => e q.symm
      simp [e']
theorem wipe_same {σ τ : L2.St} {vs : List Nat} (hl : τ.length = σ.length) (h : ∀ j, j ∉ vs → τ[j]? = σ[j]?) : wipe τ vs = wipe σ vs := by
  apply List.ext_getElem?
  intro j
  rw [wipe_get, wipe_get]
  by_cases m : j ∈ vs
  · rw [if_pos m, if_pos m]
    by_cases hj : j < σ.length
    · rw [List.getElem?_eq_getElem hj, List.getElem?_eq_getElem (hl ▸ hj)]; rfl
    · rw [List.getElem?_eq_none (by omega), List.getElem?_eq_none (by omega)]
  · rw [if_neg m, if_neg m, h j m]
/-- what a target does, its value known -/
theorem gT_ok {K : PySem.W.Frag} {as : List Addr} {G H : Hp} {st : Sto} {σ : L2.St} {r r' : Vn} {v : V} {x : Dv} {Q : L2.St → Hp → Prop} : ∀ {tg : Tgt}, ER K as G H st → SR K as G σ r → VR K as G v x → setT tg x r = some r' →
    (∀ σ', SR K as G σ' r' → σ'.length = σ.length → (∀ j, j ∉ tg.slots → σ'[j]? = σ[j]?) → Q σ' H) → gT K tg v σ H Q
  | .nm i, er, sr, vr, e, k => by
    cases e
    exact k _ (sr.put i vr) (by simp) fun j hj => by
      rw [List.getElem?_set_ne (fun q => hj (by simp [Tgt.slots, q]))]
  | .tp is, er, sr, vr, e, k => by
    cases x with
    | d x =>
      cases x with
      | tuple ds =>
        simp only [setT] at e
        split at e
        · next hl =>
          cases e
          cases vr with
          | tup q _ t =>
            have hv := (RpAll.len t).trans hl
            exact ⟨_, _, rfl, (TupX.mono er.sub q).sq, hv, gNs_ok hv (k _ (sr.puts t) (setV_len _ _ _) fun j hj => setV_get _ _ _ j hj)⟩
        · cases e
      | _ => cases e
    | o i => cases e
    | e _ => cases e
    | s ns => cases e
/-- an item that is walked: a pair made by zip or enumerate is known as a tuple, no more -/
def IR (K : PySem.W.Frag) (G : Hp) (v : V) (d : PyData) : Prop := Rp K G v d ∨ ∃ a vs ds, v = .ref a ∧ d = .tuple ds ∧ SqT K G a vs ∧ RpAll K G vs ds
def setI (ex : Bool) : Tgt → PyData → Vn → Option Vn
  | .nm i, d, r => if ex = true then some (r.set i (some (.d d))) else none
  | .tp is, .tuple ds, r => if ds.length = is.length then some (setN is ds r) else none
  | .tp _, _, _ => none
theorem gI_ok {K : PySem.W.Frag} {as : List Addr} {G H : Hp} {st : Sto} {σ : L2.St} {r r' : Vn} {v : V} {d : PyData} {ex : Bool} {Q : L2.St → Hp → Prop} : ∀ {tg : Tgt}, ER K as G H st → SR K as G σ r → (ex = true → Rp K G v d) → IR K G v d → setI ex tg d r = some r' →
    (∀ σ', SR K as G σ' r' → σ'.length = σ.length → (∀ j, j ∉ tg.slots → σ'[j]? = σ[j]?) → Q σ' H) → gT K tg v σ H Q
  | .nm i, er, sr, vx, vr, e, k => by
    simp only [setI] at e
    split at e
    · next hx =>
      cases e
      exact gT_ok (tg := .nm i) (x := .d d) er sr (vx hx) rfl k
    · cases e
  | .tp is, er, sr, vx, vr, e, k => by
    cases d with
    | tuple ds =>
      simp only [setI] at e
      split at e
      · next hl =>
        cases e
        have fin : ∀ {a : Addr} {vs : List V}, SqT K H a vs → RpAll K G vs ds → gT K (.tp is) (.ref a) σ H Q := fun {a vs} q t => by
          have hv := (RpAll.len t).trans hl
          exact ⟨a, vs, rfl, q, hv, gNs_ok hv (k _ (sr.puts t) (setV_len _ _ _) fun j hj => setV_get _ _ _ j hj)⟩
        rcases vr with vr | ⟨a, vs, es, rfl, e2, q, t⟩
        · cases vr with
          | tup q _ t => exact fin (TupX.mono er.sub q).sq t
        · cases e2
          exact fin (Same.seqT er.sub q) t
      · cases e
    | _ => cases e
/-! ### what is walked -/
mutual
def beqD : PyData → PyData → Bool
  | .none, .none => true
  | .bool a, .bool b => a == b
  | .int a, .int b => decide (a = b)
  | .str a, .str b => decide (a = b)
  | .list xs, .list ys => beqL xs ys
  | .tuple xs, .tuple ys => beqL xs ys
  | _, _ => false
def beqL : List PyData → List PyData → Bool
  | [], [] => true
  | x :: xs, y :: ys => beqD x y && beqL xs ys
  | _, _ => false
end
mutual
theorem beqD_eq : ∀ {x y : PyData}, beqD x y = true → x = y
  | .none, .none, _ => rfl
  | .bool a, .bool b, h => by simp [beqD] at h; rw [h]
  | .int a, .int b, h => by simp [beqD] at h; rw [h]
  | .str a, .str b, h => by simp [beqD] at h; rw [h]
  | .list xs, .list ys, h => by rw [beqL_eq (xs := xs) (ys := ys) (by simpa [beqD] using h)]
  | .tuple xs, .tuple ys, h => by rw [beqL_eq (xs := xs) (ys := ys) (by simpa [beqD] using h)]
  | .none, .bool _, h | .none, .int _, h | .none, .str _, h | .none, .list _, h | .none, .tuple _, h | .none, .dict _, h => by simp [beqD] at h
  | .bool _, .none, h | .bool _, .int _, h | .bool _, .str _, h | .bool _, .list _, h | .bool _, .tuple _, h | .bool _, .dict _, h => by simp [beqD] at h
  | .int _, .none, h | .int _, .bool _, h | .int _, .str _, h | .int _, .list _, h | .int _, .tuple _, h | .int _, .dict _, h => by simp [beqD] at h
  | .str _, .none, h | .str _, .bool _, h | .str _, .int _, h | .str _, .list _, h | .str _, .tuple _, h | .str _, .dict _, h => by simp [beqD] at h
  | .list _, .none, h | .list _, .bool _, h | .list _, .int _, h | .list _, .str _, h | .list _, .tuple _, h | .list _, .dict _, h => by simp [beqD] at h
  | .tuple _, .none, h | .tuple _, .bool _, h | .tuple _, .int _, h | .tuple _, .str _, h | .tuple _, .list _, h | .tuple _, .dict _, h => by simp [beqD] at h
  | .dict _, _, h => by simp [beqD] at h
theorem beqL_eq : ∀ {xs ys : List PyData}, beqL xs ys = true → xs = ys
  | [], [], _ => rfl
  | x :: xs, y :: ys, h => by
    simp only [beqL, Bool.and_eq_true] at h
    rw [beqD_eq h.1, beqL_eq h.2]
  | [], _ :: _, h => by simp [beqL] at h
  | _ :: _, [], h => by simp [beqL] at h
end
/-- the items; the object that is walked; whether the items are known exactly -/
abbrev Wk := List PyData × Option Nat × Bool
/-- the walked object (if it may change) stands as it stood -/
def okG (st : Sto) : Wk → Bool
  | (_, none, _) => true
  | (ds, some i, _) => match st[i]? with
    | some (.lst es) => beqL es ds
    | _ => false
theorem okG_some {st : Sto} {ds : List PyData} {i : Nat} {b : Bool} (h : okG st (ds, some i, b) = true) : st[i]? = some (.lst ds) := by
  simp only [okG] at h
  split at h
  · next es e => rw [e, beqL_eq h]
  · cases h
abbrev SI := Vn → Sto → Res Wk
def ItR (K : PySem.W.Frag) (as0 : List Addr) (G0 : Hp) (J : It) (z : Wk) : Prop :=
  ∀ (i : Nat) (as : List Addr) (G H : Hp) (st : Sto), (∃ m, as = as0 ++ m) → Same G0 G → ER K as G H st → okG st z = true →
    (z.1.length ≤ i → J.stop i H) ∧ (∀ d, z.1[i]? = some d → J.go i H ∧ ∀ x H', J.yld i H x H' → ∃ G', Stp as G H as G' H' ∧ ER K as G' H' st ∧ (z.2.2 = true → Rp K G' x d) ∧ IR K G' x d)
def tI (K : PySem.W.Frag) (W : WS) (f : SI) : TI := fun σ H R => ∃ r as G st, SR K as G σ r ∧ ER K as G H st ∧ RK K as G H (fun c H' => W c σ H') Wk It (ItR K) R (f r st)
theorem seqL_inj {K : PySem.W.Frag} {X : Cx} {pins : List (Addr × Obj)} {σ : L2.St} {H : Hp} {s : Shared} : True := trivial
section
variable {K : PySem.W.Frag} {as : List Addr} {G H : Hp}
/-- a walk over what is in G -/
theorem ItR.lst {a : Addr} {vs : List V} {ds : List PyData} (h : G a = some (.lst vs)) (t : RpAll K G vs ds) : ItR K as G (Itl K a) (ds, none, true) := by
  intro i as' G' H' st _ sg er _
  have hv : H' a = some (.lst vs) := er.sub _ _ (sg _ _ h)
  refine ⟨fun hl => ⟨vs, SqL.of hv, by rw [RpAll.len t]; exact hl⟩, fun d hd => ?_⟩
  obtain ⟨v, e, q⟩ := RpAll.get t hd
  refine ⟨⟨vs, v, SqL.of hv, e⟩, fun x H2 y => ?_⟩
  obtain ⟨rfl, y⟩ := y
  have e2 := y vs (SqL.of hv)
  rw [e] at e2
  cases e2
  exact ⟨G', .refl _ _ _, er, fun _ => Rp.mono sg q, .inl (Rp.mono sg q)⟩
theorem ItR.scr {a : Addr} {ns : List Int} (h : SqL K G a (ns.map V.int)) : ItR K as G (Itl K a) (ns.map .int, none, true) := by
  intro i as' G' H' st _ sg er _
  have hv := Same.seq er.sub (Same.seq sg h)
  refine ⟨fun hl => ⟨_, hv, by simpa using hl⟩, fun d hd => ?_⟩
  obtain ⟨v, e, q⟩ := RpAll.get (RpAll.ints (K := K) (G := G') ns) hd
  refine ⟨⟨_, v, hv, e⟩, fun x H2 y => ?_⟩
  obtain ⟨rfl, y⟩ := y
  have e2 := y _ hv
  rw [e] at e2
  cases e2
  exact ⟨G', .refl _ _ _, er, fun _ => q, .inl q⟩
theorem ItR.tup {a : Addr} {vs : List V} {ds : List PyData} (h : SqT K G a vs) (t : RpAll K G vs ds) : ItR K as G (Itt K a) (ds, none, true) := by
  intro i as' G' H' st _ sg er _
  have hv : SqT K H' a vs := Same.seqT er.sub (Same.seqT sg h)
  refine ⟨fun hl => ⟨vs, hv, by rw [RpAll.len t]; exact hl⟩, fun d hd => ?_⟩
  obtain ⟨v, e, q⟩ := RpAll.get t hd
  refine ⟨⟨vs, v, hv, e⟩, fun x H2 y => ?_⟩
  obtain ⟨rfl, y⟩ := y
  have e2 := y vs hv
  rw [e] at e2
  cases e2
  exact ⟨G', .refl _ _ _, er, fun _ => Rp.mono sg q, .inl (Rp.mono sg q)⟩
/-- a walk over an object of the store -/
theorem ItR.obj {a : Addr} {i : Nat} {ds : List PyData} (h : as[i]? = some a) : ItR K as G (Itl K a) (ds, some i, true) := by
  intro j as' G' H' st ⟨m, hm⟩ sg er ok
  have e := okG_some ok
  have ha : as'[i]? = some a := by rw [hm, List.getElem?_append_left (List.getElem?_eq_some_iff.mp h).1]; exact h
  obtain ⟨_, _, vs, hv, t⟩ := er.ob i a _ ha e
  refine ⟨fun hl => ⟨vs, SqL.of hv, by rw [RpAll.len t]; exact hl⟩, fun d hd => ?_⟩
  obtain ⟨v, e, q⟩ := RpAll.get t hd
  refine ⟨⟨vs, v, SqL.of hv, e⟩, fun x H2 y => ?_⟩
  obtain ⟨rfl, y⟩ := y
  have e2 := y vs (SqL.of hv)
  rw [e] at e2
  cases e2
  exact ⟨G', .refl _ _ _, er, fun _ => q, .inl q⟩
theorem ItR.rng {lo : Int} {n : Nat} : ItR K as G (Itr lo n) ((List.range n).map (fun i : Nat => PyData.int (lo + i)), none, true) := by
  intro i as' G' H' st _ sg er _
  refine ⟨fun hl => by simpa [Itr] using hl, fun d hd => ?_⟩
  rw [List.getElem?_map] at hd
  obtain ⟨j, h1, h2⟩ := Option.map_eq_some_iff.mp hd
  obtain ⟨h3, h4⟩ := List.getElem?_eq_some_iff.mp h1
  simp at h3 h4
  subst h4
  subst h2
  refine ⟨h3, fun x H2 y => ?_⟩
  obtain ⟨rfl, rfl⟩ := y
  exact ⟨G', .refl _ _ _, er, fun _ => .int _, .inl (.int _)⟩
theorem ItR.txt {x : Str} : ItR K as G (Its x) (x.cps.toList.map (fun c => PyData.str ⟨#[c]⟩), none, true) := by
  intro i as' G' H' st _ sg er _
  refine ⟨fun hl => by simpa [Its] using hl, fun d hd => ?_⟩
  rw [List.getElem?_map] at hd
  obtain ⟨j, h1, h2⟩ := Option.map_eq_some_iff.mp hd
  obtain ⟨h3, h4⟩ := List.getElem?_eq_some_iff.mp h1
  subst h2
  refine ⟨show i < x.cps.size by simpa using h3, fun x' H2 y => ?_⟩
  obtain ⟨rfl, c, hc, rfl⟩ := y
  have : j = c := by
    simp at h1
    rw [hc] at h1
    exact (Option.some.inj h1).symm
  subst this
  exact ⟨G', .refl _ _ _, er, fun _ => .str _, .inl (.str _)⟩
end
/-- the two lists or tuples of a zip, in pairs -/
def pairs (xs ys : List PyData) : List PyData := List.zipWith (fun x y => .tuple [x, y]) xs ys
section
variable {K : PySem.W.Frag} {as : List Addr} {G H : Hp}
theorem zip_turn {st : Sto} {d1 d2 : PyData} {v1 v2 : V} {T : Addr} (er : ER K as G H st) (hT : H T = none) (h1 : Rp K G v1 d1) (h2 : Rp K G v2 d2) :
    ∃ G', Stp as G H as G' (upd H T (.tup [v1, v2])) ∧ ER K as G' (upd H T (.tup [v1, v2])) st ∧ (false = true → Rp K G' (.ref T) (.tuple [d1, d2])) ∧ IR K G' (.ref T) (.tuple [d1, d2]) :=
  ⟨upd G T (.tup [v1, v2]), Stp.frz er hT, er.frz hT, (fun z => nomatch z), .inr ⟨T, [v1, v2], _, rfl, rfl, .inl (.inl upd_same), RpAll.mono (Same.upd1 (er.g_none hT)) (.cons h1 (.cons h2 .nil))⟩⟩
theorem pairs_get {xs ys : List PyData} {i : Nat} {d : PyData} (h : (pairs xs ys)[i]? = some d) : ∃ x y, xs[i]? = some x ∧ ys[i]? = some y ∧ d = .tuple [x, y] := by
  unfold pairs at h
  rw [List.getElem?_zipWith] at h
  cases e1 : xs[i]? with
  | none => rw [e1] at h; simp at h
  | some x =>
    cases e2 : ys[i]? with
    | none => rw [e1, e2] at h; simp at h
    | some y =>
      rw [e1, e2] at h
      exact ⟨x, y, rfl, rfl, (Option.some.inj h).symm⟩
theorem pairs_len (xs ys : List PyData) : (pairs xs ys).length = min xs.length ys.length := by simp [pairs]
theorem ItR.zipL {a b : Addr} {vs us : List V} {xs ys : List PyData} (ha : G a = some (.lst vs)) (hb : G b = some (.lst us)) (ta : RpAll K G vs xs) (tb : RpAll K G us ys) : ItR K as G (Itz K a b) (pairs xs ys, none, false) := by
  intro i as' G' H' st _ sg er _
  have hv : SqL K H' a vs := SqL.of (er.sub _ _ (sg _ _ ha))
  have hu : SqL K H' b us := SqL.of (er.sub _ _ (sg _ _ hb))
  refine ⟨fun hl => ⟨vs, us, hv, hu, ?_⟩, fun d hd => ?_⟩
  · simp only [pairs_len] at hl
    rw [RpAll.len ta, RpAll.len tb]
    omega
  · obtain ⟨x, y, ex, ey, rfl⟩ := pairs_get hd
    obtain ⟨v, e1, q1⟩ := RpAll.get ta ex
    obtain ⟨u, e2, q2⟩ := RpAll.get tb ey
    refine ⟨⟨vs, us, v, u, hv, hu, e1, e2⟩, fun z H2 yl => ?_⟩
    obtain ⟨T, x', y', rfl, hT, rfl, y1, y2⟩ := yl
    have e3 := y1 vs hv
    have e4 := y2 us hu
    rw [e1] at e3
    rw [e2] at e4
    cases e3
    cases e4
    exact zip_turn er hT (Rp.mono sg q1) (Rp.mono sg q2)
theorem ItR.zipT {a b : Addr} {vs us : List V} {xs ys : List PyData} (ha : SqT K G a vs) (hb : SqT K G b us) (ta : RpAll K G vs xs) (tb : RpAll K G us ys) : ItR K as G (RZ.ItzT K a b) (pairs xs ys, none, false) := by
  intro i as' G' H' st _ sg er _
  have hv : SqT K H' a vs := Same.seqT er.sub (Same.seqT sg ha)
  have hu : SqT K H' b us := Same.seqT er.sub (Same.seqT sg hb)
  refine ⟨fun hl => ⟨vs, us, hv, hu, ?_⟩, fun d hd => ?_⟩
  · simp only [pairs_len] at hl
    rw [RpAll.len ta, RpAll.len tb]
    omega
  · obtain ⟨x, y, ex, ey, rfl⟩ := pairs_get hd
    obtain ⟨v, e1, q1⟩ := RpAll.get ta ex
    obtain ⟨u, e2, q2⟩ := RpAll.get tb ey
    refine ⟨⟨vs, us, v, u, hv, hu, e1, e2⟩, fun z H2 yl => ?_⟩
    obtain ⟨T, x', y', rfl, hT, rfl, y1, y2⟩ := yl
    have e3 := y1 vs hv
    have e4 := y2 us hu
    rw [e1] at e3
    rw [e2] at e4
    cases e3
    cases e4
    exact zip_turn er hT (Rp.mono sg q1) (Rp.mono sg q2)
theorem ItR.enum {a : Addr} {vs : List V} {xs : List PyData} (ha : G a = some (.lst vs)) (ta : RpAll K G vs xs) : ItR K as G (Ite K a) (pairs ((List.range xs.length).map (fun i : Nat => PyData.int i)) xs, none, false) := by
  intro i as' G' H' st _ sg er _
  have hv : SqL K H' a vs := SqL.of (er.sub _ _ (sg _ _ ha))
  refine ⟨fun hl => ⟨vs, hv, ?_⟩, fun d hd => ?_⟩
  · simp only [pairs_len, List.length_map, List.length_range] at hl
    rw [RpAll.len ta]
    omega
  · obtain ⟨x, y, ex, ey, rfl⟩ := pairs_get hd
    obtain ⟨v, e1, q1⟩ := RpAll.get ta ey
    refine ⟨⟨vs, v, hv, e1⟩, fun z H2 yl => ?_⟩
    obtain ⟨T, x', rfl, hT, rfl, y1⟩ := yl
    have e3 := y1 vs hv
    rw [e1] at e3
    cases e3
    have hx : x = .int ((i : Nat) : Int) := by
      rw [List.getElem?_map] at ex
      obtain ⟨j, h1, h2⟩ := Option.map_eq_some_iff.mp ex
      obtain ⟨h3, h4⟩ := List.getElem?_eq_some_iff.mp h1
      simp at h4
      subst h4
      exact h2.symm
    subst hx
    exact zip_turn er hT (.int _) (Rp.mono sg q1)
end
end DL
set_option maxHeartbeats 200000
/-! D layer, part 5: walks, for, while, comprehensions, small statements. -/
namespace DL
open PySem L2
theorem PI.imp {X : Cx} {tg l : Expr} {t t' : TI} (h : PI X tg l t) (k : ∀ (σ : L2.St) (H : Hp) (R : It → Hp → Prop), t' σ H R → t σ H R) : PI X tg l t' := ⟨fun pins s σ H R I q => h.run pins s σ H R I (k σ H R q)⟩
theorem PS.imp {X : Cx} {e : Stmt} {t t' : TS} (h : PS X e t) (k : ∀ (D : Ends) (σ : L2.St) (H : Hp), t' D σ H → t D σ H) : PS X e t' := ⟨fun pins s σ H D I q => h.run pins s σ H D I (k D σ H q)⟩
theorem PSs.imp {X : Cx} {e : List Stmt} {t t' : TS} (h : PSs X e t) (k : ∀ (D : Ends) (σ : L2.St) (H : Hp), t' D σ H → t D σ H) : PSs X e t' := ⟨fun pins s σ H D I q => h.run pins s σ H D I (k D σ H q)⟩
/-! ### walks -/
def walkOf (st : Sto) : Dv → Option Wk
  | .d (.list ds) => some (ds, none, true)
  | .d (.tuple ds) => some (ds, none, true)
  | .d (.str x) => if x.length ≤ 1000000 then some (x.cps.toList.map (fun c => PyData.str ⟨#[c]⟩), none, true) else none
  | .d _ => none
  | .o i => match st[i]? with
    | some (.lst ds) => some (ds, some i, true)
    | _ => none
  | .e _ => none
  | .s ns => some (ns.map .int, none, true)
/-- what is walked, and that it is not too long -/
def ItOk (K : PySem.W.Frag) (as : List Addr) (G : Hp) (J : It) (z : Wk) : Prop := ItR K as G J z ∧ z.1.length ≤ sizeLine
def iWalk (K : PySem.W.Frag) (tl : TE) : TI := fun σ H R => tl σ H fun x H1 => (∃ a xs, x = .ref a ∧ SqL K H1 a xs ∧ R (Itl K a) H1) ∨ (∃ a xs, x = .ref a ∧ SqT K H1 a xs ∧ R (Itt K a) H1) ∨ ∃ y, x = .str y ∧ R (Its y) H1
theorem pi_walk {X : Cx} {tg l : Expr} {tl : TE} (hl : PE X l tl) : PI X tg l (iWalk X.K tl) := by
  refine ⟨fun pins s σ H R I h => ?_⟩
  refine thn (hl.run pins s σ H _ I h) fun v s1 hq => ?_
  obtain ⟨x, H1, I1, r1, q1⟩ := hq
  rcases q1 with ⟨a, xs, rfl, hs, q⟩ | ⟨a, xs, rfl, hs, q⟩ | ⟨y, rfl, q⟩
  · cases r1
    obtain ⟨its, rv, p, _⟩ := I1.list hs
    exact wpAny_pyIter_list p.isList (pi_one (tk := s1.toks) I1 _ (turn_list a _) ⟨_, Heap.get?_push_size _ rfl, rfl, rfl⟩ q)
  · cases r1
    obtain ⟨its, rv, p, _⟩ := I1.tuple hs
    exact wpAny_pyIter_tuple (show s1.heap.IsTuple a its.toArray from p) (pi_one (tk := s1.toks) I1 _ (turn_tuple a _) ⟨_, Heap.get?_push_size _ rfl, rfl, rfl⟩ q)
  · obtain ⟨t, rfl⟩ := r1
    cases ha : y.cps.all (· < 128) with
    | false => exact wpAny_pyIter_wide ha (pi_one (tk := s1.toks) I1 _ (turn_str _ y t "str_iterator" (.inr rfl)) ⟨_, Heap.get?_push_size _ rfl, rfl, rfl⟩ q)
    | true => exact wpAny_pyIter_ascii ha (pi_one (tk := s1.toks) I1 _ (turn_str _ y t "str_ascii_iterator" (.inl rfl)) ⟨_, Heap.get?_push_size _ rfl, rfl, rfl⟩ q)
abbrev tJ (K : PySem.W.Frag) (W : WS) (f : SI) : TI := fun σ H R => ∃ r as G st, SR K as G σ r ∧ ER K as G H st ∧ RK K as G H (fun c H' => W c σ H') Wk It (ItOk K) R (f r st)
def iOf (f : SE) : SI := fun r st => (f r st).bind fun x s1 => match walkOf s1 x with
  | some z => .ok z s1
  | none => .stuck
section
variable {X : Cx} {W : WS} {tg l e e2 : Expr} {f : SE} {fa : SA} {p pos tpos : Pos}
theorem di_of (h : PE X l (tE X.K W f)) : PI X tg l (tJ X.K W (iOf f)) := by
  refine PI.imp (pi_walk h) fun σ H R q => ?_
  obtain ⟨r, as, G, st, sr, er, k⟩ := q
  refine ⟨r, as, G, st, sr, er, RK.seq k fun x s1 v as1 G1 H1 _ p1 e1 v1 k1 => ?_⟩
  cases x with
  | d x =>
    cases x with
    | list ds => cases v1 with
      | lst q hl t => exact .inl ⟨_, _, rfl, SqL.of (e1.sub _ _ q), k1 _ as1 G1 H1 (.refl _ _ _) e1 ⟨ItR.lst q t, hl⟩⟩
    | tuple ds => cases v1 with
      | tup q hl t => exact .inr (.inl ⟨_, _, rfl, (TupX.mono e1.sub q).sq, k1 _ as1 G1 H1 (.refl _ _ _) e1 ⟨ItR.tup q.sq t, hl⟩⟩)
    | str y =>
      cases v1
      simp only [walkOf] at k1
      split at k1
      · next z e =>
        split at e
        · next hl =>
          cases e
          refine .inr (.inr ⟨y, rfl, k1 _ as1 G1 H1 (.refl _ _ _) e1 ⟨ItR.txt, ?_⟩⟩)
          have hl' : y.cps.size ≤ 1000000 := hl
          simp
          exact Nat.le_trans hl' (by decide)
        · cases e
      · exact k1.elim
    | _ => exact k1.elim
  | o i =>
    obtain ⟨a, ea, rfl⟩ := v1
    simp only [walkOf] at k1
    split at k1
    · next z e =>
      split at e
      · next ds es =>
        cases e
        obtain ⟨_, hl, vs, hv, hp⟩ := e1.ob i a _ ea es
        exact .inl ⟨a, vs, rfl, SqL.of hv, k1 _ as1 G1 H1 (.refl _ _ _) e1 ⟨ItR.obj ea, hl⟩⟩
      · cases e
    · exact k1.elim
  | e _ => exact k1.elim
  | s ns =>
    obtain ⟨a, rfl, h, hl⟩ := v1
    exact .inl ⟨a, _, rfl, Same.seq e1.sub h, k1 _ as1 G1 H1 (.refl _ _ _) e1 ⟨ItR.scr h, by simp; exact Nat.le_trans hl (by decide)⟩⟩
/-- zip of two lists, of two tuples -/
def zipOf : List Dv → Option Wk
  | [.d (.list xs), .d (.list ys)] => some (pairs xs ys, none, false)
  | [.d (.tuple xs), .d (.tuple ys)] => some (pairs xs ys, none, false)
  | _ => none
def iZp (fa : SA) : SI := fun r st => (fa r st).bind fun xs s1 => match zipOf xs with
  | some z => .ok z s1
  | none => .stuck
theorem di_zip {elts : List Expr} {kk : Nat} (hg : Gl X "zip") (hm : X.mg "zip" = none) (ha : PA X [e, e2] (tA X.K W fa)) (hs : starEach [e, e2] X.env = (false, eval e X.env) :: starEach [e2] X.env := by rfl) (hpl : (backTo pos (starEach [e2] X.env)).any (·.1) = false := by rfl) :
    PI X (.Tuple elts kk tpos) (.Call (.Name "zip" p) [e, e2] [] pos) (tJ X.K W (iZp fa)) := by
  refine PI.imp (RZ.pi_zipA hg hm ha hs hpl) fun σ H R q => ?_
  obtain ⟨r, as, G, st, sr, er, k⟩ := q
  refine ⟨r, as, G, st, sr, er, RK.seq k fun xs s1 vs as1 G1 H1 _ p1 e1 v1 k1 => ?_⟩
  split at k1
  · next z ez =>
    unfold zipOf at ez
    split at ez
    · cases ez
      cases v1 with
      | cons h1 t1 => cases t1 with
        | cons h2 t2 =>
          cases t2
          cases h1 with
          | lst q1 l1 t1 => cases h2 with
            | lst q2 l2 t2 =>
              refine ⟨_, _, _, _, rfl, .inl ⟨SqL.of (e1.sub _ _ q1), SqL.of (e1.sub _ _ q2), k1 _ as1 G1 H1 (.refl _ _ _) e1 ⟨ItR.zipL q1 q2 t1 t2, ?_⟩⟩⟩
              rw [pairs_len]
              exact Nat.le_trans (Nat.min_le_left _ _) l1
    · cases ez
      cases v1 with
      | cons h1 t1 => cases t1 with
        | cons h2 t2 =>
          cases t2
          cases h1 with
          | tup q1 l1 t1 => cases h2 with
            | tup q2 l2 t2 =>
              refine ⟨_, _, _, _, rfl, .inr ⟨(TupX.mono e1.sub q1).sq, (TupX.mono e1.sub q2).sq, k1 _ as1 G1 H1 (.refl _ _ _) e1 ⟨ItR.zipT q1.sq q2.sq t1 t2, ?_⟩⟩⟩
              rw [pairs_len]
              exact Nat.le_trans (Nat.min_le_left _ _) l1
    · cases ez
  · exact k1.elim
/-- enumerate of a list -/
def enumOf : List Dv → Option Wk
  | [.d (.list xs)] => some (pairs ((List.range xs.length).map (fun i : Nat => PyData.int i)) xs, none, false)
  | _ => none
def iEn (fa : SA) : SI := fun r st => (fa r st).bind fun xs s1 => match enumOf xs with
  | some z => .ok z s1
  | none => .stuck
theorem di_enum {elts : List Expr} {kk : Nat} (hg : Gl X "enumerate") (hm : X.mg "enumerate" = none) (ha : PA X [e] (tA X.K W fa)) (hs : starEach [e] X.env = [(false, eval e X.env)] := by rfl) :
    PI X (.Tuple elts kk tpos) (.Call (.Name "enumerate" p) [e] [] pos) (tJ X.K W (iEn fa)) := by
  refine PI.imp (pi_enum hg hm ha hs) fun σ H R q => ?_
  obtain ⟨r, as, G, st, sr, er, k⟩ := q
  refine ⟨r, as, G, st, sr, er, RK.seq k fun xs s1 vs as1 G1 H1 _ p1 e1 v1 k1 => ?_⟩
  split at k1
  · next z ez =>
    unfold enumOf at ez
    split at ez
    · cases ez
      cases v1 with
      | cons h1 t1 =>
        cases t1
        cases h1 with
        | lst q1 l1 t1 =>
          refine ⟨_, _, rfl, SqL.of (e1.sub _ _ q1), k1 _ as1 G1 H1 (.refl _ _ _) e1 ⟨ItR.enum q1 t1, ?_⟩⟩
          rw [pairs_len]
          exact Nat.le_trans (Nat.min_le_right _ _) l1
    · cases ez
  · exact k1.elim
/-- range(n) -/
def rngOf : List Dv → Option Wk
  | [.d (.int n)] => if n ≤ 1000000 ∧ -1000000 ≤ n then some ((List.range n.toNat).map (fun i : Nat => PyData.int (0 + i)), none, true) else none
  | _ => none
def iRg (fa : SA) : SI := fun r st => (fa r st).bind fun xs s1 => match rngOf xs with
  | some z => .ok z s1
  | none => .stuck
theorem di_range (hg : Gl X "range") (hm : X.mg "range" = none) (ha : PA X [e] (tA X.K W fa)) (hs : starEach [e] X.env = [(false, eval e X.env)] := by rfl) :
    PI X tg (.Call (.Name "range" p) [e] [] pos) (tJ X.K W (iRg fa)) := by
  refine PI.imp (pi_range1 hg hm ha hs) fun σ H R q => ?_
  obtain ⟨r, as, G, st, sr, er, k⟩ := q
  refine ⟨r, as, G, st, sr, er, RK.seq k fun xs s1 vs as1 G1 H1 _ p1 e1 v1 k1 => ?_⟩
  split at k1
  · next z ez =>
    unfold rngOf at ez
    split at ez
    · next n _h =>
      split at ez
      · next hn =>
        cases ez
        cases v1 with
        | cons h1 t1 =>
          cases t1
          cases h1
          refine ⟨_, rfl, by omega, by omega, k1 _ as1 G1 H1 (.refl _ _ _) e1 ⟨ItR.rng, ?_⟩⟩
          simp only [List.length_map, List.length_range]
          have h1 : n.toNat ≤ 1000000 := by omega
          exact Nat.le_trans h1 (by decide)
      · cases ez
    · cases ez
  · exact k1.elim
end
/-! ### for -/
def forD (z : Wk) (tg : Tgt) (F : SS) : List PyData → Vn → Sto → Out
  | [], r, st => if okG st z = true then .nx r st else .stuck
  | d :: ds, r, st => if okG st z = true then (match setI z.2.2 tg d r with
    | none => .stuck
    | some r1 => match F r1 st with
      | .nx r2 s2 => forD z tg F ds r2 s2
      | .ct r2 s2 => forD z tg F ds r2 s2
      | .bk r2 s2 => .nx r2 s2
      | o => o) else .stuck
/-- from an expression's end to a statement's -/
def outOf {α : Type} (r : Vn) (f : Res α) (k : α → Sto → Out) : Out := match f with
  | .ok x s1 => k x s1
  | .exc c s1 => .exc c r s1
  | .stuck => .stuck
@[simp] theorem outOf_ok {α : Type} (r : Vn) (x : α) (s : Sto) (k : α → Sto → Out) : outOf r (.ok x s) k = k x s := rfl
@[simp] theorem outOf_exc {α : Type} (r : Vn) (c : Str) (s : Sto) (k : α → Sto → Out) : outOf r (.exc c s) k = .exc c r s := rfl
@[simp] theorem outOf_stuck {α : Type} (r : Vn) (k : α → Sto → Out) : outOf r .stuck k = .stuck := rfl
def sFor (fi : SI) (tg : Tgt) (F : SS) : SS := fun r st => outOf r (fi r st) fun z s1 => forD z tg F z.1 r s1
theorem OKe {K : PySem.W.Frag} {as : List Addr} {G H : Hp} {W : WS} {D : Ends} {r : Vn} {σ : L2.St} {α β : Type} {rel : List Addr → Hp → β → α → Prop} {Q : β → Hp → Prop} {f : Res α} {k : α → Sto → Out} (sr : SR K as G σ r)
    (h : OK K as G H W D (outOf r f k)) (c : ∀ x st1 v as1 G1 H1, f = .ok x st1 → Stp as G H as1 G1 H1 → ER K as1 G1 H1 st1 → rel as1 G1 v x → OK K as1 G1 H1 W D (k x st1) → Q v H1) : RK K as G H (fun c H' => W c σ H') α β rel Q f := by
  cases f with
  | ok x s1 => exact fun v as1 G1 H1 s e q => c x s1 v as1 G1 H1 rfl s e q (OK.from s h)
  | exc cl s1 => exact fun as1 G1 H1 s e => h σ as1 G1 H1 s e (sr.mono s)
  | stuck => exact h
theorem ds_for {X : Cx} {W : WS} {tg iter : Expr} {body : List Stmt} {fi : SI} {t : Tgt} {F : SS} {pos : Pos} (hp : PassesOwn (model X.prog X.w) X.A X.env X.xe) (hc : X.calm = true) (hi : PI X tg iter (tJ X.K W fi)) (hg : PG X tg (gT X.K t)) (hb : PSs X body (tS X.K W F))
    (hs : ∀ x, foldedSetIterable iter X.env x = pure x := by intro _; rfl) : PS X (.For tg iter body [] pos) (tS X.K W (sFor fi t F)) := by
  refine PS.imp (ps_for hp hc hi hg hb hs) fun D σ H q => ?_
  obtain ⟨r, as, G, st, sr, er, k⟩ := q
  refine ⟨r, as, G, st, sr, er, OKe sr k fun z s1 J as1 G1 H1 _ p1 e1 v1 k1 => ?_⟩
  refine ⟨fun i m σ H => m = z.1.length - i ∧ i ≤ z.1.length ∧ ∃ r as G st, (∃ mm, as = as1 ++ mm) ∧ Same G1 G ∧ SR X.K as G σ r ∧ ER X.K as G H st ∧ OK X.K as G H W D (forD z t F (z.1.drop i) r st),
    ⟨_, rfl, Nat.zero_le _, r, as1, G1, s1, ⟨[], by simp⟩, fun _ _ h => h, sr.mono p1, e1, k1⟩, ?_⟩
  rintro i m σ H ⟨rfl, hi, r, as, G, st, pre, sg, sr, er, k⟩
  by_cases ok : okG st z = true
  · obtain ⟨j1, j2⟩ := v1.1 i as G H st pre sg er ok
    rcases Nat.lt_or_ge i z.1.length with hl | hl
    · have hd : z.1[i]? = some z.1[i] := List.getElem?_eq_getElem hl
      rw [List.drop_eq_getElem_cons hl] at k
      rw [forD, if_pos ok] at k
      obtain ⟨jg, jy⟩ := j2 _ hd
      refine .inr ⟨jg, fun σ' H' => z.1.length - (i + 1) = z.1.length - (i + 1) ∧ i + 1 ≤ z.1.length ∧ ∃ r as G st, (∃ mm, as = as1 ++ mm) ∧ Same G1 G ∧ SR X.K as G σ' r ∧ ER X.K as G H' st ∧ OK X.K as G H' W D (forD z t F (z.1.drop (i + 1)) r st),
        fun σ' H' n => ⟨_, by omega, n⟩, fun x H' y => ?_⟩
      obtain ⟨G', st', er', rx, rp⟩ := jy x H' y
      cases ht : setI z.2.2 t z.1[i] r with
      | none => rw [ht] at k; exact k.elim
      | some r1 =>
        rw [ht] at k
        have k : OK X.K as G H W D (match F r1 st with
          | .nx r2 s2 => forD z t F (z.1.drop (i + 1)) r2 s2
          | .ct r2 s2 => forD z t F (z.1.drop (i + 1)) r2 s2
          | .bk r2 s2 => .nx r2 s2
          | o => o) := k
        refine gI_ok er' (sr.mono st') rx rp ht fun σ2 sr2 _ _ => ⟨r1, as, G', st, sr2, er', ?_⟩
        obtain ⟨mm, hmm⟩ := pre
        have sg' : Same G1 G' := fun b o h => st'.g _ _ (sg _ _ h)
        have k := OK.from st' k
        cases hF : F r1 st with
        | nx r2 s2 =>
          rw [hF] at k
          intro σ3 as3 G3 H3 s3 e3 sr3
          obtain ⟨m3, rfl, _⟩ := id s3.pre
          exact ⟨rfl, hl, r2, _, G3, s2, ⟨mm ++ m3, by rw [hmm, List.append_assoc]⟩, fun b o h => s3.g _ _ (sg' _ _ h), sr3, e3, OK.from s3 k⟩
        | ct r2 s2 =>
          rw [hF] at k
          intro σ3 as3 G3 H3 s3 e3 sr3
          obtain ⟨m3, rfl, _⟩ := id s3.pre
          exact ⟨rfl, hl, r2, _, G3, s2, ⟨mm ++ m3, by rw [hmm, List.append_assoc]⟩, fun b o h => s3.g _ _ (sg' _ _ h), sr3, e3, OK.from s3 k⟩
        | bk r2 s2 => rw [hF] at k; exact k
        | ret v s2 => rw [hF] at k; exact k
        | exc c r2 s2 => rw [hF] at k; exact k
        | stuck => rw [hF] at k; exact k
    · have e0 : z.1.drop i = [] := List.drop_eq_nil_of_le hl
      rw [e0, forD, if_pos ok] at k
      exact .inl ⟨j1 hl, k _ _ _ _ (.refl _ _ _) er sr⟩
  · exfalso
    cases hd : z.1.drop i with
    | nil => rw [hd, forD, if_neg ok] at k; exact k
    | cons d ds => rw [hd, forD, if_neg ok] at k; exact k
end DL
set_option maxHeartbeats 200000
/-! D layer, part 6: comprehensions, while, small statements. -/
namespace DL
open PySem L2
/-! ### comprehensions -/
def wipeV (r : Vn) : List Nat → Vn
  | [] => r
  | v :: vs => (wipeV r vs).set v none
theorem SR.wipe {K : PySem.W.Frag} {as : List Addr} {G : Hp} {σ : L2.St} {r : Vn} (h : SR K as G σ r) : ∀ vs : List Nat, SR K as G (wipe σ vs) (wipeV r vs)
  | [] => h
  | v :: vs => by
    have ih := SR.wipe h vs
    refine ⟨by simp [L2.wipe, wipeV, ih.len], fun j x e => ?_⟩
    rw [wipeV, List.getElem?_set] at e
    by_cases hv : v = j
    · subst hv
      by_cases hl : v < (wipeV r vs).length
      · simp [hl] at e
      · simp [hl] at e
    · rw [if_neg hv] at e
      obtain ⟨u, a, b⟩ := ih.at_ j x e
      exact ⟨u, by rw [L2.wipe, List.getElem?_set_ne hv]; exact a, b⟩
abbrev Turn1 := PyData → Sto → Res (Option PyData)
/-- an exception out of a comprehension is not told -/
def noX {α : Type} : Res α → Res α
  | .ok a st => .ok a st
  | _ => .stuck
@[simp] theorem noX_ok {α : Type} (a : α) (st : Sto) : noX (.ok a st) = .ok a st := rfl
/-- a turn of a comprehension -/
def lcT (ex : Bool) (r : Vn) (vs : List Nat) (tg : Tgt) (ft fe : SE) : Turn1 := fun d st => match setI ex tg d (wipeV r vs) with
  | none => .stuck
  | some r1 => (noX (asB (ft r1 st))).bind fun b s1 => match b with
    | false => .ok none s1
    | true => (noX (fe r1 s1)).bind fun y s2 => match y with
      | .d y => .ok (some y) s2
      | _ => .stuck
def lcD (z : Wk) (turn : Turn1) : List PyData → Sto → Res (List PyData)
  | [], st => if okG st z = true then .ok [] st else .stuck
  | d :: ds, st => if okG st z = true then (turn d st).bind fun o s1 => (lcD z turn ds s1).bind fun ys s2 => .ok (match o with
    | none => ys
    | some y => y :: ys) s2 else .stuck
def eYes : SE := eK (.bool true)
def eLc0 (fi : SI) (tg : Tgt) (ft fe : SE) (vs : List Nat) : Vn → Sto → Res (List PyData) := fun r st => (fi r st).bind fun z s1 => lcD z (lcT z.2.2 r vs tg ft fe) z.1 s1
/-- a new list that does not change; one that may -/
def eLc (fi : SI) (tg : Tgt) (ft fe : SE) (vs : List Nat) : SE := fun r st => (eLc0 fi tg ft fe vs r st).bind fun ys s => .ok (.d (.list ys)) s
def eLcN (fi : SI) (tg : Tgt) (ft fe : SE) (vs : List Nat) : SE := fun r st => (eLc0 fi tg ft fe vs r st).bind fun ys s => ansN s (some ys)
/-- no exception leaves -/
def W0 : WS := fun _ _ _ => False
theorem takesW0 {X : Cx} {ca : Str → Addr} : L2N.Takes X (wx ca W0) := fun _ _ y => by
  obtain ⟨_, _, _, _, _, _, _, _, _, _, _, _, _, _, _, _, _, _, _, z⟩ := y
  exact z.elim
theorem bind_assoc {α β γ : Type} (r : Res α) (f : α → Sto → Res β) (g : β → Sto → Res γ) : (r.bind f).bind g = r.bind fun a s => (f a s).bind g := by cases r <;> rfl
/-- the reading of a comprehension, from what its data do; fin: what becomes of the list -/
theorem lc_read {K : PySem.W.Frag} {W : WS} {σ : L2.St} {H : Hp} {Q : VK} {fi : SI} {t : Tgt} {ft fe : SE} {vs : List Nat} {fin : List PyData → Sto → Res Dv} (hts : ∀ i ∈ t.slots, i ∈ vs)
    (hfin : ∀ (as : List Addr) (G H : Hp) (st : Sto) (D : Addr) (us : List V) (ys : List PyData), ER K as G H st → H D = some (.lst us) → G D = none → D ∉ as → ys.length ≤ sizeLine → RpAll K G us ys → RK K as (fun a => G a) (fun a => if a = D then none else H a) (fun c H' => W c σ H') Dv V (VR K) Q (fin ys st) → Q (.ref D) H)
    (q : ∃ r as G st, SR K as G σ r ∧ ER K as G H st ∧ RK K as G H (fun c H' => W c σ H') Dv V (VR K) Q ((eLc0 fi t ft fe vs r st).bind fin)) :
    tLc (tJ K W fi) (gT K t) (tT K W0 ft) (tE K W0 fe) vs σ H Q := by
  obtain ⟨r, as, G, st, sr, er, k⟩ := q
  unfold eLc0 at k
  rw [bind_assoc] at k
  refine ⟨r, as, G, st, sr, er, RK.seq k fun z s1 J as1 G1 H1 _ p1 e1 v1 k1 => ?_⟩
  intro D hD
  have gD : G1 D = none := e1.g_none hD
  have nD : D ∉ as1 := e1.not_mem hD
  refine ⟨fun i m H => m = z.1.length - i ∧ i ≤ z.1.length ∧ ∃ as G st acc us, (∃ mm, as = as1 ++ mm) ∧ Same G1 G ∧ ER K as G H st ∧ H D = some (.lst us) ∧ G D = none ∧ D ∉ as ∧ acc.length ≤ i ∧ RpAll K G us acc ∧ SR K as G σ r ∧
    RK K as G (fun a => if a = D then none else H a) (fun c H' => W c σ H') Dv V (VR K) Q ((lcD z (lcT z.2.2 r vs t ft fe) (z.1.drop i) st).bind fun ys s => fin (acc ++ ys) s), ⟨_, rfl, Nat.zero_le _, as1, G1, s1, [], [], ⟨[], by simp⟩, fun _ _ h => h, ?_, upd_same, gD, nD, Nat.le_refl _, .nil, sr.mono p1, ?_⟩, ?_⟩
  · exact ⟨fun b o h => by rw [upd_ne (ne_of_none (e1.sub _ _ h) hD)]; exact e1.sub _ _ h, e1.len, e1.nd, fun a m => by
      have hne : a ≠ D := fun q => nD (q ▸ m)
      rw [upd_ne hne]; exact e1.tr a m, fun i a o h1 h2 => by
      have hne : a ≠ D := fun q => nD (q ▸ List.mem_of_getElem? h1)
      have h := e1.ob i a o h1 h2
      cases o with
      | lst ds => obtain ⟨g, l, us, hv, t⟩ := h; exact ⟨g, l, us, by rw [upd_ne hne]; exact hv, t⟩
      | dct kvs => obtain ⟨g, ks, hv, t⟩ := h; exact ⟨g, ks, by rw [upd_ne hne]; exact hv, t⟩
      | dead => trivial⟩
  · have eH : (fun a => if a = D then none else (upd H1 D (.lst [])) a) = H1 := by
      funext a
      by_cases ha : a = D
      · subst ha; simp [hD]
      · rw [if_neg ha, upd_ne ha]
    rw [eH]
    simpa using k1
  · rintro i m H ⟨rfl, hi, as, G, st, acc, us, pre, sg, er, hDv, gD, nD, hacc, ra, sr, k⟩
    by_cases ok : okG st z = true
    · obtain ⟨j1, j2⟩ := v1.1 i as G H st pre sg er ok
      rcases Nat.lt_or_ge i z.1.length with hl | hl
      · have hd : z.1[i]? = some z.1[i] := List.getElem?_eq_getElem hl
        rw [List.drop_eq_getElem_cons hl, lcD, if_pos ok] at k
        obtain ⟨jg, jy⟩ := j2 _ hd
        refine .inr ⟨jg, fun H' => z.1.length - (i + 1) = z.1.length - (i + 1) ∧ i + 1 ≤ z.1.length ∧ ∃ as G st acc us, (∃ mm, as = as1 ++ mm) ∧ Same G1 G ∧ ER K as G H' st ∧ H' D = some (.lst us) ∧ G D = none ∧ D ∉ as ∧ acc.length ≤ i + 1 ∧ RpAll K G us acc ∧ SR K as G σ r ∧
          RK K as G (fun a => if a = D then none else H' a) (fun c H' => W c σ H') Dv V (VR K) Q ((lcD z (lcT z.2.2 r vs t ft fe) (z.1.drop (i + 1)) st).bind fun ys s => fin (acc ++ ys) s), fun H' n => ⟨_, by omega, n⟩, fun x H' y => ?_⟩
        obtain ⟨G', st', er', rx, rp⟩ := jy x H' y
        -- the rest, over the heap without D
        have key : ∀ {as2 : List Addr} {G2 H2 : Hp}, Stp as G H as2 G2 H2 → H2 D = some (.lst us) ∧ G2 D = none ∧ D ∉ as2 ∧ Stp as G (fun a => if a = D then none else H a) as2 G2 (fun a => if a = D then none else H2 a) := fun {as2 G2 H2} s => by
          obtain ⟨h1, h2⟩ := s.kp D _ hDv nD
          obtain ⟨mm, hmm, hn⟩ := s.pre
          have nD2 : D ∉ as2 := fun q => by
            rw [hmm] at q
            rcases List.mem_append.mp q with q | q
            · exact nD q
            · rw [hn D q] at hDv; cases hDv
          refine ⟨h1, h2.trans gD, nD2, ⟨mm, hmm, fun a ha => ?_⟩, s.g, fun a o ha na => ?_, fun a ha => ?_⟩
          · show (if a = D then none else H a) = none
            by_cases e : a = D
            · rw [if_pos e]
            · rw [if_neg e]; exact hn a ha
          · by_cases e : a = D
            · rw [if_pos e] at ha; cases ha
            · rw [if_neg e] at ha ⊢
              exact s.kp a o ha na
          · by_cases e : a = D
            · rw [if_pos e] at ha; exact absurd rfl ha
            · rw [if_neg e] at ha ⊢
              exact s.tr a ha
        have go : ∀ (o : Option PyData) (s2 : Sto) (as2 : List Addr) (G2 H2 : Hp), Stp as G H as2 G2 H2 → ER K as2 G2 H2 s2 →
            RK K as G (fun a => if a = D then none else H a) (fun c H' => W c σ H') Dv V (VR K) Q ((lcD z (lcT z.2.2 r vs t ft fe) (z.1.drop (i + 1)) s2).bind fun ys s => fin (acc ++ (match o with | none => ys | some y => y :: ys)) s) →
            (match o with
              | none => z.1.length - (i + 1) = z.1.length - (i + 1) ∧ i + 1 ≤ z.1.length ∧ ∃ as G st acc us, (∃ mm, as = as1 ++ mm) ∧ Same G1 G ∧ ER K as G H2 st ∧ H2 D = some (.lst us) ∧ G D = none ∧ D ∉ as ∧ acc.length ≤ i + 1 ∧ RpAll K G us acc ∧ SR K as G σ r ∧
                  RK K as G (fun a => if a = D then none else H2 a) (fun c H' => W c σ H') Dv V (VR K) Q ((lcD z (lcT z.2.2 r vs t ft fe) (z.1.drop (i + 1)) st).bind fun ys s => fin (acc ++ ys) s)
              | some y => ∀ v, Rp K G2 v y → ∃ ac, H2 D = some (.lst ac) ∧ ac.length < sizeLine ∧ (z.1.length - (i + 1) = z.1.length - (i + 1) ∧ i + 1 ≤ z.1.length ∧ ∃ as G st acc us, (∃ mm, as = as1 ++ mm) ∧ Same G1 G ∧ ER K as G (upd H2 D (.lst (ac ++ [v]))) st ∧ (upd H2 D (.lst (ac ++ [v]))) D = some (.lst us) ∧ G D = none ∧ D ∉ as ∧ acc.length ≤ i + 1 ∧ RpAll K G us acc ∧ SR K as G σ r ∧
                  RK K as G (fun a => if a = D then none else (upd H2 D (.lst (ac ++ [v]))) a) (fun c H' => W c σ H') Dv V (VR K) Q ((lcD z (lcT z.2.2 r vs t ft fe) (z.1.drop (i + 1)) st).bind fun ys s => fin (acc ++ ys) s))) := by
          intro o s2 as2 G2 H2 s e2 k2
          obtain ⟨h1, h2, n2, sD⟩ := key s
          obtain ⟨mm, hmm⟩ := pre
          obtain ⟨m2, hm2, _⟩ := id s.pre
          have sg2 : Same G1 G2 := fun b o h => s.g _ _ (sg _ _ h)
          have k2 := RK.from sD k2
          cases o with
          | none => exact ⟨rfl, hl, as2, G2, s2, acc, us, ⟨mm ++ m2, by rw [hm2, hmm, List.append_assoc]⟩, sg2, e2, h1, h2, n2, by omega, RpAll.mono s.g ra, sr.mono s, k2⟩
          | some y =>
            intro v hv
            have hus : us.length = acc.length := RpAll.len ra
            refine ⟨us, h1, by rw [hus]; have := v1.2; omega, rfl, hl, as2, G2, s2, acc ++ [y], us ++ [v], ⟨mm ++ m2, by rw [hm2, hmm, List.append_assoc]⟩, sg2, ?_, upd_same, h2, n2, by simp; omega, RpAll.snoc (RpAll.mono s.g ra) hv, sr.mono s, ?_⟩
            · exact ⟨fun b o h => by
                have hne : b ≠ D := ne_of_none h h2
                rw [upd_ne hne]; exact e2.sub _ _ h, e2.len, e2.nd, fun a m => by
                have hne : a ≠ D := fun q => n2 (q ▸ m)
                rw [upd_ne hne]; exact e2.tr a m, fun i a o h1 h2 => by
                have hne : a ≠ D := fun q => n2 (q ▸ List.mem_of_getElem? h1)
                have h := e2.ob i a o h1 h2
                cases o with
                | lst ds => obtain ⟨g, l, us, hv, t⟩ := h; exact ⟨g, l, us, by rw [upd_ne hne]; exact hv, t⟩
                | dct kvs => obtain ⟨g, ks, hv, t⟩ := h; exact ⟨g, ks, by rw [upd_ne hne]; exact hv, t⟩
                | dead => trivial⟩
            · have eH : (fun a => if a = D then none else (upd H2 D (.lst (us ++ [v]))) a) = fun a => if a = D then none else H2 a := by
                funext a
                by_cases ha : a = D
                · rw [if_pos ha, if_pos ha]
                · rw [if_neg ha, if_neg ha, upd_ne ha]
              rw [eH]
              simpa using k2
        cases ht : setI z.2.2 t z.1[i] (wipeV r vs) with
        | none => simp only [lcT, ht, bind_stuck] at k; exact k.elim
        | some r1 =>
          have et : lcT z.2.2 r vs t ft fe z.1[i] st = (noX (asB (ft r1 st))).bind fun b s1 => match b with
            | false => .ok none s1
            | true => (noX (fe r1 s1)).bind fun y s2 => match y with
              | .d y => .ok (some y) s2
              | _ => .stuck := by simp only [lcT, ht]
          rw [et, bind_assoc, bind_assoc] at k
          refine gI_ok er' ((sr.wipe vs).mono st') rx rp ht fun σ2 sr2 hl2 hsl => ⟨?_, r1, as, G', st, sr2, er', ?_⟩
          · rw [wipe_same (σ := wipe σ vs) (by rw [hl2]) fun j hj => hsl j fun q => hj (hts j q)]
            exact wipe_same (by rw [wipe_length]) fun j hj => by rw [wipe_get, if_neg hj]
          · cases hb : asB (ft r1 st) with
            | exc c s2 => rw [hb] at k; exact k.elim
            | stuck => rw [hb] at k; exact k.elim
            | ok b s2 =>
              rw [hb] at k
              intro b' as2 G2 H2 p2 e2 eb
              subst eb
              have p2' := st'.trans p2
              cases b' with
              | false => exact iteF (go none s2 as2 G2 H2 p2' e2 (by simpa [bind_assoc] using k))
              | true =>
                have k : RK K as G (fun a => if a = D then none else H a) (fun c H' => W c σ H') Dv V (VR K) Q (((noX (fe r1 s2)).bind fun y s2 => match y with
                  | .d y => .ok (some y) s2
                  | _ => .stuck).bind fun o s3 => ((lcD z (lcT z.2.2 r vs t ft fe) (z.1.drop (i + 1)) s3).bind fun ys s2 => Res.ok (match o with
                    | none => ys
                    | some y => y :: ys) s2).bind fun ys s => fin (acc ++ ys) s) := k
                refine iteT ⟨r1, as2, G2, s2, sr2.mono p2, e2, ?_⟩
                cases hf : fe r1 s2 with
                | exc c s3 => rw [hf] at k; exact k.elim
                | stuck => rw [hf] at k; exact k.elim
                | ok y s3 =>
                  rw [hf] at k
                  intro v as3 G3 H3 p3 e3 vy
                  cases y with
                  | d y => exact go (some y) s3 as3 G3 H3 (p2'.trans p3) e3 (by simpa [bind_assoc] using k) v vy
                  | o i => exact k.elim
                  | e _ => exact k.elim
                  | s ns => exact k.elim
      · have e0 : z.1.drop i = [] := List.drop_eq_nil_of_le hl
        rw [e0, lcD, if_pos ok] at k
        simp at k
        exact .inl ⟨j1 hl, hfin as G H st D us acc er hDv gD nD (by have := v1.2; omega) ra k⟩
    · exfalso
      cases hd : z.1.drop i with
      | nil => rw [hd, lcD, if_neg ok] at k; exact k
      | cons d ds => rw [hd, lcD, if_neg ok] at k; exact k
section
variable {K : PySem.W.Frag} {as : List Addr} {G H : Hp} {st : Sto} {D : Addr} {us : List V} {ys : List PyData}
/-- an object beside the store stops to change -/
theorem ER.beside (er : ER K as G H st) (hD : H D = some (.lst us)) (gD : G D = none) (nD : D ∉ as) : ER K as (upd G D (.lst us)) H st where
  sub := fun b v q => by
    by_cases hb : b = D
    · subst hb; rw [upd_same] at q; rw [hD]; exact q
    · rw [upd_ne hb] at q; exact er.sub _ _ q
  len := er.len
  nd := er.nd
  tr := er.tr
  ob := fun i a o h1 h2 => by
    have hne : a ≠ D := fun q => nD (q ▸ List.mem_of_getElem? h1)
    have hs := Same.upd1 (o := .lst us) gD
    have h := er.ob i a o h1 h2
    cases o with
    | lst ds => obtain ⟨g, l, us, hv, t⟩ := h; exact ⟨by rw [upd_ne hne]; exact g, l, us, hv, RpAll.mono hs t⟩
    | dct kvs => obtain ⟨g, ks, hv, t⟩ := h; exact ⟨by rw [upd_ne hne]; exact g, ks, hv, Paired.mapP t fun _ _ z => ⟨z.1, Rp.mono hs z.2⟩⟩
    | dead => trivial
/-- .. or is taken into it -/
theorem ER.taken (er : ER K as G H st) (hD : H D = some (.lst us)) (gD : G D = none) (nD : D ∉ as) (hl : ys.length ≤ sizeLine) (ra : RpAll K G us ys) : ER K (as ++ [D]) G H (st ++ [.lst ys]) where
  sub := er.sub
  len := by simp [er.len]
  nd := by
    rw [List.nodup_append]
    refine ⟨er.nd, by simp, fun a ha b hb => ?_⟩
    simp at hb
    subst hb
    exact fun q => nD (q ▸ ha)
  tr := fun a m => by
    rcases List.mem_append.mp m with m | m
    · exact er.tr a m
    · rw [List.mem_singleton.mp m, hD]; exact fun z => nomatch z
  ob := fun i a ob h1 h2 => by
    rcases Nat.lt_or_ge i as.length with hi | hi
    · rw [List.getElem?_append_left hi] at h1
      rw [List.getElem?_append_left (er.len ▸ hi)] at h2
      exact er.ob i a ob h1 h2
    · rw [List.getElem?_append_right hi] at h1
      rw [List.getElem?_append_right (er.len ▸ hi)] at h2
      have h0 : i - as.length = 0 := by
        rcases Nat.eq_zero_or_pos (i - as.length) with z | z
        · exact z
        · rw [List.getElem?_eq_none (by simp; omega)] at h1; cases h1
      rw [h0] at h1
      rw [← er.len, h0] at h2
      cases h1
      cases h2
      exact ⟨gD, hl, us, hD, ra⟩
end
theorem lc_frz {K : PySem.W.Frag} {W : WS} {σ : L2.St} {H : Hp} {Q : VK} {fi : SI} {t : Tgt} {ft fe : SE} {vs : List Nat} (hts : ∀ i ∈ t.slots, i ∈ vs) (q : tE K W (eLc fi t ft fe vs) σ H Q) : tLc (tJ K W fi) (gT K t) (tT K W0 ft) (tE K W0 fe) vs σ H Q := by
  refine lc_read (fin := fun ys s => .ok (.d (.list ys)) s) hts (fun as G H st D us ys er hD gD nD hl ra k => ?_) q
  refine k (.ref D) as (upd G D (.lst us)) H ⟨⟨[], by simp, by simp⟩, Same.upd1 gD, fun a o h _ => ?_, fun a h => ?_⟩ (er.beside hD gD nD) (.lst upd_same hl (RpAll.mono (Same.upd1 gD) ra))
  · by_cases e : a = D
    · rw [if_pos e] at h; cases h
    · rw [if_neg e] at h; exact ⟨h, upd_ne e⟩
  · by_cases e : a = D
    · rw [if_pos e] at h; exact absurd rfl h
    · rw [if_neg e] at h; exact h
theorem lc_new {K : PySem.W.Frag} {W : WS} {σ : L2.St} {H : Hp} {Q : VK} {fi : SI} {t : Tgt} {ft fe : SE} {vs : List Nat} (hts : ∀ i ∈ t.slots, i ∈ vs) (q : tE K W (eLcN fi t ft fe vs) σ H Q) : tLc (tJ K W fi) (gT K t) (tT K W0 ft) (tE K W0 fe) vs σ H Q := by
  refine lc_read (fin := fun ys s => ansN s (some ys)) hts (fun as G H st D us ys er hD gD nD hl ra k => ?_) q
  refine k (.ref D) (as ++ [D]) G H ⟨⟨[D], rfl, fun a ha => ?_⟩, fun _ _ h => h, fun a o h _ => ?_, fun a h => ?_⟩ (er.taken hD gD nD hl ra) ⟨D, by rw [List.getElem?_append_right (by rw [er.len]; exact Nat.le_refl _)]; simp [er.len], rfl⟩
  · show (if a = D then none else H a) = none
    rw [if_pos (List.mem_singleton.mp ha)]
  · by_cases e : a = D
    · rw [if_pos e] at h; cases h
    · rw [if_neg e] at h; exact ⟨h, rfl⟩
  · by_cases e : a = D
    · rw [if_pos e] at h; exact absurd rfl h
    · rw [if_neg e] at h; exact h
section
variable {X : Cx} {W : WS} {elt tg iter : Expr} {ifs : List Expr} {scope : Scope} {own : List (Str × Nat)} {pos : Pos} {fi : SI} {t : Tgt} {ft fe : SE}
/-- [elt for tg in iter if ..] -/
theorem de_lc (hc : X.calm = true) (hN : X.N.Nodup) (hi : PI X tg iter (tJ X.K W fi)) (ok : BlkOk X.N X.env.scope scope own)
    (hg : ∀ (s : Shared) (H : Hp) (C : Addr) (cl : List (Str × Addr)) (fp : List Addr), PG (X.blk s H scope (compEnvC scope cl C X.env) fp) tg (gT X.K t))
    (ht : ∀ (s : Shared) (H : Hp) (C : Addr) (cl : List (Str × Addr)) (fp : List Addr), PTs (X.blk s H scope (compEnvC scope cl C X.env) fp) ifs (tT X.K W0 ft))
    (he : ∀ (s : Shared) (H : Hp) (C : Addr) (cl : List (Str × Addr)) (fp : List Addr), PE (X.blk s H scope (compEnvC scope cl C X.env) fp) elt (tE X.K W0 fe)) (hts : ∀ i ∈ t.slots, i ∈ own.map (·.2) := by decide) (hs : ∀ x, foldedSetIterable iter X.env x = pure x := by intro _; rfl) :
    PE X (.ListComp elt [⟨tg, iter, ifs, 0⟩] scope pos) (tE X.K W (eLc fi t ft fe (own.map (·.2)))) :=
  PE.impI (pe_lc hc hN hi ok hg ht he hs) fun _ _ _ _ _ _ q => lc_frz hts q
theorem de_lcN (hc : X.calm = true) (hN : X.N.Nodup) (hi : PI X tg iter (tJ X.K W fi)) (ok : BlkOk X.N X.env.scope scope own)
    (hg : ∀ (s : Shared) (H : Hp) (C : Addr) (cl : List (Str × Addr)) (fp : List Addr), PG (X.blk s H scope (compEnvC scope cl C X.env) fp) tg (gT X.K t))
    (ht : ∀ (s : Shared) (H : Hp) (C : Addr) (cl : List (Str × Addr)) (fp : List Addr), PTs (X.blk s H scope (compEnvC scope cl C X.env) fp) ifs (tT X.K W0 ft))
    (he : ∀ (s : Shared) (H : Hp) (C : Addr) (cl : List (Str × Addr)) (fp : List Addr), PE (X.blk s H scope (compEnvC scope cl C X.env) fp) elt (tE X.K W0 fe)) (hts : ∀ i ∈ t.slots, i ∈ own.map (·.2) := by decide) (hs : ∀ x, foldedSetIterable iter X.env x = pure x := by intro _; rfl) :
    PE X (.ListComp elt [⟨tg, iter, ifs, 0⟩] scope pos) (tE X.K W (eLcN fi t ft fe (own.map (·.2)))) :=
  PE.impI (pe_lc hc hN hi ok hg ht he hs) fun _ _ _ _ _ _ q => lc_new hts q
theorem dts_nil : PTs X [] (tT X.K W eYes) :=
  ⟨fun pins s σ H Q I q => pts_nil.run pins s σ H Q I (by
    obtain ⟨r, as, G, st, sr, er, k⟩ := q
    exact k true as G H (.refl _ _ _) er rfl)⟩
theorem dts_one {c : Expr} (h : PT X c (tT X.K W ft)) : PTs X [c] (tT X.K W ft) := pts_one h
end
/-! ### small statements -/
def sNil : SS := fun r st => .nx r st
def sSeq (F1 F2 : SS) : SS := fun r st => match F1 r st with
  | .nx r1 s1 => F2 r1 s1
  | o => o
def sExpr (f : SE) : SS := fun r st => outOf r (f r st) fun _ s1 => .nx r s1
def sRet (f : SE) : SS := fun r st => outOf r (f r st) fun x s1 => .ret x s1
def sRetN : SS := fun _ st => .ret (.d .none) st
def sIf (ft : SE) (F1 F2 : SS) : SS := fun r st => outOf r (asB (ft r st)) fun b s1 => match b with
  | true => F1 r s1
  | false => F2 r s1
def sAsg (f : SE) (t : Tgt) : SS := fun r st => outOf r (f r st) fun x s1 => match setT t x r with
  | some r1 => .nx r1 s1
  | none => .stuck
def sPar (i j : Nat) (fa : SA) : SS := fun r st => outOf r (fa r st) fun xs s1 => match xs with
  | [x, y] => .nx ((r.set i (some x)).set j (some y)) s1
  | _ => .stuck
section
variable {X : Cx} {W : WS} {e c : Expr} {st1 : Stmt} {sts body els : List Stmt} {f ft : SE} {fa : SA} {F F1 F2 : SS} {pos pos' : Pos}
theorem dss_nil : PSs X [] (tS X.K W sNil) := by
  refine PSs.imp pss_nil fun D σ H q => ?_
  obtain ⟨r, as, G, st, sr, er, k⟩ := q
  exact k σ as G H (.refl _ _ _) er sr
theorem dss_cons (h1 : PS X st1 (tS X.K W F1)) (h2 : PSs X sts (tS X.K W F2)) : PSs X (st1 :: sts) (tS X.K W (sSeq F1 F2)) := by
  refine PSs.imp (pss_cons h1 h2) fun D σ H q => ?_
  obtain ⟨r, as, G, st, sr, er, k⟩ := q
  refine ⟨r, as, G, st, sr, er, ?_⟩
  simp only [sSeq] at k
  cases h : F1 r st with
  | nx r1 s1 =>
    rw [h] at k
    intro σ' as' G' H' s' e' sr'
    exact ⟨r1, as', G', s1, sr', e', OK.from s' k⟩
  | ret v s1 => rw [h] at k; exact k
  | bk r1 s1 => rw [h] at k; exact k
  | ct r1 s1 => rw [h] at k; exact k
  | exc cl r1 s1 => rw [h] at k; exact k
  | stuck => rw [h] at k; exact k
theorem dss_one (h1 : PS X st1 (tS X.K W F1)) : PSs X [st1] (tS X.K W F1) := pss_one h1
theorem ds_expr (he : PE X e (tE X.K W f)) (hs : swapsWith e none pos.line X.env = pure false := by rfl) : PS X (.Expr e pos) (tS X.K W (sExpr f)) := by
  refine PS.imp (ps_expr he hs) fun D σ H q => ?_
  obtain ⟨r, as, G, st, sr, er, k⟩ := q
  exact ⟨r, as, G, st, sr, er, OKe sr k fun x s1 v as1 G1 H1 _ p1 e1 v1 k1 => k1 σ as1 G1 H1 (.refl _ _ _) e1 (sr.mono p1)⟩
theorem ds_ret (he : PE X e (tE X.K W f)) : PS X (.Return (some e) pos) (tS X.K W (sRet f)) := by
  refine PS.imp (ps_ret he) fun D σ H q => ?_
  obtain ⟨r, as, G, st, sr, er, k⟩ := q
  exact ⟨r, as, G, st, sr, er, OKe sr k fun x s1 v as1 G1 H1 _ p1 e1 v1 k1 => k1 v as1 G1 H1 (.refl _ _ _) e1 v1⟩
theorem ds_retN : PS X (.Return none pos) (tS X.K W sRetN) := by
  refine PS.imp ps_retN fun D σ H q => ?_
  obtain ⟨r, as, G, st, sr, er, k⟩ := q
  exact k .non as G H (.refl _ _ _) er .non
theorem ds_if (hc : PT X c (tT X.K W ft)) (h1 : PSs X body (tS X.K W F1)) (h2 : PSs X els (tS X.K W F2)) : PS X (.If c body els pos) (tS X.K W (sIf ft F1 F2)) := by
  refine PS.imp (ps_if hc h1 h2) fun D σ H q => ?_
  obtain ⟨r, as, G, st, sr, er, k⟩ := q
  refine ⟨r, as, G, st, sr, er, OKe sr k fun x s1 v as1 G1 H1 _ p1 e1 v1 k1 => ?_⟩
  subst v1
  cases v with
  | true => exact iteT ⟨r, as1, G1, s1, sr.mono p1, e1, k1⟩
  | false => exact iteF ⟨r, as1, G1, s1, sr.mono p1, e1, k1⟩
theorem asg_r {t : Tgt} {D : Ends} {σ : L2.St} {H : Hp} {te : TE} (hte : ∀ Q, tE X.K W f σ H Q → te σ H Q) (q : tS X.K W (sAsg f t) D σ H) : tAsg te (gT X.K t) D σ H := by
  refine hte _ ?_
  obtain ⟨r, as, G, st, sr, er, k⟩ := q
  refine ⟨r, as, G, st, sr, er, OKe sr k fun x s1 v as1 G1 H1 _ p1 e1 v1 k1 => ?_⟩
  cases h : setT t x r with
  | none => rw [h] at k1; exact k1.elim
  | some r1 =>
    rw [h] at k1
    exact gT_ok e1 (sr.mono p1) v1 h fun σ' sr' _ _ => k1 σ' as1 G1 H1 (.refl _ _ _) e1 sr'
theorem ds_asg {tg : Expr} {t : Tgt} (he : PE X e (tE X.K W f)) (hg : PG X tg (gT X.K t)) (hs : swapsWithSole [tg] e pos.line X.env = pure false := by rfl) (hw : swappedStores [tg] e X.env = pure none := by rfl) (h1 : (assignEach [tg] X.env).map (·.2) = [assign tg X.env] := by rfl) :
    PS X (.Assign [tg] e pos) (tS X.K W (sAsg f t)) := PS.imp (ps_asg he hg hs hw h1) fun _ _ _ q => asg_r (fun _ z => z) q
theorem ds_set {i : Nat} {x : Str} (hN : X.N.Nodup) (hi : X.N[i]? = some x) (hx : Loc X.env.scope x) (he : PE X e (tE X.K W f)) (hs : swapsWith e (some (.Name x pos')) pos.line X.env = pure false := by rfl) (hf : X.fn x = true ∨ X.env.scope.names.lookup x = some .local := by first | exact .inl rfl | exact .inr rfl | assumption) :
    PS X (.Assign [.Name x pos'] e pos) (tS X.K W (sAsg f (.nm i))) := PS.imp (ps_set hN hi hx he hs hf) fun _ _ _ q => asg_r (t := .nm i) (fun _ z => z) q
theorem ds_par {i j : Nat} {x y : Str} {a b : Expr} {px py pt : Pos} {kt k2 : Nat} {pt2 : Pos} (hc : X.calm = true) (hN : X.N.Nodup) (hi : X.N[i]? = some x) (hj : X.N[j]? = some y) (hij : i ≠ j) (hx : X.env.scope.names.lookup x = some .local) (hy : X.env.scope.names.lookup y = some .local) (ha : PA X [a, b] (tA X.K W fa))
    (hw : swappedStores [.Tuple [.Name x px, .Name y py] kt pt] (.Tuple [a, b] k2 pt2) X.env = pure (some [x, y])) (hs : swapsWithSole [.Tuple [.Name x px, .Name y py] kt pt] (.Tuple [a, b] k2 pt2) pos.line X.env = pure false := by rfl) :
    PS X (.Assign [.Tuple [.Name x px, .Name y py] kt pt] (.Tuple [a, b] k2 pt2) pos) (tS X.K W (sPar i j fa)) := by
  refine PS.imp (ps_par hc hN hi hj hij hx hy ha hw hs) fun D σ H q => ?_
  obtain ⟨r, as, G, st, sr, er, k⟩ := q
  refine ⟨r, as, G, st, sr, er, OKe sr k fun xs s1 vs as1 G1 H1 _ p1 e1 v1 k1 => ?_⟩
  cases v1 with
  | nil => exact k1.elim
  | cons h1 t1 => cases t1 with
    | nil => exact k1.elim
    | cons h2 t2 => cases t2 with
      | cons _ _ => exact k1.elim
      | nil => exact ⟨_, _, rfl, k1 _ as1 G1 H1 (.refl _ _ _) e1 (((sr.mono p1).put i h1).put j h2)⟩
/-- a name gets a new list made by a comprehension -/
theorem ds_setLc {elt tg iter : Expr} {ifs : List Expr} {scope : Scope} {own : List (Str × Nat)} {fi : SI} {t : Tgt} {fe : SE} {i : Nat} {y : Str} {py spos : Pos} (hc : X.calm = true) (hN : X.N.Nodup) (hy : X.N[i]? = some y) (hyl : X.env.scope.names.lookup y = some .local)
    (hsw : swapsWith (.ListComp elt [⟨tg, iter, ifs, 0⟩] scope pos) (some (.Name y py)) spos.line X.env = pure true) (hi : PI X tg iter (tJ X.K W fi)) (ok : BlkOk X.N X.env.scope scope own)
    (hg : ∀ (s : Shared) (H : Hp) (C : Addr) (cl : List (Str × Addr)) (fp : List Addr), PG (X.blk s H scope (compEnvC scope cl C X.env) fp) tg (gT X.K t))
    (ht : ∀ (s : Shared) (H : Hp) (C : Addr) (cl : List (Str × Addr)) (fp : List Addr), PTs (X.blk s H scope (compEnvC scope cl C X.env) fp) ifs (tT X.K W0 ft))
    (he : ∀ (s : Shared) (H : Hp) (C : Addr) (cl : List (Str × Addr)) (fp : List Addr), PE (X.blk s H scope (compEnvC scope cl C X.env) fp) elt (tE X.K W0 fe)) (hts : ∀ i ∈ t.slots, i ∈ own.map (·.2) := by decide) (hs : ∀ x, foldedSetIterable iter X.env x = pure x := by intro _; rfl) :
    PS X (.Assign [.Name y py] (.ListComp elt [⟨tg, iter, ifs, 0⟩] scope pos) spos) (tS X.K W (sAsg (eLc fi t ft fe (own.map (·.2))) (.nm i))) :=
  PS.imp (ps_setLc hc hN hy hyl hsw hi ok hg ht he hs) fun _ _ _ q => asg_r (t := .nm i) (fun _ z => lc_frz hts z) q
theorem ds_setLcN {elt tg iter : Expr} {ifs : List Expr} {scope : Scope} {own : List (Str × Nat)} {fi : SI} {t : Tgt} {fe : SE} {i : Nat} {y : Str} {py spos : Pos} (hc : X.calm = true) (hN : X.N.Nodup) (hy : X.N[i]? = some y) (hyl : X.env.scope.names.lookup y = some .local)
    (hsw : swapsWith (.ListComp elt [⟨tg, iter, ifs, 0⟩] scope pos) (some (.Name y py)) spos.line X.env = pure true) (hi : PI X tg iter (tJ X.K W fi)) (ok : BlkOk X.N X.env.scope scope own)
    (hg : ∀ (s : Shared) (H : Hp) (C : Addr) (cl : List (Str × Addr)) (fp : List Addr), PG (X.blk s H scope (compEnvC scope cl C X.env) fp) tg (gT X.K t))
    (ht : ∀ (s : Shared) (H : Hp) (C : Addr) (cl : List (Str × Addr)) (fp : List Addr), PTs (X.blk s H scope (compEnvC scope cl C X.env) fp) ifs (tT X.K W0 ft))
    (he : ∀ (s : Shared) (H : Hp) (C : Addr) (cl : List (Str × Addr)) (fp : List Addr), PE (X.blk s H scope (compEnvC scope cl C X.env) fp) elt (tE X.K W0 fe)) (hts : ∀ i ∈ t.slots, i ∈ own.map (·.2) := by decide) (hs : ∀ x, foldedSetIterable iter X.env x = pure x := by intro _; rfl) :
    PS X (.Assign [.Name y py] (.ListComp elt [⟨tg, iter, ifs, 0⟩] scope pos) spos) (tS X.K W (sAsg (eLcN fi t ft fe (own.map (·.2))) (.nm i))) :=
  PS.imp (ps_setLc hc hN hy hyl hsw hi ok hg ht he hs) fun _ _ _ q => asg_r (t := .nm i) (fun _ z => lc_new hts z) q
end
/-! ### while -/
def sWhile (ft : SE) (F : SS) : Nat → SS
  | 0 => fun _ _ => .stuck
  | n + 1 => fun r st => outOf r (asB (ft r st)) fun b s1 => match b with
    | false => .nx r s1
    | true => match F r s1 with
      | .nx r2 s2 => sWhile ft F n r2 s2
      | .ct r2 s2 => sWhile ft F n r2 s2
      | .bk r2 s2 => .nx r2 s2
      | o => o
theorem ds_while {X : Cx} {W : WS} {c : Expr} {body : List Stmt} {ft : SE} {F : SS} {pos : Pos} (n : Nat) (hp : PassesOwn (model X.prog X.w) X.A X.env X.xe) (hc : PT X c (tT X.K W ft)) (hb : PSs X body (tS X.K W F)) : PS X (.While c body [] pos) (tS X.K W (sWhile ft F n)) := by
  refine PS.imp (ps_while hp hc hb) fun D σ H q => ?_
  refine ⟨fun m σ H => tS X.K W (sWhile ft F m) D σ H, ⟨n, q⟩, fun m σ H q => ?_⟩
  obtain ⟨r, as, G, st, sr, er, k⟩ := q
  cases m with
  | zero => exact k.elim
  | succ m =>
    refine ⟨r, as, G, st, sr, er, OKe sr k fun b s1 v as1 G1 H1 _ p1 e1 v1 k1 => ?_⟩
    subst v1
    cases v with
    | false => exact iteF (k1 σ as1 G1 H1 (.refl _ _ _) e1 (sr.mono p1))
    | true =>
      refine iteT ⟨fun σ H => tS X.K W (sWhile ft F m) D σ H, fun σ' H' h => ⟨m, Nat.lt_succ_self m, h⟩, r, as1, G1, s1, sr.mono p1, e1, ?_⟩
      have k1 : OK X.K as1 G1 H1 W D (match F r s1 with
        | .nx r2 s2 => sWhile ft F m r2 s2
        | .ct r2 s2 => sWhile ft F m r2 s2
        | .bk r2 s2 => .nx r2 s2
        | o => o) := k1
      cases h : F r s1 with
      | nx r2 s2 => rw [h] at k1; exact fun σ3 as3 G3 H3 s3 e3 sr3 => ⟨r2, as3, G3, s2, sr3, e3, OK.from s3 k1⟩
      | ct r2 s2 => rw [h] at k1; exact fun σ3 as3 G3 H3 s3 e3 sr3 => ⟨r2, as3, G3, s2, sr3, e3, OK.from s3 k1⟩
      | bk r2 s2 => rw [h] at k1; exact k1
      | ret v s2 => rw [h] at k1; exact k1
      | exc cl r2 s2 => rw [h] at k1; exact k1
      | stuck => rw [h] at k1; exact k1
end DL
set_option maxHeartbeats 200000
/-! D layer, part 7: what operators do, over data. -/
namespace DL
open PySem L2
section
variable {K : PySem.W.Frag} {H : Hp}
mutual
theorem Dp.plain : ∀ {v : V} {d : PyData}, Dp K H v d → d.plain = true
  | _, _, .non => rfl
  | _, _, .bl _ => rfl
  | _, _, .int _ => rfl
  | _, _, .str _ => rfl
  | _, _, .lst _ t => by simp only [PyData.plain]; exact DpAll.plain t
  | _, _, .tup _ t => by simp only [PyData.plain]; exact DpAll.plain t
theorem DpAll.plain : ∀ {vs : List V} {ds : List PyData}, DpAll K H vs ds → PyData.plainAll ds = true
  | _, _, .nil => rfl
  | _, _, .cons h t => by simp only [PyData.plainAll, Dp.plain h, DpAll.plain t, Bool.and_self]
end
end
theorem Snd2.or_l {K : PySem.W.Frag} {r1 r2 : R2} {g : G2} (h : Snd2 K r1 g) : Snd2 K (fun x y H Q => r1 x y H Q ∨ r2 x y H Q) g := fun as G H st v u x y d Q er vx vy e k => .inl (h as G H st v u x y d Q er vx vy e k)
/-! ### == and != -/
def shallow (d : PyData) : Bool := decide (d.depth ≤ 60)
def rEqP (K : PySem.W.Frag) (neg : Bool) : R2 := fun x y H Q => ∃ d e, Dp K H x d ∧ Dp K H y e ∧ min d.depth e.depth ≤ 60 ∧ Q (.bl (if neg = true then !PyData.eqv d e else PyData.eqv d e)) H
section
variable {X : Cx}
theorem op_eqP (hu : X.A.units + 64 < cLine) : OpR X (compareOp .Eq) (rEqP X.K false) := by
  intro pins s σ H x y v u Q I rx ry q
  obtain ⟨d, e, hd, he, hm, q⟩ := q
  obtain ⟨as, ra⟩ := Dp.reads I _ _ _ hd rx
  obtain ⟨bs, rb⟩ := Dp.reads I _ _ _ he ry
  exact SeqAt.eq_plain ra rb (Dp.plain hd) (Dp.plain he) (by omega) ⟨.bl _, H, I, rfl, q⟩
theorem op_neP (hu : X.A.units + 64 < cLine) : OpR X (compareOp .NotEq) (rEqP X.K true) := by
  intro pins s σ H x y v u Q I rx ry q
  obtain ⟨d, e, hd, he, hm, q⟩ := q
  obtain ⟨as, ra⟩ := Dp.reads I _ _ _ hd rx
  obtain ⟨bs, rb⟩ := Dp.reads I _ _ _ he ry
  exact SeqAt.ne_plain ra rb (Dp.plain hd) (Dp.plain he) (by omega) ⟨.bl _, H, I, rfl, q⟩
end
def eqD : G2 := fun x y st => match deref st x, deref st y with
  | some d, some e => if min d.depth e.depth ≤ 60 then some (.bool (PyData.eqv d e)) else none
  | _, _ => none
def neD : G2 := fun x y st => match deref st x, deref st y with
  | some d, some e => if min d.depth e.depth ≤ 60 then some (.bool (!PyData.eqv d e)) else none
  | _, _ => none
theorem snd_eq {K : PySem.W.Frag} : Snd2 K (rEqP K false) eqD := by
  intro as G H st v u x y d Q er vx vy e k
  unfold eqD at e
  split at e
  · next d1 d2 h1 h2 =>
    split at e
    · next hm => cases e; exact ⟨d1, d2, deref_ok er vx h1, deref_ok er vy h2, hm, k _ G H (.refl _ _ _) er (.bl _)⟩
    · cases e
  · cases e
theorem snd_ne {K : PySem.W.Frag} : Snd2 K (rEqP K true) neD := by
  intro as G H st v u x y d Q er vx vy e k
  unfold neD at e
  split at e
  · next d1 d2 h1 h2 =>
    split at e
    · next hm => cases e; exact ⟨d1, d2, deref_ok er vx h1, deref_ok er vy h2, hm, k _ G H (.refl _ _ _) er (.bl _)⟩
    · cases e
  · cases e
/-! ### order -/
def rOrd (K : PySem.W.Frag) (ans : PyData → PyData → Bool) : R2 := fun x y H Q => ∃ d e, Dp K H x d ∧ Dp K H y e ∧ PySem.W.alike d e = true ∧ d ≠ .none ∧ min d.depth e.depth ≤ 60 ∧ Q (.bl (ans d e)) H
section
variable {X : Cx}
theorem op_ltP (hu : X.A.units + 64 < cLine) : OpR X (compareOp .Lt) (rOrd X.K fun d e => PySem.W.dataLt d e) := by
  intro pins s σ H x y v u Q I rx ry q
  obtain ⟨d, e, hd, he, ha, hn, hm, q⟩ := q
  obtain ⟨as, ra⟩ := Dp.reads I _ _ _ hd rx
  obtain ⟨bs, rb⟩ := Dp.reads I _ _ _ he ry
  exact PySem.W.lt_data ra rb ha hn (by omega) ⟨.bl _, H, I, rfl, q⟩
theorem op_gtP (hu : X.A.units + 64 < cLine) : OpR X (compareOp .Gt) (rOrd X.K fun d e => PySem.W.dataLt e d) := by
  intro pins s σ H x y v u Q I rx ry q
  obtain ⟨d, e, hd, he, ha, hn, hm, q⟩ := q
  obtain ⟨as, ra⟩ := Dp.reads I _ _ _ hd rx
  obtain ⟨bs, rb⟩ := Dp.reads I _ _ _ he ry
  exact PySem.W.gt_data ra rb ha hn (by omega) ⟨.bl _, H, I, rfl, q⟩
theorem op_leP (hu : X.A.units + 64 < cLine) : OpR X (compareOp .LtE) (rOrd X.K fun d e => !PySem.W.dataLt e d) := by
  intro pins s σ H x y v u Q I rx ry q
  obtain ⟨d, e, hd, he, ha, hn, hm, q⟩ := q
  obtain ⟨as, ra⟩ := Dp.reads I _ _ _ hd rx
  obtain ⟨bs, rb⟩ := Dp.reads I _ _ _ he ry
  exact PySem.W.le_data ra rb ha hn (by omega) ⟨.bl _, H, I, rfl, q⟩
theorem op_geP (hu : X.A.units + 64 < cLine) : OpR X (compareOp .GtE) (rOrd X.K fun d e => !PySem.W.dataLt d e) := by
  intro pins s σ H x y v u Q I rx ry q
  obtain ⟨d, e, hd, he, ha, hn, hm, q⟩ := q
  obtain ⟨as, ra⟩ := Dp.reads I _ _ _ hd rx
  obtain ⟨bs, rb⟩ := Dp.reads I _ _ _ he ry
  exact PySem.W.ge_data ra rb ha hn (by omega) ⟨.bl _, H, I, rfl, q⟩
end
def isNoneD : PyData → Bool
  | .none => true
  | _ => false
def ordD (ai : Int → Int → Bool) (ans : PyData → PyData → Bool) : G2 := fun x y st => match deref st x, deref st y with
  | some (.int i), some (.int j) => some (.bool (ai i j))
  | some d, some e => if PySem.W.alike d e = true ∧ isNoneD d = false ∧ min d.depth e.depth ≤ 60 then some (.bool (ans d e)) else none
  | _, _ => none
theorem snd_ord {K : PySem.W.Frag} {ai : Int → Int → Bool} {ans : PyData → PyData → Bool} (hi : ∀ i j, ans (.int i) (.int j) = ai i j) : Snd2 K (rOrd K ans) (ordD ai ans) := by
  intro as G H st v u x y d Q er vx vy e k
  unfold ordD at e
  split at e
  · next i j h1 h2 =>
    cases e
    refine ⟨_, _, deref_ok er vx h1, deref_ok er vy h2, rfl, (fun z => nomatch z), by simp [PyData.depth], ?_⟩
    rw [hi]
    exact k _ G H (.refl _ _ _) er (.bl _)
  · next d1 d2 _ h1 h2 =>
    split at e
    · next hm =>
      cases e
      exact ⟨d1, d2, deref_ok er vx h1, deref_ok er vy h2, hm.1, (fun z => by subst z; exact absurd hm.2.1 (by simp [isNoneD])), hm.2.2, k _ G H (.refl _ _ _) er (.bl _)⟩
    · cases e
  · cases e
abbrev ltD : G2 := ordD (fun i j => decide (i < j)) fun d e => PySem.W.dataLt d e
abbrev gtD : G2 := ordD (fun i j => decide (j < i)) fun d e => PySem.W.dataLt e d
abbrev leD : G2 := ordD (fun i j => decide (i ≤ j)) fun d e => !PySem.W.dataLt e d
abbrev geD : G2 := ordD (fun i j => decide (j ≤ i)) fun d e => !PySem.W.dataLt d e
theorem not_lt_le (i j : Int) : (!decide (j < i)) = decide (i ≤ j) := by
  by_cases h : i ≤ j
  · simp [h]
  · simp [h]; omega
theorem snd_lt {K : PySem.W.Frag} : Snd2 K (rOrd K fun d e => PySem.W.dataLt d e) ltD := snd_ord fun i j => PySem.W.dataLt_int i j
theorem snd_gt {K : PySem.W.Frag} : Snd2 K (rOrd K fun d e => PySem.W.dataLt e d) gtD := snd_ord fun i j => PySem.W.dataLt_int j i
theorem snd_le {K : PySem.W.Frag} : Snd2 K (rOrd K fun d e => !PySem.W.dataLt e d) leD := snd_ord fun i j => by simp only [PySem.W.dataLt_int, not_lt_le]
theorem snd_ge {K : PySem.W.Frag} : Snd2 K (rOrd K fun d e => !PySem.W.dataLt d e) geD := snd_ord fun i j => by simp only [PySem.W.dataLt_int, not_lt_le]
/-! ### in, not in -/
def rInP (K : PySem.W.Frag) (neg : Bool) : R2 := fun x y H Q => ∃ d ds, Dp K H x d ∧ (Dp K H y (.list ds) ∨ Dp K H y (.tuple ds)) ∧ min (PyData.depthAll ds) d.depth ≤ 60 ∧ Q (.bl (if neg = true then !(ds.any fun z => PyData.eqv z d) else ds.any fun z => PyData.eqv z d)) H
theorem plain_l {ds : List PyData} (h : PyData.plain (.list ds) = true) : PyData.plainAll ds = true := by simpa [PyData.plain] using h
theorem plain_t {ds : List PyData} (h : PyData.plain (.tuple ds) = true) : PyData.plainAll ds = true := by simpa [PyData.plain] using h
section
variable {X : Cx}
theorem op_inP (hu : X.A.units + 64 < cLine) : OpR X (compareOp .In) (rInP X.K false) := by
  intro pins s σ H x y v u Q I rx ry q
  obtain ⟨d, ds, hd, he, hm, q⟩ := q
  obtain ⟨as, ra⟩ := Dp.reads I _ _ _ hd rx
  rcases he with he | he
  · obtain ⟨bs, rb⟩ := Dp.reads I _ _ _ he ry
    exact SeqAt.in_list_data rb ra (plain_l (Dp.plain he)) (Dp.plain hd) (by omega) ⟨.bl _, H, I, rfl, q⟩
  · obtain ⟨bs, rb⟩ := Dp.reads I _ _ _ he ry
    exact SeqAt.in_tuple_data rb ra (plain_t (Dp.plain he)) (Dp.plain hd) (by omega) ⟨.bl _, H, I, rfl, q⟩
theorem op_notInP (hu : X.A.units + 64 < cLine) : OpR X (compareOp .NotIn) (rInP X.K true) := by
  intro pins s σ H x y v u Q I rx ry q
  obtain ⟨d, ds, hd, he, hm, q⟩ := q
  obtain ⟨as, ra⟩ := Dp.reads I _ _ _ hd rx
  rcases he with he | he
  · obtain ⟨bs, rb⟩ := Dp.reads I _ _ _ he ry
    exact SeqAt.notIn_list_data rb ra (plain_l (Dp.plain he)) (Dp.plain hd) (by omega) ⟨.bl _, H, I, rfl, q⟩
  · obtain ⟨bs, rb⟩ := Dp.reads I _ _ _ he ry
    exact SeqAt.notIn_tuple_data rb ra (plain_t (Dp.plain he)) (Dp.plain hd) (by omega) ⟨.bl _, H, I, rfl, q⟩
end
def isinD (neg : Bool) : G2 := fun x y st => match deref st x, deref st y with
  | some d, some (.list ds) => if min (PyData.depthAll ds) d.depth ≤ 60 then some (.bool (if neg = true then !(ds.any fun z => PyData.eqv z d) else ds.any fun z => PyData.eqv z d)) else none
  | some d, some (.tuple ds) => if min (PyData.depthAll ds) d.depth ≤ 60 then some (.bool (if neg = true then !(ds.any fun z => PyData.eqv z d) else ds.any fun z => PyData.eqv z d)) else none
  | _, _ => none
theorem snd_isin {K : PySem.W.Frag} {neg : Bool} : Snd2 K (rInP K neg) (isinD neg) := by
  intro as G H st v u x y d Q er vx vy e k
  unfold isinD at e
  split at e
  · next d ds h1 h2 =>
    split at e
    · next hm => cases e; exact ⟨d, ds, deref_ok er vx h1, .inl (deref_ok er vy h2), hm, k _ G H (.refl _ _ _) er (.bl _)⟩
    · cases e
  · next d ds h1 h2 =>
    split at e
    · next hm => cases e; exact ⟨d, ds, deref_ok er vx h1, .inr (deref_ok er vy h2), hm, k _ G H (.refl _ _ _) er (.bl _)⟩
    · cases e
  · cases e
/-- one sign in a text -/
def signD (neg : Bool) : G2 := fun x y st => match x, y with
  | .d (.str ⟨⟨[c]⟩⟩), .d (.str z) => some (.bool (if neg = true then !decide (c ∈ z.cps.toList) else decide (c ∈ z.cps.toList)))
  | _, _ => none
def rSign (neg : Bool) : R2 := fun x y H Q => ∃ (c : Nat) (z : Str), x = .str ⟨#[c]⟩ ∧ y = .str z ∧ Q (.bl (if neg = true then !decide (c ∈ z.cps.toList) else decide (c ∈ z.cps.toList))) H
theorem op_inSign {X : Cx} : OpR X (compareOp .In) (rSign false) := op_in_sign
theorem op_notInSign {X : Cx} : OpR X (compareOp .NotIn) (rSign true) := op_notIn_sign
theorem snd_sign {K : PySem.W.Frag} {neg : Bool} : Snd2 K (rSign neg) (signD neg) := by
  intro as G H st v u x y d Q er vx vy e k
  unfold signD at e
  split at e
  · next c z =>
    cases e
    cases vx
    cases vy
    exact ⟨c, z, rfl, rfl, k _ G H (.refl _ _ _) er (.bl _)⟩
  · cases e
/-- is None -/
def isND (neg : Bool) : G2 := fun x y st => match x, y with
  | .d d, .d .none => some (.bool (if neg = true then !isNoneD d else isNoneD d))
  | _, _ => none
theorem rp_none {K : PySem.W.Frag} {G : Hp} {v : V} {d : PyData} (h : Rp K G v d) : decide (v = .non) = isNoneD d := by cases h <;> rfl
theorem snd_isN {K : PySem.W.Frag} : Snd2 K (fun x y H Q => y = .non ∧ Q (.bl (decide (x = .non))) H) (isND false) := by
  intro as G H st v u x y d Q er vx vy e k
  unfold isND at e
  split at e
  · cases e
    cases vy
    refine ⟨rfl, ?_⟩
    rw [rp_none vx]
    exact k _ G H (.refl _ _ _) er (.bl _)
  · cases e
theorem snd_notN {K : PySem.W.Frag} : Snd2 K (fun x y H Q => y = .non ∧ Q (.bl (!decide (x = .non))) H) (isND true) := by
  intro as G H st v u x y d Q er vx vy e k
  unfold isND at e
  split at e
  · cases e
    cases vy
    refine ⟨rfl, ?_⟩
    rw [rp_none vx]
    exact k _ G H (.refl _ _ _) er (.bl _)
  · cases e
/-! ### + - * // % ** -/
def intD (c : Int → Int → Bool) (g : Int → Int → Int) : G2 := fun x y _ => match x, y with
  | .d (.int i), .d (.int j) => if c i j = true then some (.int (g i j)) else none
  | _, _ => none
theorem snd_int {K : PySem.W.Frag} {C : Int → Int → Prop} {c : Int → Int → Bool} {g : Int → Int → Int} (hc : ∀ i j, c i j = true → C i j) : Snd2 K (rI C fun i j => .int (g i j)) (intD c g) := by
  intro as G H st v u x y d Q er vx vy e k
  unfold intD at e
  split at e
  · next i j =>
    split at e
    · next h =>
      cases e
      cases vx
      cases vy
      exact ⟨i, j, rfl, rfl, hc i j h, k _ G H (.refl _ _ _) er (.int _)⟩
    · cases e
  · cases e
def yes2 (_ _ : Int) : Bool := true
theorem op_subI {X : Cx} : OpR X (binaryOp .Sub) (rI (fun _ _ => True) fun i j => .int (i - j)) := opI fun i j t u s Q E _ h => op_sub_raw h
where op_sub_raw {i j : Int} {t u : Tok} {s : Shared} {Q : Value → Shared → Prop} {E : Value → Shared → Prop} (h : Q (.int (i - j) s.toks) { s with toks := s.toks + 1 }) : wpAny (model X.prog X.w) X.A (binaryOp .Sub (.int i t) (.int j u)) Q E s := PyProof.Rows.sub_int h
abbrev subD : G2 := intD yes2 fun i j => i - j
theorem snd_sub {K : PySem.W.Frag} : Snd2 K (rI (fun _ _ => True) fun i j => .int (i - j)) subD := snd_int fun _ _ _ => trivial
abbrev fdivD : G2 := intD (fun _ j => decide (0 < j) && decide (j < 1073741824)) fun i j => i / j
theorem snd_fdiv {K : PySem.W.Frag} : Snd2 K (rI CDiv fun i j => .int (i / j)) fdivD := snd_int fun i j h => by
  simp at h; exact h
abbrev modD : G2 := intD (fun _ j => decide (0 < j)) fun i j => i % j
theorem snd_mod {K : PySem.W.Frag} : Snd2 K (rI (fun _ j => 0 < j) fun i j => .int (i % j)) modD := snd_int fun i j h => by
  simpa using h
abbrev powD : G2 := intD (fun i j => decide (0 ≤ j) && decide (j ≤ 1000) && decide (i.natAbs < 2 ^ 64)) fun i j => i ^ j.toNat
theorem snd_pow {K : PySem.W.Frag} : Snd2 K (rI CPow fun i j => .int (i ^ j.toNat)) powD := snd_int fun i j h => by
  simp only [Bool.and_eq_true, decide_eq_true_eq] at h
  exact ⟨h.1.1, by omega, h.2⟩
/-- + of ints, texts, tuples, lists -/
def addD : G2 := fun x y st => match x, y with
  | .d (.int i), .d (.int j) => some (.int (i + j))
  | .d (.str a), .d (.str b) => if a.length + b.length ≤ 1000000 then some (.str (a ++ b)) else none
  | .d (.tuple xs), .d (.tuple ys) => if xs.length + ys.length ≤ 1000000 then some (.tuple (xs ++ ys)) else none
  | _, _ => match listOf st x, listOf st y with
    | some xs, some ys => if xs.length + ys.length ≤ 1000000 then some (.list (xs ++ ys)) else none
    | _, _ => none
def addLD : G2L := fun x y st => match listOf st x, listOf st y with
  | some xs, some ys => if xs.length + ys.length ≤ 1000000 then some (xs ++ ys) else none
  | _, _ => none
theorem snd_addL {K : PySem.W.Frag} : Snd2L K rCat addLD := by
  intro as G H st v u x y ds Q er vx vy e k
  unfold addLD at e
  split at e
  · next xs ys h1 h2 =>
    split at e
    · next hl =>
      cases e
      obtain ⟨a, vs, rfl, ha, _, t1⟩ := listOf_ok er vx h1
      obtain ⟨b, us, rfl, hb, _, t2⟩ := listOf_ok er vy h2
      have hz : (xs ++ ys).length ≤ sizeLine := by rw [List.length_append]; exact Nat.le_trans hl (by decide)
      refine ⟨a, b, vs, us, rfl, rfl, ha, hb, ?_, fun p hp => k p _ hp hz (RpAll.app t1 t2)⟩
      rw [RpAll.len t1, RpAll.len t2]
      exact Nat.le_trans hl (by decide)
    · cases e
  · cases e
abbrev rAddP (K : PySem.W.Frag) : R2 := fun x y H Q => rI0 (fun i j => .int (i + j)) x y H Q ∨ ((∃ i j, x = .str i ∧ y = .str j ∧ i.length + j.length ≤ sizeLine ∧ Q (.str (i ++ j)) H) ∨ (rCatX K x y H Q ∨ rCat x y H Q))
theorem op_addP {X : Cx} : OpR X (binaryOp .Add) (rAddP X.K) := OpR.or op_add (OpR.or op_add_str (OpR.or op_catX op_cat))
theorem snd_add {K : PySem.W.Frag} : Snd2 K (rAddP K) addD := by
  intro as G H st v u x y d Q er vx vy e k
  unfold addD at e
  split at e
  · next i j => cases e; cases vx; cases vy; exact .inl ⟨i, j, rfl, rfl, k _ G H (.refl _ _ _) er (.int _)⟩
  · next a b =>
    split at e
    · next hl => cases e; cases vx; cases vy; exact .inr (.inl ⟨a, b, rfl, rfl, Nat.le_trans hl (by decide), k _ G H (.refl _ _ _) er (.str _)⟩)
    · cases e
  · next xs ys =>
    split at e
    · next hl =>
      cases e
      cases vx with
      | tup q1 l1 t1 => cases vy with
        | tup q2 l2 t2 =>
          refine .inr (.inr (.inl ⟨_, _, _, _, rfl, rfl, (TupX.mono er.sub q1).sq, (TupX.mono er.sub q2).sq, ?_, ?_, ?_, ?_⟩))
          · rw [RpAll.len t1, RpAll.len t2]; exact Nat.le_trans hl (by decide)
          · intro e0
            subst e0
            cases t1
            exact k _ G H (.refl _ _ _) er (.tup q2 l2 t2)
          · intro _ e0
            subst e0
            cases t2
            rw [List.append_nil] at k
            exact k _ G H (.refl _ _ _) er (.tup q1 l1 t1)
          · intro _ _ p o hp hc hd
            exact k _ _ _ (Stp.frz er hp) (er.frz hp) (.tup (.inl ⟨o, upd_same, hc, hd⟩) (by rw [List.length_append]; exact Nat.le_trans hl (by decide)) (RpAll.mono (Same.upd1 (er.g_none hp)) (RpAll.app t1 t2)))
    · cases e
  · split at e
    · next xs ys h1 h2 =>
      split at e
      · next hl =>
        refine .inr (.inr (.inr (snd_addL as G H st v u x y (xs ++ ys) Q er vx vy (by unfold addLD; rw [h1, h2]; exact if_pos hl) fun p us hp hz hv => ?_)))
        cases e
        exact k _ _ _ (Stp.frz er hp) (er.frz hp) (.lst upd_same hz (RpAll.mono (Same.upd1 (er.g_none hp)) hv))
      · cases e
    · cases e
/-- * of ints, of a list and an int -/
def mulOk (i j : Int) : Bool := (decide (-(2 ^ 64) < i) && decide (i < 2 ^ 64)) || (decide (-(2 ^ 64) < j) && decide (j < 2 ^ 64))
def mulD : G2 := fun x y st => match x, y with
  | .d (.int i), .d (.int j) => if mulOk i j = true then some (.int (i * j)) else none
  | _, .d (.int k) => match listOf st x with
    | some ds => if -(2 ^ 63) ≤ k ∧ k < 2 ^ 63 ∧ ds.length * k.toNat ≤ 1000000 then some (.list (List.replicate k.toNat ds).flatten) else none
    | none => none
  | _, _ => none
def repLD : G2L := fun x y st => match y with
  | .d (.int k) => match listOf st x with
    | some ds => if -(2 ^ 63) ≤ k ∧ k < 2 ^ 63 ∧ ds.length * k.toNat ≤ 1000000 then some (List.replicate k.toNat ds).flatten else none
    | none => none
  | _ => none
theorem RpAll.rep {K : PySem.W.Frag} {G : Hp} {vs : List V} {ds : List PyData} (h : RpAll K G vs ds) : ∀ k : Nat, RpAll K G (List.replicate k vs).flatten (List.replicate k ds).flatten
  | 0 => .nil
  | k + 1 => by
    rw [List.replicate_succ, List.replicate_succ, List.flatten_cons, List.flatten_cons]
    exact RpAll.app h (RpAll.rep h k)
theorem rep_len {α : Type} (ds : List α) (k : Nat) : (List.replicate k ds).flatten.length = ds.length * k := by
  simp [List.length_flatten, List.map_replicate, Nat.mul_comm]
theorem snd_repL {K : PySem.W.Frag} : Snd2L K rRep repLD := by
  intro as G H st v u x y ds Q er vx vy e k
  unfold repLD at e
  split at e
  · next n =>
    split at e
    · next xs h1 =>
      split at e
      · next hl =>
        cases e
        cases vy
        obtain ⟨a, vs, rfl, ha, _, t1⟩ := listOf_ok er vx h1
        have hz : (List.replicate n.toNat xs).flatten.length ≤ sizeLine := by rw [rep_len]; exact Nat.le_trans hl.2.2 (by decide)
        refine ⟨a, n, vs, rfl, rfl, ha, hl.1, hl.2.1, ?_, fun p hp => k p _ hp hz (RpAll.rep t1 _)⟩
        rw [RpAll.len t1]
        exact Nat.le_trans hl.2.2 (by decide)
      · cases e
    · cases e
  · cases e
abbrev rMulP : R2 := fun x y H Q => rI CMul (fun i j => .int (i * j)) x y H Q ∨ rRep x y H Q
theorem op_mulP {X : Cx} : OpR X (binaryOp .Mult) rMulP := OpR.or op_mul op_rep
theorem snd_mul {K : PySem.W.Frag} : Snd2 K rMulP mulD := by
  intro as G H st v u x y d Q er vx vy e k
  unfold mulD at e
  split at e
  · next i j =>
    split at e
    · next h =>
      cases e; cases vx; cases vy
      refine .inl ⟨i, j, rfl, rfl, ?_, k _ G H (.refl _ _ _) er (.int _)⟩
      simpa [mulOk, CMul] using h
    · cases e
  · next n _ =>
    split at e
    · next xs h1 =>
      split at e
      · next hl =>
        refine .inr (snd_repL as G H st v u x (.d (.int n)) _ Q er vx vy (by unfold repLD; simp only [h1]; exact if_pos hl) fun p us hp hz hv => ?_)
        cases e
        exact k _ _ _ (Stp.frz er hp) (er.frz hp) (.lst upd_same hz (RpAll.mono (Same.upd1 (er.g_none hp)) hv))
      · cases e
    · cases e
  · cases e
end DL
set_option maxHeartbeats 200000
/-! D layer, part 8: subscripts, slices, built-ins, methods. -/
namespace DL
open PySem L2
/-! ### x[i] -/
def ixD : G2 := fun x y st => match y with
  | .d (.int i) => match itemsOf st x with
    | some ds => atI ds i
    | none => match x with
      | .d (.str z) => if z.length ≤ 1000000 then (atI z.cps.toList i).map fun c => .str ⟨#[c]⟩ else none
      | _ => none
  | _ => none
theorem at_rp {K : PySem.W.Frag} {G : Hp} {vs : List V} {ds : List PyData} {i : Int} {d : PyData} (t : RpAll K G vs ds) (h : atI ds i = some d) : ∃ v, atI vs i = some v ∧ Rp K G v d := by
  unfold atI at h ⊢
  rw [RpAll.len t]
  obtain ⟨j, h1, h2⟩ := Option.bind_eq_some_iff.mp h
  obtain ⟨v, h3, h4⟩ := RpAll.get t h2
  exact ⟨v, by rw [h1]; exact h3, h4⟩
theorem snd_ix {K : PySem.W.Frag} : Snd2 K (rIx K) ixD := by
  intro as G H st v u x y d Q er vx vy e k
  unfold ixD at e
  split at e
  · next i =>
    cases vy
    split at e
    · next ds h1 =>
      obtain ⟨a, vs, rfl, hs, _, t⟩ := itemsOf_ok er vx h1
      obtain ⟨w, h3, h4⟩ := at_rp t e
      have q := k w G H (.refl _ _ _) er h4
      rcases hs with hs | hs
      · exact .inl ⟨a, vs, i, w, rfl, rfl, hs, h3, q⟩
      · exact .inr (.inl ⟨a, vs, i, w, rfl, rfl, hs, h3, q⟩)
    · split at e
      · next z _ =>
        split at e
        · next hz =>
          obtain ⟨c, h1, rfl⟩ := Option.map_eq_some_iff.mp e
          cases vx
          exact .inr (.inr ⟨z, i, c, rfl, rfl, Nat.le_trans hz (by decide), h1, k _ G H (.refl _ _ _) er (.str _)⟩)
        · cases e
      · cases e
  · cases e
theorem de_ix {X : Cx} {W : WS} {a b : Expr} {fa fb : SE} {pos : Pos} (ha : PE X a (tE X.K W fa)) (hb : PE X b (tE X.K W fb)) (hs : PlainIx b := by intro _ _; rfl) : PE X (.Subscript a b pos) (tE X.K W (eBin ixD fa fb)) :=
  PE.impI (pe_ix ix_seq ha hb hs) fun _ _ _ _ _ _ q => bin_r snd_ix q
/-! ### x[a:b] -/
abbrev SO := Vn → Sto → Res (Option Int)
def oNone : SO := fun _ st => .ok none st
def asI : Dv → Sto → Res (Option Int)
  | .d (.int i), st => .ok (some i) st
  | _, _ => .stuck
def oSome (f : SE) : SO := fun r st => (f r st).bind asI
def tOo (K : PySem.W.Frag) (W : WS) (f : SO) : TO := fun σ H Q => ∃ r as G st, SR K as G σ r ∧ ER K as G H st ∧ RK K as G H (fun c H' => W c σ H') (Option Int) (Option Int) (fun _ _ a b => a = b) Q (f r st)
theorem PO.imp {X : Cx} {e : Option Expr} {t t' : TO} (h : PO X e t) (k : ∀ (σ : L2.St) (H : Hp) (Q : Option Int → Hp → Prop), t' σ H Q → t σ H Q) : PO X e t' := ⟨fun pins s σ H Q I q => h.run pins s σ H Q I (k σ H Q q)⟩
def cutD (ds : List PyData) (lo hi : Option Int) : List PyData := (ds.drop (HT.sIx ds.length 0 lo)).take (HT.sIx ds.length ds.length hi - HT.sIx ds.length 0 lo)
def slD (x : Dv) (lo hi : Option Int) (st : Sto) : Option PyData := match x with
  | .d (.tuple ds) => some (.tuple (cutD ds lo hi))
  | _ => (listOf st x).map fun ds => .list (cutD ds lo hi)
def eSl (f : SE) (fl fh : SO) : SE := fun r st => (f r st).bind fun x s1 => (fl r s1).bind fun lo s2 => (fh r s2).bind fun hi s3 => ansD s3 (slD x lo hi s3)
theorem cutD_rp {K : PySem.W.Frag} {G : Hp} {vs : List V} {ds : List PyData} (t : RpAll K G vs ds) (lo hi : Option Int) : RpAll K G (cutV vs lo hi) (cutD ds lo hi) := by
  unfold cutV cutD
  rw [RpAll.len t]
  exact RpAll.take _ (RpAll.drop _ t)
theorem cutD_len (ds : List PyData) (lo hi : Option Int) : (cutD ds lo hi).length ≤ ds.length := by
  unfold cutD
  simp only [List.length_take, List.length_drop]
  omega
section
variable {X : Cx} {W : WS} {a : Expr} {fa : SE} {pos p2 : Pos}
theorem do_none : PO X none (tOo X.K W oNone) := PO.imp po_none fun σ H Q q => by
  obtain ⟨r, as, G, st, sr, er, k⟩ := q
  exact k none as G H (.refl _ _ _) er rfl
theorem do_some (h : PE X a (tE X.K W fa)) : PO X (some a) (tOo X.K W (oSome fa)) := PO.imp (po_some h) fun σ H Q q => by
  obtain ⟨r, as, G, st, sr, er, k⟩ := q
  refine ⟨r, as, G, st, sr, er, RK.seq k fun x s1 v as1 G1 H1 _ p1 e1 v1 k1 => ?_⟩
  cases x with
  | d x =>
    cases x with
    | int i => cases v1; exact ⟨i, rfl, k1 _ as1 G1 H1 (.refl _ _ _) e1 rfl⟩
    | _ => exact k1.elim
  | o i => exact k1.elim
  | e _ => exact k1.elim
  | s ns => exact k1.elim
theorem de_sl {lo hi : Option Expr} {fl fh : SO} (he : PE X a (tE X.K W fa)) (hl : PO X lo (tOo X.K W fl)) (hh : PO X hi (tOo X.K W fh)) : PE X (.Subscript a (.Slice lo hi none p2) pos) (tE X.K W (eSl fa fl fh)) := by
  refine PE.impI (pe_slice (SlR.or sl_list sl_tupX) he hl hh) fun pins s σ H Q I q => ?_
  obtain ⟨r, as, G, st, sr, er, k⟩ := q
  refine ⟨r, as, G, st, sr, er, RK.seq k fun x s1 v as1 G1 H1 _ p1 e1 v1 k1 => ⟨r, as1, G1, s1, sr.mono p1, e1, RK.seq k1 fun lo s2 l as2 G2 H2 _ p2 e2 v2 k2 => ⟨r, as2, G2, s2, (sr.mono p1).mono p2, e2, RK.seq k2 fun hi s3 h as3 G3 H3 _ p3 e3 v3 k3 => ?_⟩⟩⟩
  subst v2
  subst v3
  have v1' := VR.mono (p2.trans p3) v1
  unfold slD at k3
  split at k3
  · next ds _ =>
    cases v1' with
    | tup q hl t =>
      refine .inr ⟨_, _, rfl, (TupX.mono e3.sub q).sq, fun hw => ?_, fun _ p o hp hc hd => k3 _ as3 _ _ (Stp.frz e3 hp) (e3.frz hp) (.tup (.inl ⟨o, upd_same, hc, hd⟩) (Nat.le_trans (cutD_len _ _ _) hl) (RpAll.mono (Same.upd1 (e3.g_none hp)) (cutD_rp t l h)))⟩
      have e0 : cutD ds l h = ds := by
        rw [RpAll.len t] at hw
        unfold cutD
        rw [hw.1, hw.2]
        simp
      have k3 : RK X.K as3 G3 H3 (fun c H' => W c σ H') Dv V (VR X.K) Q (.ok (.d (.tuple (cutD ds l h))) s3) := k3
      rw [e0] at k3
      exact k3 _ as3 G3 H3 (.refl _ _ _) e3 (.tup q hl t)
  · next hne =>
    cases hx : listOf s3 x with
    | none => rw [hx] at k3; exact k3.elim
    | some ds =>
      rw [hx] at k3
      obtain ⟨a, vs, rfl, ha, hl, t⟩ := listOf_ok e3 v1' hx
      exact .inl ⟨a, vs, rfl, SqL.of ha, fun p hp => fin_frz (σ := σ) e3 k3 hp (Nat.le_trans (cutD_len _ _ _) hl) (cutD_rp t l h)⟩
end
/-! ### built-ins -/
def lenD : G1 := fun xs st => match xs with
  | [x] => match itemsOf st x with
    | some ds => some (.int ds.length)
    | none => match x with
      | .d (.str z) => if z.length ≤ 1000000 then some (.int z.length) else none
      | _ => none
  | _ => none
theorem snd_len {K : PySem.W.Frag} : Snd1 K (fun xs H Q => ∃ x n, xs = [x] ∧ LenV K x H n ∧ Q (.int (n : Nat)) H) lenD := by
  intro as G H st vs xs d Q er vx e k
  unfold lenD at e
  split at e
  · next x =>
    cases vx with
    | cons h t =>
      cases t
      split at e
      · next ds h1 =>
        cases e
        obtain ⟨a, us, rfl, hs, _, t⟩ := itemsOf_ok er h h1
        refine ⟨_, ds.length, rfl, ?_, k _ G H (.refl _ _ _) er (.int _)⟩
        rcases hs with hs | hs
        · exact .inl ⟨us, hs, (RpAll.len t).symm⟩
        · exact .inr ⟨us, hs, (RpAll.len t).symm⟩
      · split at e
        · next z _ =>
          split at e
          · next hz => cases e; cases h; exact ⟨_, z.length, rfl, ⟨Nat.le_trans hz (by decide), rfl⟩, k _ G H (.refl _ _ _) er (.int _)⟩
          · cases e
        · cases e
  · cases e
/-- any, all of a list of bools -/
def bools : List PyData → Option (List Bool)
  | [] => some []
  | .bool b :: r => (bools r).map (b :: ·)
  | _ :: _ => none
theorem bools_eq : ∀ {ds : List PyData} {bs : List Bool}, bools ds = some bs → ds = bs.map .bool
  | [], _, h => by cases h; rfl
  | .bool b :: r, _, h => by
    simp only [bools, Option.map_eq_some_iff] at h
    obtain ⟨cs, h1, rfl⟩ := h
    rw [bools_eq h1]; rfl
  | .none :: _, _, h | .int _ :: _, _, h | .str _ :: _, _, h | .list _ :: _, _, h | .tuple _ :: _, _, h | .dict _ :: _, _, h => by simp [bools] at h
@[simp] theorem bools_map (bs : List Bool) : bools (bs.map .bool) = some bs := by
  induction bs with
  | nil => rfl
  | cons b r ih => simp [bools, ih]
theorem RpAll.bls {K : PySem.W.Frag} {G : Hp} : ∀ {vs : List V} {bs : List Bool}, RpAll K G vs (bs.map .bool) → vs = bs.map V.bl
  | _, [], .nil => rfl
  | _, b :: bs, .cons h t => by cases h; rw [RpAll.bls t]; rfl
theorem RpAll.intV {K : PySem.W.Frag} {G : Hp} : ∀ {vs : List V} {ns : List Int}, RpAll K G vs (ns.map .int) → vs = ns.map V.int
  | _, [], .nil => rfl
  | _, b :: bs, .cons h t => by cases h; rw [RpAll.intV t]; rfl
def anyD (all : Bool) : G1 := fun xs st => match xs with
  | [x] => ((listOf st x).bind bools).map fun bs => .bool (if all = true then bs.all id else bs.any id)
  | _ => none
theorem bool_args {K : PySem.W.Frag} {as : List Addr} {G H : Hp} {st : Sto} {v : V} {x : Dv} {bs : List Bool} (er : ER K as G H st) (h : VR K as G v x) (e : (listOf st x).bind bools = some bs) : ∃ a, v = .ref a ∧ SqL K H a (bs.map V.bl) := by
  obtain ⟨ds, h1, h2⟩ := Option.bind_eq_some_iff.mp e
  obtain ⟨a, vs, rfl, ha, _, t⟩ := listOf_ok er h h1
  rw [bools_eq h2] at t
  rw [RpAll.bls t] at ha
  exact ⟨a, rfl, SqL.of ha⟩
theorem snd_any {K : PySem.W.Frag} : Snd1 K (rAny K) (anyD false) := by
  intro as G H st vs xs d Q er vx e k
  unfold anyD at e
  split at e
  · next x =>
    obtain ⟨bs, h1, rfl⟩ := Option.map_eq_some_iff.mp e
    cases vx with
    | cons h t =>
      cases t
      obtain ⟨a, rfl, ha⟩ := bool_args er h h1
      exact ⟨a, bs, rfl, ha, k _ G H (.refl _ _ _) er (.bl _)⟩
  · cases e
theorem snd_all {K : PySem.W.Frag} : Snd1 K (rAll K) (anyD true) := by
  intro as G H st vs xs d Q er vx e k
  unfold anyD at e
  split at e
  · next x =>
    obtain ⟨bs, h1, rfl⟩ := Option.map_eq_some_iff.mp e
    cases vx with
    | cons h t =>
      cases t
      obtain ⟨a, rfl, ha⟩ := bool_args er h h1
      exact ⟨a, bs, rfl, ha, k _ G H (.refl _ _ _) er (.bl _)⟩
  · cases e
/-- sum of a list of ints -/
def intsD : List PyData → Option (List Int)
  | [] => some []
  | .int b :: r => (intsD r).map (b :: ·)
  | _ :: _ => none
theorem ints_eq : ∀ {ds : List PyData} {bs : List Int}, intsD ds = some bs → ds = bs.map .int
  | [], _, h => by cases h; rfl
  | .int b :: r, _, h => by
    simp only [intsD, Option.map_eq_some_iff] at h
    obtain ⟨cs, h1, rfl⟩ := h
    rw [ints_eq h1]; rfl
  | .none :: _, _, h | .bool _ :: _, _, h | .str _ :: _, _, h | .list _ :: _, _, h | .tuple _ :: _, _, h | .dict _ :: _, _, h => by simp [intsD] at h
@[simp] theorem ints_map (bs : List Int) : intsD (bs.map .int) = some bs := by
  induction bs with
  | nil => rfl
  | cons b r ih => simp [intsD, ih]
def sumD : G1 := fun xs st => match xs with
  | [x] => ((listOf st x).bind intsD).map fun bs => .int bs.sum
  | _ => none
theorem snd_sum {K : PySem.W.Frag} : Snd1 K (rSum K) sumD := by
  intro as G H st vs xs d Q er vx e k
  unfold sumD at e
  split at e
  · next x =>
    obtain ⟨bs, h1, rfl⟩ := Option.map_eq_some_iff.mp e
    cases vx with
    | cons h t =>
      cases t
      obtain ⟨ds, h1, h2⟩ := Option.bind_eq_some_iff.mp h1
      obtain ⟨a, vs, rfl, ha, _, t⟩ := listOf_ok er h h1
      rw [ints_eq h2] at t
      rw [RpAll.intV t] at ha
      exact ⟨a, bs, rfl, SqL.of ha, k _ G H (.refl _ _ _) er (.int _)⟩
  · cases e
/-- tuple(x), list(x) -/
def tupleD : G1 := fun xs st => match xs with
  | [.d (.tuple ds)] => some (.tuple ds)
  | [x] => (listOf st x).map .tuple
  | _ => none
theorem snd_tuple {K : PySem.W.Frag} : Snd1 K (rTupX K) tupleD := by
  intro as G H st vs xs d Q er vx e k
  unfold tupleD at e
  split at e
  · next ds =>
    cases e
    cases vx with
    | cons h t =>
      cases t
      cases h with
      | tup q l t => exact ⟨_, _, rfl, .inr ⟨(TupX.mono er.sub q).sq, k _ G H (.refl _ _ _) er (.tup q l t)⟩⟩
  · next x _ =>
    obtain ⟨ds, h1, rfl⟩ := Option.map_eq_some_iff.mp e
    cases vx with
    | cons h t =>
      cases t
      obtain ⟨a, us, rfl, ha, hl, t⟩ := listOf_ok er h h1
      exact ⟨a, us, rfl, .inl ⟨SqL.of ha, fun p o hp hc hd => k _ _ _ (Stp.frz er hp) (er.frz hp) (.tup (.inl ⟨o, upd_same, hc, hd⟩) hl (RpAll.mono (Same.upd1 (er.g_none hp)) t))⟩⟩
  · cases e
def listLD : G1L := fun xs st => match xs with
  | [.d (.tuple ds)] => some ds
  | [x] => listOf st x
  | _ => none
abbrev rListP (K : PySem.W.Frag) : List V → Hp → VK → Prop := fun xs H Q => ∃ p ys, xs = [.ref p] ∧ (SqL K H p ys ∨ SqT K H p ys) ∧ ∀ l, H l = none → Q (.ref l) (upd H l (.lst ys))
theorem snd_list {K : PySem.W.Frag} : Snd1L K (rListP K) listLD := by
  intro as G H st vs xs ds Q er vx e k
  unfold listLD at e
  split at e
  · cases e
    cases vx with
    | cons h t =>
      cases t
      cases h with
      | tup q l t => exact ⟨_, _, rfl, .inr (TupX.mono er.sub q).sq, fun p hp => k p _ hp l t⟩
  · next x _ =>
    cases vx with
    | cons h t =>
      cases t
      obtain ⟨a, us, rfl, ha, hl, t⟩ := listOf_ok er h e
      exact ⟨a, us, rfl, .inl (SqL.of ha), fun p hp => k p _ hp hl t⟩
  · cases e
/-- two lists that go together place by place -/
theorem paired_ext {α β : Type} {R : α → β → Prop} : ∀ {xs : List α} {ys : List β}, xs.length = ys.length → (∀ (i : Nat) x y, xs[i]? = some x → ys[i]? = some y → R x y) → Paired R xs ys
  | [], [], _, _ => .nil
  | x :: xs, y :: ys, h, k => .cons (k 0 x y rfl rfl) (paired_ext (by simpa using h) fun i a b e1 e2 => k (i + 1) a b (by simpa using e1) (by simpa using e2))
theorem vals_signs {x : Str} {acc : Array Value} (h : ItemsOf (SignAt x) acc x.cps.size) : Vals (x.cps.toList.map fun c => V.str ⟨#[c]⟩) acc.toList := by
  refine paired_ext (by simp [h.1]) fun i v u e1 e2 => ?_
  rw [Array.getElem?_toList] at e2
  obtain ⟨c, t, h1, rfl⟩ := h.2 i u e2
  rw [List.getElem?_map, Array.getElem?_toList, h1] at e1
  cases e1
  exact ⟨t, rfl⟩
/-- list(text) -/
def rListS : List V → Hp → VK → Prop := fun xs H Q => ∃ x : Str, xs = [.str x] ∧ x.length ≤ sizeLine ∧ ∀ l, H l = none → Q (.ref l) (upd H l (.lst (x.cps.toList.map fun c => V.str ⟨#[c]⟩)))
theorem call_listS {X : Cx} (hc : X.calm = true) : CallR X (.type "list") rListS := by
  intro pins s σ H xs us Q I r q
  obtain ⟨x, rfl, hz, q⟩ := q
  obtain ⟨u, rfl, ⟨t, rfl⟩⟩ := vals1 r
  have hh : X.A.handled = none := I.ok.hd hc
  refine call_list_str hh x t (fun h' tk acc' c' hk hS hI => ?_) hz
  have hz' : (x.cps.toList.map fun c => V.str ⟨#[c]⟩).length ≤ sizeLine := by
    rw [List.length_map, Array.length_toList]
    exact hz
  exact ⟨.ref s.heap.objs.size, upd H s.heap.objs.size (.lst (x.cps.toList.map fun c => V.str ⟨#[c]⟩)), I.laid (t' := tk) hk (Nat.le_refl _) ⟨hz', acc'.toList, c', vals_signs hI, hS⟩, rfl, q _ (I.hok.fresh (Nat.le_refl _))⟩
def listSD : G1L := fun xs _ => match xs with
  | [.d (.str x)] => if x.length ≤ 1000000 then some (x.cps.toList.map fun c => .str ⟨#[c]⟩) else none
  | _ => none
theorem snd_listS {K : PySem.W.Frag} : Snd1L K rListS listSD := by
  intro as G H st vs xs ds Q er vx e k
  unfold listSD at e
  split at e
  · next x =>
    split at e
    · next hz =>
      cases e
      cases vx with
      | cons h t =>
        cases t
        cases h
        have ht : ∀ l : List Nat, RpAll K G (l.map fun c => V.str ⟨#[c]⟩) (l.map fun c => PyData.str ⟨#[c]⟩) := fun l => by
          induction l with
          | nil => exact .nil
          | cons c l ih => exact .cons (.str _) ih
        have hl : (x.cps.toList.map fun c => PyData.str ⟨#[c]⟩).length ≤ sizeLine := by
          rw [List.length_map, Array.length_toList]
          exact Nat.le_trans hz (by decide)
        exact ⟨x, rfl, Nat.le_trans hz (by decide), fun p hp => k p _ hp hl (ht _)⟩
    · cases e
  · cases e
/-- int(x) -/
def intOfD : G1 := fun xs _ => match xs with
  | [.d (.int i)] => some (.int i)
  | [.d (.bool b)] => some (.int (if b = true then 1 else 0))
  | _ => none
theorem snd_intOf {K : PySem.W.Frag} : Snd1 K (fun xs H Q => (∃ i, xs = [.int i] ∧ Q (.int i) H) ∨ ∃ k, xs = [.bl k] ∧ Q (.int (if k then 1 else 0)) H) intOfD := by
  intro as G H st vs xs d Q er vx e k
  unfold intOfD at e
  split at e
  · cases e
    cases vx with
    | cons h t =>
      cases t
      cases h
      exact .inl ⟨_, rfl, k _ G H (.refl _ _ _) er (.int _)⟩
  · cases e
    cases vx with
    | cons h t =>
      cases t
      cases h
      exact .inr ⟨_, rfl, k _ G H (.refl _ _ _) er (.int _)⟩
  · cases e
/-- max(i, j), min(i, j) -/
def maxD2 : G1 := fun xs _ => match xs with
  | [.d (.int i), .d (.int j)] => some (.int (if j > i then j else i))
  | _ => none
def minD2 : G1 := fun xs _ => match xs with
  | [.d (.int i), .d (.int j)] => some (.int (if j < i then j else i))
  | _ => none
theorem snd_max2 {K : PySem.W.Frag} : Snd1 K (fun xs H Q => ∃ i j, xs = [.int i, .int j] ∧ Q (.int (if j > i then j else i)) H) maxD2 := by
  intro as G H st vs xs d Q er vx e k
  unfold maxD2 at e
  split at e
  · cases e
    cases vx with
    | cons h t => cases t with
      | cons h2 t =>
        cases t
        cases h
        cases h2
        exact ⟨_, _, rfl, k _ G H (.refl _ _ _) er (.int _)⟩
  · cases e
theorem snd_min2 {K : PySem.W.Frag} : Snd1 K (fun xs H Q => ∃ i j, xs = [.int i, .int j] ∧ Q (.int (if j < i then j else i)) H) minD2 := by
  intro as G H st vs xs d Q er vx e k
  unfold minD2 at e
  split at e
  · cases e
    cases vx with
    | cons h t => cases t with
      | cons h2 t =>
        cases t
        cases h
        cases h2
        exact ⟨_, _, rfl, k _ G H (.refl _ _ _) er (.int _)⟩
  · cases e
/-! ### sorted -/
def sortD (ds : List PyData) : List PyData := ds.mergeSort (PySem.W.dataLe false id)
def noTup : PyData → Bool
  | .none => false
  | .tuple _ => false
  | _ => true
def tupOk : PyData → Bool
  | .tuple (_ :: _) => true
  | _ => false
def sortOk (ds : List PyData) : Bool := (ds.all fun a => ds.all fun b => PySem.W.alike a b) && (ds.all tupOk || ds.all noTup) && ds.all fun d => decide (d.depth ≤ 60)
theorem sortOk_ok {ds : List PyData} (h : sortOk ds = true) : PySem.W.AllAlike ds ∧ PySem.W.Sortable ds ∧ ∀ d ∈ ds, d.depth ≤ 60 := by
  simp only [sortOk, Bool.and_eq_true, Bool.or_eq_true, List.all_eq_true, decide_eq_true_eq] at h
  refine ⟨fun d hd e he => h.1.1 d hd e he, ?_, h.2⟩
  rcases h.1.2 with q | q
  · refine .inl fun d hd => ?_
    have := q d hd
    match d, this with
    | .tuple (x :: r), _ => exact ⟨x, r, rfl⟩
  · refine .inr fun d hd => ?_
    have := q d hd
    constructor
    · intro e; subst e; simp [noTup] at this
    · intro xs e; subst e; simp [noTup] at this
abbrev zs (ds : List PyData) (us : List V) : List (PyData × V) := (ds.zip us).mergeSort (PySem.W.dataLe false Prod.fst)
def rSortP (K : PySem.W.Frag) : List V → Hp → VK → Prop := fun vs H Q => ∃ (a : Addr) (us : List V) (ds : List PyData), vs = [.ref a] ∧ SqL K H a us ∧ DpAll K H us ds ∧ sortOk ds = true ∧ ds.length ≤ sizeLine ∧ ∀ p, H p = none → Q (.ref p) (upd H p (.lst ((zs ds us).map (·.2))))
theorem each_zip {K : PySem.W.Frag} {X : Cx} {pins : List (Addr × Obj)} {σ : L2.St} {H : Hp} {s : Shared} (I : Inv X pins σ H s) : ∀ {us : List V} {ds : List PyData} {its : List Value}, DpAll X.K H us ds → Vals us its →
    PySem.W.EachIs (fun v (b : PyData × V) => RelV b.2 v) its (ds.zip us) ∧ PySem.W.EachIs (fun v (b : PyData × V) => ∃ as, Reads s.heap v b.1 as) its (ds.zip us)
  | _, _, _, .nil, .nil => ⟨.nil, .nil⟩
  | _, _, _, .cons h t, .cons r rs => let ⟨a, b⟩ := each_zip (K := K) I t rs; ⟨.cons r a, .cons (Dp.reads I _ _ _ h r) b⟩
theorem each_vals : ∀ {out : List Value} {bs : List (PyData × V)}, PySem.W.EachIs (fun v (b : PyData × V) => RelV b.2 v) out bs → Vals (bs.map (·.2)) out
  | _, _, .nil => .nil
  | _, _, .cons h t => .cons h (each_vals t)
theorem zip_fst {α β : Type} : ∀ {xs : List α} {ys : List β}, xs.length = ys.length → (xs.zip ys).map Prod.fst = xs
  | [], [], _ => rfl
  | x :: xs, y :: ys, h => by simp [zip_fst (xs := xs) (ys := ys) (by simpa using h)]
theorem cr_sortP {X : Cx} (hu : X.A.units + 64 < cLine) : CallR X (.builtin "sorted") (rSortP X.K) := by
  intro pins s σ H vs us Q I r h
  obtain ⟨a, ws, ds, rfl, hs, hd, hok, hl, q⟩ := h
  obtain ⟨its, rv, hp, _⟩ := I.list hs
  rw [Vals.ref1 r]
  obtain ⟨e1, e2⟩ := each_zip (K := X.K) I hd rv
  obtain ⟨o1, o2, o3⟩ := sortOk_ok hok
  have hlen : ds.length = ws.length := (DpAll.len hd).symm
  have ef : (ds.zip ws).map Prod.fst = ds := zip_fst hlen
  refine PySem.W.sorted_data (enc := Prod.fst) hp.isList e1 e2 (by rw [ef]; exact o1) (by rw [ef]; exact o2) (by rw [List.length_zip]; omega) (fun b hb => ?_) fun out hout he => ?_
  · have : b.1 ∈ ds := by rw [← ef]; exact List.mem_map_of_mem hb
    have := o3 _ this
    omega
  · obtain ⟨ep, he'⟩ := PyProof.Rows.sortedAll_at s.heap its (List.toArray out)
    have hv := each_vals he
    have hz : ((zs ds ws).map (·.2)).length ≤ sizeLine := by
      rw [List.length_map, List.length_mergeSort, List.length_zip]; omega
    exact ⟨.ref _, upd H (s.heap.objs.size + 1) (.lst ((zs ds ws).map (·.2))), I.laid (t' := s.toks) (fun _ _ => PyProof.Rows.sortedAll_old) (Nat.le_succ _) ⟨hz, out, ep, hv, he'⟩, rfl, q _ (I.hok.fresh (Nat.le_succ _))⟩
def sortLD : G1L := fun xs st => match xs with
  | [x] => match listOf st x with
    | some ds => if sortOk ds = true then some (sortD ds) else none
    | none => none
  | _ => none
theorem RpAll.ofMem {K : PySem.W.Frag} {G : Hp} : ∀ {bs : List (PyData × V)}, (∀ b ∈ bs, Rp K G b.2 b.1) → RpAll K G (bs.map (·.2)) (bs.map (·.1))
  | [], _ => .nil
  | b :: bs, h => .cons (h b (List.mem_cons_self ..)) (RpAll.ofMem fun c hc => h c (List.mem_cons_of_mem _ hc))
theorem RpAll.zipMem {K : PySem.W.Frag} {G : Hp} : ∀ {us : List V} {ds : List PyData}, RpAll K G us ds → ∀ b ∈ ds.zip us, Rp K G b.2 b.1
  | _, _, .nil, _, hb => by simp at hb
  | _, _, .cons h t, b, hb => by
    rw [List.zip_cons_cons, List.mem_cons] at hb
    rcases hb with rfl | hb
    · exact h
    · exact RpAll.zipMem t b hb
theorem zs_fst (ds : List PyData) (us : List V) (h : ds.length = us.length) : (zs ds us).map (·.1) = sortD ds := by
  unfold zs sortD
  have e := PySem.W.sort_maps (r := PySem.W.dataLe false (Prod.fst : PyData × V → PyData)) (s := PySem.W.dataLe false id) Prod.fst (l := ds.zip us) fun a _ b _ => rfl
  rw [zip_fst h] at e
  exact e
theorem snd_sort {K : PySem.W.Frag} : Snd1L K (rSortP K) sortLD := by
  intro as G H st vs xs ds Q er vx e k
  unfold sortLD at e
  split at e
  · next x =>
    split at e
    · next es h1 =>
      split at e
      · next hok =>
        cases e
        cases vx with
        | cons h t =>
          cases t
          obtain ⟨a, us, rfl, ha, hl, t⟩ := listOf_ok er h h1
          have hlen : es.length = us.length := (RpAll.len t).symm
          refine ⟨a, us, es, rfl, SqL.of ha, RpAll.dp er.sub t, hok, hl, fun p hp => k p _ hp (by unfold sortD; rw [List.length_mergeSort]; exact hl) ?_⟩
          rw [← zs_fst es us hlen]
          exact RpAll.ofMem fun b hb => RpAll.zipMem t b ((List.mergeSort_perm _ _).mem_iff.mp hb)
      · cases e
    · cases e
  · cases e
end DL
set_option maxHeartbeats 200000
/-! D layer, part 9: isinstance, methods, stores, freezing, raise, defs. -/
namespace DL
open PySem L2
/-! ### isinstance(x, T), T a built-in class -/
/-- T asks p of data -/
def IsT (T : String) (p : PyData → Bool) : Prop := ∀ {prog : Program} {w : World} {A : Around} {E : Value → Shared → Prop} {s : Shared} {v : Value} {d : PyData} {as : List Addr} {Q : Value → Shared → Prop}, Reads s.heap v d as → (∀ tk, s.toks ≤ tk → Q (.bool (p d)) { s with toks := tk }) → wpAny (model prog w) A (call (.builtin "isinstance") [v, .type T]) Q E s
theorem isT_str : IsT "str" PyData.isStr := fun r h => PySem.W.isinstance_str_data r h
theorem isT_tuple : IsT "tuple" PyData.isTuple := fun r h => PySem.W.isinstance_tuple_data r h
theorem isT_list : IsT "list" PyData.isList := fun r h => PySem.W.isinstance_list_data r h
theorem isT_int : IsT "int" PyData.isInt := fun r h => PySem.W.isinstance_int_data r h
theorem isT_bool : IsT "bool" PyData.isBool := fun r h => PySem.W.isinstance_bool_data r h
def rIsT (K : PySem.W.Frag) (T : String) (p : PyData → Bool) : List V → Hp → VK → Prop := fun xs H Q => ∃ (x : V) (d : PyData), xs = [x, .ty T] ∧ Dp K H x d ∧ Q (.bl (p d)) H
theorem call_isT {X : Cx} {T : String} {p : PyData → Bool} (h : IsT T p) : CallR X (.builtin "isinstance") (rIsT X.K T p) := by
  intro pins s σ H xs us Q I r q
  obtain ⟨x, d, rfl, hd, q⟩ := q
  obtain ⟨u1, u2, rfl, r1, r2⟩ := vals2 r
  cases (show u2 = Value.type T from r2)
  obtain ⟨as, ra⟩ := Dp.reads I _ _ _ hd r1
  exact h ra fun tk _ => ⟨.bl _, H, I.tok tk, rfl, q⟩
def eIsi (p : PyData → Bool) (fa : SE) : SE := fun r st => (fa r st).bind fun x s1 => match deref s1 x with
  | some d => .ok (.d (.bool (p d))) s1
  | none => .stuck
theorem de_isi {X : Cx} {W : WS} {T : String} {p : PyData → Bool} {a : Expr} {fa : SE} {y : Str} {q1 q2 pos : Pos} (hT : IsT T p) (hg : Gl X "isinstance") (hm : X.mg "isinstance" = none) (hv : bootBuiltins "isinstance" = some (.builtin "isinstance")) (ha : PE X a (tE X.K W fa)) (hg2 : Gl X y) (hm2 : X.mg y = none) (hv2 : bootBuiltins y = some (.type T))
    (hn : y ≠ "__name__" := by decide) (hd : (y == ("__debug__" : Str)) = false := by decide) (he : starEach [a, .Name y q2] X.env = (false, eval a X.env) :: starEach [.Name y q2] X.env := by rfl) (hs2 : starEach [.Name y q2] X.env = (false, eval (.Name y q2) X.env) :: starEach [] X.env := by rfl) (hpl : (backTo pos (starEach [.Name y q2] X.env)).any (·.1) = false := by rfl) :
    PE X (.Call (.Name "isinstance" q1) [a, .Name y q2] [] pos) (tE X.K W (eIsi p fa)) := by
  refine PE.impI (pe_callB (call_isT hT) hg hm hv (pa_cons ha (pa_cons (pe_bltn (v := .ty T) hg2 hm2 hv2 rfl hn hd) pa_nil hs2) he) (by decide) (by decide) he hpl) fun pins s σ H Q I q => ?_
  obtain ⟨r, as, G, st, sr, er, k⟩ := q
  refine ⟨r, as, G, st, sr, er, RK.seq k fun x s1 v as1 G1 H1 _ p1 e1 v1 k1 => ?_⟩
  split at k1
  · next d hd => exact ⟨v, d, rfl, deref_ok e1 v1 hd, k1 _ as1 G1 H1 (.refl _ _ _) e1 (.bl _)⟩
  · exact k1.elim
/-! ### list methods -/
abbrev Mth := List PyData → List Dv → Option (PyData × List PyData)
def lstAt (st : Sto) : Dv → Option Nat
  | .o i => match st[i]? with
    | some (.lst _) => some i
    | _ => none
  | _ => none
def eMth (m : Mth) (fo : SE) (fa : SA) : SE := fun r st => (fo r st).bind fun x s1 => match lstAt s1 x with
  | none => .stuck
  | some i => (fa r s1).bind fun ys s2 => match s2[i]? with
    | some (.lst ds) => match m ds ys with
      | some (res, ds') => .ok (.d res) (s2.set i (.lst ds'))
      | none => .stuck
    | _ => .stuck
def SndM (K : PySem.W.Frag) (rr : V → List V → Hp → VK → Prop) (m : Mth) : Prop := ∀ (G H : Hp) (as : List Addr) (a : Addr) (vs us : List V) (ds ds' : List PyData) (ys : List Dv) (res : PyData) (Q : VK), Same G H → H a = some (.lst us) → RpAll K G us ds → ds.length ≤ sizeLine → VRs K as G vs ys → m ds ys = some (res, ds') →
  (∀ w ws, Rp K G w res → RpAll K G ws ds' → ds'.length ≤ sizeLine → Q w (upd H a (.lst ws))) → rr (.ref a) vs H Q
theorem lstAt_ok {st : Sto} {x : Dv} {i : Nat} (h : lstAt st x = some i) : x = .o i ∧ ∃ ds, st[i]? = some (.lst ds) := by
  unfold lstAt at h
  split at h
  · split at h
    · next ds e => cases h; exact ⟨rfl, ds, e⟩
    · cases h
  · cases h
/-- an object of the store stays at its address -/
theorem Stp.at {as as' : List Addr} {G H G' H' : Hp} {i : Nat} {a : Addr} (s : Stp as G H as' G' H') (h : as[i]? = some a) : as'[i]? = some a := by
  obtain ⟨m, rfl, _⟩ := s.pre
  rw [List.getElem?_append_left (List.getElem?_eq_some_iff.mp h).1]
  exact h
theorem mth_r {K : PySem.W.Frag} {W : WS} {rr : V → List V → Hp → VK → Prop} {m : Mth} {fo : SE} {fa : SA} {ta : TA} (hm : SndM K rr m) (hta : ∀ σ H Q, tA K W fa σ H Q → ta σ H Q) {σ : L2.St} {H : Hp} {Q : VK} (q : tE K W (eMth m fo fa) σ H Q) : tBM K "list" rr (tE K W fo) ta σ H Q := by
  obtain ⟨r, as, G, st, sr, er, k⟩ := q
  refine ⟨r, as, G, st, sr, er, RK.seq k fun x s1 v as1 G1 H1 _ p1 e1 v1 k1 => ?_⟩
  cases hx : lstAt s1 x with
  | none => simp only [hx] at k1; exact k1.elim
  | some i =>
    simp only [hx] at k1
    obtain ⟨rfl, ds0, hs0⟩ := lstAt_ok hx
    obtain ⟨a, ea, rfl⟩ := v1
    refine ⟨?_, hta _ _ _ ⟨r, as1, G1, s1, sr.mono p1, e1, RK.seq k1 fun ys s2 vs as2 G2 H2 _ p2 e2 v2 k2 => ?_⟩⟩
    · obtain ⟨_, _, us, hv, _⟩ := e1.ob i a _ ea hs0
      exact .inl ⟨rfl, us, SqL.of hv⟩
    · split at k2
      · next ds hds =>
        split at k2
        · next res ds' he =>
          have ea2 := p2.at ea
          obtain ⟨g, hl, us, hv, t⟩ := e2.ob i a _ ea2 hds
          exact hm G2 H2 as2 a vs us ds ds' ys res Q e2.sub hv t hl v2 he fun w ws hw hws hl' => k2 w as2 G2 _ (Stp.wr ea2) (e2.wr ea2 g ⟨g, hl', ws, upd_same, hws⟩) hw
        · exact k2.elim
      · exact k2.elim
section
variable {X : Cx} {W : WS} {a b : Expr} {es : List Expr} {fo fx : SE} {fa : SA} {apos cpos : Pos} {name : Str} {id : String} {rr : V → List V → Hp → VK → Prop} {m : Mth}
theorem de_mth (slot : Slot "list" name id) (hty : typeOf (.builtin id) = pure (.type "method_descriptor")) (hr : MtR X id rr) (hm : SndM X.K rr m) (ho : PE X a (tE X.K W fo)) (ha : PA X (b :: es) (tA X.K W fa)) (hbase : attributeBase a name X.env (eval a X.env) = eval a X.env := by rfl)
    (hfew : ((backTo cpos (starEach (b :: es) X.env)).all (fun x => !x.1) && (backToKw cpos (keywordEach [] X.env)).all (fun x => x.1.isSome) && decide ((b :: es).length + ([] : List Keyword).length + (if ([] : List Keyword).isEmpty then 0 else 1) < 30)) = true := by rfl) (hline : (apos.endLine == cpos.line) = true := by rfl)
    (hs : starEach (b :: es) X.env = (false, eval b X.env) :: starEach es X.env := by rfl) (hplain : (backTo cpos (starEach es X.env)).any (·.1) = false := by rfl) : PE X (.Call (.Attribute a name apos) (b :: es) [] cpos) (tE X.K W (eMth m fo fa)) :=
  PE.impI (pe_bm PySem.F.plainAttrs_list slot hty hr ho ha hbase hfew hline hs hplain) fun _ _ _ _ _ _ q => mth_r hm (fun _ _ _ z => z) q
end
def mAppend : Mth := fun ds ys => match ys with
  | [.d y] => if ds.length < 1000000 then some (.none, ds ++ [y]) else none
  | _ => none
theorem snd_append {K : PySem.W.Frag} : SndM K rAppend mAppend := by
  intro G H as a vs us ds ds' ys res Q sg hv t hl hy e k
  unfold mAppend at e
  split at e
  · next y =>
    split at e
    · next hlt =>
      cases e
      cases hy with
      | cons h1 t1 =>
        cases t1
        have hz : (ds ++ [y]).length ≤ sizeLine := by
          rw [List.length_append]
          exact Nat.le_trans (show ds.length + 1 ≤ 1000000 from hlt) (by decide)
        refine ⟨a, us, _, rfl, rfl, hv, ?_, k _ _ .non (RpAll.snoc t h1) hz⟩
        rw [RpAll.len t]
        exact Nat.lt_of_lt_of_le hlt (by decide)
    · cases e
  · cases e
def mPopAt : Mth := fun ds ys => match ys with
  | [.d (.int i)] => match ixN ds.length i with
    | some k => match ds[k]? with
      | some y => some (y, ds.eraseIdx k)
      | none => none
    | none => none
  | _ => none
theorem snd_popAt {K : PySem.W.Frag} : SndM K rPopAt mPopAt := by
  intro G H as a vs us ds ds' ys res Q sg hv t hl hy e k
  unfold mPopAt at e
  split at e
  · next i =>
    split at e
    · next n hn =>
      split at e
      · next y hy2 =>
        cases e
        cases hy with
        | cons h1 t1 =>
          cases t1
          cases h1
          obtain ⟨q1, q2, q3, q4⟩ := ixN_seq hn
          obtain ⟨w, e1, e2⟩ := RpAll.get t hy2
          have hz : (ds.length : Int) ≤ 16777216 := by
            have : ds.length ≤ 16777216 := hl
            omega
          refine ⟨a, us, i, n, w, rfl, rfl, hv, by omega, by omega, by rw [RpAll.len t]; exact q1, e1, k w _ e2 (RpAll.erase n t) (Nat.le_trans (len_erase ds n) hl)⟩
      · cases e
    · cases e
  · cases e
/-! ### stores into a list of the store -/
def sSetL (f fo fi : SE) : SS := fun r st => outOf r (f r st) fun v s1 => outOf r (fo r s1) fun o s2 => outOf r (fi r s2) fun i s3 => match o, i, v with
  | .o k, .d (.int j), .d y => match s3[k]? with
    | some (.lst ds) => match ixN ds.length j with
      | some n => .nx r (s3.set k (.lst (ds.set n y)))
      | none => .stuck
    | _ => .stuck
  | _, _, _ => .stuck
theorem ds_setL {X : Cx} {W : WS} {o i e : Expr} {f fo fi : SE} {pos pos' : Pos} (he : PE X e (tE X.K W f)) (ho : PE X o (tE X.K W fo)) (hi : PE X i (tE X.K W fi)) (ha : ∀ v, assign (.Subscript o i pos') X.env v = (do let ov ← holding [v] (eval o X.env); let iv ← holding [v, ov] (eval i X.env); standAt pos'; holding [v, ov, iv] (setItem ov iv v); release [v, ov, iv] []) := by intro _; rfl)
    (hs : swapsWithSole [.Subscript o i pos'] e pos.line X.env = pure false := by rfl) (hw : swappedStores [.Subscript o i pos'] e X.env = pure none := by rfl) (h1 : (assignEach [.Subscript o i pos'] X.env).map (·.2) = [assign (.Subscript o i pos') X.env] := by rfl) :
    PS X (.Assign [.Subscript o i pos'] e pos) (tS X.K W (sSetL f fo fi)) := by
  refine PS.imp (ps_asg he (pg_sub ho hi set_list ha) hs hw h1) fun D σ H q => ?_
  obtain ⟨r, as, G, st, sr, er, k⟩ := q
  refine ⟨r, as, G, st, sr, er, OKe sr k fun v s1 vv as1 G1 H1 _ p1 e1 v1 k1 => ⟨r, as1, G1, s1, sr.mono p1, e1, OKe (sr.mono p1) k1 fun o s2 ov as2 G2 H2 _ p2 e2 v2 k2 => ⟨r, as2, G2, s2, (sr.mono p1).mono p2, e2, OKe ((sr.mono p1).mono p2) k2 fun i s3 iv as3 G3 H3 _ p3 e3 v3 k3 => ?_⟩⟩⟩
  cases o with
  | d _ => exact k3.elim
  | e _ => exact k3.elim
  | s _ => exact k3.elim
  | o kk =>
    cases i with
    | o _ => exact k3.elim
    | e _ => exact k3.elim
    | s _ => exact k3.elim
    | d i =>
      cases i with
      | int j =>
        cases v with
        | o _ => exact k3.elim
        | e _ => exact k3.elim
        | s _ => exact k3.elim
        | d y =>
          have k3 : OK X.K as3 G3 H3 W D (match s3[kk]? with
            | some (.lst ds) => match ixN ds.length j with
              | some n => .nx r (s3.set kk (.lst (ds.set n y)))
              | none => .stuck
            | _ => .stuck) := k3
          split at k3
          · next ds hds =>
            split at k3
            · next n hn =>
              obtain ⟨a, ea, rfl⟩ := VR.mono p3 v2
              cases v3
              obtain ⟨g, hl, us, hv, t⟩ := e3.ob kk a _ ea hds
              have hy : Rp X.K G3 vv y := VR.mono (x := .d y) (p2.trans p3) v1
              exact ⟨a, us, j, n, rfl, rfl, hv, by rw [RpAll.len t]; exact hn, k3 σ as3 G3 _ (Stp.wr ea) (e3.wr ea g ⟨g, by rw [List.length_set]; exact hl, _, upd_same, RpAll.set n t hy⟩) (((sr.mono p1).mono p2).mono p3)⟩
            · exact k3.elim
          · exact k3.elim
      | _ => exact k3.elim
/-! ### an object stops to change -/
def unO (i : Nat) (ds : List PyData) : Option Dv → Option Dv
  | some (.o k) => if k = i then some (.d (.list ds)) else some (.o k)
  | x => x
def sFrz (j : Nat) (F : SS) : SS := fun r st => match r[j]? with
  | some (some (.o i)) => match st[i]? with
    | some (.lst ds) => F (r.map (unO i ds)) (st.set i .dead)
    | _ => .stuck
  | _ => F r st
theorem frz_r {K : PySem.W.Frag} {W : WS} {F : SS} {j : Nat} {D : Ends} {σ : L2.St} {H : Hp} (q : tS K W (sFrz j F) D σ H) : tS K W F D σ H := by
  obtain ⟨r, as, G, st, sr, er, k⟩ := q
  unfold sFrz at k
  split at k
  · next i hi =>
    split at k
    · next ds hds =>
      obtain ⟨v, e1, a, ea, rfl⟩ := sr.at_ j _ hi
      obtain ⟨g, hl, us, hv, t⟩ := er.ob i a _ ea hds
      have hs : Same G (upd G a (.lst us)) := Same.upd1 g
      refine ⟨r.map (unO i ds), as, upd G a (.lst us), st.set i .dead, ⟨by rw [List.length_map]; exact sr.len, fun n x e => ?_⟩, er.stop ea hv, OK.from (Stp.stop er ea hv) k⟩
      rw [List.getElem?_map] at e
      obtain ⟨y, h1, h2⟩ := Option.map_eq_some_iff.mp e
      cases y with
      | none => cases h2
      | some y =>
        obtain ⟨w, h3, h4⟩ := sr.at_ n y h1
        cases y with
        | d d => cases h2; exact ⟨w, h3, Rp.mono hs h4⟩
        | e a =>
          cases h2
          exact ⟨w, h3, h4⟩
        | s ns =>
          cases h2
          obtain ⟨b, rfl, h5, h6⟩ := h4
          exact ⟨_, h3, b, rfl, Same.seq hs h5, h6⟩
        | o m =>
          simp only [unO] at h2
          split at h2
          · next hm =>
            cases h2
            subst hm
            obtain ⟨b, eb, rfl⟩ := h4
            rw [ea] at eb
            cases eb
            exact ⟨_, h3, .lst upd_same hl (RpAll.mono hs t)⟩
          · cases h2
            exact ⟨w, h3, h4⟩
    · exact k.elim
  · exact ⟨r, as, G, st, sr, er, k⟩
section
variable {X : Cx} {W : WS} {st1 : Stmt} {sts : List Stmt} {F : SS}
theorem ds_frz (j : Nat) (h : PS X st1 (tS X.K W F)) : PS X st1 (tS X.K W (sFrz j F)) := PS.imp h fun _ _ _ q => frz_r q
theorem dss_frz (j : Nat) (h : PSs X sts (tS X.K W F)) : PSs X sts (tS X.K W (sFrz j F)) := PSs.imp h fun _ _ _ q => frz_r q
/-- code that isn't reached -/
def sNever : SS := fun _ _ => .stuck
theorem dss_never : PSs X sts (tS X.K W sNever) := PSs.imp pss_never fun _ _ _ q => let ⟨_, _, _, _, _, _, k⟩ := q; k
theorem ds_never : PS X st1 (tS X.K W sNever) := PS.imp ps_never fun _ _ _ q => let ⟨_, _, _, _, _, _, k⟩ := q; k
/-- raise C('..'), C a class of the program -/
def sRaise (c : Str) : SS := fun r st => .exc c r st
theorem ds_raise {ca : Str → Addr} {x m : Str} {c : Str} {j : Nat} {p p2 pos pos' : Pos} (hc : X.calm = true) (tk : L2N.Takes X (wx ca W)) (q : PySem.W.excIn X.K (ca c) [.type "ValueError", .type "Exception", .type "BaseException", .type "object"] "ValueError.__new__" = true) (gC : X.mg x = some (.ref (ca c))) (kC : PySem.W.keepIn X.K (.ref (ca c)) = true)
    (b : PySem.W.subIn X.K (.ref (ca c)) (.type "BaseException") = some true) (t : PySem.W.typeIn X.K (.ref (ca c)) = some (.type "type")) (hg : Gl X x) (hdb : (x == ("__debug__" : Str)) = false := by decide) : PS X (.Raise (some (.Call (.Name x p) [.Constant (.str m) j p2] [] pos)) none pos') (tS X.K W (sRaise c)) := by
  refine PS.imp (L2N.ps_raise hc tk (L2N.pmk_own PySem.F.excBase_ValueError q gC kC (raises_own b t) hg hdb)) fun D σ H q => ?_
  obtain ⟨r, as, G, st, sr, er, k⟩ := q
  exact ⟨c, rfl, rfl, k σ as G H (.refl _ _ _) er sr⟩
end
/-! ### a def by its body -/
/-- what of the store a def leaves -/
def leave (n : Nat) (x : Dv) (st : Sto) : Res Dv := match x with
  | .o i => if i < n then .ok x (st.take n) else match st[i]? with
    | some o => .ok (.o n) (st.take n ++ [o])
    | none => .stuck
  | _ => .ok x (st.take n)
def fnD (N : Nat) (F : SS) : SF := fun xs st => match F (xs.map some ++ List.replicate (N - xs.length) none) st with
  | .ret x s1 => leave st.length x s1
  | .nx _ s1 => .ok (.d .none) (s1.take st.length)
  | .exc c _ s1 => .exc c (s1.take st.length)
  | _ => .stuck
theorem ER.take {K : PySem.W.Frag} {as : List Addr} {G H : Hp} {st : Sto} (er : ER K as G H st) (n : Nat) : ER K (as.take n) G H (st.take n) where
  sub := er.sub
  len := by simp [er.len]
  nd := List.Sublist.nodup (List.take_sublist n as) er.nd
  tr := fun a h => er.tr a (List.mem_of_mem_take h)
  ob := fun i a o h1 h2 => by
    rw [List.getElem?_take] at h1 h2
    split at h1
    · next hi =>
      rw [if_pos hi] at h2
      exact er.ob i a o h1 h2
    · cases h1
/-- the callee's end, as the caller sees it -/
theorem Stp.out {as as' more : List Addr} {G H G' H' : Hp} {n : Nat} (s : Stp as G H as' G' H') (hn : n = as.length) (hm : ∀ a ∈ more, a ∈ as'.drop n) : Stp as G H (as ++ more) G' H' ∧ as'.take n = as := by
  obtain ⟨m, rfl, hf⟩ := s.pre
  subst hn
  refine ⟨⟨⟨more, rfl, fun a ha => ?_⟩, s.g, s.kp, s.tr⟩, by simp⟩
  have := hm a ha
  rw [List.drop_left] at this
  exact hf a this
theorem start_sr {K : PySem.W.Frag} {as : List Addr} {G : Hp} {vs : List V} {xs : List Dv} {N : List Str} (h : VRs K as G vs xs) : SR K as G (L2.start N vs) (xs.map some ++ List.replicate (N.length - xs.length) none) := by
  have hl : vs.length = xs.length := Paired.length h
  refine ⟨by simp [L2.start, hl], fun i x e => ?_⟩
  rcases Nat.lt_or_ge i xs.length with hi | hi
  · rw [List.getElem?_append_left (by simpa using hi), List.getElem?_map] at e
    obtain ⟨y, h1, h2⟩ := Option.map_eq_some_iff.mp e
    cases h2
    have get : ∀ {vs : List V} {xs : List Dv} {i : Nat} {y : Dv}, VRs K as G vs xs → xs[i]? = some y → ∃ v, vs[i]? = some v ∧ VR K as G v y := by
      intro vs xs i y h
      induction h generalizing i with
      | nil => intro e; simp at e
      | cons q t ih =>
        cases i with
        | zero => intro e; simp at e; subst e; exact ⟨_, rfl, q⟩
        | succ i => intro e; obtain ⟨v, a, b⟩ := ih (i := i) (by simpa using e); exact ⟨v, by simpa using a, b⟩
    obtain ⟨v, a, b⟩ := get h h1
    refine ⟨v, ?_, b⟩
    unfold L2.start
    rw [List.getElem?_append_left (by simp; omega), List.getElem?_map, a]
    rfl
  · rw [List.getElem?_append_right (by simpa using hi)] at e
    rw [List.getElem?_replicate] at e
    split at e <;> cases e
/-- what a body must give -/
theorem body_ok {K : PySem.W.Frag} {ca : Str → Addr} {np : Nat} {N : List Str} {F : SS} {vs : List V} {H : Hp} {Q : VK} {E : XK} (h : spD K ca np (fnD N.length F) vs H Q E) :
    tS K (fun c _ H' => E (.ref (ca c)) none H') F { nx := fun _ H' => Q .non H', rt := Q } (L2.start N vs) H := by
  obtain ⟨hl, as, G, st, xs, er, hv, k⟩ := h
  refine ⟨_, as, G, st, start_sr hv, er, ?_⟩
  unfold fnD at k
  have hn : st.length = as.length := er.len.symm
  cases hF : F (xs.map some ++ List.replicate (N.length - xs.length) none) st with
  | nx r1 s1 =>
    rw [hF] at k
    intro σ' as' G' H' s' e' _
    obtain ⟨s2, e2⟩ := s'.out (more := []) hn (by simp)
    have e3 := e'.take st.length
    rw [e2] at e3
    exact k .non as G' H' (by simpa using s2) e3 .non
  | exc c r1 s1 =>
    rw [hF] at k
    intro σ' as' G' H' s' e' _
    obtain ⟨s2, e2⟩ := s'.out (more := []) hn (by simp)
    have e3 := e'.take st.length
    rw [e2] at e3
    exact k as G' H' (by simpa using s2) e3
  | ret x s1 =>
    rw [hF] at k
    intro v as' G' H' s' e' v'
    obtain ⟨s2, e2⟩ := s'.out (more := []) hn (by simp)
    have e3 := e'.take st.length
    rw [e2] at e3
    have s2 : Stp as G H as G' H' := by simpa using s2
    cases x with
    | d x => exact k v as G' H' s2 e3 v'
    | e _ => exact k v as G' H' s2 e3 v'
    | s ns => exact k v as G' H' s2 e3 v'
    | o i =>
      have k : RK K as G H (fun c H' => E (.ref (ca c)) none H') Dv V (VR K) Q (if i < st.length then .ok (.o i) (s1.take st.length) else match s1[i]? with
        | some o => .ok (.o st.length) (s1.take st.length ++ [o])
        | none => .stuck) := k
      obtain ⟨a, ea, rfl⟩ := v'
      by_cases hi : i < st.length
      · rw [if_pos hi] at k
        refine k (.ref a) as G' H' s2 e3 ⟨a, ?_, rfl⟩
        rw [← e2, List.getElem?_take, if_pos hi]
        exact ea
      · rw [if_neg hi] at k
        cases ho : s1[i]? with
        | none => rw [ho] at k; exact k.elim
        | some o =>
          rw [ho] at k
          have hmem : a ∈ as'.drop st.length := by
            have : (as'.drop st.length)[i - st.length]? = some a := by
              rw [List.getElem?_drop]
              have : st.length + (i - st.length) = i := by omega
              rw [this]; exact ea
            exact List.mem_of_getElem? this
          obtain ⟨s3, _⟩ := s'.out (more := [a]) hn (fun b hb => by rw [List.mem_singleton.mp hb]; exact hmem)
          have hna : a ∉ as := fun q => by
            have nd := e'.nd
            rw [← List.take_append_drop st.length as', e2, List.nodup_append] at nd
            exact nd.2.2 a q a hmem rfl
          refine k (.ref a) (as ++ [a]) G' H' s3 ⟨e3.sub, by simp [e3.len], ?_, fun b hb => ?_, fun j b ob h1 h2 => ?_⟩ ⟨a, by rw [hn]; simp, rfl⟩
          · rw [List.nodup_append]
            refine ⟨e3.nd, by simp, fun b hb c hc => ?_⟩
            rw [List.mem_singleton.mp hc]
            exact fun q => hna (q ▸ hb)
          · rcases List.mem_append.mp hb with hb | hb
            · exact e3.tr b hb
            · rw [List.mem_singleton.mp hb]; exact e'.tr a (List.mem_of_getElem? ea)
          · rcases Nat.lt_or_ge j as.length with hj | hj
            · rw [List.getElem?_append_left hj] at h1
              rw [List.getElem?_append_left (e3.len ▸ hj)] at h2
              exact e3.ob j b ob h1 h2
            · rw [List.getElem?_append_right hj] at h1
              rw [List.getElem?_append_right (e3.len ▸ hj)] at h2
              have h0 : j - as.length = 0 := by
                rcases Nat.eq_zero_or_pos (j - as.length) with z | z
                · exact z
                · rw [List.getElem?_eq_none (by simp; omega)] at h1; cases h1
              rw [h0] at h1
              rw [← e3.len, h0] at h2
              cases h1
              cases h2
              exact e'.ob i a o ea ho
  | bk r1 s1 => rw [hF] at k; exact k.elim
  | ct r1 s1 => rw [hF] at k; exact k.elim
  | stuck => rw [hF] at k; exact k.elim
end DL
set_option maxHeartbeats 200000
/-! D layer, part 10: dicts with keys that are ints and texts; text methods. -/
namespace DL
open PySem L2
def keyOf : PyData → Option Key
  | .int i => some (.inl i)
  | .str x => some (.inr x)
  | _ => none
theorem keyOf_ok {d : PyData} {k : Key} (h : keyOf d = some k) : d = keyD k := by
  cases d <;> simp [keyOf] at h <;> subst h <;> rfl
theorem eqv_key (a b : Key) : PyData.eqv (keyD a) (keyD b) = decide (a = b) := by
  cases a with
  | inl i => cases b with
    | inl j => rw [key_ll]; rfl
    | inr y => rw [key_lr]; rfl
  | inr x => cases b with
    | inl j => rw [key_rl]; rfl
    | inr y => rw [key_rr]; simp only [keyD, PyData.eqv]; rfl
def dget (kvs : List (PyData × PyData)) (k : PyData) : Option PyData := (kvs.find? fun p => PyData.eqv p.1 k).map (·.2)
def dput (kvs : List (PyData × PyData)) (k v : PyData) : List (PyData × PyData) :=
  if (kvs.any fun p => PyData.eqv p.1 k) = true then kvs.map (fun p => if PyData.eqv p.1 k = true then (p.1, v) else p) else kvs ++ [(k, v)]
section
variable {K : PySem.W.Frag} {G : Hp} {ks : List (Key × V)} {kvs : List (PyData × PyData)}
theorem kv_get_ok (h : KvR K G ks kvs) (k : Key) : (valV ks k = none ∧ dget kvs (keyD k) = none) ∨ ∃ v d, valV ks k = some v ∧ dget kvs (keyD k) = some d ∧ Rp K G v d := by
  induction h with
  | nil => exact .inl ⟨rfl, rfl⟩
  | @cons p q ps qs r t ih =>
    have e : PyData.eqv q.1 (keyD k) = decide (p.1 = k) := by rw [← r.1, eqv_key]
    by_cases hp : p.1 = k
    · refine .inr ⟨p.2, q.2, valV_pos hp, ?_, r.2⟩
      simp [dget, List.find?_cons, e, hp]
    · have e2 : dget (q :: qs) (keyD k) = dget qs (keyD k) := by simp [dget, List.find?_cons, e, hp]
      rw [valV_neg hp, e2]
      exact ih
theorem kv_any (h : KvR K G ks kvs) (k : Key) : (ks.any fun kv => decide (kv.1 = k)) = kvs.any fun p => PyData.eqv p.1 (keyD k) := by
  induction h with
  | nil => rfl
  | @cons p q ps qs r t ih => rw [List.any_cons, List.any_cons, ih, ← r.1, eqv_key]
theorem kv_map (h : KvR K G ks kvs) (k : Key) {v : V} {d : PyData} (hv : Rp K G v d) : KvR K G (ks.map (fun kv => if kv.1 = k then (kv.1, v) else kv)) (kvs.map (fun p => if PyData.eqv p.1 (keyD k) = true then (p.1, d) else p)) := by
  induction h with
  | nil => exact .nil
  | @cons p q ps qs r t ih =>
    rw [List.map_cons, List.map_cons]
    refine .cons ?_ ih
    rw [← r.1, eqv_key]
    by_cases hp : p.1 = k
    · rw [if_pos hp, if_pos (by simp [hp])]
      exact ⟨rfl, hv⟩
    · rw [if_neg hp, if_neg (by simp [hp])]
      exact r
theorem kv_put (h : KvR K G ks kvs) (k : Key) {v : V} {d : PyData} (hv : Rp K G v d) : KvR K G (putK ks k v) (dput kvs (keyD k) d) := by
  unfold putK dput
  rw [kv_any h k]
  split
  · exact kv_map h k hv
  · exact Paired.snoc h ⟨rfl, hv⟩
end
/-- dict(x) of pairs -/
def pairsD : List PyData → Option (List (PyData × PyData))
  | [] => some []
  | .tuple [k, v] :: r => match keyOf k, pairsD r with
    | some _, some t => some ((k, v) :: t)
    | _, _ => none
  | _ => none
def dmerge (ps : List (PyData × PyData)) : List (PyData × PyData) := ps.foldl (fun acc p => dput acc p.1 p.2) []
def rDictP (K : PySem.W.Frag) : List V → Hp → VK → Prop := fun xs H Q => ∃ (a : Addr) (ps : List Addr) (kvs : List (Key × V)), xs = [.ref a] ∧ TupX K H a (ps.map V.ref) ∧ Paired (fun p kv => SqT K H p [kV kv.1, kv.2]) ps kvs ∧
    ∀ p, H p = none → Q (.ref p) (upd H p (.dK (mergeK [] kvs)))
theorem call_dictT {X : Cx} (hcalm : X.calm = true) : CallR X (.type "dict") (rDictP X.K) := by
  intro pins s σ H xs us Q I r q
  obtain ⟨a, ps, kvs, rfl, hq, hp, q⟩ := q
  obtain ⟨u, rfl, rx⟩ := vals1 r
  cases rx
  obtain ⟨o, its, n, ho, hc, hd, hs, rv, hz⟩ := TupX.obj I hq
  obtain rfl := refs_at rv
  rw [List.length_map] at hz
  obtain ⟨prs, rel, hl, hpr⟩ := pairs_of I hp
  -- the pairs as they stand
  have key : ∀ j : Nat, ∃ kv : Value × Value, ∀ q : Key × Value, prs[j]? = some q → kv.2 = q.2 ∧ keyIs q.1 kv.1 = true ∧ ∃ b, ps[j]? = some b ∧ PyProof.Rows.IsTup s.heap b #[kv.1, kv.2] := fun j => by
    cases e : prs[j]? with
    | none => exact ⟨(.none, .none), fun q z => by cases z⟩
    | some q =>
      obtain ⟨b, u, e1, e2, e3⟩ := hpr j q e
      exact ⟨(u, q.2), fun q' z => by cases z; exact ⟨rfl, e3, b, e1, e2⟩⟩
  let pv : List (Value × Value) := (List.range prs.length).map fun j => (key j).choose
  have hpv : ∀ (j : Nat) (q : Key × Value), prs[j]? = some q → pv[j]? = some (key j).choose ∧ (key j).choose.2 = q.2 ∧ keyIs q.1 (key j).choose.1 = true ∧ ∃ b, ps[j]? = some b ∧ PyProof.Rows.IsTup s.heap b #[(key j).choose.1, (key j).choose.2] := fun j q e => by
    have hj : j < prs.length := (List.getElem?_eq_some_iff.mp e).1
    refine ⟨?_, (key j).choose_spec q e⟩
    show (List.map _ _)[j]? = _
    rw [List.getElem?_map, List.getElem?_range hj]
    rfl
  have hlen : pv.length = prs.length := by simp [pv]
  have PA := PairArg.tuple (prog := X.prog) (w := X.w) a (ps.map Value.ref).toArray (fun j => ps.getD j 0) pv
  refine PySem.call_dict_pairs (knd := mixKind X.prog X.w) (kvs := prs) PA (I.ok.hd hcalm) ⟨⟨o, n, ho, hc, hd, hs⟩, ?_, fun j k v e => ?_⟩ ⟨hlen.symm, fun i k v e => ?_⟩ (by rw [hlen, hl]; exact hz) fun h' tk hd' hk => ?_
  · simp [hlen, hl]
  · have hj : j < prs.length := by rw [← hlen]; exact (List.getElem?_eq_some_iff.mp e).1
    obtain ⟨e1, e2, e3, b, e4, e5⟩ := hpv j prs[j] (List.getElem?_eq_getElem hj)
    have ee : (key j).choose = (k, v) := by rw [e1] at e; exact Option.some.inj e
    rw [ee] at e5
    have eb : ps.getD j 0 = b := by rw [List.getD_eq_getElem?_getD, e4]; rfl
    refine ⟨?_, .inl ?_⟩
    · show (ps.map Value.ref).toArray[j]? = some (.ref (ps.getD j 0))
      rw [eb, List.getElem?_toArray, List.getElem?_map, e4]
      rfl
    · show s.heap.IsTuple (ps.getD j 0) _
      rw [eb]; exact e5
  · have e : pv[i]? = some (k, v) := e
    have hj : i < prs.length := by rw [← hlen]; exact (List.getElem?_eq_some_iff.mp e).1
    obtain ⟨e1, e2, e3, _⟩ := hpv i prs[i] (List.getElem?_eq_getElem hj)
    have ee : (key i).choose = (k, v) := by rw [e1] at e; exact Option.some.inj e
    rw [ee] at e2 e3
    refine ⟨prs[i].1, ?_, e3⟩
    rw [List.getElem?_eq_getElem hj]
    have e2' : v = prs[i].2 := e2
    rw [e2']
  · have hm : (s.heap.objs.size == sysModules) = false := beq_eq_false_iff_ne.mpr (Nat.ne_of_gt I.big)
    have hlm : (mergeK [] kvs).length ≤ sizeLine := by
      refine Nat.le_trans (length_mergeK kvs []) ?_
      rw [List.length_nil, Nat.zero_add, rel.length, hl]
      exact hz
    exact ⟨.ref s.heap.objs.size, upd H s.heap.objs.size (.dK (mergeK [] kvs)), I.laid (t' := tk) (fun b o e => hk b o (by simp) e) (Nat.le_refl _) (show ObjOk X.prog X.w _ _ _ (.dK (mergeK [] kvs)) from ⟨hlm, hm, merged [] prs, KV.merge rel .nil, hd'⟩), rfl, q _ (I.hok.fresh (Nat.le_refl _))⟩
/-- a new dict of the store, of a tuple of pairs -/
def eDict (fa : SA) : SE := fun r st => (fa r st).bind fun xs s1 => match xs with
  | [.d (.tuple ds)] => match pairsD ds with
    | some ps => .ok (.o s1.length) (s1 ++ [.dct (dmerge ps)])
    | none => .stuck
  | _ => .stuck
theorem pairs_rp {K : PySem.W.Frag} {G : Hp} : ∀ {ds : List PyData} {ps : List (PyData × PyData)} {us : List V}, pairsD ds = some ps → RpAll K G us ds → ∃ (as : List Addr) (kvs : List (Key × V)), us = as.map V.ref ∧ Paired (fun p kv => SqT K G p [kV kv.1, kv.2]) as kvs ∧ KvR K G kvs ps
  | [], _, _, e, .nil => by cases e; exact ⟨[], [], rfl, .nil, .nil⟩
  | .tuple [k, v] :: r, ps, _, e, .cons h t => by
    simp only [pairsD] at e
    cases hk : keyOf k with
    | none => rw [hk] at e; cases e
    | some kk =>
      cases hr : pairsD r with
      | none => rw [hk, hr] at e; cases e
      | some rs =>
        rw [hk, hr] at e
        cases e
        obtain ⟨as, kvs, rfl, h2, h3⟩ := pairs_rp hr t
        cases h with
        | tup q _ tt =>
          cases tt with
          | cons a1 t1 => cases t1 with
            | cons a2 t2 =>
              cases t2
              have e0 := keyOf_ok hk
              subst e0
              refine ⟨_ :: as, (kk, _) :: kvs, rfl, .cons (a := _) (b := (kk, _)) ?_ h2, .cons ⟨rfl, a2⟩ h3⟩
              cases kk with
              | inl i => cases a1; exact q.sq
              | inr x => cases a1; exact q.sq
  | .none :: _, _, _, e, _ | .bool _ :: _, _, _, e, _ | .int _ :: _, _, _, e, _ | .str _ :: _, _, _, e, _ | .list _ :: _, _, _, e, _ | .dict _ :: _, _, _, e, _ => by simp [pairsD] at e
  | .tuple [] :: _, _, _, e, _ | .tuple [_] :: _, _, _, e, _ | .tuple (_ :: _ :: _ :: _) :: _, _, _, e, _ => by simp [pairsD] at e
theorem kv_merge {K : PySem.W.Frag} {G : Hp} {kvs : List (Key × V)} {ps : List (PyData × PyData)} (h : KvR K G kvs ps) : KvR K G (mergeK [] kvs) (dmerge ps) := by
  have go : ∀ {kvs : List (Key × V)} {ps : List (PyData × PyData)} {a : List (Key × V)} {b : List (PyData × PyData)}, KvR K G kvs ps → KvR K G a b → KvR K G (kvs.foldl (fun acc kv => putK acc kv.1 kv.2) a) (ps.foldl (fun acc p => dput acc p.1 p.2) b) := by
    intro kvs ps a b h
    induction h generalizing a b with
    | nil => exact fun z => z
    | @cons p q xs ys r t ih =>
      intro z
      rw [List.foldl_cons, List.foldl_cons]
      refine ih ?_
      rw [← r.1]
      exact kv_put z p.1 r.2
  exact go h .nil
theorem fin_dct {K : PySem.W.Frag} {as : List Addr} {G H : Hp} {st : Sto} {Wc : Str → Hp → Prop} {Q : VK} {ps : List (PyData × PyData)} (er : ER K as G H st) (k : RK K as G H Wc Dv V (VR K) Q (.ok (.o st.length) (st ++ [.dct ps]))) {p : Addr} {ks : List (Key × V)} (hp : H p = none) (hv : KvR K G ks ps) : Q (.ref p) (upd H p (.dK ks)) :=
  k (.ref p) (as ++ [p]) G (upd H p (.dK ks)) (Stp.new er hp) (er.new hp ⟨er.g_none hp, ks, upd_same, hv⟩) ⟨p, by rw [List.getElem?_append_right (by rw [er.len]; exact Nat.le_refl _)]; simp [er.len], rfl⟩
section
variable {X : Cx} {W : WS} {e o i : Expr} {es : List Expr} {fa : SA} {fo fi : SE} {p pos : Pos}
theorem de_dict (hc : X.calm = true) (hgl : Gl X "dict") (hm : X.mg "dict" = none) (hv : bootBuiltins "dict" = some (.type "dict")) (ha : PA X [e] (tA X.K W fa)) (he : starEach [e] X.env = (false, eval e X.env) :: starEach [] X.env := by rfl) (hpl : (backTo pos (starEach [] X.env)).any (·.1) = false := by rfl) :
    PE X (.Call (.Name "dict" p) [e] [] pos) (tE X.K W (eDict fa)) := by
  refine PE.impI (pe_callTy (call_dictT hc) hgl hm hv ha (by decide) (by decide) he hpl) fun pins s σ H Q I q => ?_
  obtain ⟨r, as, G, st, sr, er, k⟩ := q
  refine ⟨r, as, G, st, sr, er, RK.seq k fun xs s1 vs as1 G1 H1 _ p1 e1 v1 k1 => ?_⟩
  split at k1
  · next ds _ =>
    split at k1
    · next ps hps =>
      cases v1 with
      | cons h t =>
        cases t
        cases h with
        | tup q hl t =>
          obtain ⟨bs, kvs, rfl, h2, h3⟩ := pairs_rp hps t
          refine ⟨_, bs, kvs, rfl, TupX.mono e1.sub q, Paired.mapP h2 fun _ _ z => Same.seqT e1.sub z, fun p hp => fin_dct e1 k1 hp (kv_merge h3)⟩
    · exact k1.elim
  · exact k1.elim
/-- d[k] -/
def eDGet (fo fk : SE) : SE := fun r st => (fo r st).bind fun x s1 => (fk r s1).bind fun y s2 => match x, y with
  | .o i, .d k => match s2[i]? with
    | some (.dct kvs) => match keyOf k with
      | some _ => ansD s2 (dget kvs k)
      | none => .stuck
    | _ => .stuck
  | _, _ => .stuck
theorem de_dget (hu : X.A.units + 1 < cLine) (ho : PE X o (tE X.K W fo)) (hi : PE X i (tE X.K W fi)) (hs : NoSl i) : PE X (.Subscript o i pos) (tE X.K W (eDGet fo fi)) := by
  refine PE.impI (pe_dget hu ho hi hs) fun pins s σ H Q I q => ?_
  obtain ⟨r, as, G, st, sr, er, k⟩ := q
  refine ⟨r, as, G, st, sr, er, RK.seq k fun x s1 v as1 G1 H1 _ p1 e1 v1 k1 => ⟨r, as1, G1, s1, sr.mono p1, e1, RK.seq k1 fun y s2 u as2 G2 H2 _ p2 e2 v2 k2 => ?_⟩⟩
  cases x with
  | d _ => exact k2.elim
  | e _ => exact k2.elim
  | s _ => exact k2.elim
  | o n =>
    cases y with
    | o _ => exact k2.elim
    | e _ => exact k2.elim
    | s _ => exact k2.elim
    | d key =>
      have k2 : RK X.K as2 G2 H2 (fun c H' => W c σ H') Dv V (VR X.K) Q (match s2[n]? with
        | some (.dct kvs) => match keyOf key with
          | some _ => ansD s2 (dget kvs key)
          | none => .stuck
        | _ => .stuck) := k2
      split at k2
      · next kvs hk =>
        split at k2
        · next kk hkk =>
          obtain ⟨a, ea, rfl⟩ := VR.mono p2 v1
          obtain ⟨_, ks, hH, hkv⟩ := e2.ob n a _ ea hk
          have e0 := keyOf_ok hkk
          subst e0
          rcases kv_get_ok hkv kk with ⟨_, h2⟩ | ⟨w, d, h1, h2, h3⟩
          · rw [h2] at k2; exact k2.elim
          · rw [h2] at k2
            refine ⟨a, w, rfl, ?_, k2 w as2 G2 H2 (.refl _ _ _) e2 h3⟩
            have eu : u = kV kk := by
              cases kk with
              | inl i => cases v2; rfl
              | inr x => cases v2; rfl
            rw [eu, ← h1]
            exact DGet.k hH
        · exact k2.elim
      · exact k2.elim
end
/-! ### s.split(sep) -/
def eSplit (fo fx : SE) : SE := fun r st => (fo r st).bind fun x s1 => match x with
  | .d (.str a) => (fx r s1).bind fun y s2 => match y with
    | .d (.str b) => if (b.length == 0) = false ∧ a.length + 2 ≤ 1000000 ∧ (Txt.split a b).length ≤ 1000000 then .ok (.d (.list ((Txt.split a b).map .str))) s2 else .stuck
    | _ => .stuck
  | _ => .stuck
theorem RpAll.strs {K : PySem.W.Frag} {G : Hp} : ∀ xs : List Str, RpAll K G (xs.map V.str) (xs.map PyData.str)
  | [] => .nil
  | x :: xs => .cons (.str x) (RpAll.strs xs)
end DL
set_option maxHeartbeats 200000
/-! D layer, part 11: defs as they are used. -/
namespace DL
open PySem PySem.Spec PyProof.Rows L2
abbrev WB (ca : Str → Addr) (E : XK) : WS := fun c _ H' => E (.ref (ca c)) none H'
/-- the def x of the text does g -/
structure Def (P : Program) (w : World) (K : PySem.W.Frag) (mg : Str → Option Value) (base : Heap) (ca : Str → Addr) (x : Str) (ps : List Str) (k : Nat) (g : SF) : Prop where
  ex : ∃ (f : Addr) (fd : FuncData), mg x = some (.ref f) ∧ PySem.W.keepIn K (.ref f) = true ∧ Binds K fd ps [] ∧ FnOk P w K mg base (L2N.CX P w) k f fd ps (spD K ca ps.length g) ∧
    (∃ oc od osl, K.lookup f = some ⟨oc, od, .func fd, osl⟩) ∧ ∀ (s : Shared) (us : List Value), us.length = ps.length → BindsTo s fd ⟨us, []⟩ (ps.zip us)
theorem aLen_nil : ∀ r st xs st', aNil r st = .ok xs st' → xs.length = ([] : List Expr).length := aNil_len
theorem aLen_cons {fa : SE} {fr : SA} {e : Expr} {es : List Expr} (h : ∀ r st xs st', fr r st = .ok xs st' → xs.length = es.length) : ∀ r st xs st', aCons fa fr r st = .ok xs st' → xs.length = (e :: es).length := aCons_len h
section
variable {X : Cx} {W : WS} {ca : Str → Addr} {k : Nat} {ps : List Str} {g : SF} {x : Str} {p pos : Pos} {e : Expr} {es : List Expr} {fa : SA}
theorem de_callD (D : Def X.prog X.w X.K X.mg X.base ca x ps k g) (hr : Room k X.A) (tk : L2N.Takes X (wx ca W)) (hg : Gl X x) (ha : PA X (e :: es) (tA X.K W fa)) (hl : ∀ r st xs st', fa r st = .ok xs st' → xs.length = (e :: es).length) (hn : (e :: es).length = ps.length := by rfl)
    (hdb : (x == ("__debug__" : Str)) = false := by decide) (he : starEach (e :: es) X.env = (false, eval e X.env) :: starEach es X.env := by rfl) (hpl : (backTo pos (starEach es X.env)).any (·.1) = false := by rfl) :
    PE X (.Call (.Name x p) (e :: es) [] pos) (tE X.K W (eCall g fa)) := by
  obtain ⟨f, fd, hm, hk, hb, F, _⟩ := D.ex
  exact de_call F hn hr tk hg hm hk hb ha (fun r st xs st' h => (hl r st xs st' h).trans hn) hdb he hpl
end
theorem Def.mono {P : Program} {w : World} {K : PySem.W.Frag} {mg : Str → Option Value} {base : Heap} {ca : Str → Addr} {x : Str} {ps : List Str} {j k : Nat} {g : SF} (D : Def P w K mg base ca x ps j g) (h : j ≤ k) : Def P w K mg base ca x ps k g := by
  obtain ⟨f, fd, hm, hk, hb, F, z⟩ := D.ex
  exact ⟨f, fd, hm, hk, hb, F.mono h, z⟩
/-- the same, said of another function that gives the same -/
theorem Def.eq {P : Program} {w : World} {K : PySem.W.Frag} {mg : Str → Option Value} {base : Heap} {ca : Str → Addr} {x : Str} {ps : List Str} {k : Nat} {g g' : SF} (D : Def P w K mg base ca x ps k g) (h : ∀ xs st, g' xs st ≠ .stuck → g xs st = g' xs st) : Def P w K mg base ca x ps k g' := by
  obtain ⟨f, fd, hm, hk, hb, F, z⟩ := D.ex
  refine ⟨f, fd, hm, hk, hb, F.imp fun vs H Q E hq => ?_, z⟩
  obtain ⟨hl, as, G, st, xs, er, hv, kk⟩ := hq
  refine ⟨hl, as, G, st, xs, er, hv, ?_⟩
  rw [h xs st fun z => by rw [z] at kk; exact kk]
  exact kk
section
variable {P : Program} {w : World} {K : PySem.W.Frag} {mg : Str → Option Value} {base : Heap} {ca : Str → Addr} {N ps : List Str} {qual : Str} {scope : Scope} {f : Addr} {cd : Value} {A : Around} {outer : List Env} {s : Shared} {H : Hp} {E : XK}
theorem takesB : L2N.Takes (cxOf (L2N.CX P w) P w K mg base N qual scope f cd A outer s H E) (wx ca (WB ca E)) := (L2N.takes_of rfl rfl rfl rfl).imp fun c d σ H h => by
  obtain ⟨c', rfl, rfl, h⟩ := h
  exact h
theorem passB : PassesOwn (model P w) (cxOf (L2N.CX P w) P w K mg base N qual scope f cd A outer s H E).A (cxOf (L2N.CX P w) P w K mg base N qual scope f cd A outer s H E).env (cxOf (L2N.CX P w) P w K mg base N qual scope f cd A outer s H E).xe := passes_of rfl
end
/-- a def by its walk -/
theorem def_ok {P : Program} {w : World} {K : PySem.W.Frag} {mg : Str → Option Value} {base : Heap} {ca : Str → Addr} {x qual : Str} {params : Arguments} {body : List Stmt} {scope : Scope} {N ps : List Str} {f : Addr} {fd : FuncData} {k : Nat} {F : SS} (D : FunD K x qual params body scope [] [] f fd) (S : FnScope N ps scope) (hm : mg x = some (.ref f))
    (hb : ∀ (kV doc pm : Value) (an : Option Addr) (cdv ct : Value) (us : List Value), us.length = ps.length → bindArgs (PySem.W.fnOf x qual params body scope .none kV doc pm an cdv ct) ⟨us, []⟩ = pure (ps.zip us))
    (walk : ∀ (cdv : Value) (A : Around) (outer : List Env) (s : Shared) (H : Hp) (E : XK), Room k (A.deeper (envOfC qual scope s.heap.objs.size f cdv)) → PSs (cxOf (L2N.CX P w) P w K mg base N qual scope f cdv A outer s H E) body (tS K (WB ca E) F)) : Def P w K mg base ca x ps (k + 1) (fnD N.length F) :=
  ⟨f, fd, hm, D.kp, D.bindsN hb, D.ok S (fun _ _ _ _ h => h.1) fun cdv A outer s H vs Q E hr hs => ⟨_, walk cdv A outer s H E hr, body_ok hs⟩, by
    obtain ⟨oc, od, _, _, _, _, _, _, _, osl, _, lk, _⟩ := D.ex
    exact ⟨oc, od, osl, lk⟩, FunD.bindsA D hb⟩
/-! ### constants of the module -/
theorem de_gint {X : Cx} {W : WS} {x : Str} {i : Int} {pos : Pos} (h : ∃ t, X.mg x = some (.int i t)) (hg : Gl X x) (hd : (x == ("__debug__" : Str)) = false := by decide) : PE X (.Name x pos) (tE X.K W (eK (.int i))) := by
  obtain ⟨t, h⟩ := h
  exact de_c (pe_glob (v := .int i) hg h ⟨t, rfl⟩ hd) fun _ => .int i
theorem de_gstr {X : Cx} {W : WS} {x z : Str} {pos : Pos} (h : ∃ t, X.mg x = some (.str z t)) (hg : Gl X x) (hd : (x == ("__debug__" : Str)) = false := by decide) : PE X (.Name x pos) (tE X.K W (eK (.str z))) := by
  obtain ⟨t, h⟩ := h
  exact de_c (pe_glob (v := .str z) hg h ⟨t, rfl⟩ hd) fun _ => .str z
theorem de_gref {X : Cx} {W : WS} {x : Str} {a : Addr} {d : PyData} {pos : Pos} (h : X.mg x = some (.ref a) ∧ ∀ G, Rp X.K G (.ref a) d) (hg : Gl X x) (hd : (x == ("__debug__" : Str)) = false := by decide) : PE X (.Name x pos) (tE X.K W (eK d)) :=
  de_c (pe_glob (v := .ref a) hg h.1 rfl hd) h.2
/-- a fresh object, used as data at once -/
def eFz (f : SE) : SE := fun r st => (f r st).bind fun x s1 => match x with
  | .o i => match s1[i]? with
    | some (.lst ds) => .ok (.d (.list ds)) ((s1.set i .dead).take st.length)
    | _ => .stuck
  | x => .ok x s1
theorem ER.takeN {K : PySem.W.Frag} {as : List Addr} {G H : Hp} {st : Sto} (er : ER K as G H st) (n : Nat) : ER K (as.take n) G H (st.take n) := er.take n
/-- the names of built-ins are free -/
structure Txt (mg : Str → Option Value) : Prop where
  len : mg "len" = none
  range : mg "range" = none
  sorted : mg "sorted" = none
  isinstance : mg "isinstance" = none
  list : mg "list" = none
  tuple : mg "tuple" = none
  dict : mg "dict" = none
  set : mg "set" = none
  sum : mg "sum" = none
  any : mg "any" = none
  all : mg "all" = none
  min : mg "min" = none
  max : mg "max" = none
  int : mg "int" = none
  bool : mg "bool" = none
  str : mg "str" = none
  zip : mg "zip" = none
  enumerate : mg "enumerate" = none
  ValueError : mg "ValueError" = none
section
variable {X : Cx} {W : WS} {e e2 : Expr} {es : List Expr} {fa : SA} {p pos : Pos}
theorem hu64 {k : Nat} {A : Around} (r : Room k A) : A.units + 64 < cLine := r.units
end
end DL
set_option maxHeartbeats 200000
/-! D layer, part 12: short words for printed derivations. -/
namespace DL
open PySem PySem.Spec PyProof.Rows L2
section
variable {X : Cx} {W : WS} {e : Expr} {es : List Expr} {f : SE} {pos : Pos}
theorem de_n (i : Nat) {x : Str} (hN : X.N[i]? = some x := by rfl) (hv : Vis X.env.scope x := by first | exact Or.inl rfl | exact Or.inr (Or.inl rfl) | exact Or.inr (Or.inr rfl)) (hd : (x == ("__debug__" : Str)) = false := by decide) (hcd : (x == ("__classdict__" : Str)) = false := by decide) : PE X (.Name x pos) (tE X.K W (eV i)) :=
  de_v i (pe_var hN hv hd hcd)
theorem dg_n (i : Nat) {x : Str} (hN : X.N.Nodup) (hi : X.N[i]? = some x := by rfl) (hx : Loc X.env.scope x := by first | exact Or.inl rfl | exact Or.inr rfl) (hf : X.fn x = true ∨ X.env.scope.names.lookup x = some .local := by first | exact .inl rfl | exact .inr rfl) : PG X (.Name x pos) (gT X.K (.nm i)) := pg_name hN hi hx hf
theorem dgs_nil : PGs X [] (gNs []) := pgs_nil
theorem dgs_cons {i : Nat} {is : List Nat} (h1 : PG X e (gT X.K (.nm i))) (h2 : PGs X es (gNs is)) (hs : (assignEach (e :: es) X.env).map (·.2) = assign e X.env :: (assignEach es X.env).map (·.2) := by rfl) : PGs X (e :: es) (gNs (i :: is)) := pgs_cons h1 h2 hs
theorem dg_tp {k : Nat} {is : List Nat} (hc : X.calm = true) (h : PGs X es (gNs is)) (hn : (assignEach es X.env).length = is.length := by rfl) (hst : (assignEach es X.env).findIdx? (·.1) = none := by rfl) : PG X (.Tuple es k pos) (gT X.K (.tp is)) := pg_tup hc h hn hst
theorem ds_setN (i : Nat) {x : Str} {pos' : Pos} (hN : X.N.Nodup) (he : PE X e (tE X.K W f)) (hi : X.N[i]? = some x := by rfl) (hx : Loc X.env.scope x := by first | exact Or.inl rfl | exact Or.inr rfl) (hs : swapsWith e (some (.Name x pos')) pos.line X.env = pure false := by rfl) (hf : X.fn x = true ∨ X.env.scope.names.lookup x = some .local := by first | exact .inl rfl | exact .inr rfl) :
    PS X (.Assign [.Name x pos'] e pos) (tS X.K W (sAsg f (.nm i))) := ds_set hN hi hx he hs hf
abbrev sDoc : SS := sNil
theorem ds_pass : PS X (.Pass pos) (tS X.K W sNil) := PS.imp ps_pass fun D σ H q => by
  obtain ⟨r, as, G, st, sr, er, k⟩ := q
  exact k σ as G H (.refl _ _ _) er sr
theorem ds_doc {x : Str} {j : Nat} {pos' : Pos} : PS X (.Expr (.Constant (.str x) j pos) pos') (tS X.K W sDoc) := PS.imp ps_doc fun D σ H q => by
  obtain ⟨r, as, G, st, sr, er, k⟩ := q
  exact k σ as G H (.refl _ _ _) er sr
def eNeg (f : SE) : SE := fun r st => (f r st).bind fun x s1 => match x with
  | .d (.int i) => .ok (.d (.int (-i))) s1
  | _ => .stuck
theorem de_neg (h : PE X e (tE X.K W f)) : PE X (.UnaryOp .USub e pos) (tE X.K W (eNeg f)) := PE.impI (pe_un un_neg h) fun pins s σ H Q I q => by
  obtain ⟨r, as, G, st, sr, er, k⟩ := q
  refine ⟨r, as, G, st, sr, er, RK.seq k fun x s1 v as1 G1 H1 _ p1 e1 v1 k1 => ?_⟩
  split at k1
  · next i _ => cases v1; exact ⟨i, rfl, k1 _ as1 G1 H1 (.refl _ _ _) e1 (.int _)⟩
  · exact k1.elim
theorem ER.cut {K : PySem.W.Frag} {as as' : List Addr} {G H G' H' : Hp} {st st' : Sto} (s : Stp as G H as' G' H') (er : ER K as G H st) (e : ER K as' G' H' st') : as'.take st.length = as ∧ Stp as G H as G' H' ∧ ER K as G' H' (st'.take st.length) := by
  obtain ⟨s2, e2⟩ := s.out (more := []) er.len.symm (by simp)
  have e3 := e.take st.length
  rw [e2] at e3
  exact ⟨e2, by simpa using s2, e3⟩
theorem de_fz (h : PE X e (tE X.K W f)) : PE X e (tE X.K W (eFz f)) := PE.impI h fun pins s σ H Q I q => by
  obtain ⟨r, as, G, st, sr, er, k⟩ := q
  refine ⟨r, as, G, st, sr, er, ?_⟩
  unfold eFz at k
  cases hf : f r st with
  | exc c s1 => rw [hf] at k; exact k
  | stuck => rw [hf] at k; exact k
  | ok x s1 =>
    rw [hf] at k
    simp only [bind_ok] at k
    intro v as1 G1 H1 p1 e1 v1
    cases x with
    | d x => exact k v as1 G1 H1 p1 e1 v1
    | e _ => exact k v as1 G1 H1 p1 e1 v1
    | s ns => exact k v as1 G1 H1 p1 e1 v1
    | o i =>
      split at k
      · next i' ei =>
        cases ei
        split at k
        · next ds hds =>
          obtain ⟨a, ea, rfl⟩ := v1
          obtain ⟨g, hl, us, hv, t⟩ := e1.ob i a _ ea hds
          obtain ⟨_, s3, e3⟩ := ER.cut (p1.trans (Stp.stop e1 ea hv)) er (e1.stop ea hv)
          exact k (.ref a) as _ H1 s3 e3 (.lst upd_same hl (RpAll.mono (Same.upd1 g) t))
        · exact k.elim
      · next hne => exact absurd rfl (hne i)
end
/-- the plain use of a rule for new lists -/
abbrev fz1 (g : G1L) : G1 := fun xs st => (g xs st).map .list
theorem bt_len : bootBuiltins "len" = some (.builtin "len") := by decide +kernel
theorem bt_range : bootBuiltins "range" = some (.type "range") := by decide +kernel
theorem bt_sorted : bootBuiltins "sorted" = some (.builtin "sorted") := by decide +kernel
theorem bt_isinstance : bootBuiltins "isinstance" = some (.builtin "isinstance") := by decide +kernel
theorem bt_list : bootBuiltins "list" = some (.type "list") := by decide +kernel
theorem bt_tuple : bootBuiltins "tuple" = some (.type "tuple") := by decide +kernel
theorem bt_dict : bootBuiltins "dict" = some (.type "dict") := by decide +kernel
theorem bt_set : bootBuiltins "set" = some (.type "set") := by decide +kernel
theorem bt_sum : bootBuiltins "sum" = some (.builtin "sum") := by decide +kernel
theorem bt_any : bootBuiltins "any" = some (.builtin "any") := by decide +kernel
theorem bt_all : bootBuiltins "all" = some (.builtin "all") := by decide +kernel
theorem bt_min : bootBuiltins "min" = some (.builtin "min") := by decide +kernel
theorem bt_max : bootBuiltins "max" = some (.builtin "max") := by decide +kernel
theorem bt_int : bootBuiltins "int" = some (.type "int") := by decide +kernel
theorem bt_bool : bootBuiltins "bool" = some (.type "bool") := by decide +kernel
theorem bt_str : bootBuiltins "str" = some (.type "str") := by decide +kernel
/-- an exception class of the program -/
def ExcOk (K : PySem.W.Frag) (mg : Str → Option Value) (c : Str) : Prop :=
  PySem.W.excIn K (He.ga K c) [.type "ValueError", .type "Exception", .type "BaseException", .type "object"] "ValueError.__new__" = true ∧ mg c = some (.ref (He.ga K c)) ∧ PySem.W.keepIn K (.ref (He.ga K c)) = true ∧ PySem.W.subIn K (.ref (He.ga K c)) (.type "BaseException") = some true ∧ PySem.W.typeIn K (.ref (He.ga K c)) = some (.type "type")
end DL
set_option maxHeartbeats 2000000
/-! E layer, part 1: ends of walks while an exception is handled. -/
namespace DL
open PySem PySem.Spec PyProof.Rows L2 HotX
section
variable {prog : Program} {w : World} {A : Around} {E : Value → Shared → Prop} {s : Shared} {x1 : Addr}
/-- a walk's end is told while an exception is handled -/
theorem stopHot {α : Type} {Q : α → Shared → Prop} (hot : HotAt A x1 s.heap) (hE : ∀ (g : Heap) (e : Addr), (∀ b u, s.heap.get? b = some u → g.get? b = some u) → (∃ u, g.get? e = some u ∧ u.cls = .type "StopIteration") → E (.ref e) { s with heap := g }) :
    wpAny (model prog w) A ((newExc (.type "StopIteration") [] >>= fun e => raiseNew e) : Sem α) Q E s := by
  obtain ⟨hh, o1, vs1, h1, d1, c1⟩ := hot
  refine wpAny_bind ?_
  simp only [newExc, newTuple]
  refine wpAny_bind (wpAny_newObj_type ?_ (by size_fits))
  refine wpAny_bind (m := firstArgMember _ _) (wpAny_of_eq (a := Value.none) (by first | rfl | (simp only [firstArgMember]; rfl)) ?_)
  refine wpAny_newObj_type ?_ (by size_fits)
  have up : ∀ b u, s.heap.get? b = some u → b < s.heap.objs.size := fun b u e => Heap.lt_size e
  refine raiseNew_hot ⟨hh, o1, vs1, Heap.get?_push_of_some _ (Heap.get?_push_of_some _ h1), d1, c1⟩ (Nat.ne_of_lt (Heap.lt_size (Heap.get?_push_of_some _ h1))) (Heap.get?_push_size _ rfl) rfl (by first | (simp; done) | (simp; omega) | (simp only [Array.size_append]; simp; omega)) ?_
  refine hE _ _ (fun b u e => ?_) ⟨_, Heap.get?_update_self _ (Heap.get?_push_size _ rfl) rfl, rfl⟩
  rw [Heap.get?_update_other _ _ (Nat.ne_of_gt (Heap.lt_size (Heap.get?_push_of_some _ e)))]
  exact Heap.get?_push_of_some _ (Heap.get?_push_of_some _ e)
theorem HotAt.but {h g : Heap} {it : Addr} (hot : HotAt A x1 h) (hs : Heap.ExtBut it h g) (hn : x1 ≠ it) : HotAt A x1 g := by
  obtain ⟨hh, o1, vs1, h1, d1, c1⟩ := hot
  exact ⟨hh, o1, vs1, hs _ _ hn h1, d1, c1⟩
/-- a list's walk ends -/
theorem nextL_hot {it l : Addr} {i : Nat} {xs} {Q : Value → Shared → Prop} (hot : HotAt A x1 s.heap) (hn : x1 ≠ it) (si : s.heap.IsListIter it l i) (sl : s.heap.IsList l xs) (hx : xs[i]? = none)
    (hE : ∀ (g : Heap) (e : Addr), Heap.ExtBut it s.heap g → (∃ u, g.get? e = some u ∧ u.cls = .type "StopIteration") → E (.ref e) { s with heap := g }) : wpAny (model prog w) A (Builtin.SmallTypes.nextOf (.ref it)) Q E s := by
  obtain ⟨u, gu, cu, du⟩ := id si
  obtain ⟨v, gv, _, nv, dv⟩ := sl
  unfold Builtin.SmallTypes.nextOf
  refine wpAny_bind (wpAny_callSpecial?_slot (name := Str.ofString "__next__") si.typeIs slot_listiter_next (wpAny_call_entry slot_listiter_next si.typeIs entry_listiter_next ?_ (args_listiter_next _)))
  show wpAny _ _ (field (.ref it) 0 >>= _) _ _ _
  refine wpAny_bind (wpAny_field gu du (x := .ref l) rfl ?_)
  show wpAny _ _ (if (Value.ref l == Value.none) = true then _ else _) _ _ _
  rw [if_neg (show ¬ ((Value.ref l == Value.none) = true) from fun z => nomatch z)]
  show wpAny _ _ (field (.ref it) 1 >>= _) _ _ _
  refine wpAny_bind (wpAny_field gu du (x := .int i 0) rfl ?_)
  show wpAny _ _ (seqItems? (.ref l) >>= _) _ _ _
  refine wpAny_bind (wpAny_seqItems gv dv ?_)
  simp only [Int.toNat_natCast, hx]
  refine wpAny_bind (wpAny_rule (wpAny_bind (wpAny_setField gu du (by simp) ?_)))
  refine stopHot (x1 := x1) (HotAt.but (A := A.in1) (it := it) hot (Heap.SameBut.update ..).extBut hn) fun g e k z => ?_
  exact hE _ _ (fun b o hb e' => k b o ((Heap.SameBut.update ..).extBut b o hb e')) z
/-- a tuple's walk ends -/
theorem nextT_hot {it t : Addr} {i : Nat} {xs} {Q : Option Value → Shared → Prop} (hot : HotAt A x1 s.heap) (hn : x1 ≠ it) (si : IsTupIter s.heap it t i) (st : IsTup s.heap t xs) (hx : xs[i]? = none)
    (hQ : ∀ g : Heap, Heap.ExtBut it s.heap g → Q none { s with heap := g }) : wpAny (model prog w) A (pyNext (.ref it)) Q E s := by
  obtain ⟨u, gu, cu, du⟩ := id si
  obtain ⟨v, gv, _, nv, dv⟩ := st
  unfold pyNext
  refine wpAny_bind (wpAny_attempt (wpAny_callSpecial?_slot (name := Str.ofString "__next__") si.typeIs slot_tupleiter_next (wpAny_call_entry slot_tupleiter_next si.typeIs entry_tupleiter_next ?_ (args_tupleiter_next _))))
  show wpAny _ _ (field (.ref it) 0 >>= _) _ _ _
  refine wpAny_bind (wpAny_field gu du (x := .ref t) rfl ?_)
  show wpAny _ _ (if (Value.ref t == Value.none) = true then _ else _) _ _ _
  rw [if_neg (show ¬ ((Value.ref t == Value.none) = true) from fun z => nomatch z)]
  show wpAny _ _ (field (.ref it) 1 >>= _) _ _ _
  refine wpAny_bind (wpAny_field gu du (x := .int i 0) rfl ?_)
  show wpAny _ _ (seqItems? (.ref t) >>= _) _ _ _
  refine wpAny_bind (wpAny_seqItems gv dv ?_)
  simp only [Int.toNat_natCast, hx]
  refine wpAny_bind (wpAny_rule (wpAny_bind (wpAny_setField gu du (by simp) ?_)))
  refine stopHot (x1 := x1) (HotAt.but (A := A.in1) (it := it) hot (Heap.SameBut.update ..).extBut hn) fun g e k z => ?_
  obtain ⟨o, ho, hc⟩ := z
  refine wpAny_bind (wpAny_isInstance (T := "StopIteration") (b := true) ⟨o, ho, hc⟩ isSubtype_stop ?_)
  exact wpAny_pure (hQ _ fun b o' hb e' => k b o' ((Heap.SameBut.update ..).extBut b o' hb e'))
/-- a tuple is unpacked -/
theorem unpackT_hot {env : Env} {elts : List Expr} {k} {pos : Pos} {t : Addr} {xs : Array Value} {Q : Unit → Shared → Prop} (hot : HotAt A x1 s.heap) (st : IsTup s.heap t xs) (hn : (assignEach elts env).length = xs.size) (hst : (assignEach elts env).findIdx? (·.1) = none)
    (h : ∀ g : Heap, Heap.ExtBut s.heap.objs.size s.heap g → wpAny (model prog w) A (assignInOrder ((assignEach elts env).map (·.2)) xs.toList) Q E { s with heap := g }) : wpAny (model prog w) A (assign (.Tuple elts k pos) env (.ref t)) Q E s := by
  have x1lt : x1 ≠ s.heap.objs.size := by
    obtain ⟨_, o1, _, h1, _⟩ := hot
    exact Nat.ne_of_lt (Heap.lt_size h1)
  have tlt : t ≠ s.heap.objs.size := by
    obtain ⟨o, ho, _⟩ := st
    exact Nat.ne_of_lt (Heap.lt_size ho)
  rw [assign_Tuple]
  refine wpAny_bind (wpAny_standAt ?_)
  unfold unpack
  rw [hn, hst]
  refine wpAny_bind (wpAny_holding ?_)
  unfold unpackItems
  refine wpAny_bind ?_
  unfold notIterableAtAll
  refine wpAny_bind (wpAny_specialOf st.typeIs slot_tuple_iter.lookup ?_)
  refine wpAny_pure ?_
  simp only [Bool.false_eq_true, if_false]
  refine wpAny_bind (wpAny_holding (iter_tuple st ?_))
  refine wpAny_bind (wpAny_holding (draw_tuple tlt xs.size 0 _ _ ⟨_, Heap.get?_push_size _ rfl, rfl, rfl⟩ (st.push _) (by omega) fun g1 i1 s1 => ?_))
  have all : List.take xs.size (List.drop 0 xs.toList) = xs.toList := by
    rw [List.drop_zero]
    exact List.take_of_length_le (Nat.le_of_eq (Array.length_toList))
  rw [all, if_neg (by simp)]
  have st1 : IsTup g1 t xs := (st.push _).extBut s1.extBut tlt
  have hot1 : HotAt A x1 g1 := by
    obtain ⟨hh, o1, vs1, h1, d1, c1⟩ := hot
    exact ⟨hh, o1, vs1, s1.extBut _ _ x1lt (Heap.get?_push_of_some _ h1), d1, c1⟩
  refine wpAny_bind (wpAny_holding (nextT_hot (s := { s with heap := g1 }) hot1 x1lt i1 st1 (by simp) fun g2 e2 => ?_))
  simp only [Option.isSome_none, Bool.false_eq_true, if_false]
  exact wpAny_pure (h g2 fun b o hb e => e2 b o hb (s1.extBut b o hb (Heap.get?_push_of_some _ e)))
/-- a zip of two lists ends -/
theorem nextZ_hot {z TI TO i1 i2 l1 l2 : Addr} {k1 k2 : Nat} {xs ys : Array Value} {a b : Value} {Q : Option Value → Shared → Prop} (hot : HotAt A x1 s.heap) (n1 : x1 ≠ i1) (n2 : x1 ≠ i2) (nz : x1 ≠ z) (nT : x1 ≠ TO) (D : ZipApart z TI TO i1 i2 l1 l2)
    (hz : IsZip s.heap z TI TO .none) (hTI : IsPair s.heap TI (.ref i1) (.ref i2)) (hTO : IsPair s.heap TO a b) (h1 : s.heap.IsListIter i1 l1 k1) (h2 : s.heap.IsListIter i2 l2 k2) (hl1 : s.heap.IsList l1 xs) (hl2 : s.heap.IsList l2 ys) (hend : xs[k1]? = none ∨ ys[k2]? = none)
    (hQ : ∀ g : Heap, (∀ c u, c ≠ z → c ≠ TO → c ≠ i1 → c ≠ i2 → s.heap.get? c = some u → g.get? c = some u) → Q none { s with heap := g }) : wpAny (model prog w) A (pyNext (.ref z)) Q E s := by
  have hT : s.TypeIs (.ref z) "zip" := ⟨_, hz, rfl⟩
  have fin : ∀ (g : Heap) (e : Addr), (∀ c u, c ≠ z → c ≠ TO → c ≠ i1 → c ≠ i2 → s.heap.get? c = some u → g.get? c = some u) → (∃ u, g.get? e = some u ∧ u.cls = .type "StopIteration") → wpAny (model prog w) A (isInstance (.ref e) (.type "StopIteration") >>= fun b => if b = true then pure none else throw (.ref e)) Q E { s with heap := g } := fun g e k ⟨u, hu, cu⟩ => wpAny_bind (wpAny_isInstance (T := "StopIteration") (b := true) ⟨u, hu, cu⟩ isSubtype_stop (wpAny_pure (hQ _ k)))
  unfold pyNext
  refine wpAny_bind (wpAny_attempt (wpAny_callSpecial?_slot (name := Str.ofString "__next__") hT F.slot_zip_next (wpAny_call_entry F.slot_zip_next hT F.entry_zip_next ?_ (F.args_zip_next_1 _))))
  show wpAny _ _ (field (.ref z) 2 >>= _) _ _ _
  refine wpAny_bind (wpAny_field hz rfl (x := .bool false) rfl ?_)
  show wpAny _ _ (field (.ref z) 3 >>= _) _ _ _
  refine wpAny_bind (wpAny_field hz rfl (x := .ref TI) rfl ?_)
  refine wpAny_bind (wpAny_seqItems hTI rfl ?_)
  show wpAny _ _ (Builtin.SmallTypes.ownedTupleIsFree (.ref z) >>= _) _ _ _
  refine wpAny_bind ?_
  unfold Builtin.SmallTypes.ownedTupleIsFree
  refine wpAny_bind (wpAny_field hz rfl (x := .none) rfl (wpAny_pure ?_))
  simp only [if_true]
  refine wpAny_bind (wpAny_rule ?_)
  refine wpAny_bind (wpAny_field hz rfl (x := .ref TO) rfl ?_)
  refine wpAny_bind (wpAny_setField_rec hz (by simp) fun g1 z1 s1 => ?_)
  replace z1 : IsZip g1 z TI TO .ellipsis := z1
  have hot1 : HotAt A.in1 x1 g1 := HotAt.but (A := A.in1) hot s1.extBut nz
  refine wpAny_bind ?_
  simp only [List.zipIdx_cons, List.zipIdx_nil, List.forIn_cons, List.forIn_nil]
  refine wpAny_bind (wpAny_bind (wpAny_onRaise ?_))
  show wpAny _ _ (Builtin.SmallTypes.nextOf (.ref i1) >>= _) _ _ _
  cases hx : xs[k1]? with
  | none =>
    refine wpAny_bind (nextL_hot (s := { s with heap := g1 }) hot1 n1 (h1.extBut s1.extBut D.i1z) (hl1.extBut s1.extBut D.l1z) hx fun g2 e s2 he => ?_)
    obtain ⟨oe, hoe, hce⟩ := he
    have z2 : IsZip g2 z TI TO .ellipsis := s2 _ _ D.i1z.symm z1
    have hez : e ≠ z := fun x => by
      subst x
      rw [z2] at hoe
      cases hoe
      simp at hce
    refine wpAny_setField_rec z2 (by simp) fun g3 _ s3 => ?_
    exact fin g3 e (fun c u c1 _ c3 _ x => s3.extBut _ _ c1 (s2 _ _ c3 (s1.extBut _ _ c1 x))) ⟨oe, s3.extBut _ _ hez hoe, hce⟩
  | some x =>
    have hy : ys[k2]? = none := by
      rcases hend with q | q
      · rw [hx] at q; cases q
      · exact q
    refine wpAny_bind (wpAny_nextOf_list_item (h1.extBut s1.extBut D.i1z) (hl1.extBut s1.extBut D.l1z) hx fun g2 j2 s2 => wpAny_pure ?_)
    have t2 : IsPair g2 TO a b := s2.extBut _ _ D.TOi1 (s1.extBut _ _ D.TOz hTO)
    refine wpAny_bind (wpAny_seqItems t2 rfl ?_)
    refine wpAny_bind (wpAny_updateSeq_pair t2 fun g3 t3 s3 => ?_)
    refine wpAny_bind (wpAny_letGo (wpAny_pure ?_))
    refine wpAny_bind (wpAny_bind (wpAny_onRaise ?_))
    show wpAny _ _ (Builtin.SmallTypes.nextOf (.ref i2) >>= _) _ _ _
    have hot3 : HotAt A.in1 x1 g3 := HotAt.but (A := A.in1) (HotAt.but (A := A.in1) hot1 s2.extBut n1) s3.extBut nT
    refine wpAny_bind (nextL_hot (s := { s with heap := g3 }) hot3 n2 (((h2.extBut s1.extBut D.i2z).extBut s2.extBut D.i12.symm).extBut s3.extBut D.TOi2.symm) (((hl2.extBut s1.extBut D.l2z).extBut s2.extBut D.l2i1).extBut s3.extBut D.l2TO) hy fun g4 e s4 he => ?_)
    obtain ⟨oe, hoe, hce⟩ := he
    have z4 : IsZip g4 z TI TO .ellipsis := s4 _ _ D.i2z.symm (s3.extBut _ _ D.TOz.symm (s2.extBut _ _ D.i1z.symm z1))
    have hez : e ≠ z := fun x => by
      subst x
      rw [z4] at hoe
      cases hoe
      simp at hce
    refine wpAny_setField_rec z4 (by simp) fun g5 _ s5 => ?_
    exact fin g5 e (fun c u c1 c2 c3 c4 x => s5.extBut _ _ c1 (s4 _ _ c4 (s3.extBut _ _ c2 (s2.extBut _ _ c3 (s1.extBut _ _ c1 x))))) ⟨oe, s5.extBut _ _ hez hoe, hce⟩
end
end DL
set_option maxHeartbeats 2000000
/-! E layer, part 2: comprehensions while an exception is handled. -/
namespace DL
open PySem PySem.Spec PyProof.Rows L2 HotX
/-- an exception is handled, and it stands as it was made -/
def HotI (X : Cx) : Prop := ∀ (pins : List (Addr × Obj)) (σ : L2.St) (H : Hp) (s : Shared), Inv X pins σ H s → ∃ x1, HotAt X.A x1 s.heap
theorem HotI.of {X : Cx} (c : L2H.HotC X) : HotI X := fun _ _ _ _ I => c.at I
section
variable {P : Program} {w : World} {K : PySem.W.Frag}
structure TurnE (P : Program) (w : World) (K : PySem.W.Frag) (tg : Expr) (J : It) (own : List Addr) (it : Addr) (at_ : Nat → Heap → Prop) : Prop where
  hasObj : ∀ i h, at_ i h → ∀ b ∈ own, ∃ u, h.get? b = some u ∧ ∀ v, u.data ≠ .cell v
  stays : ∀ i h g, at_ i h → (∀ b ∈ own, ∀ u, h.get? b = some u → g.get? b = some u) → at_ i g
  gives : ∀ (X : Cx), X.prog = P → X.w = w → X.K = K → ∀ (i : Nat) (pins : List (Addr × Obj)) (s : Shared) (σ : L2.St) (H : Hp) (E : Value → Shared → Prop), Inv X pins σ H s → (∀ b ∈ own, FpOk X pins H b) → at_ i s.heap → J.go i H →
    wpAny (model P w) X.A (pyNext (.ref it)) (fun r s1 => ∃ u, r = some u ∧ wpAny (model P w) X.A (letOwnedTupleGo tg (.ref it) u) (fun _ s2 => ∃ x H', Inv X pins σ H' s2 ∧ RelV x u ∧ J.yld i H x H' ∧ at_ (i + 1) s2.heap ∧ ∀ b ∈ own, H' b = none) E s1) E s
  ends : ∀ (X : Cx), X.prog = P → X.w = w → X.K = K → HotI X → ∀ (i : Nat) (pins : List (Addr × Obj)) (s : Shared) (σ : L2.St) (H : Hp) (E : Value → Shared → Prop), Inv X pins σ H s → (∀ b ∈ own, FpOk X pins H b) → at_ i s.heap → J.stop i H →
    wpAny (model P w) X.A (pyNext (.ref it)) (fun r s1 => r = none ∧ Inv X pins σ H s1) E s
  iters : ∀ (A : Around) (i : Nat) (s : Shared) (Q : Value → Shared → Prop) (E : Value → Shared → Prop), at_ i s.heap → Q (.ref it) s → wpAny (model P w) A (pyIter (.ref it)) Q E s
theorem five {c z TI TO i1 i2 : Addr} (h : c ∈ [z, TI, TO, i1, i2]) : c = z ∨ c = TI ∨ c = TO ∨ c = i1 ∨ c = i2 := by simpa using h
theorem zip_turnE {elts : List Expr} {kk : Nat} {tp : Pos} {a b z TI TO i1 i2 : Addr} (D : ZipApart z TI TO i1 i2 a b) :
    TurnE P w K (.Tuple elts kk tp) (Itz K a b) [z, TI, TO, i1, i2] z (fun i h => IsZip h z TI TO .none ∧ IsPair h TI (.ref i1) (.ref i2) ∧ (∃ x y, IsPair h TO x y) ∧ h.IsListIter i1 a i ∧ h.IsListIter i2 b i) where
  hasObj := fun i h st c hc => by
    obtain ⟨sz, sI, ⟨x, y, sO⟩, ⟨u1, e1, _, d1⟩, ⟨u2, e2, _, d2⟩⟩ := st
    rcases five hc with q | q | q | q | q <;> subst q
    · exact ⟨_, sz, fun v q => nomatch q⟩
    · exact ⟨_, sI, fun v q => nomatch q⟩
    · exact ⟨_, sO, fun v q => nomatch q⟩
    · exact ⟨u1, e1, fun v q => by rw [d1] at q; cases q⟩
    · exact ⟨u2, e2, fun v q => by rw [d2] at q; cases q⟩
  stays := fun i h g st k => by
    obtain ⟨sz, sI, ⟨x, y, sO⟩, s1, s2⟩ := st
    refine ⟨k z ?_ _ sz, k TI ?_ _ sI, ⟨x, y, k TO ?_ _ sO⟩, s1.at fun o q => k i1 ?_ o q, s2.at fun o q => k i2 ?_ o q⟩ <;> simp
  gives := by
    intro X hP hw hK i pins s σ H E I hf st hg
    subst hP hw hK
    obtain ⟨sz, sI, ⟨x0, y0, sO⟩, j1, j2⟩ := st
    obtain ⟨xs, ys, x, y, lx, ly, hx, hy⟩ := hg
    obtain ⟨ux, rx, px, _⟩ := I.list lx
    obtain ⟨uy, ry, py, _⟩ := I.list ly
    obtain ⟨u, hu, ru⟩ := rx.get hx
    obtain ⟨v, hv, rv⟩ := ry.get hy
    have zlt : z < s.heap.objs.size := Heap.lt_size sz
    refine wpAny_pyNext_zip_item D sz sI sO j1 j2 px.isList py.isList (x := u) (y := v) (by simpa using hu) (by simpa using hv) fun g z1 O1 k1 k2 hT hsz hk => ?_
    refine ⟨_, rfl, wpAny_letOwnedTupleGo_zip (s := { s with heap := g }) z1 fun g' z2 sb => ?_⟩
    have T2 : g'.get? s.heap.objs.size = some { cls := .type "tuple", data := .seq #[u, v] } := (sb.2 _ (Nat.ne_of_gt zlt)).trans hT
    have fresh : ObjOk X.prog X.w (upd H s.heap.objs.size (.tup [x, y])) g' s.heap.objs.size (.tup [x, y]) := ⟨by show 2 ≤ sizeLine; decide, [u, v], .cons ru (.cons rv .nil), ⟨_, T2, rfl, _, rfl⟩⟩
    have keep : ∀ c o, c ∉ [z, TI, TO, i1, i2] → s.heap.get? c = some o → g'.get? c = some o := fun c o hb q => by
      have nz : c ≠ z := fun e => hb (by simp [e])
      exact (sb.2 c nz).trans (hk c o nz (fun e => hb (by simp [e])) (fun e => hb (by simp [e])) (fun e => hb (by simp [e])) q)
    have J1 : Inv X pins σ (upd H s.heap.objs.size (.tup [x, y])) { s with heap := g' } := I.turnedNew (t' := s.toks) (ch := [z, TI, TO, i1, i2]) keep hf (Nat.le_refl _) fresh
    refine ⟨.ref s.heap.objs.size, _, J1, rfl, ⟨_, x, y, rfl, I.hok.fresh (Nat.le_refl _), rfl, fun l hl => ?_, fun l hl => ?_⟩, ⟨z2, (sb.2 _ D.TIz).trans (hk _ _ D.TIz D.TITO D.TIi1 D.TIi2 sI), ⟨u, v, (sb.2 _ D.TOz).trans O1⟩, k1.at fun o q => (sb.2 _ D.i1z).trans q, k2.at fun o q => (sb.2 _ D.i2z).trans q⟩, fun c hc => ?_⟩
    · rw [I.list_inj hl lx]; exact hx
    · rw [I.list_inj hl ly]; exact hy
    · have clt : c < s.heap.objs.size := by
        obtain ⟨_, e1, _⟩ := j1
        obtain ⟨_, e2, _⟩ := j2
        rcases five hc with q | q | q | q | q <;> subst q
        · exact zlt
        · exact Heap.lt_size sI
        · exact Heap.lt_size sO
        · exact Heap.lt_size e1
        · exact Heap.lt_size e2
      rw [upd_ne (Nat.ne_of_lt clt)]
      exact (hf c hc).1
  ends := by
    intro X hP hw hK hot i pins s σ H E I hf st hg
    subst hP hw hK
    obtain ⟨sz, sI, ⟨x0, y0, sO⟩, j1, j2⟩ := st
    obtain ⟨xs, ys, lx, ly, stop⟩ := hg
    obtain ⟨ux, rx, px, _⟩ := I.list lx
    obtain ⟨uy, ry, py, _⟩ := I.list ly
    have n1 := rx.length
    have n2 := ry.length
    have stop' : ux.toArray[i]? = none ∨ uy.toArray[i]? = none := by
      rcases stop with q | q
      · left; simp; omega
      · right; simp; omega
    obtain ⟨x1, hx1⟩ := hot pins σ H s I
    obtain ⟨_, o1, vs1, g1, d1, c1⟩ := id hx1
    have ne_i : ∀ {j l : Addr}, s.heap.IsListIter j l i → x1 ≠ j := fun q e => by
      obtain ⟨u, eu, _, du⟩ := q
      rw [← e, g1] at eu
      cases eu
      rw [d1] at du
      cases du
      simp at c1
    refine nextZ_hot hx1 (ne_i j1) (ne_i j2) (fun e => ?_) (fun e => ?_) D sz sI sO j1 j2 px.isList py.isList stop' fun g hk => ⟨rfl, I.turnedL (t' := s.toks) (ch := [z, TI, TO, i1, i2]) (fun c o hb q => ?_) hf⟩
    · rw [e, sz] at g1
      cases g1
      cases d1
      simp at c1
    · rw [e, sO] at g1
      cases g1
      cases d1
    · exact hk c o (fun e => hb (by simp [e])) (fun e => hb (by simp [e])) (fun e => hb (by simp [e])) (fun e => hb (by simp [e])) q
  iters := fun A i s Q E st h => wpAny_pyIter_zip st.1 h
end
def PIEe (X : Cx) (pins : List (Addr × Obj)) (σ : L2.St) (tg : Expr) (R : It → Hp → Prop) (itv : Value) (s2 : Shared) : Prop :=
  ∃ (it : Addr) (own : List Addr) (at_ : Nat → Heap → Prop) (J : It) (H' : Hp), itv = .ref it ∧ Inv X pins σ H' s2 ∧ TurnE X.prog X.w X.K tg J own it at_ ∧ at_ 0 s2.heap ∧ (∀ b ∈ own, FpOk X pins H' b) ∧ R J H'
structure PIe (X : Cx) (tg iter : Expr) (wi : TI) : Prop where
  run : ∀ (pins : List (Addr × Obj)) (s : Shared) (σ : L2.St) (H : Hp) (R : It → Hp → Prop), Inv X pins σ H s → wi σ H R → wpAny (model X.prog X.w) X.A (eval iter X.env) (fun v s1 => wpAny (model X.prog X.w) X.A (pyIter v) (PIEe X pins σ tg R) X.xe s1) X.xe s
theorem PIe.imp {X : Cx} {tg l : Expr} {t t' : TI} (h : PIe X tg l t) (k : ∀ (σ : L2.St) (H : Hp) (R : It → Hp → Prop), t' σ H R → t σ H R) : PIe X tg l t' := ⟨fun pins s σ H R I q => h.run pins s σ H R I (k σ H R q)⟩
/-- zip of two lists -/
theorem zip_itE {X : Cx} {e e2 : Expr} {ta : TA} {p pos tp : Pos} {elts : List Expr} {kk : Nat} (hg : Gl X "zip") (hm : X.mg "zip" = none) (ha : PA X [e, e2] ta)
    (hs : starEach [e, e2] X.env = (false, eval e X.env) :: starEach [e2] X.env := by rfl) (hpl : (backTo pos (starEach [e2] X.env)).any (·.1) = false := by rfl) : PIe X (.Tuple elts kk tp) (.Call (.Name "zip" p) [e, e2] [] pos) (iZip X.K ta) := by
  refine ⟨fun pins s σ H R I h => ?_⟩
  refine Call_ (ld_blt I hg hm PyProof.Rows.boot_zip (PyProof.Rows.callWith_type1 (thn (ha.run pos pins s σ H _ I h) fun us s1 ⟨vs, H1, J1, r1, q1⟩ => ?_) hs hpl))
  obtain ⟨a, b, xs, ys, ev, lx, ly, q⟩ := q1
  subst ev
  obtain _ | ⟨ra, _ | ⟨rb, _ | _⟩⟩ := r1
  cases ra
  cases rb
  obtain ⟨ux, rx, px, _⟩ := J1.list lx
  obtain ⟨uy, ry, py, _⟩ := J1.list ly
  have alt : a < s1.heap.objs.size := px.lt
  have blt : b < s1.heap.objs.size := py.lt
  refine call_zip_2 px.isList py.isList fun g sz sI sO j1 j2 hsz hk => wpAny_pyIter_zip sz ?_
  have J2 : Inv X pins σ H1 { s1 with heap := g } := J1.kept (t' := s1.toks) hk
  refine ⟨s1.heap.objs.size + 4, [s1.heap.objs.size + 4, s1.heap.objs.size + 2, s1.heap.objs.size + 3, s1.heap.objs.size, s1.heap.objs.size + 1], _, _, H1, rfl, J2, zip_turnE (PySem.W.ktu_apart s1.heap.objs.size a b alt blt), ⟨sz, sI, ⟨_, _, sO⟩, j1, j2⟩, fun c hc => ?_, q⟩
  have le : s1.heap.objs.size ≤ c := by
    rcases five hc with e | e | e | e | e <;> subst e
    · exact Nat.le_add_right _ _
    · exact Nat.le_add_right _ _
    · exact Nat.le_add_right _ _
    · exact Nat.le_refl _
    · exact Nat.le_add_right _ _
  exact J1.fpOk le (J1.hok.fresh le)
/-- names in a pair's places -/
theorem tupE {X : Cx} {es : List Expr} {k : Nat} {t : TGs} {n : Nat} {pos : Pos} (hot : HotI X) (h : PGs X es t) (hn : (assignEach es X.env).length = n := by rfl) (hst : (assignEach es X.env).findIdx? (·.1) = none := by rfl) : PG X (.Tuple es k pos) (gTup X.K n t) := by
  refine ⟨fun pins s σ H v u Q I r q => ?_⟩
  obtain ⟨a, xs, ev, hq, hl, q⟩ := q
  subst ev
  cases r
  obtain ⟨us, rv, ht, _⟩ := I.tuple hq
  obtain ⟨x1, hx1⟩ := hot pins σ H s I
  refine unpackT_hot hx1 ht (by simp [hn, ← hl, rv.length]) hst fun g hx => ?_
  have J : Inv X pins σ H { s with heap := g } := I.kept (t' := s.toks) fun b o e => hx b o (Nat.ne_of_lt (Heap.lt_size e)) e
  exact h.run pins _ σ H xs _ Q J (by simpa using rv) q
end DL
set_option maxHeartbeats 2000000
/-! E layer, part 3: a list comprehension while an exception is handled. -/
namespace DL
open PySem PySem.Spec PyProof.Rows L2 HotX
section
variable {X : Cx}
/-- the block of a comprehension knows the handled exception as its def does -/
theorem HotI.blk {pins : List (Addr × Obj)} {σ : L2.St} {H : Hp} {s : Shared} {scope : Scope} {ce : Env} {fp : List Addr} (hot : L2H.HotC X) (I : Inv X pins σ H s) (hx : ∀ b ∈ fp, FpOk X pins H b) : HotI (X.blk s H scope ce fp) := by
  obtain ⟨p, ⟨hh, vs1, e1, c1⟩, hp⟩ := hot
  have hp' : p ∈ X.pn ++ pins := List.mem_append_left _ hp
  obtain ⟨g1, f1, n1, m1, _⟩ := I.pin p hp'
  intro pins' σ' H' s' J
  refine ⟨p.1, hh, p.2, vs1, J.base.keep p.1 p.2 g1 f1 (fun hm => ?_) fun hm => ?_, e1, c1⟩
  · have hm : p.1 ∈ frs X.stack := hm
    rcases List.mem_cons.mp (I.stkSub p.1 hm) with z | z
    · exact n1 z
    · exact m1 z
  · exact (hx p.1 hm).2.2.2.2.2 p hp' rfl
theorem hot_lc {pins : List (Addr × Obj)} {s : Shared} {σ : L2.St} {H : Hp} {Q : VK} {elt tg iter : Expr} {ifs : List Expr} {scope : Scope} {own : List (Str × Nat)} {pos pos' : Pos} {wi : TI} {g : TG} {tt : TT} {te : TE} {use : Option (Value → Sem Unit)} {Qf : Value → Shared → Prop}
    (hot : L2H.HotC X) (hN : X.N.Nodup) (I : Inv X pins σ H s) (hi : PIe X tg iter wi) (ok : BlkOk X.N X.env.scope scope own)
    (hg : ∀ (s : Shared) (H : Hp) (C : Addr) (cl : List (Str × Addr)) (fp : List Addr), HotI (X.blk s H scope (compEnvC scope cl C X.env) fp) → PG (X.blk s H scope (compEnvC scope cl C X.env) fp) tg g)
    (ht : ∀ (s : Shared) (H : Hp) (C : Addr) (cl : List (Str × Addr)) (fp : List Addr), PTs (X.blk s H scope (compEnvC scope cl C X.env) fp) ifs tt)
    (he : ∀ (s : Shared) (H : Hp) (C : Addr) (cl : List (Str × Addr)) (fp : List Addr), PE (X.blk s H scope (compEnvC scope cl C X.env) fp) elt te) (hs : ∀ x, foldedSetIterable iter X.env x = pure x)
    (h : tLc wi g tt te (own.map (·.2)) σ H Q) (fin : ∀ (L C : Addr) (s' : Shared) (m : Str → Option Value) (H' : Hp), Inv X pins σ H' s' → Q (.ref L) H' → s'.heap.Ns C m → FpOk X pins H' C → compPost (model X.prog X.w) X.A X.xe use Qf (.ref L) C (.ok .next) s') :
    wpAny (model X.prog X.w) X.A (comprehension (.ListComp elt [⟨tg, iter, ifs, 0⟩] scope pos) scope X.env pos' (newList []) false (eval iter X.env) use) Qf X.xe s := by
  have caps : ∀ y ∈ scope.names, y.2 = .free → ∃ c, X.env.cells.lookup y.1 = some c := fun y hy e => I.ok.has _ ((ok.free y hy e).elim .inl .inr)
  refine wpAny_comprehension_free (use := use) rfl hs (closure_ok caps) ok.kind (fun y hy e => by rw [ok.uniq y hy, e]) (thn (hi.run pins s σ H _ I h) fun xv s1 hx => thn hx fun itv s2 h2 => ?_)
  obtain ⟨it, fp, tn, J, H2, e, I2, T, st2, f2, q⟩ := h2
  subst e
  refine wpAny_newObj_type (newEnv_comp ?_) (by show 0 ≤ sizeLine; decide)
  generalize hL : s2.heap.objs.size = L
  obtain ⟨W, ⟨m0, w0⟩, turn⟩ := q L (I2.hok.fresh (Nat.le_of_eq hL))
  generalize hs3 : ({ s2 with heap := s2.heap.push { cls := .type "list", data := .seq ([] : List Value).toArray } } : Shared) = s3
  have h3 : s3.heap = s2.heap.push { cls := .type "list", data := .seq ([] : List Value).toArray } := by rw [← hs3]
  have up3 : ∀ b o, s2.heap.get? b = some o → s3.heap.get? b = some o := fun b o e => by rw [h3]; exact Heap.get?_push_of_some _ e
  have I3 : Inv X pins σ (upd H2 L (.lst [])) s3 := by
    rw [← hs3]
    refine I2.laid (t' := s2.toks) (fun b o e => Heap.get?_push_of_some _ e) (Nat.le_of_eq hL) ⟨Nat.zero_le _, [], 0, .nil, ?_⟩
    rw [← hL]
    exact Heap.get?_push_size _ rfl
  have sz : ∀ b ∈ fp, b < s2.heap.objs.size := fun b hb => by
    obtain ⟨o, e, _⟩ := T.hasObj _ _ st2 b hb
    exact Heap.lt_size e
  have f3 : ∀ b ∈ fp, FpOk X pins (upd H2 L (.lst [])) b ∧ b < s3.heap.objs.size := fun b hb => by
    have lt := sz b hb
    refine ⟨⟨?_, (f2 b hb).2⟩, by rw [h3, Heap.size_push]; exact Nat.lt_succ_of_lt lt⟩
    rw [upd_ne (by rw [← hL]; exact Nat.ne_of_lt lt)]
    exact (f2 b hb).1
  have st3 : tn 0 s3.heap := T.stays _ _ _ st2 fun b _ o e => up3 b o e
  have I4 := block_start I3 ok hN f3
  generalize hcl : cellsFrom (s3.heap.objs.size + 1) scope.names (cloFrom X.env.cells scope.names []) = cl at I4
  have hotB := HotI.blk (scope := scope) (ce := compEnvC scope cl s3.heap.objs.size X.env) (fp := fp) hot I3 fun b hb => (f3 b hb).1
  have pg := hg s3 (upd H2 L (.lst [])) s3.heap.objs.size cl fp hotB
  have pt := ht s3 (upd H2 L (.lst [])) s3.heap.objs.size cl fp
  have pe := he s3 (upd H2 L (.lst [])) s3.heap.objs.size cl fp
  show codeAny _ _ (.compStart (.ListComp elt [⟨tg, iter, ifs, 0⟩] scope pos) 0 (.ref it) (.ref L) (compEnvC scope cl s3.heap.objs.size X.env)) (compPost (model X.prog X.w) X.A X.xe use Qf (.ref L) s3.heap.objs.size) { s3 with heap := pushCells (s3.heap.push { cls := .type "dict", data := .dict #[] }) scope.names }
  have nfp : ∀ b ∈ fp, (upd H2 L (.lst [])) b = none := fun b hb => (f3 b hb).1.1
  generalize hce : compEnvC scope cl s3.heap.objs.size X.env = ce at I4 pg pt pe hotB ⊢
  have cL : ce.locals = s3.heap.objs.size := by
    subst hce
    rfl
  generalize hH3 : upd H2 L (.lst []) = H3 at I3 I4 pg pt pe w0 nfp f3 hotB
  generalize hs4 : ({ s3 with heap := pushCells (s3.heap.push { cls := .type "dict", data := .dict #[] }) scope.names } : Shared) = s4 at I4 ⊢
  have st4 : tn 0 s4.heap := T.stays _ _ _ st3 fun b _ o e => by
    rw [← hs4]
    exact pushCells_keeps _ _ _ _ (Heap.get?_push_of_some _ e)
  have still : ∀ {σ' : L2.St} {H' : Hp} {s' : Shared}, Inv (X.blk s3 H3 scope ce fp) [] σ' H' s' → (∀ b ∈ fp, H' b = none) → ∀ b ∈ fp, FpOk (X.blk s3 H3 scope ce fp) [] H' b := fun {σ' H' s'} I' hn b hb =>
    ⟨hn b hb, (I'.ok.exf b hb).1, I'.ok.exfs b hb, .inl hb, fun x c e => (I'.ok.exf b hb).2 x c e, fun p hp => absurd (show p ∈ ([] : List (Addr × Obj)) ++ [] from hp) (by simp)⟩
  refine codeAny_compStart_list ?loop (T.iters X.A 0 _ _ _ st4 ?loop)
  refine compLoop_any (fun n s' => ∃ i H', Inv (X.blk s3 H3 scope ce fp) [] (wipe σ (own.map (·.2))) H' s' ∧ tn i s'.heap ∧ (∀ b ∈ fp, H' b = none) ∧ W i n H') ?_ m0 ⟨0, H3, I4, st4, nfp, w0⟩
  rintro n s5 ⟨i, H5, I5, st5, n5, w5⟩
  rcases turn i n H5 w5 with ⟨stop, qq⟩ | ⟨go, Nx, hNx, step⟩
  · refine thnF (T.ends (X.blk s3 H3 scope ce fp) rfl rfl rfl hotB i [] s5 _ H5 (fun _ _ => False) I5 (still I5 n5) st5 stop) fun r s6 hr6 => ?_
    obtain ⟨hr, I6⟩ := hr6
    subst hr
    have apart : ∀ b ∈ fp, (b ∈ X.ex ∨ X.s_0.heap.objs.size ≤ b) ∧ b ≠ X.env.locals ∧ (∀ x c, X.env.cells.lookup x = some c → c ≠ b) ∧ ∀ p ∈ X.pn ++ pins, p.1 ≠ b := fun b hb => by
      obtain ⟨z0, z1, z2, z3, z4, z5⟩ := (f3 b hb).1
      exact ⟨z3, z1, z4, z5⟩
    have I7 : Inv X pins σ H5 s6 := I3.call' (ch := fp) I6.os I6.base I6.hok I6.bare apart
    have nC : H5 s3.heap.objs.size = none := by
      have z : H5 ce.locals = none := I6.free
      rw [cL] at z
      exact z
    obtain ⟨m, hn, _⟩ := I6.loc
    have hn : s6.heap.Ns ce.locals m := hn
    rw [cL] at hn
    exact fin L s3.heap.objs.size s6 m H5 I7 qq hn (I3.fpOk (Nat.le_refl _) nC)
  · refine thnF (T.gives (X.blk s3 H3 scope ce fp) rfl rfl rfl i [] s5 _ H5 (fun _ _ => False) I5 (still I5 n5) st5 go) fun r s6 hr6 => ?_
    obtain ⟨u, hr, h6⟩ := hr6
    subst hr
    refine thnF h6 fun _ s7 h7 => ?_
    obtain ⟨x, H7, I7, r7, y7, st7, n7⟩ := h7
    have I7' := I7.pinned (still I7 n7) (T.hasObj _ _ st7)
    refine thnF (pg.run _ s7 _ H7 x u _ I7' r7 (step x H7 y7)) fun _ s8 h8 => ?_
    obtain ⟨σ8, H8, I8, hw8, q8⟩ := h8
    refine thnF (pt.run _ s8 σ8 H8 _ I8 q8) fun b s9 h9 => ?_
    obtain ⟨H9, I9, q9⟩ := h9
    have back : ∀ {s' : Shared} {H' : Hp}, Inv (X.blk s3 H3 scope ce fp) ([] ++ pinsAt fp s7.heap) σ8 H' s' → Nx H' → ∃ m, m < n ∧ ∃ i H', Inv (X.blk s3 H3 scope ce fp) [] (wipe σ (own.map (·.2))) H' s' ∧ tn i s'.heap ∧ (∀ b ∈ fp, H' b = none) ∧ W i m H' := fun {s' H'} I' nx => by
      obtain ⟨m', hm, w'⟩ := hNx H' nx
      have pinned : ∀ b ∈ fp, ∀ o, s7.heap.get? b = some o → s'.heap.get? b = some o ∧ H' b = none := fun b hb o e => by
        have z := I'.pin (b, o) (List.mem_append_right _ (List.mem_append_right _ (mem_pinsAt hb e)))
        exact ⟨z.1, z.2.1⟩
      have hl : (wipe σ (own.map (·.2))).length = σ8.length := by rw [← hw8, wipe_length]
      refine ⟨m', hm, i + 1, H', (I'.unpinned (pins := [])).weak hl (fun j v e => ?_), T.stays _ _ _ st7 fun b hb o e => (pinned b hb o e).1, fun b hb => ?_, w'⟩
      · rw [← hw8] at e
        exact (wipe_some e).1
      · obtain ⟨o, e, _⟩ := T.hasObj _ _ st7 b hb
        exact (pinned b hb o e).2
    cases b with
    | false =>
      simp only [Bool.false_eq_true, if_false] at q9 ⊢
      exact back I9 q9
    | true =>
      simp only [if_true] at q9 ⊢
      refine thnF (pe.run _ s9 σ8 H9 _ I9 q9) fun z s10 h10 => ?_
      obtain ⟨yv, H10, I10, r10, acc, hD10, hz10, nx⟩ := h10
      exact app_ok (X := X.blk s3 H3 scope ce fp) I10 hD10 hz10 r10 fun s11 I11 => back I11 nx
/-- y = [..] -/
theorem hot_setLc {i : Nat} {y : Str} {py : Pos} {elt tg iter : Expr} {ifs : List Expr} {scope : Scope} {own : List (Str × Nat)} {pos spos : Pos} {wi : TI} {g : TG} {tt : TT} {te : TE} (hot : L2H.HotC X) (hN : X.N.Nodup) (hy : X.N[i]? = some y) (hyl : X.env.scope.names.lookup y = some .local)
    (hsw : swapsWith (.ListComp elt [⟨tg, iter, ifs, 0⟩] scope pos) (some (.Name y py)) spos.line X.env = pure true) (hi : PIe X tg iter wi) (ok : BlkOk X.N X.env.scope scope own)
    (hg : ∀ (s : Shared) (H : Hp) (C : Addr) (cl : List (Str × Addr)) (fp : List Addr), HotI (X.blk s H scope (compEnvC scope cl C X.env) fp) → PG (X.blk s H scope (compEnvC scope cl C X.env) fp) tg g)
    (ht : ∀ (s : Shared) (H : Hp) (C : Addr) (cl : List (Str × Addr)) (fp : List Addr), PTs (X.blk s H scope (compEnvC scope cl C X.env) fp) ifs tt)
    (he : ∀ (s : Shared) (H : Hp) (C : Addr) (cl : List (Str × Addr)) (fp : List Addr), PE (X.blk s H scope (compEnvC scope cl C X.env) fp) elt te) (hs : ∀ x, foldedSetIterable iter X.env x = pure x := by intro _; rfl) :
    PS X (.Assign [.Name y py] (.ListComp elt [⟨tg, iter, ifs, 0⟩] scope pos) spos) (tAsg (tLc wi g tt te (own.map (·.2))) (gName i)) := by
  refine ⟨fun pins s σ H D I q => ?_⟩
  rw [exec_Assign_Name_used _ _ _ _ hsw]
  refine wpAny_bind (wpAny_standAt (wpAny_bind ?_))
  show wpAny _ X.A (do let _ ← comprehension (.ListComp elt [⟨tg, iter, ifs, 0⟩] scope pos) scope X.env (firstIterPos [⟨tg, iter, ifs, 0⟩] pos) (newList []) false (eval iter X.env) (some (assign (.Name y py) X.env))) _ _ s
  have q : tLc wi g tt te (own.map (·.2)) σ H (fun x H1 => gName i x σ H1 D.nx) := q
  refine wpAny_bind (thn (hot_lc (Qf := fun _ s' => SP X pins D .next s') hot hN I hi ok hg ht he hs q fun L C s' m H' J qq hn f => ?_) fun _ s' z => wpAny_pure (wpAny_pure z))
  show wpAny _ _ (assign (.Name y py) X.env (.ref L)) _ _ _
  refine wpAny_assign_Name (store_ok2 (v := V.ref L) J hN hy (.inl hyl) rfl (fun s2 J2 h2 => ?_) (.inr hyl))
  obtain ⟨a, sb, ha⟩ := h2
  obtain ⟨k0, k1, k2, k3, k4, k5⟩ := f
  have ne : C ≠ a := by
    rcases ha with z | z
    · rw [z]
      exact k1
    · exact fun e => k4 y a z e.symm
  refine ⟨m, hn.sameBut sb ne, fun g3 sb3 => ⟨_, H', ?_, qq⟩⟩
  exact J2.turned (t' := s2.toks) (fun b o hb e => (sb3.2 b hb).trans e) k0 k1 k3 k4 k5
end
end DL
set_option maxHeartbeats 2000000
/-! E layer, part 4: defs called with a held exception. -/
namespace DL
open PySem PySem.Spec PyProof.Rows L2 HotX
/-! ### expressions -/
section
variable {X : Cx} {W : WS} {a b e e2 : Expr} {fa fb : SE} {apos pos : Pos}
theorem de_split (ha : PE X a (tE X.K W fa)) (hb : PE X b (tE X.K W fb)) (hs : starEach [b] X.env = [(false, eval b X.env)] := by rfl) (hbase : attributeBase a "split" X.env (eval a X.env) = eval a X.env := by rfl) (hline : (apos.endLine == pos.line) = true := by rfl) :
    PE X (.Call (.Attribute a "split" apos) [b] [] pos) (tE X.K W (eSplit fa fb)) := by
  refine PE.impI (pe_m1 F.slot_str_split F.type_str_split mt_split ha hb hs hbase hline) fun pins s σ H Q I q => ?_
  obtain ⟨r, as, G, st, sr, er, k⟩ := q
  refine ⟨r, as, G, st, sr, er, RK.seq k fun x s1 v as1 G1 H1 _ p1 e1 v1 k1 => ?_⟩
  split at k1
  · next z _ =>
    cases v1
    refine ⟨⟨z, rfl⟩, r, as1, G1, s1, sr.mono p1, e1, RK.seq k1 fun y s2 u as2 G2 H2 _ p2 e2 v2 k2 => ?_⟩
    split at k2
    · next z2 _ =>
      cases v2
      split at k2
      · next hz =>
        obtain ⟨h1, h2, h3⟩ := hz
        refine ⟨z, z2, rfl, rfl, h1, Nat.le_trans h2 (by decide), fun p hp => ?_⟩
        exact fin_frz (σ := σ) (ds := (Txt.split z z2).map .str) e2 k2 hp (by rw [List.length_map]; exact Nat.le_trans h3 (by decide)) (RpAll.strs _)
      · exact k2.elim
    · exact k2.elim
  · exact k1.elim
/-- zip of two lists -/
def zipOfL : List Dv → Option Wk
  | [.d (.list xs), .d (.list ys)] => some (pairs xs ys, none, false)
  | _ => none
def iZpL (fa : SA) : SI := fun r st => (fa r st).bind fun xs s1 => match zipOfL xs with
  | some z => .ok z s1
  | none => .stuck
theorem di_zipH {fa : SA} {p tpos : Pos} {elts : List Expr} {kk : Nat} (hg : Gl X "zip") (hm : X.mg "zip" = none) (ha : PA X [e, e2] (tA X.K W fa)) (hs : starEach [e, e2] X.env = (false, eval e X.env) :: starEach [e2] X.env := by rfl) (hpl : (backTo pos (starEach [e2] X.env)).any (·.1) = false := by rfl) :
    PIe X (.Tuple elts kk tpos) (.Call (.Name "zip" p) [e, e2] [] pos) (tJ X.K W (iZpL fa)) := by
  refine PIe.imp (zip_itE hg hm ha hs hpl) fun σ H R q => ?_
  obtain ⟨r, as, G, st, sr, er, k⟩ := q
  refine ⟨r, as, G, st, sr, er, RK.seq k fun xs s1 vs as1 G1 H1 _ p1 e1 v1 k1 => ?_⟩
  split at k1
  · next z ez =>
    unfold zipOfL at ez
    split at ez
    · cases ez
      cases v1 with
      | cons h1 t1 => cases t1 with
        | cons h2 t2 =>
          cases t2
          cases h1 with
          | lst q1 l1 t1 => cases h2 with
            | lst q2 l2 t2 =>
              refine ⟨_, _, _, _, rfl, SqL.of (e1.sub _ _ q1), SqL.of (e1.sub _ _ q2), k1 _ as1 G1 H1 (.refl _ _ _) e1 ⟨ItR.zipL q1 q2 t1 t2, ?_⟩⟩
              rw [pairs_len]
              exact Nat.le_trans (Nat.min_le_left _ _) l1
    · cases ez
  · exact k1.elim
theorem dg_tpH {es : List Expr} {k : Nat} {is : List Nat} (hc : HotI X) (h : PGs X es (gNs is)) (hn : (assignEach es X.env).length = is.length := by rfl) (hst : (assignEach es X.env).findIdx? (·.1) = none := by rfl) : PG X (.Tuple es k pos) (gT X.K (.tp is)) := tupE hc h hn hst
theorem ds_setLcH {elt tg iter : Expr} {ifs : List Expr} {scope : Scope} {own : List (Str × Nat)} {fi : SI} {t : Tgt} {ft fe : SE} {i : Nat} {y : Str} {py spos : Pos} (hot : L2H.HotC X) (hN : X.N.Nodup) (hy : X.N[i]? = some y) (hyl : X.env.scope.names.lookup y = some .local)
    (hsw : swapsWith (.ListComp elt [⟨tg, iter, ifs, 0⟩] scope pos) (some (.Name y py)) spos.line X.env = pure true) (hi : PIe X tg iter (tJ X.K W fi)) (ok : BlkOk X.N X.env.scope scope own)
    (hg : ∀ (s : Shared) (H : Hp) (C : Addr) (cl : List (Str × Addr)) (fp : List Addr), HotI (X.blk s H scope (compEnvC scope cl C X.env) fp) → PG (X.blk s H scope (compEnvC scope cl C X.env) fp) tg (gT X.K t))
    (ht : ∀ (s : Shared) (H : Hp) (C : Addr) (cl : List (Str × Addr)) (fp : List Addr), PTs (X.blk s H scope (compEnvC scope cl C X.env) fp) ifs (tT X.K W0 ft))
    (he : ∀ (s : Shared) (H : Hp) (C : Addr) (cl : List (Str × Addr)) (fp : List Addr), PE (X.blk s H scope (compEnvC scope cl C X.env) fp) elt (tE X.K W0 fe)) (hts : ∀ i ∈ t.slots, i ∈ own.map (·.2) := by decide) (hs : ∀ x, foldedSetIterable iter X.env x = pure x := by intro _; rfl) :
    PS X (.Assign [.Name y py] (.ListComp elt [⟨tg, iter, ifs, 0⟩] scope pos) spos) (tS X.K W (sAsg (eLc fi t ft fe (own.map (·.2))) (.nm i))) :=
  PS.imp (hot_setLc hot hN hy hyl hsw hi ok hg ht he hs) fun _ _ _ q => asg_r (t := .nm i) (fun _ z => lc_frz hts z) q
/-! ### isinstance of a held exception -/
/-- answers b for the exception at a -/
def eIsE (a : Addr) (b : Bool) (f : SE) : SE := fun r st => (f r st).bind fun x s1 => match x with
  | .e a' => if a' = a then .ok (.d (.bool b)) s1 else .stuck
  | _ => .stuck
theorem call_isP {ad D : Addr} {oe : Obj} (hp : (ad, oe) ∈ X.pn) (C : ExcC X.K D) (hz : Zc (.ref D) none oe) (hf : ∃ vs, oe.data = .fields vs) : CallR X (.builtin "isinstance") (rIsE X.K D ad) := by
  intro pins s σ H xs us Q I r h
  obtain ⟨c, cv, v, rfl, hcv, ev, q⟩ := h
  obtain ⟨u1, u2, rfl, r1, r2⟩ := vals2 r
  cases r1
  have eu := hcv _ r2
  subst eu
  obtain ⟨ga, _⟩ := I.pin (ad, oe) (List.mem_append_left _ hp)
  obtain ⟨vs, hv⟩ := hf
  have J : PySem.W.InstAt s.heap ad oe D none := by
    obtain ⟨oc, od, oda, osl⟩ := oe
    obtain ⟨h1, h2⟩ := hz
    dsimp only at h1 h2 hv
    subst h1 h2 hv
    exact ⟨ga, rfl, rfl, trivial⟩
  exact PySem.W.kia_one (PySem.W.handS_kitx_exc C.hg C.hk C.hs C.hd C.ha C.hn C.ht C.hm) I.kIn J ev (fun z => nomatch z) fun tk => ⟨.bl v, H, I.kept (t' := tk) fun _ _ z => z, rfl, q⟩
theorem isE_read {K : PySem.W.Frag} {ad D : Addr} {cv : Value} {c : V} {v : Bool} {tc : TE} {ta : TA} {σ : L2.St} {H : Hp} {Q : VK} (hc : ∀ u, RelV c u → u = cv) (hv : PySem.W.kitOne K (.ref D) cv = some v) (q : tE K W (eIsE ad v fa) σ H Q) : tE K W fa σ H fun x H1 => x = .ref ad ∧ rIsE K D ad [x, c] H1 Q := by
  obtain ⟨r, as, G, st, sr, er, k⟩ := q
  refine ⟨r, as, G, st, sr, er, RK.seq k fun x s1 w as1 G1 H1 _ p1 e1 v1 k1 => ?_⟩
  cases x with
  | e a' =>
    cases v1
    by_cases h : a' = ad
    · subst h
      simp only [if_true] at k1
      exact ⟨rfl, c, cv, v, rfl, hc, hv, k1 _ as1 G1 H1 (.refl _ _ _) e1 (.bl v)⟩
    · simp only [if_neg h] at k1
      exact k1.elim
  | d _ => exact k1.elim
  | o _ => exact k1.elim
  | s _ => exact k1.elim
theorem de_isE {ad D : Addr} {oe : Obj} {c : V} {cv : Value} {v : Bool} {y : Str} {q1 q2 : Pos} (hp : (ad, oe) ∈ X.pn) (C : ExcC X.K D) (hz : Zc (.ref D) none oe) (hf : ∃ vs, oe.data = .fields vs) (hg : Gl X "isinstance") (hm : X.mg "isinstance" = none) (ha : PE X a (tE X.K W fa)) (hy : PE X (.Name y q2) (tC c)) (hc : ∀ u, RelV c u → u = cv) (hv : PySem.W.kitOne X.K (.ref D) cv = some v)
    (he : starEach [a, .Name y q2] X.env = (false, eval a X.env) :: starEach [.Name y q2] X.env := by rfl) (hs2 : starEach [.Name y q2] X.env = (false, eval (.Name y q2) X.env) :: starEach [] X.env := by rfl) (hpl : (backTo pos (starEach [.Name y q2] X.env)).any (·.1) = false := by rfl) :
    PE X (.Call (.Name "isinstance" q1) [a, .Name y q2] [] pos) (tE X.K W (eIsE ad v fa)) := by
  refine PE.impI (pe_callB (call_isP hp C hz hf) hg hm bt_isinstance (pa_cons ha (pa_cons hy pa_nil hs2) he) (by decide) (by decide) he hpl) fun pins s σ H Q I q => ?_
  obtain ⟨r, as, G, st, sr, er, k⟩ := isE_read (tc := tC c) (ta := tNil) hc hv q
  refine ⟨r, as, G, st, sr, er, ?_⟩
  cases hfa : fa r st with
  | stuck => rw [hfa] at k; exact k.elim
  | exc z s1 => rw [hfa] at k; exact k
  | ok x s1 =>
    rw [hfa] at k
    intro w as1 G1 H1 p1 e1 v1
    exact (k w as1 G1 H1 p1 e1 v1).2
end
end DL
set_option maxHeartbeats 2000000
/-! E layer, part 5: a def called with the held exception; try .. except .. return g(e). -/
namespace DL
open PySem PySem.Spec PyProof.Rows L2 HotX
/-- what a def of one name does with an exception of the class D that is handled and that it gets -/
structure FnE (P : Program) (w : World) (K : PySem.W.Frag) (mg : Str → Option Value) (base : Heap) (CX : CXT) (k : Nat) (f : Addr) (fd : FuncData) (y : Str) (D : Addr) (sp : Addr → Sp) : Prop where
  one : ∀ a vs H Q E, sp a vs H Q E → vs = [.ref a]
  run : ∀ (A : Around) (outer : List Env) (s : Shared) (H : Hp) (args : Args) (us : List Value) (vs : List V) (Q : VK) (E : XK) (p : Addr × Obj), L2H.RoomH k A → L2H.Hot1 A p → Zc (.ref D) none p.2 → L2H.PinOk outer H s p → Env0 P w K mg base A outer s H → BindsTo s fd args (([y] : List Str).zip us) → Vals vs us → sp p.1 vs H Q E →
    codeAny (model P w) A (.call (.ref f) args) (CR CX outer P w H s Q E) s
section
variable {CX : CXT} {P : Program} {w : World} {K : PySem.W.Frag} {mg : Str → Option Value} {base : Heap} {k : Nat} {f D : Addr} {x qual y : Str} {params : Arguments} {body : List Stmt} {scope : Scope} {fd : FuncData} {N : List Str} {sp : Addr → Sp}
theorem fnE_of (F : FunD K x qual params body scope [] [] f fd) (S : FnScope N [y] scope) (one : ∀ a vs H Q E, sp a vs H Q E → vs = [.ref a])
    (hb : ∀ (cd : Value) (A : Around) (outer : List Env) (s : Shared) (H : Hp) (vs : List V) (Q : VK) (E : XK) (p : Addr × Obj), L2H.Hot1 A p → Zc (.ref D) none p.2 → L2H.RoomH k (A.deeper (envOfC qual scope s.heap.objs.size f cd)) → sp p.1 vs H Q E →
      ∃ t, PSs (L2H.cxH CX P w K mg base N qual scope f cd A outer s H E p) body t ∧ t { nx := fun _ H' => Q .non H', rt := Q } (L2.start N vs) H) : FnE P w K mg base CX (k + 1) f fd y D sp := by
  obtain ⟨oc, od, dV, kV, doc, pm, an, cdv, ct, osl, rfl, lk, hcd, _, _⟩ := F.ex
  refine ⟨one, fun A outer s H args us vs Q E p hr hot hz hpin e0 hbind r hsp => ?_⟩
  have hl : vs.length = ([y] : List Str).length := by rw [one _ _ _ _ _ hsp]; rfl
  have kin : K.In s.heap := e0.mod.kin.keeps fun b o e => (e0.bs b o e).1
  have lim : s.heap.NoLimit := e0.mod.nolimit.keeps fun b o e => (e0.bs b o e).1
  have kinds : ∀ z ∈ ([y] : List Str).zip us, scope.names.lookup z.1 = some .local ∨ (scope.names.lookup z.1 = some .cell ∧ ((cellsFrom (s.heap.objs.size + 1) scope.names []).lookup z.1).isSome = true) := fun ⟨n, v⟩ hz => by
    rcases S.par n (List.of_mem_zip hz).1 with q | q
    · exact .inl q
    · exact .inr ⟨q, PySem.W.cellsFrom_some _ _ _ (.inl q)⟩
  refine codeAny_call_function hr.depth (kin _ _ lk) rfl S.co S.gen rfl (PySem.W.codeRec_of kin hcd) (hbind _ _ _ _ ?_)
  refine wpAny_newFunctionEnv_cells S.kind kinds fun env he s1 hc1 => ?_
  subst he
  refine ⟨lim.keeps hc1.toInCall.keep, codeAny_func ?_⟩
  obtain ⟨t, ht, hq⟩ := hb cdv A outer s H vs Q E p hot hz (hr.deeper _) hsp
  have J : Inv (L2H.cxH CX P w K mg base N qual scope f cdv A outer s H E p) [] (L2.start N vs) H s1 := L2H.inv_startH S hpin e0 hl r hc1
  refine wpAny_mono (ht.run [] s1 (L2.start N vs) H _ J hq) (fun fl s' hs => ?_) fun e s' hs => hs
  cases fl with
  | ret u =>
    obtain ⟨v, σ', H', J', rv, q⟩ := hs
    exact ⟨v, H', J'.os, J'.bare, J'.base, J'.hok, rv, q⟩
  | next =>
    obtain ⟨σ', H', J', q⟩ := hs
    exact ⟨.non, H', J'.os, J'.bare, J'.base, J'.hok, rfl, q⟩
  | brk => exact (hs.choose_spec.choose_spec.2 : False).elim
  | cont => exact (hs.choose_spec.choose_spec.2 : False).elim
end
section
variable {X : Cx} {CX : CXT} {k : Nat} {f D : Addr} {fd : FuncData} {y x : Str} {sp : Addr → Sp} {E : L2.St → XK} {q pos : Pos} {e : Expr} {t : TA} {ad : Addr} {oe : Obj}
theorem pe_callE (F : FnE X.prog X.w X.K X.mg X.base CX k f fd y D sp) (hr : L2H.RoomH k X.A) (hot : L2H.Hot1 X.A (ad, oe)) (hp : (ad, oe) ∈ X.pn) (hz : Zc (.ref D) none oe) (hg : Gl X x) (hm : X.mg x = some (.ref f)) (hk : PySem.W.keepIn X.K (.ref f) = true) (hb : Binds X.K fd [y] []) (hx : ∀ σ, PassesAt CX X σ (E σ))
    (ha : PA X [e] t) (hdb : (x == ("__debug__" : Str)) = false := by decide) (he : starEach [e] X.env = (false, eval e X.env) :: starEach [] X.env := by rfl) (hpl : (backTo pos (starEach [] X.env)).any (·.1) = false := by rfl) :
    PE X (.Call (.Name x q) [e] [] pos) (tCallS (sp ad) E t) := by
  refine ⟨fun pins s σ H Q I h => ?_⟩
  refine wpAny_Call_Name_kw (ld_glob I hg hm ?_ hdb)
  refine PySem.W.callWith_K (h₀ := X.base) I.ok.mod.kin hk (thn (ha.run pos pins s σ H _ I h) fun us s1 h1 => ?_) he hpl
  obtain ⟨vs, H1, J, r, q⟩ := h1
  refine ⟨J.kIn, ?_⟩
  have hl : us.length = ([y] : List Str).length := by rw [← r.length, F.one _ _ _ _ _ q]; rfl
  have b := hb s1 us J.kIn (by rw [List.append_nil]; exact hl)
  rw [List.append_nil] at b
  have P1 := J.pin (ad, oe) (List.mem_append_left _ hp)
  have hpin : L2H.PinOk X.stack H1 s1 (ad, oe) := ⟨P1.1, P1.2.1, fun hm => (List.mem_cons.mp (J.stkSub ad hm)).elim P1.2.2.1 P1.2.2.2.1, P1.2.2.2.2⟩
  refine wpAny_call (codeAny_mono (F.run X.A X.stack s1 H1 ⟨us, []⟩ us vs Q (E σ) (ad, oe) hr hot hz hpin J.env0 b r q) fun r s' hq => ?_)
  cases r with
  | error z => exact hx σ pins H1 s1 z s' J hq
  | ok fl => cases fl with
    | ret u => exact J.after hq
    | _ => exact False.elim hq
end
/-- of the def g of one name: what it answers for a held exception of the class c -/
def spE (K : PySem.W.Frag) (ca : Str → Addr) (g : Addr → SF) : Addr → Sp := fun a vs H Q E => vs = [.ref a] ∧ ∃ as G st, ER K as G H st ∧ RK K as G H (fun c H' => E (.ref (ca c)) none H') Dv V (VR K) Q (g a [.e a] st)
theorem spE_body {K : PySem.W.Frag} {ca : Str → Addr} {N : List Str} {F : Addr → SS} {a : Addr} {vs : List V} {H : Hp} {Q : VK} {E : XK} (h : spE K ca (fun a => fnD N.length (F a)) a vs H Q E) :
    tS K (fun c _ H' => E (.ref (ca c)) none H') (F a) { nx := fun _ H' => Q .non H', rt := Q } (L2.start N vs) H := by
  obtain ⟨rfl, as, G, st, er, k⟩ := h
  exact body_ok (np := 1) ⟨rfl, as, G, st, [.e a], er, .cons rfl .nil, k⟩
structure DefE (P : Program) (w : World) (K : PySem.W.Frag) (mg : Str → Option Value) (base : Heap) (ca : Str → Addr) (x y : Str) (cs : List Str) (k : Nat) (g : Str → Addr → SF) : Prop where
  ex : ∃ (f : Addr) (fd : FuncData), mg x = some (.ref f) ∧ PySem.W.keepIn K (.ref f) = true ∧ Binds K fd [y] [] ∧ ∀ c ∈ cs, FnE P w K mg base (L2N.CX P w) k f fd y (ca c) (spE K ca (g c))
/-- such a def by its walks -/
theorem defE_ok {P : Program} {w : World} {K : PySem.W.Frag} {mg : Str → Option Value} {base : Heap} {ca : Str → Addr} {x qual y : Str} {params : Arguments} {body : List Stmt} {scope : Scope} {N : List Str} {f : Addr} {fd : FuncData} {k : Nat} {cs : List Str} {F : Str → Addr → SS} (D : FunD K x qual params body scope [] [] f fd) (S : FnScope N [y] scope) (hm : mg x = some (.ref f))
    (hb : ∀ (kV doc pm : Value) (an : Option Addr) (cdv ct : Value) (us : List Value), us.length = ([y] : List Str).length → bindArgs (PySem.W.fnOf x qual params body scope .none kV doc pm an cdv ct) ⟨us, []⟩ = pure (([y] : List Str).zip us))
    (walk : ∀ c ∈ cs, ∀ (cdv : Value) (A : Around) (outer : List Env) (s : Shared) (H : Hp) (E : XK) (p : Addr × Obj), L2H.Hot1 A p → Zc (.ref (ca c)) none p.2 → L2H.RoomH k (A.deeper (envOfC qual scope s.heap.objs.size f cdv)) → PSs (L2H.cxH (L2N.CX P w) P w K mg base N qual scope f cdv A outer s H E p) body (tS K (WB ca E) (F c p.1))) :
    DefE P w K mg base ca x y cs (k + 1) (fun c a => fnD N.length (F c a)) := by
  refine ⟨f, fd, hm, D.kp, D.bindsN hb, fun c hc => fnE_of D S (fun a vs H Q E h => h.1) fun cd A outer s H vs Q E p hot hz hr hs => ?_⟩
  exact ⟨_, walk c hc cd A outer s H E p hot hz hr, spE_body hs⟩
/-! ### try: .. except x as n: return g(n) -/
/-- what becomes of a body's exception -/
def sTry (cs : List Str) (g : Str → Str) (F : SS) : SS := fun r st => match F r st with
  | .exc c r1 s1 => if c ∈ cs then .ret (.d (.str (g c))) s1 else .stuck
  | o => o
section
variable {X : Cx} {ca : Str → Addr} {W : WS}
/-- the wish about exceptions, for the body of a try -/
abbrev wB (ca : Str → Addr) (V : WX) : WS := fun c σ H => V (.ref (ca c)) none σ H
theorem takesW {V : WX} (t : L2N.Takes X V) : L2N.Takes X (wx ca (wB ca V)) := t.imp fun c d σ H h => by
  obtain ⟨c', rfl, rfl, h⟩ := h
  exact h
theorem hot1_suite {ad : Addr} {oe : Obj} {cls : Value} {d : Option Addr} (hz : L2N.Zn cls d oe) (hf : ∃ vs, oe.data = .fields vs) : L2H.Hot1 (X.A.mark (some (.ref ad))) (ad, oe) := by
  obtain ⟨vs, hv⟩ := hf
  exact ⟨rfl, vs, hv, hz.2.2 vs hv⟩
/-- the suite's wish -/
def tTold (K : PySem.W.Frag) (ca : Str → Addr) (cs : List Str) (i : Nat) (g : Str → Addr → SF) : Addr → Value → Option Addr → TS := fun a cls d D σ H => ∃ c ∈ cs, cls = .ref (ca c) ∧ d = none ∧ (i < σ.length → tCallS (spE K ca (g c) a) (fun _ _ _ _ => False) (tCons (tVar i) tNil) σ H D.rt)
theorem ds_try {k : Nat} {x xe y n : Str} {cs : List Str} {g : Str → Addr → SF} {nm : Str → Str} {cM : Addr} {i : Nat} {body : List Stmt} {F : SS} {np p1 p2 p3 p4 pos pos' : Pos}
    (hs : X.stack = X.env :: X.outer) (hf : X.env.frame = some X.env.locals) (hN : X.N.Nodup) (hi : X.N[i]? = some n) (hln : X.env.kindOf n = some .local) (hc : Names X xe (.ref cM)) (tk : L2N.Takes X (wx ca W)) (hr : Room k X.A) (Dx : DefE X.prog X.w X.K X.mg X.base ca x y cs k g) (hg : Gl X x)
    (hnm : ∀ c ∈ cs, ∀ a st, g c a [.e a] st = .ok (.d (.str (nm c))) st) (hm : ∀ c ∈ cs, PySem.W.exmOne X.K (.ref (ca c)) (.ref cM) = some true)
    (hb : ∀ (Wb : WS) (pn : List (Addr × Obj)) (xx : Value → Shared → Prop), L2N.Takes (X.tr pn xx) (wx ca Wb) → PassesOwn (model X.prog X.w) X.A X.env xx → PSs (X.tr pn xx) body (tS X.K Wb F))
    (hdn : (n == ("__debug__" : Str)) = false := by decide) (hcn : (n == ("__classdict__" : Str)) = false := by decide) (hdb : (x == ("__debug__" : Str)) = false := by decide) (he : ∀ env : Env, starEach [.Name n p2] env = (false, eval (.Name n p2) env) :: starEach [] env := by intro _; rfl) (hpl : ∀ env : Env, (backTo p3 (starEach [] env)).any (·.1) = false := by intro _; rfl) :
    PS X (.Try body [.ExceptHandler (some (.Name xe np)) (some n) [.Return (some (.Call (.Name x p1) [.Name n p2] [] p3)) p4] pos'] [] [] pos) (tS X.K W (sTry cs nm F)) := by
  obtain ⟨f, fd, hmx, hk, hbi, Fx⟩ := Dx.ex
  refine PS.imp (L2N.ps_try_as (ts := tTold X.K ca cs i g) (tb := fun V => tS X.K (wB ca V) F) hs hf hN hi hln hc tk (fun V pn xx t p => hb _ pn xx (takesW t) p) fun a oe cls d pn hz hfd => ?_) fun D σ H q => ?_
  · refine ⟨fun pins s σ H D I q => ?_⟩
    obtain ⟨c, hcs, rfl, rfl, q⟩ := q
    have hlt : i < σ.length := by
      rw [I.len]
      exact (List.getElem?_eq_some_iff.mp hi).1
    refine (pss_one (ps_ret (pe_callE (X := X.suite a ((a, oe) :: pn)) (Fx c hcs) ⟨hr.dp, hr.un⟩ (hot1_suite hz hfd) (List.mem_cons_self ..) hz.zc hg hmx hk hbi (fun σ => ?_) (pa_cons (pe_var hi (.inl hln) hdn hcn) pa_nil (he _)) hdb (he _) (hpl _)))).run pins s σ H D I (q hlt)
    rintro _ _ _ _ _ _ ⟨_, _, _, _, _, _, _, _, _, _, _, _, z⟩
    exact z
  · obtain ⟨r, as, G, st, sr, er, kk⟩ := q
    refine ⟨r, as, G, st, sr, er, ?_⟩
    unfold sTry at kk
    cases hF : F r st with
    | exc c r1 s1 =>
      rw [hF] at kk
      intro σ' as' G' H' p' e' sr'
      by_cases hcs : c ∈ cs
      · simp only [if_pos hcs] at kk
        refine ⟨true, hm c hcs, fun _ a ha => ⟨c, hcs, rfl, rfl, fun hl => ?_⟩, fun z => nomatch z⟩
        refine ⟨.ref a, ?_, rfl, as', G', s1, e', ?_⟩
        · rw [List.getElem?_set_self (by simpa using hl)]
        · rw [hnm c hcs a s1]
          exact fun v as2 G2 H2 p2 e2 v2 => kk v as2 G2 H2 (p'.trans p2) e2 v2
      · simp only [if_neg hcs] at kk
        exact kk.elim
    | _ => rw [hF] at kk; exact kk
end
end DL
set_option maxHeartbeats 200000
/-! E layer, part 6: the law's own names of the errors. -/
namespace DL
open PySem PySem.Spec PyProof.Rows L2
def errCs : List Str := ["InvalidLayout", "InvalidState", "InvalidTracks", "InvalidButton", "InvalidKnown", "InvalidNumber", "UnknownName", "TwiceName", "NothingToUndo"]
def errDs : List Str := ["MixerError", "InvalidLayout", "InvalidState", "InvalidTracks", "InvalidButton", "InvalidKnown", "InvalidNumber", "UnknownName", "TwiceName", "NothingToUndo"]
def isC (c D : Str) : Bool := c == D || D == "MixerError"
def errName (c : Str) : Str := (([("InvalidLayout", "nodes"), ("InvalidState", "lights"), ("InvalidTracks", "ends"), ("InvalidButton", "button"), ("InvalidKnown", "known"), ("InvalidNumber", "number"), ("UnknownName", "name"), ("TwiceName", "twice"), ("NothingToUndo", "undo")] : List (Str × Str)).lookup c).getD "other"
/-- what the fragment says of the error classes -/
structure Errs (K : PySem.W.Frag) (mg : Str → Option Value) : Prop where
  cls : ∀ c ∈ errCs, ExcC K (He.ga K c)
  kit : ∀ c ∈ errCs, ∀ D ∈ errDs, PySem.W.kitOne K (.ref (He.ga K c)) (.ref (He.ga K D)) = some (isC c D)
  val : ∀ c ∈ errCs, PySem.W.kitOne K (.ref (He.ga K c)) (.type "ValueError") = some true
  exm : ∀ c ∈ errCs, PySem.W.exmOne K (.ref (He.ga K c)) (.ref (He.ga K "MixerError")) = some true
  mgD : ∀ D ∈ errDs, mg D = some (.ref (He.ga K D))
abbrev isL (c : Str) (a : Addr) (Ds : List Str) : SA := Ds.foldr (fun D f => aCons (eIsE a (isC c D) (eV 0)) f) aNil
/-- the def that tells an error's name: e, some, words, names, word, good -/
def body_err (c : Str) (a : Addr) : SS :=
  (sSeq (sAsg (eLst (aCons (eIsE a (isC c "InvalidLayout") (eV 0)) (aCons (eIsE a (isC c "InvalidState") (eV 0)) (aCons (eIsE a (isC c "InvalidTracks") (eV 0)) aNil)))) (.nm 1))
  (sSeq (sAsg (eBin addD (eV 1) (eLst (aCons (eIsE a (isC c "InvalidButton") (eV 0)) (aCons (eIsE a (isC c "InvalidKnown") (eV 0)) (aCons (eIsE a (isC c "InvalidNumber") (eV 0)) aNil))))) (.nm 1))
  (sSeq (sAsg (eBin addD (eV 1) (eLst (aCons (eIsE a (isC c "UnknownName") (eV 0)) (aCons (eIsE a (isC c "TwiceName") (eV 0)) (aCons (eIsE a (isC c "NothingToUndo") (eV 0)) aNil))))) (.nm 1))
  (sSeq (sAsg (eBin addD (eV 1) (eLst (aCons (eIsE a (isC c "MixerError") (eV 0)) (aCons (eIsE a true (eV 0)) aNil)))) (.nm 1))
  (sSeq (sAsg (eK (.str "nodes lights ends button known number name twice undo base value")) (.nm 2))
  (sSeq (sAsg (eLc (iZpL (aCons (eSplit (eV 2) (eK (.str " "))) (aCons (eV 1) aNil))) (.tp [4, 5]) (eV 5) (eV 4) [4, 5]) (.nm 3))
  (sRet (eIf (eBin eqD (eSl (eV 3) (oSome (eK (.int 1))) oNone) (eLst (aCons (eK (.str "base")) (aCons (eK (.str "value")) aNil)))) (eBin ixD (eV 3) (eK (.int 0))) (eK (.str "other"))))))))))
theorem eIsE_at {a : Addr} {b : Bool} {r : Vn} {st : Sto} (h : r[0]? = some (some (.e a))) : eIsE a b (eV 0) r st = .ok (.d (.bool b)) st := by
  unfold eIsE eV
  rw [h]
  simp
theorem seqA {f : SE} {i : Nat} {F : SS} {r r1 : Vn} {st : Sto} {v : Dv} (h : f r st = .ok v st) (hr : r.set i (some v) = r1) : sSeq (sAsg f (.nm i)) F r st = F r1 st := by
  unfold sSeq sAsg
  rw [h]
  show F (r.set i (some v)) st = _
  rw [hr]
theorem lst3 {a : Addr} {b1 b2 b3 : Bool} {r : Vn} {st : Sto} (h : r[0]? = some (some (.e a))) : eLst (aCons (eIsE a b1 (eV 0)) (aCons (eIsE a b2 (eV 0)) (aCons (eIsE a b3 (eV 0)) aNil))) r st = .ok (.d (.list [.bool b1, .bool b2, .bool b3])) st := by
  unfold eLst aCons
  simp only [eIsE_at h, bind_ok]
  rfl
theorem lst2 {a : Addr} {b1 b2 : Bool} {r : Vn} {st : Sto} (h : r[0]? = some (some (.e a))) : eLst (aCons (eIsE a b1 (eV 0)) (aCons (eIsE a b2 (eV 0)) aNil)) r st = .ok (.d (.list [.bool b1, .bool b2])) st := by
  unfold eLst aCons
  simp only [eIsE_at h, bind_ok]
  rfl
theorem addB {f g : SE} {xs ys : List PyData} {r : Vn} {st : Sto} (hf : f r st = .ok (.d (.list xs)) st) (hg : g r st = .ok (.d (.list ys)) st) (hl : xs.length + ys.length ≤ 1000000) : eBin addD f g r st = .ok (.d (.list (xs ++ ys))) st := by
  unfold eBin
  rw [hf]
  simp only [bind_ok]
  rw [hg]
  simp only [bind_ok, addD, listOf, if_pos hl, ansD]
def errTail : SS :=
  (sSeq (sAsg (eK (.str "nodes lights ends button known number name twice undo base value")) (.nm 2))
  (sSeq (sAsg (eLc (iZpL (aCons (eSplit (eV 2) (eK (.str " "))) (aCons (eV 1) aNil))) (.tp [4, 5]) (eV 5) (eV 4) [4, 5]) (.nm 3))
  (sRet (eIf (eBin eqD (eSl (eV 3) (oSome (eK (.int 1))) oNone) (eLst (aCons (eK (.str "base")) (aCons (eK (.str "value")) aNil)))) (eBin ixD (eV 3) (eK (.int 0))) (eK (.str "other"))))))
theorem body_err_eq {c : Str} {a : Addr} {st : Sto} : body_err c a [some (.e a), none, none, none, none, none] st =
    errTail [some (.e a), some (.d (.list ([isC c "InvalidLayout", isC c "InvalidState", isC c "InvalidTracks", isC c "InvalidButton", isC c "InvalidKnown", isC c "InvalidNumber", isC c "UnknownName", isC c "TwiceName", isC c "NothingToUndo", isC c "MixerError", true].map PyData.bool))), none, none, none, none] st := by
  unfold body_err
  rw [seqA (lst3 rfl) rfl, seqA (addB rfl (lst3 rfl) (Nat.le_of_ble_eq_true rfl)) rfl, seqA (addB rfl (lst3 rfl) (Nat.le_of_ble_eq_true rfl)) rfl, seqA (addB rfl (lst2 rfl) (Nat.le_of_ble_eq_true rfl)) rfl]
  rfl
theorem sem_err_eq : ∀ c ∈ errCs, ∀ (a : Addr) (st : Sto), fnD 6 (body_err c a) [.e a] st = .ok (.d (.str (errName c))) st := by
  intro c hc a st
  have e : body_err c a [some (.e a), none, none, none, none, none] st = .ret (.d (.str (errName c))) st := by
    rw [body_err_eq]
    simp only [errCs, List.mem_cons, List.not_mem_nil, or_false] at hc
    rcases hc with rfl | rfl | rfl | rfl | rfl | rfl | rfl | rfl | rfl <;> kernel_rfl
  show (match body_err c a [some (.e a), none, none, none, none, none] st with
    | .ret x s1 => leave st.length x s1
    | .nx _ s1 => .ok (.d .none) (s1.take st.length)
    | .exc c _ s1 => .exc c (s1.take st.length)
    | _ => .stuck) = _
  rw [e]
  show Res.ok (Dv.d (PyData.str (errName c))) (st.take st.length) = _
  rw [List.take_length]
theorem bt_ValueError : bootBuiltins "ValueError" = some (.type "ValueError") := by decide +kernel
theorem hu64H {k : Nat} {A : Around} (r : L2H.RoomH k A) : A.units + 64 < cLine := by
  have := r.un
  omega
end DL
set_option maxHeartbeats 200000
/-! E layer, part 7: what the head tells, the end. -/
namespace DL
open PySem PySem.Spec PyProof.Rows L2
/-! ### constants -/
/-- the value u stands for the data d in K -/
def valB (K : PySem.W.Frag) : Nat → Value → PyData → Bool
  | _, .int i _, .int j => decide (i = j)
  | _, .str x _, .str y => decide (x = y)
  | _, .bool x, .bool y => x == y
  | _, .none, .none => true
  | n + 1, .ref a, .tuple ds => match K.lookup a with
    | some ⟨.type c, none, .seq its _, _⟩ => decide (c = "tuple") && (decide (its.size ≤ sizeLine) && (decide (its.size = ds.length) && (its.toList.zip ds).all fun p => valB K n p.1 p.2))
    | _ => false
  | _, _, _ => false
theorem bAnd {a b : Bool} (h : (a && b) = true) : a = true ∧ b = true := by simpa using h
theorem valB_ok {K : PySem.W.Frag} : ∀ (n : Nat) (u : Value) (d : PyData), valB K n u d = true → ∃ v, RelV v u ∧ ∀ G : Hp, Rp K G v d := by
  intro n
  induction n with
  | zero =>
    intro u d h
    unfold valB at h
    split at h <;> first | cases h; done | skip
    · next i t j => exact ⟨.int j, ⟨t, by rw [of_decide_eq_true h]⟩, fun _ => .int _⟩
    · next x t y => exact ⟨.str y, ⟨t, by rw [of_decide_eq_true h]⟩, fun _ => .str _⟩
    · next x y => exact ⟨.bl y, by rw [beq_iff_eq.mp h]; rfl, fun _ => .bl _⟩
    · exact ⟨.non, rfl, fun _ => .non⟩
    · next h0 => cases h0
  | succ n ih =>
    intro u d h
    unfold valB at h
    split at h <;> first | cases h; done | skip
    · next i t j => exact ⟨.int j, ⟨t, by rw [of_decide_eq_true h]⟩, fun _ => .int _⟩
    · next x t y => exact ⟨.str y, ⟨t, by rw [of_decide_eq_true h]⟩, fun _ => .str _⟩
    · next x y => exact ⟨.bl y, by rw [beq_iff_eq.mp h]; rfl, fun _ => .bl _⟩
    · exact ⟨.non, rfl, fun _ => .non⟩
    · next m a ds e =>
      cases e
      split at h
      · next c its k sl ho =>
        obtain ⟨h1, h⟩ := bAnd h
        obtain ⟨h2, h⟩ := bAnd h
        obtain ⟨h3, h⟩ := bAnd h
        have key : ∀ (us : List Value) (es : List PyData), us.length = es.length → ((us.zip es).all fun p => valB K n p.1 p.2) = true → ∃ vs, Vals vs us ∧ ∀ G : Hp, RpAll K G vs es := by
          intro us
          induction us with
          | nil =>
            intro es hl _
            cases es with
            | nil => exact ⟨[], .nil, fun _ => .nil⟩
            | cons _ _ => cases hl
          | cons u us ih2 =>
            intro es hl hz
            cases es with
            | nil => cases hl
            | cons e es =>
              have hz : (valB K n u e && (us.zip es).all fun p => valB K n p.1 p.2) = true := by rw [List.zip_cons_cons, List.all_cons] at hz; exact hz
              obtain ⟨z1, z2⟩ := bAnd hz
              obtain ⟨v, r1, r2⟩ := ih u e z1
              obtain ⟨vs, s1, s2⟩ := ih2 es (Nat.succ.inj hl) z2
              exact ⟨v :: vs, .cons r1 s1, fun G => .cons (r2 G) (s2 G)⟩
        have hl : its.toList.length = ds.length := by rw [Array.length_toList]; exact of_decide_eq_true h3
        obtain ⟨vs, r, q⟩ := key its.toList ds hl h
        have hs : its.size ≤ sizeLine := of_decide_eq_true h2
        refine ⟨.ref a, rfl, fun G => .tup (.inr ⟨_, its, k, ho, congrArg Value.type (of_decide_eq_true h1), rfl, rfl, hs, r⟩) ?_ (q G)⟩
        rw [← hl, Array.length_toList]
        exact hs
      · cases h
theorem tup_ok {K : PySem.W.Frag} {mg : Str → Option Value} {x : Str} {d : PyData} (hm : mg x = some (.ref (He.ga K x))) (h : valB K 3 (.ref (He.ga K x)) d = true) : mg x = some (.ref (He.ga K x)) ∧ ∀ G : Hp, Rp K G (.ref (He.ga K x)) d := by
  obtain ⟨v, r, q⟩ := valB_ok 3 _ _ h
  refine ⟨hm, fun G => ?_⟩
  have e : v = .ref (He.ga K x) := by
    cases v with
    | ref a =>
      have e : Value.ref (He.ga K x) = Value.ref a := r
      cases e
      rfl
    | non => cases r
    | bl _ => cases r
    | ty _ => cases r
    | int _ => obtain ⟨_, z⟩ := r; cases z
    | str _ => obtain ⟨_, z⟩ := r; cases z
    | byt _ => obtain ⟨_, z⟩ := r; cases z
    | flt _ => obtain ⟨_, z⟩ := r; cases z
  rw [← e]
  exact q G
/-! ### error classes -/
def excCB (K : PySem.W.Frag) (D : Addr) : Bool :=
  He.eqO (PySem.W.findIn K (.ref D) "__getattribute__") (some (some (.builtin "BaseException.__getattribute__"))) && (He.eqO (PySem.W.findIn K (.ref D) "__getattr__") (some none) && (decide (PySem.W.subIn K (.ref D) (.type "BaseException") = some true) && (PySem.W.hasDictIn K D && (He.eqO (PySem.W.findIn K (.ref D) "__class__") (some (some (.builtin "object.__class__"))) &&
    (He.eqO (PySem.W.specialIn K (.builtin "object.__class__") "__get__") (some (some (.builtin "getset_descriptor.__get__"))) && (decide (PySem.W.takesIn K (.builtin "object.__class__") = some true) && decide (PySem.W.mroIn K D (.type "object") = some true)))))))
theorem excCB_ok {K : PySem.W.Frag} {D : Addr} (h : excCB K D = true) : ExcC K D := by
  obtain ⟨h1, h⟩ := bAnd h
  obtain ⟨h2, h⟩ := bAnd h
  obtain ⟨h3, h⟩ := bAnd h
  obtain ⟨h4, h⟩ := bAnd h
  obtain ⟨h5, h⟩ := bAnd h
  obtain ⟨h6, h⟩ := bAnd h
  obtain ⟨h7, h8⟩ := bAnd h
  exact ⟨He.eqO_ok h1, He.eqO_ok h2, of_decide_eq_true h3, h4, He.eqO_ok h5, He.eqO_ok h6, of_decide_eq_true h7, of_decide_eq_true h8⟩
def errsB (K : PySem.W.Frag) : Bool := errCs.all fun c => excCB K (He.ga K c) && ((errDs.all fun D => decide (PySem.W.kitOne K (.ref (He.ga K c)) (.ref (He.ga K D)) = some (isC c D))) && (decide (PySem.W.kitOne K (.ref (He.ga K c)) (.type "ValueError") = some true) && decide (PySem.W.exmOne K (.ref (He.ga K c)) (.ref (He.ga K "MixerError")) = some true)))
theorem errsB_ok {K : PySem.W.Frag} {mg : Str → Option Value} (h : errsB K = true) (hm : ∀ D ∈ errDs, mg D = some (.ref (He.ga K D))) : Errs K mg := by
  have key := fun c hc => bAnd (List.all_eq_true.mp h c hc)
  refine ⟨fun c hc => excCB_ok (key c hc).1, fun c hc D hD => ?_, fun c hc => ?_, fun c hc => ?_, hm⟩
  · exact of_decide_eq_true (List.all_eq_true.mp (bAnd (key c hc).2).1 D hD)
  · exact of_decide_eq_true (bAnd (bAnd (key c hc).2).2).1
  · exact of_decide_eq_true (bAnd (bAnd (key c hc).2).2).2
theorem excok_of {K : PySem.W.Frag} {mg : Str → Option Value} {c : Str} (h : (He.Fa.exc c).ok K = true) (hm : mg c = some (.ref (He.ga K c))) : ExcOk K mg c := by
  obtain ⟨h1, h2, h3, h4⟩ := He.exc_ok h
  exact ⟨h1, hm, h2, h3, h4⟩
/-! ### the end -/
/-- the law's promise -/
def spLaw (sp : Sp) : Sp := fun vs H Q _ => sp vs H Q fun _ _ _ => False
theorem law_done {P : Program} {w : World} {K : PySem.W.Frag} {mg : Str → Option Value} {h : Heap} {x : Str} {y : Str} {k : Nat} {g : SF} (D : ∀ base : Heap, Def P w K mg base (He.ga K) x [y] k g) {fa : Addr} (hm : mg x = some (.ref fa)) :
    ∃ fd : FuncData, (∀ (s : Shared) (u : Value), BindsTo s fd ⟨[u], []⟩ [(y, u)]) ∧ ∀ base : Heap, FnOk P w K mg base CX0 k fa fd [y] (spLaw (spD K (He.ga K) 1 g)) := by
  obtain ⟨f, fd, hf, hk, hb, F, ⟨oc, od, osl, lk⟩, bi⟩ := (D h).ex
  have e : f = fa := by
    rw [hm] at hf
    cases hf
    rfl
  subst e
  refine ⟨fd, fun s u => bi s [u] rfl, fun base => ?_⟩
  obtain ⟨f2, fd2, hf2, _, _, F2, ⟨oc2, od2, osl2, lk2⟩, _⟩ := (D base).ex
  have e2 : f2 = f := by
    rw [hm] at hf2
    cases hf2
    rfl
  subst e2
  have e3 : fd2 = fd := by
    rw [lk] at lk2
    cases lk2
    rfl
  subst e3
  refine ⟨fun vs H Q E h => F2.len vs H Q _ h, fun A outer s H args us vs Q E hr e0 b r h => ?_⟩
  refine codeAny_mono (F2.run A outer s H args us vs Q _ hr e0 b r h) fun res s' q => ?_
  cases res with
  | ok fl => cases fl with
    | ret u => exact q
    | next => exact q
    | brk => exact q
    | cont => exact q
  | error u =>
    obtain ⟨_, _, _, _, _, _, _, _, _, _, _, _, z⟩ := q
    exact z.elim
/-- the script goes in, True comes out -/
theorem law_in {K : PySem.W.Frag} {ca : Str → Addr} {g : SF} {H : Hp} {a : Addr} {ns : List Int} (hl : ns.length ≤ 63) (hS : SqL K H a (ns.map V.int)) (h : g [.s ns] [] = .ok (.d (.bool true)) []) : spLaw (spD K ca 1 g) [.ref a] H (fun v _ => v = .bl true) fun _ _ _ => False := by
  refine ⟨rfl, [], H, [], [.s ns], ⟨fun _ _ e => e, rfl, .nil, fun a h => (by cases h), fun i a o h => (by cases h)⟩, .cons ⟨a, rfl, hS, hl⟩ .nil, ?_⟩
  rw [h]
  intro v as' G' H' _ _ hv
  cases hv
  rfl
end DL
set_option maxHeartbeats 2000000
/-! G layer, part 1: comprehensions of several clauses, the machine's side. -/
namespace DL
open PySem PySem.Spec PyProof.Rows L2
section
variable {prog : Program} {w : World} {A : Around} {R : Result → Shared → Prop} {s : Shared} {elt t0 i0 t1 i1 : Expr} {ifs0 ifs1 : List Expr} {gens : List Comprehension} {scope : Scope} {pos : Pos} {it acc : Value} {env : Env} {j : Nat}
theorem turn_out (h0 : gens[j]? = some ⟨t0, i0, ifs0, 0⟩) (h1 : gens[j + 1]? = some ⟨t1, i1, ifs1, 0⟩) :
    compTurn (.ListComp elt gens scope pos) j it acc env = (do
      standAt i0.pos
      match ← pyNext it with
      | none => pure (.done .next)
      | some v =>
        letOwnedTupleGo t0 it v
        assign t0 env v
        let mut ok := true
        for c in ifs0 do
          if ok then ok ← isTrue c env (eval c env)
        if ok then
          let x ← eval i1 env
          standAt i1.pos
          let x ← foldedSetIterable i1 env x
          let _ ← runOwn (.compStart (.ListComp elt gens scope pos) (j + 1) (← holding [x] (pyIter x)) acc env) env
        again (.compLoop (.ListComp elt gens scope pos) j it acc env)) := by
  unfold compTurn
  simp only [h0, h1]
  rfl
theorem turn_in (h0 : gens[j]? = some ⟨t0, i0, ifs0, 0⟩) (h1 : gens[j + 1]? = none) :
    compTurn (.ListComp elt gens scope pos) j it acc env = (do
      standAt i0.pos
      match ← pyNext it with
      | none => pure (.done .next)
      | some v =>
        letOwnedTupleGo t0 it v
        assign t0 env v
        let mut ok := true
        for c in ifs0 do
          if ok then ok ← isTrue c env (eval c env)
        if ok then
          (do let _ ← call (.builtin "list.append") [acc, ← eval elt env])
        again (.compLoop (.ListComp elt gens scope pos) j it acc env)) := by
  unfold compTurn
  simp only [h0, h1]
  rfl
/-- what a turn does behind its tests, told by what follows -/
def StepTo (prog : Program) (w : World) (A : Around) (elt : Expr) (gens : List Comprehension) (scope : Scope) (pos : Pos) (acc : Value) (env : Env) (j : Nat) (P : Shared → Prop) (s : Shared) : Prop :=
  match gens[j]? with
  | none => wpAny (model prog w) A (eval elt env) (fun x s1 => wpAny (model prog w) A (call (.builtin "list.append") [acc, x]) (fun _ s2 => P s2) (fun _ _ => False) s1) (fun _ _ => False) s
  | some g => wpAny (model prog w) A (eval g.iter env) (fun x s1 => wpAny (model prog w) A (pyIter x) (fun it1 s2 => codeAny (model prog w) A (.compStart (.ListComp elt gens scope pos) j it1 acc env) (fun r s' => match r with
      | .ok _ => P s'
      | .error _ => False) s2) (fun _ _ => False) s1) (fun _ _ => False) s
/-- a clause's loop -/
theorem loopN (h0 : gens[j]? = some ⟨t0, i0, ifs0, 0⟩) (hs : ∀ g, gens[j + 1]? = some g → g.is_async = 0 ∧ ∀ x, foldedSetIterable g.iter env x = pure x) (I : Nat → Shared → Prop)
    (turn : ∀ n s, I n s → wpAny (model prog w) A (pyNext it) (fun r s1 => match r with
      | none => R (.ok .next) s1
      | some v => wpAny (model prog w) A (letOwnedTupleGo t0 it v) (fun _ s2 => wpAny (model prog w) A (assign t0 env v) (fun _ s3 =>
          wpAny (model prog w) A (forIn ifs0 true fun c r => if r = true then do let ok ← isTrue c env (eval c env); pure (ForInStep.yield ok) else pure (ForInStep.yield r)) (fun ok s4 =>
            if ok = true then StepTo prog w A elt gens scope pos acc env (j + 1) (fun s5 => ∃ m, m < n ∧ I m s5) s4
            else ∃ m, m < n ∧ I m s4) (fun _ _ => False) s3) (fun _ _ => False) s2) (fun _ _ => False) s1) (fun _ _ => False) s)
    (n : Nat) (h : I n s) : codeAny (model prog w) A (.compLoop (.ListComp elt gens scope pos) j it acc env) R s := by
  have up : ∀ {α : Type} {m : Sem α} {Q : α → Shared → Prop} {E : Value → Shared → Prop} {s : Shared}, wpAny (model prog w) A m Q (fun _ _ => False) s → wpAny (model prog w) A m Q E s := fun h => wpAny_mono h (fun _ _ q => q) fun _ _ z => z.elim
  refine codeAny_loop rfl I (fun n s hI => ?_) n h
  show wpAny _ A ((compTurn (.ListComp elt gens scope pos) j it acc env).onRaise (fun x => do noteFrame x env; theTreesLotGoes x)) _ _ s
  refine wpAny_noted ?_
  cases h1 : gens[j + 1]? with
  | none =>
    rw [turn_in h0 h1]
    refine wpAny_bind (wpAny_standAt (wpAny_bind (wpAny_mono (up (turn n s hI)) (fun r s1 z1 => ?_) fun _ _ z => z)))
    cases r with
    | none => exact wpAny_pure z1
    | some v =>
      refine wpAny_bind (wpAny_mono (up z1) (fun _ s2 z2 => ?_) fun _ _ z => z)
      refine wpAny_bind (wpAny_mono (up z2) (fun _ s3 z3 => wpAny_bind (wpAny_mono (up z3) (fun ok s4 z4 => ?_) fun _ _ z => z)) fun _ _ z => z)
      cases ok with
      | false => exact wpAny_pure ⟨rfl, z4⟩
      | true =>
        have z4 := z4
        simp only [if_true, StepTo, h1] at z4
        exact wpAny_bind (wpAny_bind (wpAny_mono (up z4) (fun x s5 z5 => wpAny_bind (wpAny_mono (up z5) (fun _ s6 z6 => wpAny_pure (wpAny_pure ⟨rfl, z6⟩)) fun _ _ z => z)) fun _ _ z => z))
  | some g =>
    obtain ⟨ga, gf⟩ := hs g h1
    obtain ⟨tg, ig, fg, ag⟩ := g
    cases ga
    rw [turn_out h0 h1]
    refine wpAny_bind (wpAny_standAt (wpAny_bind (wpAny_mono (up (turn n s hI)) (fun r s1 z1 => ?_) fun _ _ z => z)))
    cases r with
    | none => exact wpAny_pure z1
    | some v =>
      refine wpAny_bind (wpAny_mono (up z1) (fun _ s2 z2 => ?_) fun _ _ z => z)
      refine wpAny_bind (wpAny_mono (up z2) (fun _ s3 z3 => wpAny_bind (wpAny_mono (up z3) (fun ok s4 z4 => ?_) fun _ _ z => z)) fun _ _ z => z)
      cases ok with
      | false => exact wpAny_pure ⟨rfl, z4⟩
      | true =>
        have z4 := z4
        simp only [if_true, StepTo, h1] at z4
        refine wpAny_bind (wpAny_mono (up z4) (fun x s5 z5 => ?_) fun _ _ z => z)
        refine wpAny_bind (wpAny_standAt (wpAny_bind (wpAny_of_eq (gf x) (wpAny_bind (wpAny_holding (wpAny_mono (up z5) (fun it1 s6 z6 => ?_) fun _ _ z => z))))))
        refine wpAny_bind (wpAny_runOwn ?_)
        rw [Around.mark_none]
        refine codeAny_mono z6 fun r s' hr => ?_
        cases r with
        | ok f =>
          first
            | exact wpAny_pure ⟨rfl, hr⟩
            | exact wpAny_bind (wpAny_pure (wpAny_pure ⟨rfl, hr⟩))
        | error e => exact hr.elim
/-- a clause's start -/
theorem startN (h0 : gens[j]? = some ⟨t0, i0, ifs0, 0⟩) (hl : codeAny (model prog w) A (.compLoop (.ListComp elt gens scope pos) j it acc env) R s)
    (h : wpAny (model prog w) A (pyIter it) (fun it' s' => codeAny (model prog w) A (.compLoop (.ListComp elt gens scope pos) j it' acc env) R s') (fun _ _ => False) s) : codeAny (model prog w) A (.compStart (.ListComp elt gens scope pos) j it acc env) R s := by
  refine codeAny_of_tree ?_
  show wpAny _ _ ((compStart (.ListComp elt gens scope pos) j it acc env).onRaise (fun x => do noteFrame x env; standAt theWindowsPlace)) _ _ s
  refine wpAny_notedAt ?_
  unfold compStart
  have e : (clausesOf (.ListComp elt gens scope pos))[j]? = some ⟨t0, i0, ifs0, 0⟩ := h0
  rw [e]
  show wpAny _ _ (ask >>= _) _ _ s
  refine wpAny_bind (wpAny_askSetting (wpAny_ite ?_))
  split
  · first
      | exact wpAny_bind (wpAny_pure (wpAny_pure (And.intro rfl hl)))
      | exact wpAny_pure (And.intro rfl hl)
  · refine wpAny_bind (wpAny_rule (wpAny_bind (wpAny_standAt (wpAny_bind (wpAny_mono h (fun it' s' h' => wpAny_pure (And.intro rfl h')) fun _ _ z => z.elim)))))
end
end DL
set_option maxHeartbeats 2000000
/-! G layer, part 2: comprehensions of several clauses over data. -/
namespace DL
open PySem PySem.Spec PyProof.Rows L2
abbrev Cl := SI × Tgt × SE
def slotsOf (cs : List Cl) : List Nat := cs.flatMap fun c => c.2.1.slots
def loopM (vs : List Nat) (z : Wk) (t : Tgt) (ft : SE) (k : Vn → Sto → Res (List PyData)) (r : Vn) : List PyData → Sto → Res (List PyData)
  | [], st => if okG st z = true then .ok [] st else .stuck
  | d :: ds, st => if okG st z = true then (match setI z.2.2 t d (wipeV r vs) with
    | none => .stuck
    | some r1 => (noX (asB (ft r1 st))).bind fun b s1 => (match b with
      | false => Res.ok [] s1
      | true => k r1 s1).bind fun ys s2 => (loopM vs z t ft k r ds s2).bind fun zs s3 => .ok (ys ++ zs) s3) else .stuck
def lcM (fe : SE) : List Cl → Vn → Sto → Res (List PyData)
  | [], r, st => (noX (fe r st)).bind fun y s => match y with
    | .d y => .ok [y] s
    | _ => .stuck
  | c :: cs, r, st => (noX (c.1 r st)).bind fun z s1 => loopM (slotsOf (c :: cs)) z c.2.1 c.2.2 (lcM fe cs) r z.1 s1
/-- the heap without the list that is built -/
def mD (D : Addr) (H : Hp) : Hp := fun a => if a = D then none else H a
theorem mD_upd {D : Addr} {H : Hp} {o : HO} : mD D (upd H D o) = mD D H := by
  funext a
  unfold mD
  by_cases h : a = D
  · rw [if_pos h, if_pos h]
  · rw [if_neg h, if_neg h, upd_ne h]
structure Acc (K : PySem.W.Frag) (D : Addr) (as : List Addr) (G H : Hp) (st : Sto) (acc : List PyData) : Prop where
  er : ER K as G H st
  gD : G D = none
  nD : D ∉ as
  us : ∃ us, H D = some (.lst us) ∧ RpAll K G us acc
section
variable {K : PySem.W.Frag} {D : Addr} {as as2 : List Addr} {G H G2 H2 : Hp} {st st2 : Sto} {acc : List PyData}
theorem Acc.go (h : Acc K D as G H st acc) (s : Stp as G H as2 G2 H2) (e2 : ER K as2 G2 H2 st2) : Acc K D as2 G2 H2 st2 acc ∧ Stp as G (mD D H) as2 G2 (mD D H2) := by
  obtain ⟨us, hD, ra⟩ := h.us
  obtain ⟨h1, h2⟩ := s.kp D _ hD h.nD
  obtain ⟨mm, hmm, hn⟩ := s.pre
  have nD2 : D ∉ as2 := fun q => by
    rw [hmm] at q
    rcases List.mem_append.mp q with q | q
    · exact h.nD q
    · rw [hn D q] at hD
      cases hD
  refine ⟨⟨e2, h2.trans h.gD, nD2, us, h1, RpAll.mono s.g ra⟩, ⟨mm, hmm, fun a ha => ?_⟩, s.g, fun a o ha na => ?_, fun a ha => ?_⟩
  · unfold mD
    by_cases e : a = D
    · rw [if_pos e]
    · rw [if_neg e]
      exact hn a ha
  · unfold mD at ha ⊢
    by_cases e : a = D
    · rw [if_pos e] at ha
      cases ha
    · rw [if_neg e] at ha ⊢
      exact s.kp a o ha na
  · unfold mD at ha ⊢
    by_cases e : a = D
    · rw [if_pos e] at ha
      exact absurd rfl ha
    · rw [if_neg e] at ha ⊢
      exact s.tr a ha
theorem ER.change (er : ER K as G H st) {us vs : List V} (hD : H D = some (.lst us)) (gD : G D = none) (nD : D ∉ as) : ER K as G (upd H D (.lst vs)) st where
  sub := fun b o h => by
    have hne : b ≠ D := fun e => by
      rw [e, gD] at h
      cases h
    rw [upd_ne hne]
    exact er.sub _ _ h
  len := er.len
  nd := er.nd
  tr := fun a m => by
    have hne : a ≠ D := fun q => nD (q ▸ m)
    rw [upd_ne hne]
    exact er.tr a m
  ob := fun i a o h1 h2 => by
    have hne : a ≠ D := fun q => nD (q ▸ List.mem_of_getElem? h1)
    have h := er.ob i a o h1 h2
    cases o with
    | lst ds =>
      obtain ⟨g, l, us, hv, t⟩ := h
      exact ⟨g, l, us, by rw [upd_ne hne]; exact hv, t⟩
    | dct kvs =>
      obtain ⟨g, ks, hv, t⟩ := h
      exact ⟨g, ks, by rw [upd_ne hne]; exact hv, t⟩
    | dead => trivial
theorem Acc.push (h : Acc K D as G H st acc) {us : List V} (hD : H D = some (.lst us)) {v : V} {y : PyData} (ra : RpAll K G us acc) (hv : Rp K G v y) : Acc K D as G (upd H D (.lst (us ++ [v]))) st (acc ++ [y]) :=
  ⟨ER.change h.er hD h.gD h.nD, h.gD, h.nD, _, upd_same, RpAll.snoc ra hv⟩
end
/-- what is still known of the names -/
def Kn (L : List Nat) (σ σ' : L2.St) : Prop := σ'.length = σ.length ∧ ∀ (i : Nat) (v : V), i ∉ L → σ[i]? = some (some v) → σ'[i]? = some (some v)
/-- a clause in the block -/
structure ClOk (B : Cx) (g : Comprehension) (c : Cl) : Prop where
  as0 : g.is_async = 0
  it : PI B g.target g.iter (tJ B.K W0 c.1)
  tg : PG B g.target (gT B.K c.2.1)
  ts : PTs B g.ifs (tT B.K W0 c.2.2)
  fs : ∀ (env : Env) (x : Value), foldedSetIterable g.iter env x = pure x
def LvStep (B : Cx) (elt : Expr) (gens : List Comprehension) (scope : Scope) (pos : Pos) (D : Addr) (fe : SE) (cs : List Cl) (j : Nat) : Prop :=
  ∀ (pins : List (Addr × Obj)) (σ : L2.St) (H : Hp) (s : Shared) (r : Vn) (as : List Addr) (G : Hp) (st : Sto) (acc ys : List PyData) (st' : Sto), Inv B pins σ H s → SR B.K as G σ r → Acc B.K D as G H st acc → lcM fe cs r st = .ok ys st' → acc.length + ys.length ≤ 1000000 →
    ∀ P : Shared → Prop, (∀ (σ' : L2.St) (H' : Hp) (s' : Shared) (as' : List Addr) (G' : Hp), Inv B pins σ' H' s' → Kn (slotsOf cs) σ σ' → Stp as G (mD D H) as' G' (mD D H') → Acc B.K D as' G' H' st' (acc ++ ys) → P s') → StepTo B.prog B.w B.A elt gens scope pos (.ref D) B.env j P s
section
variable {B : Cx} {elt : Expr} {gens : List Comprehension} {scope : Scope} {pos : Pos} {D : Addr} {fe : SE} {j : Nat}
theorem noX_ok_of {α : Type} {f : Res α} {k : α → Sto → Res (List PyData)} {ys : List PyData} {st' : Sto} (h : (noX f).bind k = .ok ys st') : ∃ x s1, f = .ok x s1 ∧ k x s1 = .ok ys st' := by
  cases f with
  | ok x s1 => exact ⟨x, s1, rfl, h⟩
  | exc c s1 => cases h
  | stuck => cases h
theorem bind_ok_of {α β : Type} {f : Res α} {k : α → Sto → Res β} {y : β} {st' : Sto} (h : f.bind k = .ok y st') : ∃ x s1, f = .ok x s1 ∧ k x s1 = .ok y st' := by
  cases f with
  | ok x s1 => exact ⟨x, s1, rfl, h⟩
  | exc c s1 => cases h
  | stuck => cases h
/-- the last clause is done: the element is worked out and put behind -/
theorem lv_nil (hx : B.xe = fun _ _ => False) (he : PE B elt (tE B.K W0 fe)) (hj : gens[j]? = none) : LvStep B elt gens scope pos D fe [] j := by
  intro pins σ H s r as G st acc ys st' I sr ac hl hz P hP
  unfold StepTo
  rw [hj]
  obtain ⟨y, s1, ef, hy⟩ := noX_ok_of (show (noX (fe r st)).bind _ = _ from hl)
  cases y with
  | d y =>
    cases hy
    have run := he.run pins s σ H (fun v H1 => ∃ as1 G1, Stp as G H as1 G1 H1 ∧ ER B.K as1 G1 H1 st' ∧ VR B.K as1 G1 v (.d y)) I ⟨r, as, G, st, sr, ac.er, by rw [ef]; exact fun v as1 G1 H1 p e q => ⟨as1, G1, p, e, q⟩⟩
    rw [hx] at run
    refine wpAny_mono run (fun v s2 h2 => ?_) fun _ _ z => z
    obtain ⟨x, H1, I1, rv, as1, G1, p1, e1, v1⟩ := h2
    obtain ⟨ac1, sp1⟩ := ac.go p1 e1
    obtain ⟨us, hD, ra⟩ := ac1.us
    have hlen : us.length < sizeLine := by
      rw [RpAll.len ra]
      simp only [List.length_cons, List.length_nil] at hz
      have : (1000000 : Nat) ≤ sizeLine := by decide
      omega
    refine app_ok (X := B) I1 hD hlen rv fun s3 I3 => hP σ _ s3 as1 G1 I3 ⟨rfl, fun _ _ _ h => h⟩ ?_ (ac1.push hD ra v1)
    rw [mD_upd]
    exact sp1
  | o _ => cases hy
  | e _ => cases hy
  | s _ => cases hy
end
end DL
set_option maxHeartbeats 2000000
/-! G layer, part 3: the loops of several clauses. -/
namespace DL
open PySem PySem.Spec PyProof.Rows L2
section
variable {B : Cx} {elt : Expr} {gens : List Comprehension} {scope : Scope} {pos : Pos} {D : Addr} {fe : SE} {j : Nat}
theorem thnF' {α : Type} {t : Sem α} {Q Q' : α → Shared → Prop} {M : Model} {A : Around} {s : Shared} (h : wpAny M A t Q (fun _ _ => False) s) (hQ : ∀ a s, Q a s → Q' a s) : wpAny M A t Q' (fun _ _ => False) s := wpAny_mono h hQ fun _ _ z => z
theorem lv_loop (hc : B.calm = true) (hx : B.xe = fun _ _ => False) {g : Comprehension} {c : Cl} {cs : List Cl} (hg : gens[j]? = some g) (as0 : g.is_async = 0) (htg : PG B g.target (gT B.K c.2.1)) (hts : PTs B g.ifs (tT B.K W0 c.2.2))
    (hnext : ∀ g', gens[j + 1]? = some g' → g'.is_async = 0 ∧ ∀ x, foldedSetIterable g'.iter B.env x = pure x) (hstep : LvStep B elt gens scope pos D fe cs (j + 1)) {vs : List Nat} (hv1 : ∀ i ∈ c.2.1.slots, i ∈ vs) (hv2 : ∀ i ∈ slotsOf cs, i ∈ vs)
    {pins : List (Addr × Obj)} {σ : L2.St} {H : Hp} {s : Shared} {r : Vn} {as : List Addr} {G : Hp} {st : Sto} {acc ys : List PyData} {st' : Sto} {it : Addr} {fp : List Addr} {tn : Nat → Heap → Prop} {J : It} {z : Wk} {R : Result → Shared → Prop}
    (T : Turn B.prog B.w B.K g.target J fp it tn) (t0 : tn 0 s.heap) (fpo : ∀ b ∈ fp, FpOk B pins H b) (hJ : ItR B.K as G J z) (I : Inv B pins (wipe σ vs) H s) (sr : SR B.K as G σ r) (ac : Acc B.K D as G H st acc)
    (hl : loopM vs z c.2.1 c.2.2 (lcM fe cs) r z.1 st = .ok ys st') (hz : acc.length + ys.length ≤ 1000000)
    (fin : ∀ (H' : Hp) (s' : Shared) (as' : List Addr) (G' : Hp), Inv B pins (wipe σ vs) H' s' → Stp as G (mD D H) as' G' (mD D H') → Acc B.K D as' G' H' st' (acc ++ ys) → R (.ok .next) s') :
    codeAny (model B.prog B.w) B.A (.compLoop (.ListComp elt gens scope pos) j (.ref it) (.ref D) B.env) R s := by
  obtain ⟨tg, iter, ifs, asy⟩ := g
  cases as0
  have stat : ∀ {H' : Hp}, (∀ b ∈ fp, H' b = none) → ∀ b ∈ fp, FpOk B pins H' b := fun hn b hb => ⟨hn b hb, (fpo b hb).2⟩
  refine loopN hg hnext (fun n s' => ∃ (i : Nat) (H' : Hp) (as' : List Addr) (G' : Hp) (st1 : Sto) (acc1 ys1 : List PyData), n = z.1.length - i ∧ Inv B pins (wipe σ vs) H' s' ∧ tn i s'.heap ∧ (∀ b ∈ fp, H' b = none) ∧ Stp as G (mD D H) as' G' (mD D H') ∧ Acc B.K D as' G' H' st1 acc1 ∧
    loopM vs z c.2.1 c.2.2 (lcM fe cs) r (z.1.drop i) st1 = .ok ys1 st' ∧ acc1 ++ ys1 = acc ++ ys) ?_ z.1.length ⟨0, H, as, G, st, acc, ys, rfl, I, t0, fun b hb => (fpo b hb).1, .refl _ _ _, ac, hl, rfl⟩
  rintro n s5 ⟨i, H5, as5, G5, st5, acc5, ys5, rfl, I5, t5, n5, sp5, ac5, hl5, e5⟩
  have ok5 : okG st5 z = true := by
    cases ok : okG st5 z with
    | true => rfl
    | false =>
      cases hd : z.1.drop i with
      | nil => rw [hd, loopM, ok] at hl5; cases hl5
      | cons d ds => rw [hd, loopM, ok] at hl5; cases hl5
  obtain ⟨mm, hmm, _⟩ := sp5.pre
  obtain ⟨j1, j2⟩ := hJ i as5 G5 H5 st5 ⟨mm, hmm⟩ sp5.g ac5.er ok5
  rcases Nat.lt_or_ge i z.1.length with hi | hi
  · have hd : z.1[i]? = some z.1[i] := List.getElem?_eq_getElem hi
    obtain ⟨jg, jy⟩ := j2 _ hd
    rw [List.drop_eq_getElem_cons hi, loopM, if_pos ok5] at hl5
    refine thnF' (T.item B rfl rfl rfl hc i pins s5 _ H5 (fun _ _ => False) I5 (stat n5) t5 jg) fun rr s6 h6 => ?_
    obtain ⟨u, hr, h6⟩ := h6
    subst hr
    refine thnF' h6 fun _ s7 h7 => ?_
    obtain ⟨x, H7, I7, r7, y7, t7, n7⟩ := h7
    have I7' := I7.pinned (stat n7) (T.obj _ _ t7)
    obtain ⟨G7, sp7, er7, rx, rp⟩ := jy x H7 y7
    obtain ⟨ac7, mp7⟩ := ac5.go sp7 er7
    cases ht : setI z.2.2 c.2.1 z.1[i] (wipeV r vs) with
    | none => rw [ht] at hl5; cases hl5
    | some r1 =>
      rw [ht] at hl5
      obtain ⟨b, s2, eb, hl6⟩ := noX_ok_of hl5
      obtain ⟨ys2, s3, ek, hl7⟩ := bind_ok_of hl6
      obtain ⟨zs, s4, el, hl8⟩ := bind_ok_of hl7
      have e8 : ys2 ++ zs = ys5 ∧ s4 = st' := by
        cases hl8
        exact ⟨rfl, rfl⟩
      obtain ⟨rfl, rfl⟩ := e8
      have sr7 : SR B.K as5 G7 (wipe σ vs) (wipeV r vs) := ((sr.wipe vs).mono (show Stp as G (mD D H) as5 G7 (mD D H7) from sp5.trans mp7))
      have hpg := htg.run _ s7 (wipe σ vs) H7 x u (fun σ2 H2 => H2 = H7 ∧ SR B.K as5 G7 σ2 r1 ∧ σ2.length = (wipe σ vs).length ∧ ∀ k, k ∉ c.2.1.slots → σ2[k]? = (wipe σ vs)[k]?) I7' r7 (gI_ok er7 sr7 rx rp ht fun σ2 q1 q2 q3 => ⟨rfl, q1, q2, q3⟩)
      rw [hx] at hpg
      refine thnF' hpg fun _ s8 h8 => ?_
      obtain ⟨σ8, H8, I8, rfl, sr8, hl8, hk8⟩ := h8
      have hpt := hts.run _ s8 σ8 H8 (fun b' H2 => b' = b ∧ ∃ as2 G2, Stp as5 G7 H8 as2 G2 H2 ∧ ER B.K as2 G2 H2 s2) I8 ⟨r1, as5, G7, st5, sr8, er7, by rw [eb]; exact fun b' as2 G2 H2 p e q => ⟨q, as2, G2, p, e⟩⟩
      rw [hx] at hpt
      refine thnF' hpt fun b' s9 h9 => ?_
      obtain ⟨H9, I9, rfl, as9, G9, sp9, er9⟩ := h9
      obtain ⟨ac9, mp9⟩ := ac7.go sp9 er9
      -- the turn's end
      have back : ∀ {σ' : L2.St} {H' : Hp} {s' : Shared} {as' : List Addr} {G' : Hp}, Inv B (pins ++ pinsAt fp s7.heap) σ' H' s' → (σ'.length = σ8.length ∧ ∀ (k : Nat) (v : V), k ∉ slotsOf cs → σ8[k]? = some (some v) → σ'[k]? = some (some v)) → Stp as9 G9 (mD D H9) as' G' (mD D H') → Acc B.K D as' G' H' s3 (acc5 ++ ys2) →
          ∃ m, m < z.1.length - i ∧ ∃ (i : Nat) (H' : Hp) (as' : List Addr) (G' : Hp) (st1 : Sto) (acc1 ys1 : List PyData), m = z.1.length - i ∧ Inv B pins (wipe σ vs) H' s' ∧ tn i s'.heap ∧ (∀ b ∈ fp, H' b = none) ∧ Stp as G (mD D H) as' G' (mD D H') ∧ Acc B.K D as' G' H' st1 acc1 ∧
            loopM vs z c.2.1 c.2.2 (lcM fe cs) r (z.1.drop i) st1 = .ok ys1 s4 ∧ acc1 ++ ys1 = acc ++ ys := by
        intro σ' H' s' as' G' I' kn sp' ac'
        have pinned : ∀ b ∈ fp, ∀ o, s7.heap.get? b = some o → s'.heap.get? b = some o ∧ H' b = none := fun b hb o e => by
          have q := I'.pin (b, o) (List.mem_append_right _ (List.mem_append_right _ (mem_pinsAt hb e)))
          exact ⟨q.1, q.2.1⟩
        refine ⟨z.1.length - (i + 1), by omega, i + 1, H', as', G', s3, acc5 ++ ys2, zs, rfl, I'.unpinned.weak ?_ (fun k v e => ?_), T.keep _ _ _ t7 fun b hb o e => (pinned b hb o e).1, fun b hb => ?_, ((sp5.trans mp7).trans mp9).trans sp', ac', el, by rw [List.append_assoc, ← e5]⟩
        · rw [kn.1, hl8]
        · obtain ⟨e1, e2⟩ := wipe_some e
          refine kn.2 k v (fun q => e2 (hv2 k q)) ?_
          rw [hk8 k fun q => e2 (hv1 k q)]
          exact e
        · obtain ⟨o, e, _⟩ := T.obj _ _ t7 b hb
          exact (pinned b hb o e).2
      cases b' with
      | false =>
        simp only [Bool.false_eq_true, if_false]
        cases ek
        exact back I9 ⟨rfl, fun _ _ _ q => q⟩ (.refl _ _ _) (by rw [List.append_nil]; exact ac9)
      | true =>
        simp only [if_true]
        refine hstep _ σ8 H9 s9 r1 as9 G9 s2 acc5 ys2 s3 I9 (sr8.mono sp9) ac9 ek ?_ _ fun σ' H' s' as' G' I' kn sp' ac' => back I' kn sp' ac'
        have := congrArg List.length e5
        simp only [List.length_append] at this
        omega
  · have e0 : z.1.drop i = [] := List.drop_eq_nil_of_le hi
    rw [e0, loopM, if_pos ok5] at hl5
    cases hl5
    refine thnF' (T.done B rfl rfl rfl hc i pins s5 _ H5 (fun _ _ => False) I5 (stat n5) t5 (j1 hi)) fun rr s6 h6 => ?_
    obtain ⟨hr, I6⟩ := h6
    subst hr
    refine fin H5 s6 as5 G5 I6 sp5 ?_
    rw [← e5, List.append_nil]
    exact ac5
end
end DL
set_option maxHeartbeats 2000000
/-! G layer, part 4: comprehensions of several clauses, the rules. -/
namespace DL
open PySem PySem.Spec PyProof.Rows L2
section
variable {B : Cx} {elt : Expr} {gens : List Comprehension} {scope : Scope} {pos : Pos} {D : Addr} {fe : SE} {j : Nat}
theorem lv_cons (hc : B.calm = true) (hx : B.xe = fun _ _ => False) {g : Comprehension} {c : Cl} {cs : List Cl} (hg : gens[j]? = some g) (ok : ClOk B g c)
    (hnext : ∀ g', gens[j + 1]? = some g' → g'.is_async = 0 ∧ ∀ x, foldedSetIterable g'.iter B.env x = pure x) (hstep : LvStep B elt gens scope pos D fe cs (j + 1)) : LvStep B elt gens scope pos D fe (c :: cs) j := by
  intro pins σ H s r as G st acc ys st' I sr ac hl hz P hP
  obtain ⟨z, s1, ez, hl2⟩ := noX_ok_of (show (noX (c.1 r st)).bind _ = _ from hl)
  unfold StepTo
  rw [hg]
  have run := ok.it.run pins s σ H (fun J H1 => ∃ as1 G1, Stp as G H as1 G1 H1 ∧ ER B.K as1 G1 H1 s1 ∧ ItOk B.K as1 G1 J z) I ⟨r, as, G, st, sr, ac.er, by rw [ez]; exact fun J as1 G1 H1 p e q => ⟨as1, G1, p, e, q⟩⟩
  rw [hx] at run
  refine thnF' run fun v s2 h2 => thnF' h2 fun itv s3 h3 => ?_
  obtain ⟨it, fp, tn, J, H1, rfl, I1, T, t0, fpo, as1, G1, p1, e1, v1⟩ := h3
  obtain ⟨ac1, mp1⟩ := ac.go p1 e1
  obtain ⟨tg, iter, ifs, asy⟩ := g
  have as0 : asy = 0 := ok.as0
  subst as0
  have loop := lv_loop (B := B) (elt := elt) (gens := gens) (scope := scope) (pos := pos) (D := D) (fe := fe) (j := j) hc hx hg rfl ok.tg ok.ts hnext hstep (vs := slotsOf (c :: cs)) (fun i hi => List.mem_flatMap.mpr ⟨c, List.mem_cons_self .., hi⟩) (fun i hi => by
      obtain ⟨c', h1, h2⟩ := List.mem_flatMap.mp hi
      exact List.mem_flatMap.mpr ⟨c', List.mem_cons_of_mem _ h1, h2⟩) (R := fun r s' => match r with
      | .ok _ => P s'
      | .error _ => False) T t0 fpo v1.1 (I1.weak (wipe_length _ _) fun k v e => (wipe_some e).1) (sr.mono p1) ac1 hl2 hz (fun H' s' as' G' I' sp' ac' => hP (wipe σ (slotsOf (c :: cs))) H' s' as' G' I' ⟨wipe_length _ _, fun k v hk e => by rw [wipe_get, if_neg hk]; exact e⟩ (mp1.trans sp') ac')
  exact startN hg loop (T.self B.A 0 _ _ _ t0 loop)
end
/-- all clauses but the first -/
inductive Cls (B : Cx) : List Comprehension → List Cl → Prop
  | nil : Cls B [] []
  | cons {g : Comprehension} {gs : List Comprehension} {c : Cl} {cs : List Cl} : ClOk B g c → Cls B gs cs → Cls B (g :: gs) (c :: cs)
theorem Cls.step {B : Cx} {elt : Expr} {scope : Scope} {pos : Pos} {D : Addr} {fe : SE} (hc : B.calm = true) (hx : B.xe = fun _ _ => False) (he : PE B elt (tE B.K W0 fe)) : ∀ {gs : List Comprehension} {cs : List Cl} {gens : List Comprehension} {j : Nat}, Cls B gs cs → gens.drop j = gs →
    LvStep B elt gens scope pos D fe cs j ∧ ∀ g', gens[j]? = some g' → g'.is_async = 0 ∧ ∀ x, foldedSetIterable g'.iter B.env x = pure x := by
  intro gs cs gens j h
  induction h generalizing j with
  | nil =>
    intro hd
    have hn : gens[j]? = none := List.getElem?_eq_none (List.drop_eq_nil_iff.mp hd)
    exact ⟨lv_nil hx he hn, fun g' e => by rw [hn] at e; cases e⟩
  | @cons g gs c cs ok _ ih =>
    intro hd
    have hg : gens[j]? = some g := by
      rw [← List.head?_drop, hd]
      rfl
    have hd2 : gens.drop (j + 1) = gs := by
      rw [← List.tail_drop, hd]
      rfl
    obtain ⟨h1, h2⟩ := ih hd2
    exact ⟨lv_cons hc hx hg ok h2 h1, fun g' e => by
      rw [hg] at e
      cases e
      exact ⟨ok.as0, ok.fs _⟩⟩
theorem nox_exc {α β : Type} {f : Res α} {k : α → Sto → Res β} {c : Str} {s' : Sto} (h : (noX f).bind k = .exc c s') : ∃ x s1, k x s1 = .exc c s' := by
  cases f with
  | ok x s1 => exact ⟨x, s1, h⟩
  | exc _ _ => cases h
  | stuck => cases h
theorem bind_exc_of {α β : Type} {f : Res α} {k : α → Sto → Res β} {c : Str} {s' : Sto} (h : f.bind k = .exc c s') : f = .exc c s' ∨ ∃ x s1, k x s1 = .exc c s' := by
  cases f with
  | ok x s1 => exact .inr ⟨x, s1, h⟩
  | exc _ _ => cases h; exact .inl rfl
  | stuck => cases h
theorem loopM_noexc {vs : List Nat} {z : Wk} {t : Tgt} {ft fe : SE} {cs : List Cl} {r : Vn} {c : Str} {s' : Sto} : ∀ (ds : List PyData) {st : Sto}, loopM vs z t ft (lcM fe cs) r ds st ≠ .exc c s' := by
  have one : ∀ (vs : List Nat) (z : Wk) (t : Tgt) (ft : SE) (k : Vn → Sto → Res (List PyData)) (hk : ∀ r s c s', k r s ≠ .exc c s') (r : Vn) (ds : List PyData) (st : Sto) (c : Str) (s' : Sto), loopM vs z t ft k r ds st ≠ .exc c s' := by
    intro vs z t ft k hk r ds
    induction ds with
    | nil =>
      intro st c s' h
      rw [loopM] at h
      split at h <;> cases h
    | cons d ds ih =>
      intro st c s' h
      rw [loopM] at h
      split at h
      · split at h
        · cases h
        · next r1 _ =>
          obtain ⟨b, s1, h⟩ := nox_exc h
          rcases bind_exc_of h with h | ⟨ys, s2, h⟩
          · cases b with
            | true => exact hk _ _ _ _ h
            | false => cases h
          · rcases bind_exc_of h with h | ⟨zs, s3, h⟩
            · exact ih _ _ _ h
            · cases h
      · cases h
  have all : ∀ (cs : List Cl) (r : Vn) (s : Sto) (c : Str) (s' : Sto), lcM fe cs r s ≠ .exc c s' := by
    intro cs
    induction cs with
    | nil =>
      intro r s c s' h
      obtain ⟨y, s1, h⟩ := nox_exc (show (noX (fe r s)).bind _ = _ from h)
      cases y <;> cases h
    | cons c0 cs ih =>
      intro r s c s' h
      obtain ⟨z, s1, h⟩ := nox_exc (show (noX (c0.1 r s)).bind _ = _ from h)
      exact one _ _ _ _ _ ih _ _ _ _ _ h
  exact fun ds {st} => one vs z t ft _ (all cs) r ds st c s'
def eLcM0 (fi : SI) (t : Tgt) (ft : SE) (cs : List Cl) (fe : SE) (vs : List Nat) : Vn → Sto → Res (List PyData) := fun r st => (fi r st).bind fun z s1 => loopM vs z t ft (lcM fe cs) r z.1 s1
def fewS (ys : List PyData) (s : Sto) : Res (List PyData) := if ys.length ≤ 1000000 then .ok ys s else .stuck
def eLcM (fi : SI) (t : Tgt) (ft : SE) (cs : List Cl) (fe : SE) (vs : List Nat) : SE := fun r st => ((eLcM0 fi t ft cs fe vs r st).bind fewS).bind fun ys s => .ok (.d (.list ys)) s
def eLcMN (fi : SI) (t : Tgt) (ft : SE) (cs : List Cl) (fe : SE) (vs : List Nat) : SE := fun r st => ((eLcM0 fi t ft cs fe vs r st).bind fewS).bind fun ys s => ansN s (some ys)
theorem ER.fresh {K : PySem.W.Frag} {as : List Addr} {G H : Hp} {st : Sto} (er : ER K as G H st) {D : Addr} {o : HO} (hD : H D = none) : ER K as G (upd H D o) st where
  sub := fun b v h => by
    have hne : b ≠ D := fun e => by
      have := er.sub _ _ h
      rw [e, hD] at this
      cases this
    rw [upd_ne hne]
    exact er.sub _ _ h
  len := er.len
  nd := er.nd
  tr := fun a m => by
    have hne : a ≠ D := fun q => er.not_mem hD (q ▸ m)
    rw [upd_ne hne]
    exact er.tr a m
  ob := fun i a o h1 h2 => by
    have hne : a ≠ D := fun q => er.not_mem hD (q ▸ List.mem_of_getElem? h1)
    have h := er.ob i a o h1 h2
    cases o with
    | lst ds =>
      obtain ⟨g, l, us, hv, t⟩ := h
      exact ⟨g, l, us, by rw [upd_ne hne]; exact hv, t⟩
    | dct kvs =>
      obtain ⟨g, ks, hv, t⟩ := h
      exact ⟨g, ks, by rw [upd_ne hne]; exact hv, t⟩
    | dead => trivial
theorem mD_self {D : Addr} {H : Hp} (h : H D = none) : mD D H = H := by
  funext a
  unfold mD
  by_cases e : a = D
  · rw [if_pos e, e, h]
  · rw [if_neg e]
section
variable {X : Cx} {W : WS}
theorem lcM_core {pins : List (Addr × Obj)} {s : Shared} {σ : L2.St} {H : Hp} {Q : VK} {elt : Expr} {g0 : Comprehension} {gs : List Comprehension} {scope : Scope} {own : List (Str × Nat)} {pos pos' : Pos} {fi : SI} {t : Tgt} {ft fe : SE} {cs : List Cl} {use : Option (Value → Sem Unit)} {Qf : Value → Shared → Prop}
    (hc : X.calm = true) (hN : X.N.Nodup) (I : Inv X pins σ H s) (as0 : g0.is_async = 0) (hi : PI X g0.target g0.iter (tJ X.K W fi)) (ok : BlkOk X.N X.env.scope scope own)
    (hg : ∀ (s : Shared) (H : Hp) (C : Addr) (cl : List (Str × Addr)) (fp : List Addr), PG (X.blk s H scope (compEnvC scope cl C X.env) fp) g0.target (gT X.K t)) (ht : ∀ (s : Shared) (H : Hp) (C : Addr) (cl : List (Str × Addr)) (fp : List Addr), PTs (X.blk s H scope (compEnvC scope cl C X.env) fp) g0.ifs (tT X.K W0 ft))
    (hcs : ∀ (s : Shared) (H : Hp) (C : Addr) (cl : List (Str × Addr)) (fp : List Addr), Cls (X.blk s H scope (compEnvC scope cl C X.env) fp) gs cs)
    (he : ∀ (s : Shared) (H : Hp) (C : Addr) (cl : List (Str × Addr)) (fp : List Addr), PE (X.blk s H scope (compEnvC scope cl C X.env) fp) elt (tE X.K W0 fe)) (hv1 : ∀ i ∈ t.slots, i ∈ own.map (·.2)) (hv2 : ∀ i ∈ slotsOf cs, i ∈ own.map (·.2)) (hs : ∀ x, foldedSetIterable g0.iter X.env x = pure x)
    {g : List PyData → Sto → Res Dv} (hQ : ∀ (as : List Addr) (G H : Hp) (st : Sto) (D : Addr) (us : List V) (ys : List PyData), ER X.K as G H st → H D = some (.lst us) → G D = none → D ∉ as → ys.length ≤ sizeLine → RpAll X.K G us ys → RK X.K as G (mD D H) (fun c H' => W c σ H') Dv V (VR X.K) Q (g ys st) → Q (.ref D) H)
    (q : ∃ r as G st, SR X.K as G σ r ∧ ER X.K as G H st ∧ RK X.K as G H (fun c H' => W c σ H') Dv V (VR X.K) Q (((eLcM0 fi t ft cs fe (own.map (·.2)) r st).bind fewS).bind g))
    (fin : ∀ (L C : Addr) (s' : Shared) (m : Str → Option Value) (H' : Hp), Inv X pins σ H' s' → Q (.ref L) H' → s'.heap.Ns C m → FpOk X pins H' C → compPost (model X.prog X.w) X.A X.xe use Qf (.ref L) C (.ok .next) s') :
    wpAny (model X.prog X.w) X.A (comprehension (.ListComp elt (g0 :: gs) scope pos) scope X.env pos' (newList []) false (eval g0.iter X.env) use) Qf X.xe s := by
  obtain ⟨r, as, G, st, sr, er, k⟩ := q
  obtain ⟨tg, iter, ifs, asy⟩ := g0
  cases as0
  have caps : ∀ y ∈ scope.names, y.2 = .free → ∃ c, X.env.cells.lookup y.1 = some c := fun y hy e => I.ok.has _ ((ok.free y hy e).elim .inl .inr)
  have k : RK X.K as G H (fun c H' => W c σ H') Dv V (VR X.K) Q ((fi r st).bind fun z s1 => ((loopM (own.map (·.2)) z t ft (lcM fe cs) r z.1 s1).bind fewS).bind g) := by
    unfold eLcM0 at k
    rw [bind_assoc, bind_assoc] at k
    have e : (fun z s1 => ((loopM (own.map (·.2)) z t ft (lcM fe cs) r z.1 s1).bind fewS).bind g) = fun (z : Wk) (s1 : Sto) => (loopM (own.map (·.2)) z t ft (lcM fe cs) r z.1 s1).bind fun ys s => (fewS ys s).bind g := by
      funext z s1
      rw [bind_assoc]
    rw [e]
    exact k
  have run := hi.run pins s σ H (fun J H1 => ∃ z s1 as1 G1, Stp as G H as1 G1 H1 ∧ ER X.K as1 G1 H1 s1 ∧ ItOk X.K as1 G1 J z ∧ RK X.K as1 G1 H1 (fun c H' => W c σ H') Dv V (VR X.K) Q (((loopM (own.map (·.2)) z t ft (lcM fe cs) r z.1 s1).bind fewS).bind g)) I
    ⟨r, as, G, st, sr, er, RK.seq k fun z s1 J as1 G1 H1 _ p1 e1 v1 k1 => ⟨z, s1, as1, G1, p1, e1, v1, k1⟩⟩
  refine wpAny_comprehension_free (use := use) rfl hs (closure_ok caps) ok.kind (fun y hy e => by rw [ok.uniq y hy, e]) (thn run fun xv s1 hx => thn hx fun itv s2 h2 => ?_)
  obtain ⟨it, fp, tn, J, H2, rfl, I2, T, st2, f2, z, s1', as1, G1, p1, e1, v1, k1⟩ := h2
  refine wpAny_newObj_type (newEnv_comp ?_) (by show 0 ≤ sizeLine; decide)
  generalize hL : s2.heap.objs.size = L
  have hL0 : H2 L = none := I2.hok.fresh (Nat.le_of_eq hL)
  generalize hs3 : ({ s2 with heap := s2.heap.push { cls := .type "list", data := .seq ([] : List Value).toArray } } : Shared) = s3
  have h3 : s3.heap = s2.heap.push { cls := .type "list", data := .seq ([] : List Value).toArray } := by rw [← hs3]
  have up3 : ∀ b o, s2.heap.get? b = some o → s3.heap.get? b = some o := fun b o e => by rw [h3]; exact Heap.get?_push_of_some _ e
  have I3 : Inv X pins σ (upd H2 L (.lst [])) s3 := by
    rw [← hs3]
    refine I2.laid (t' := s2.toks) (fun b o e => Heap.get?_push_of_some _ e) (Nat.le_of_eq hL) ⟨Nat.zero_le _, [], 0, .nil, ?_⟩
    rw [← hL]
    exact Heap.get?_push_size _ rfl
  have f3 : ∀ b ∈ fp, FpOk X pins (upd H2 L (.lst [])) b ∧ b < s3.heap.objs.size := fun b hb => by
    obtain ⟨o, e, _⟩ := T.obj _ _ st2 b hb
    have lt := Heap.lt_size e
    refine ⟨⟨?_, (f2 b hb).2⟩, by rw [h3, Heap.size_push]; exact Nat.lt_succ_of_lt lt⟩
    rw [upd_ne (by rw [← hL]; exact Nat.ne_of_lt lt)]
    exact (f2 b hb).1
  have st3 : tn 0 s3.heap := T.keep _ _ _ st2 fun b _ o e => up3 b o e
  have I4 := block_start I3 ok hN f3
  generalize hcl : cellsFrom (s3.heap.objs.size + 1) scope.names (cloFrom X.env.cells scope.names []) = cl at I4
  have pg := hg s3 (upd H2 L (.lst [])) s3.heap.objs.size cl fp
  have pt := ht s3 (upd H2 L (.lst [])) s3.heap.objs.size cl fp
  have pc := hcs s3 (upd H2 L (.lst [])) s3.heap.objs.size cl fp
  have pe := he s3 (upd H2 L (.lst [])) s3.heap.objs.size cl fp
  show codeAny _ _ (.compStart (.ListComp elt (⟨tg, iter, ifs, 0⟩ :: gs) scope pos) 0 (.ref it) (.ref L) (compEnvC scope cl s3.heap.objs.size X.env)) (compPost (model X.prog X.w) X.A X.xe use Qf (.ref L) s3.heap.objs.size) { s3 with heap := pushCells (s3.heap.push { cls := .type "dict", data := .dict #[] }) scope.names }
  have nfp : ∀ b ∈ fp, (upd H2 L (.lst [])) b = none := fun b hb => (f3 b hb).1.1
  generalize hce : compEnvC scope cl s3.heap.objs.size X.env = ce at I4 pg pt pc pe ⊢
  have cL : ce.locals = s3.heap.objs.size := by
    subst hce
    rfl
  have ac : Acc X.K L as1 G1 (upd H2 L (.lst [])) s1' [] := ⟨e1.fresh hL0, e1.g_none hL0, e1.not_mem hL0, [], upd_same, .nil⟩
  have mD3 : mD L (upd H2 L (.lst [])) = H2 := by rw [mD_upd, mD_self hL0]
  generalize hH3 : upd H2 L (.lst []) = H3 at I3 I4 pg pt pc pe nfp f3 ac mD3
  generalize hs4 : ({ s3 with heap := pushCells (s3.heap.push { cls := .type "dict", data := .dict #[] }) scope.names } : Shared) = s4 at I4 ⊢
  have st4 : tn 0 s4.heap := T.keep _ _ _ st3 fun b _ o e => by
    rw [← hs4]
    exact pushCells_keeps _ _ _ _ (Heap.get?_push_of_some _ e)
  have fpo : ∀ b ∈ fp, FpOk (X.blk s3 H3 scope ce fp) [] H3 b := fun b hb =>
    ⟨nfp b hb, (I4.ok.exf b hb).1, I4.ok.exfs b hb, .inl hb, fun x c e => (I4.ok.exf b hb).2 x c e, fun p hp => absurd (show p ∈ ([] : List (Addr × Obj)) ++ [] from hp) (by simp)⟩
  obtain ⟨hstep, hnext⟩ := Cls.step (B := X.blk s3 H3 scope ce fp) (elt := elt) (scope := scope) (pos := pos) (D := L) (gens := ⟨tg, iter, ifs, 0⟩ :: gs) (j := 1) hc rfl pe pc rfl
  cases el : loopM (own.map (·.2)) z t ft (lcM fe cs) r z.1 s1' with
  | exc c s6 => exact absurd el (loopM_noexc _)
  | stuck =>
    rw [el] at k1
    exact k1.elim
  | ok ys s6 =>
    rw [el] at k1
    simp only [bind_ok, fewS] at k1
    by_cases hz : ys.length ≤ 1000000
    · rw [if_pos hz] at k1
      have loop := lv_loop (B := X.blk s3 H3 scope ce fp) (elt := elt) (gens := ⟨tg, iter, ifs, 0⟩ :: gs) (scope := scope) (pos := pos) (D := L) (fe := fe) (j := 0) (c := (fi, t, ft)) (cs := cs) hc rfl rfl rfl pg pt hnext hstep (vs := own.map (·.2)) hv1 hv2 (R := compPost (model X.prog X.w) X.A X.xe use Qf (.ref L) s3.heap.objs.size) T st4 fpo v1.1 I4 (sr.mono p1) ac el (by simpa using hz) (fun H' s' as' G' I' sp' ac' => by
        have apart : ∀ b ∈ fp, (b ∈ X.ex ∨ X.s_0.heap.objs.size ≤ b) ∧ b ≠ X.env.locals ∧ (∀ x c, X.env.cells.lookup x = some c → c ≠ b) ∧ ∀ p ∈ X.pn ++ pins, p.1 ≠ b := fun b hb => by
          obtain ⟨z0, z1, z2, z3, z4, z5⟩ := (f3 b hb).1
          exact ⟨z3, z1, z4, z5⟩
        have I7 : Inv X pins σ H' s' := I3.call' (ch := fp) I'.os I'.base I'.hok I'.bare apart
        have nC : H' s3.heap.objs.size = none := by
          have z : H' ce.locals = none := I'.free
          rw [cL] at z
          exact z
        obtain ⟨m, hn, _⟩ := I'.loc
        have hn : s'.heap.Ns ce.locals m := hn
        rw [cL] at hn
        obtain ⟨us, hD, ra⟩ := ac'.us
        rw [mD3] at sp'
        exact fin L s3.heap.objs.size s' m H' I7 (hQ as' G' H' s6 L us ys ac'.er hD ac'.gD ac'.nD (Nat.le_trans hz (by decide)) (by simpa using ra) (RK.from sp' k1)) hn (I3.fpOk (Nat.le_refl _) nC))
      exact codeAny_compStart_list loop (T.self X.A 0 _ _ _ st4 loop)
    · rw [if_neg hz] at k1
      exact k1.elim
end
end DL
namespace DL
open PySem PySem.Spec PyProof.Rows L2
section
variable {X : Cx} {W : WS} {elt tg iter : Expr} {ifs : List Expr} {gs : List Comprehension} {scope : Scope} {own : List (Str × Nat)} {pos : Pos} {fi : SI} {t : Tgt} {ft fe : SE} {cs : List Cl}
theorem cl_ok {B : Cx} {tg iter : Expr} {ifs : List Expr} {fi : SI} {t : Tgt} {ft : SE} (h1 : PI B tg iter (tJ B.K W0 fi)) (h2 : PG B tg (gT B.K t)) (h3 : PTs B ifs (tT B.K W0 ft)) (h4 : ∀ (env : Env) (x : Value), foldedSetIterable iter env x = pure x := by intro _ _; rfl) : ClOk B ⟨tg, iter, ifs, 0⟩ (fi, t, ft) := ⟨rfl, h1, h2, h3, h4⟩
theorem frz_q {as : List Addr} {G H : Hp} {st : Sto} {σ : L2.St} {Q : VK} {D : Addr} {us : List V} {ys : List PyData} (er : ER X.K as G H st) (hD : H D = some (.lst us)) (gD : G D = none) (nD : D ∉ as) (hl : ys.length ≤ sizeLine) (ra : RpAll X.K G us ys) (k : RK X.K as G (mD D H) (fun c H' => W c σ H') Dv V (VR X.K) Q (.ok (.d (.list ys)) st)) : Q (.ref D) H := by
  have sG : Same G (upd G D (.lst us)) := Same.upd1 gD
  refine k (.ref D) as (upd G D (.lst us)) H ⟨⟨[], by simp, fun a ha => by cases ha⟩, sG, fun a o ha na => ?_, fun a ha => ?_⟩ (ER.beside er hD gD nD) (.lst upd_same hl (RpAll.mono sG ra))
  · unfold mD at ha
    by_cases e : a = D
    · rw [if_pos e] at ha
      cases ha
    · rw [if_neg e] at ha
      exact ⟨ha, upd_ne e⟩
  · unfold mD at ha
    by_cases e : a = D
    · rw [if_pos e] at ha
      exact absurd rfl ha
    · rw [if_neg e] at ha
      exact ha
theorem new_q {as : List Addr} {G H : Hp} {st : Sto} {σ : L2.St} {Q : VK} {D : Addr} {us : List V} {ys : List PyData} (er : ER X.K as G H st) (hD : H D = some (.lst us)) (gD : G D = none) (nD : D ∉ as) (hl : ys.length ≤ sizeLine) (ra : RpAll X.K G us ys) (k : RK X.K as G (mD D H) (fun c H' => W c σ H') Dv V (VR X.K) Q (ansN st (some ys))) : Q (.ref D) H := by
  refine k (.ref D) (as ++ [D]) G H ⟨⟨[D], rfl, fun a ha => ?_⟩, fun _ _ z => z, fun a o ha na => ?_, fun a ha => ?_⟩ (ER.taken er hD gD nD hl ra) ⟨D, ?_, rfl⟩
  · have e : a = D := by simpa using ha
    unfold mD
    rw [if_pos e]
  · unfold mD at ha
    by_cases e : a = D
    · rw [if_pos e] at ha
      cases ha
    · rw [if_neg e] at ha
      exact ⟨ha, rfl⟩
  · unfold mD at ha
    by_cases e : a = D
    · rw [if_pos e] at ha
      exact absurd rfl ha
    · rw [if_neg e] at ha
      exact ha
  · rw [← er.len]
    simp
theorem lcM_pe {g : List PyData → Sto → Res Dv} (hc : X.calm = true) (hN : X.N.Nodup) (hi : PI X tg iter (tJ X.K W fi)) (ok : BlkOk X.N X.env.scope scope own)
    (hg : ∀ (s : Shared) (H : Hp) (C : Addr) (cl : List (Str × Addr)) (fp : List Addr), PG (X.blk s H scope (compEnvC scope cl C X.env) fp) tg (gT X.K t)) (ht : ∀ (s : Shared) (H : Hp) (C : Addr) (cl : List (Str × Addr)) (fp : List Addr), PTs (X.blk s H scope (compEnvC scope cl C X.env) fp) ifs (tT X.K W0 ft))
    (hcs : ∀ (s : Shared) (H : Hp) (C : Addr) (cl : List (Str × Addr)) (fp : List Addr), Cls (X.blk s H scope (compEnvC scope cl C X.env) fp) gs cs) (he : ∀ (s : Shared) (H : Hp) (C : Addr) (cl : List (Str × Addr)) (fp : List Addr), PE (X.blk s H scope (compEnvC scope cl C X.env) fp) elt (tE X.K W0 fe))
    (hv1 : ∀ i ∈ t.slots, i ∈ own.map (·.2)) (hv2 : ∀ i ∈ slotsOf cs, i ∈ own.map (·.2)) (hs : ∀ x, foldedSetIterable iter X.env x = pure x)
    (hQ : ∀ (σ : L2.St) (Q : VK) (as : List Addr) (G H : Hp) (st : Sto) (D : Addr) (us : List V) (ys : List PyData), ER X.K as G H st → H D = some (.lst us) → G D = none → D ∉ as → ys.length ≤ sizeLine → RpAll X.K G us ys → RK X.K as G (mD D H) (fun c H' => W c σ H') Dv V (VR X.K) Q (g ys st) → Q (.ref D) H) :
    PE X (.ListComp elt (⟨tg, iter, ifs, 0⟩ :: gs) scope pos) (tE X.K W fun r st => ((eLcM0 fi t ft cs fe (own.map (·.2)) r st).bind fewS).bind g) := by
  refine ⟨fun pins s σ H Q I q => ?_⟩
  rw [eval_ListComp]
  refine lcM_core (g0 := ⟨tg, iter, ifs, 0⟩) hc hN I rfl hi ok hg ht hcs he hv1 hv2 hs (hQ σ Q) q fun L C s' m H' J qq hn f => ⟨m, hn, fun h'' sb => ?_⟩
  obtain ⟨k0, k1, k2, k3, k4, k5⟩ := f
  exact ⟨.ref L, H', J.turned (t' := s'.toks) (fun b o hb e => (sb.2 b hb).trans e) k0 k1 k3 k4 k5, rfl, qq⟩
theorem lcM_set {i : Nat} {y : Str} {py spos : Pos} {g : List PyData → Sto → Res Dv} (hc : X.calm = true) (hN : X.N.Nodup) (hy : X.N[i]? = some y) (hyl : X.env.scope.names.lookup y = some .local) (hsw : swapsWith (.ListComp elt (⟨tg, iter, ifs, 0⟩ :: gs) scope pos) (some (.Name y py)) spos.line X.env = pure true) (hi : PI X tg iter (tJ X.K W fi)) (ok : BlkOk X.N X.env.scope scope own)
    (hg : ∀ (s : Shared) (H : Hp) (C : Addr) (cl : List (Str × Addr)) (fp : List Addr), PG (X.blk s H scope (compEnvC scope cl C X.env) fp) tg (gT X.K t)) (ht : ∀ (s : Shared) (H : Hp) (C : Addr) (cl : List (Str × Addr)) (fp : List Addr), PTs (X.blk s H scope (compEnvC scope cl C X.env) fp) ifs (tT X.K W0 ft))
    (hcs : ∀ (s : Shared) (H : Hp) (C : Addr) (cl : List (Str × Addr)) (fp : List Addr), Cls (X.blk s H scope (compEnvC scope cl C X.env) fp) gs cs) (he : ∀ (s : Shared) (H : Hp) (C : Addr) (cl : List (Str × Addr)) (fp : List Addr), PE (X.blk s H scope (compEnvC scope cl C X.env) fp) elt (tE X.K W0 fe))
    (hv1 : ∀ i ∈ t.slots, i ∈ own.map (·.2)) (hv2 : ∀ i ∈ slotsOf cs, i ∈ own.map (·.2)) (hs : ∀ x, foldedSetIterable iter X.env x = pure x)
    (hQ : ∀ (σ : L2.St) (Q : VK) (as : List Addr) (G H : Hp) (st : Sto) (D : Addr) (us : List V) (ys : List PyData), ER X.K as G H st → H D = some (.lst us) → G D = none → D ∉ as → ys.length ≤ sizeLine → RpAll X.K G us ys → RK X.K as G (mD D H) (fun c H' => W c σ H') Dv V (VR X.K) Q (g ys st) → Q (.ref D) H) :
    PS X (.Assign [.Name y py] (.ListComp elt (⟨tg, iter, ifs, 0⟩ :: gs) scope pos) spos) (tAsg (tE X.K W fun r st => ((eLcM0 fi t ft cs fe (own.map (·.2)) r st).bind fewS).bind g) (gName i)) := by
  refine ⟨fun pins s σ H D I q => ?_⟩
  rw [exec_Assign_Name_used _ _ _ _ hsw]
  refine wpAny_bind (wpAny_standAt (wpAny_bind ?_))
  show wpAny _ X.A (do let _ ← comprehension (.ListComp elt (⟨tg, iter, ifs, 0⟩ :: gs) scope pos) scope X.env (firstIterPos (⟨tg, iter, ifs, 0⟩ :: gs) pos) (newList []) false (eval iter X.env) (some (assign (.Name y py) X.env))) _ _ s
  refine wpAny_bind (thn (lcM_core (g0 := ⟨tg, iter, ifs, 0⟩) (Qf := fun _ s' => SP X pins D .next s') (Q := fun x H1 => gName i x σ H1 D.nx) hc hN I rfl hi ok hg ht hcs he hv1 hv2 hs (hQ σ _) q fun L C s' m H' J qq hn f => ?_) fun _ s' z => wpAny_pure (wpAny_pure z))
  show wpAny _ _ (assign (.Name y py) X.env (.ref L)) _ _ _
  refine wpAny_assign_Name (store_ok2 (v := V.ref L) J hN hy (.inl hyl) rfl (fun s2 J2 h2 => ?_) (.inr hyl))
  obtain ⟨a, sb, ha⟩ := h2
  obtain ⟨k0, k1, k2, k3, k4, k5⟩ := f
  have ne : C ≠ a := by
    rcases ha with z | z
    · rw [z]
      exact k1
    · exact fun e => k4 y a z e.symm
  refine ⟨m, hn.sameBut sb ne, fun g3 sb3 => ⟨_, H', ?_, qq⟩⟩
  exact J2.turned (t' := s2.toks) (fun b o hb e => (sb3.2 b hb).trans e) k0 k1 k3 k4 k5
theorem de_lcM (hc : X.calm = true) (hN : X.N.Nodup) (hi : PI X tg iter (tJ X.K W fi)) (ok : BlkOk X.N X.env.scope scope own)
    (hg : ∀ (s : Shared) (H : Hp) (C : Addr) (cl : List (Str × Addr)) (fp : List Addr), PG (X.blk s H scope (compEnvC scope cl C X.env) fp) tg (gT X.K t)) (ht : ∀ (s : Shared) (H : Hp) (C : Addr) (cl : List (Str × Addr)) (fp : List Addr), PTs (X.blk s H scope (compEnvC scope cl C X.env) fp) ifs (tT X.K W0 ft))
    (hcs : ∀ (s : Shared) (H : Hp) (C : Addr) (cl : List (Str × Addr)) (fp : List Addr), Cls (X.blk s H scope (compEnvC scope cl C X.env) fp) gs cs) (he : ∀ (s : Shared) (H : Hp) (C : Addr) (cl : List (Str × Addr)) (fp : List Addr), PE (X.blk s H scope (compEnvC scope cl C X.env) fp) elt (tE X.K W0 fe))
    (hv1 : ∀ i ∈ t.slots, i ∈ own.map (·.2) := by decide) (hv2 : ∀ i ∈ slotsOf cs, i ∈ own.map (·.2) := by decide) (hs : ∀ x, foldedSetIterable iter X.env x = pure x := by intro _; rfl) : PE X (.ListComp elt (⟨tg, iter, ifs, 0⟩ :: gs) scope pos) (tE X.K W (eLcM fi t ft cs fe (own.map (·.2)))) :=
  lcM_pe hc hN hi ok hg ht hcs he hv1 hv2 hs fun σ Q as G H st D us ys a1 a2 a3 a4 a5 a6 a7 => frz_q (σ := σ) a1 a2 a3 a4 a5 a6 a7
theorem de_lcMN (hc : X.calm = true) (hN : X.N.Nodup) (hi : PI X tg iter (tJ X.K W fi)) (ok : BlkOk X.N X.env.scope scope own)
    (hg : ∀ (s : Shared) (H : Hp) (C : Addr) (cl : List (Str × Addr)) (fp : List Addr), PG (X.blk s H scope (compEnvC scope cl C X.env) fp) tg (gT X.K t)) (ht : ∀ (s : Shared) (H : Hp) (C : Addr) (cl : List (Str × Addr)) (fp : List Addr), PTs (X.blk s H scope (compEnvC scope cl C X.env) fp) ifs (tT X.K W0 ft))
    (hcs : ∀ (s : Shared) (H : Hp) (C : Addr) (cl : List (Str × Addr)) (fp : List Addr), Cls (X.blk s H scope (compEnvC scope cl C X.env) fp) gs cs) (he : ∀ (s : Shared) (H : Hp) (C : Addr) (cl : List (Str × Addr)) (fp : List Addr), PE (X.blk s H scope (compEnvC scope cl C X.env) fp) elt (tE X.K W0 fe))
    (hv1 : ∀ i ∈ t.slots, i ∈ own.map (·.2) := by decide) (hv2 : ∀ i ∈ slotsOf cs, i ∈ own.map (·.2) := by decide) (hs : ∀ x, foldedSetIterable iter X.env x = pure x := by intro _; rfl) : PE X (.ListComp elt (⟨tg, iter, ifs, 0⟩ :: gs) scope pos) (tE X.K W (eLcMN fi t ft cs fe (own.map (·.2)))) :=
  lcM_pe hc hN hi ok hg ht hcs he hv1 hv2 hs fun σ Q as G H st D us ys a1 a2 a3 a4 a5 a6 a7 => new_q (σ := σ) a1 a2 a3 a4 a5 a6 a7
end
end DL
namespace DL
open PySem PySem.Spec PyProof.Rows L2
section
variable {X : Cx} {W : WS} {elt tg iter : Expr} {ifs : List Expr} {gs : List Comprehension} {scope : Scope} {own : List (Str × Nat)} {pos : Pos} {fi : SI} {t : Tgt} {ft fe : SE} {cs : List Cl} {i : Nat} {y : Str} {py spos : Pos}
theorem ds_setLcM (hc : X.calm = true) (hN : X.N.Nodup) (hy : X.N[i]? = some y) (hyl : X.env.scope.names.lookup y = some .local) (hsw : swapsWith (.ListComp elt (⟨tg, iter, ifs, 0⟩ :: gs) scope pos) (some (.Name y py)) spos.line X.env = pure true) (hi : PI X tg iter (tJ X.K W fi)) (ok : BlkOk X.N X.env.scope scope own)
    (hg : ∀ (s : Shared) (H : Hp) (C : Addr) (cl : List (Str × Addr)) (fp : List Addr), PG (X.blk s H scope (compEnvC scope cl C X.env) fp) tg (gT X.K t)) (ht : ∀ (s : Shared) (H : Hp) (C : Addr) (cl : List (Str × Addr)) (fp : List Addr), PTs (X.blk s H scope (compEnvC scope cl C X.env) fp) ifs (tT X.K W0 ft))
    (hcs : ∀ (s : Shared) (H : Hp) (C : Addr) (cl : List (Str × Addr)) (fp : List Addr), Cls (X.blk s H scope (compEnvC scope cl C X.env) fp) gs cs) (he : ∀ (s : Shared) (H : Hp) (C : Addr) (cl : List (Str × Addr)) (fp : List Addr), PE (X.blk s H scope (compEnvC scope cl C X.env) fp) elt (tE X.K W0 fe))
    (hv1 : ∀ i ∈ t.slots, i ∈ own.map (·.2) := by decide) (hv2 : ∀ i ∈ slotsOf cs, i ∈ own.map (·.2) := by decide) (hs : ∀ x, foldedSetIterable iter X.env x = pure x := by intro _; rfl) : PS X (.Assign [.Name y py] (.ListComp elt (⟨tg, iter, ifs, 0⟩ :: gs) scope pos) spos) (tS X.K W (sAsg (eLcM fi t ft cs fe (own.map (·.2))) (.nm i))) :=
  PS.imp (lcM_set (g := fun ys s => .ok (.d (.list ys)) s) hc hN hy hyl hsw hi ok hg ht hcs he hv1 hv2 hs fun σ Q as G H st D us ys a1 a2 a3 a4 a5 a6 a7 => frz_q (σ := σ) a1 a2 a3 a4 a5 a6 a7) fun _ _ _ q => asg_r (t := .nm i) (fun _ z => z) q
theorem ds_setLcMN (hc : X.calm = true) (hN : X.N.Nodup) (hy : X.N[i]? = some y) (hyl : X.env.scope.names.lookup y = some .local) (hsw : swapsWith (.ListComp elt (⟨tg, iter, ifs, 0⟩ :: gs) scope pos) (some (.Name y py)) spos.line X.env = pure true) (hi : PI X tg iter (tJ X.K W fi)) (ok : BlkOk X.N X.env.scope scope own)
    (hg : ∀ (s : Shared) (H : Hp) (C : Addr) (cl : List (Str × Addr)) (fp : List Addr), PG (X.blk s H scope (compEnvC scope cl C X.env) fp) tg (gT X.K t)) (ht : ∀ (s : Shared) (H : Hp) (C : Addr) (cl : List (Str × Addr)) (fp : List Addr), PTs (X.blk s H scope (compEnvC scope cl C X.env) fp) ifs (tT X.K W0 ft))
    (hcs : ∀ (s : Shared) (H : Hp) (C : Addr) (cl : List (Str × Addr)) (fp : List Addr), Cls (X.blk s H scope (compEnvC scope cl C X.env) fp) gs cs) (he : ∀ (s : Shared) (H : Hp) (C : Addr) (cl : List (Str × Addr)) (fp : List Addr), PE (X.blk s H scope (compEnvC scope cl C X.env) fp) elt (tE X.K W0 fe))
    (hv1 : ∀ i ∈ t.slots, i ∈ own.map (·.2) := by decide) (hv2 : ∀ i ∈ slotsOf cs, i ∈ own.map (·.2) := by decide) (hs : ∀ x, foldedSetIterable iter X.env x = pure x := by intro _; rfl) : PS X (.Assign [.Name y py] (.ListComp elt (⟨tg, iter, ifs, 0⟩ :: gs) scope pos) spos) (tS X.K W (sAsg (eLcMN fi t ft cs fe (own.map (·.2))) (.nm i))) :=
  PS.imp (lcM_set (g := fun ys s => ansN s (some ys)) hc hN hy hyl hsw hi ok hg ht hcs he hv1 hv2 hs fun σ Q as G H st D us ys a1 a2 a3 a4 a5 a6 a7 => new_q (σ := σ) a1 a2 a3 a4 a5 a6 a7) fun _ _ _ q => asg_r (t := .nm i) (fun _ z => z) q
end
end DL
set_option maxHeartbeats 2000000
/-! G layer, part 5: sorted of a tuple. -/
namespace DL
open PySem PySem.Spec PyProof.Rows L2
section
variable {prog : Program} {w : World} {A : Around} {E : Value → Shared → Prop} {s : Shared}
/-- a tuple's items, put into a new list -/
theorem collectT {l : Addr} {vs : List Value} {Q : List Value → Shared → Prop} (ht : IsTup s.heap l vs.toArray) (h : Q vs { s with heap := (s.heap.push (seqObj "list" #[] 0)).update s.heap.objs.size (Obj.mapSeq (· ++ vs.toArray)) }) (hz : vs.length ≤ sizeLine) :
    wpAny (model prog w) A (collect (.ref l)) Q E s := by
  obtain ⟨u, gu, cu, n, du⟩ := id ht
  unfold collect
  refine wpAny_bind (wpAny_runValue (codeAny_builtin entry_proto_collect' ?_))
  show wpAny _ _ (do again (.builtin "list.__iadd__" ⟨[← newList [], .ref l], []⟩)) _ _ s
  refine wpAny_bind (wpAny_newList (wpAny_pure ⟨Code.quiet_builtin _ (by decide +kernel), codeAny_builtin entry_list_iadd' ?_⟩))
  show wpAny _ _ (Builtin.List.listExtendWith (.ref s.heap.objs.size) (.ref l) (.ref s.heap.objs.size)) _ _ { s with heap := s.heap.push (seqObj "list" #[] 0) }
  unfold Builtin.List.listExtendWith
  have gu' : (s.heap.push (seqObj "list" #[] 0)).get? l = some u := Heap.get?_push_of_some _ gu
  refine wpAny_bind (wpAny_typeOf (T := "tuple") ⟨u, gu', cu⟩ ?_)
  have yes : (Value.type "tuple" == Value.type "tuple") = true := by rfl
  rw [if_pos (by rw [yes]; simp)]
  refine wpAny_bind (listItems_at gu' du ?_)
  refine wpAny_bind (listItems_at (xs := #[]) (n := 0) (Heap.get?_push_size _ rfl) rfl ?_)
  rw [if_neg (by simp)]
  refine wpAny_bind (listUpdate_at (xs := #[]) (n := 0) (Heap.get?_push_size _ rfl) rfl ?_ (Nat.zero_le _) (by show (#[] ++ vs.toArray).size ≤ sizeLine + 1; simp only [Array.size_append, List.size_toArray, List.length_nil]; omega))
  refine wpAny_pure ?_
  show wpAny (model prog w) A (do
      let o ← load s.heap.objs.size
      match o.data with
      | .seq xs _ => pure xs.toList
      | _ => unsupported "internal:collect") Q E { s with heap := (s.heap.push (seqObj "list" #[] 0)).update s.heap.objs.size (Obj.mapSeq (· ++ vs.toArray)) }
  refine wpAny_bind (wpAny_load (get?_update_seq (Heap.get?_push_size _ rfl) _) ?_)
  show wpAny _ _ (pure ((#[] : Array Value) ++ vs.toArray).toList) Q E _
  rw [show ((#[] : Array Value) ++ vs.toArray).toList = vs by simp]
  exact wpAny_pure h
/-- sorted(t), t a tuple -/
theorem sortedT_vals {κ : KeyKind} {l : Addr} {vs : List Value} {Q : Value → Shared → Prop} (ht : IsTup s.heap l vs.toArray) (S : PySem.W.SortsAt prog w A.in1.in1 { s with heap := PySem.W.sortingHeap (PySem.W.copyHeap s.heap vs) (s.heap.objs.size + 1) vs } κ vs) (hL : vs.length ≤ sizeLine)
    (h : Q (.ref (s.heap.objs.size + 1)) { s with heap := sortedAll s.heap vs (PySem.W.sortVals κ false vs vs).toArray }) : wpAny (model prog w) A (call (.builtin "sorted") [.ref l]) Q E s := by
  refine call_function_entry_kw kind_sorted plain_sorted entry_sorted (args_sorted1 _) ?_
  unfold Builtin.«sorted»
  refine wpAny_bind (m := checkCount "sorted" 1 1 _) (wpAny_pure ?_)
  refine wpAny_bind (collectT ht ?_ hL)
  refine wpAny_bind (wpAny_newList ?_ hL)
  have sz : ((s.heap.push (seqObj "list" #[] 0)).update s.heap.objs.size (Obj.mapSeq (· ++ vs.toArray))).objs.size = s.heap.objs.size + 1 := by rw [Heap.size_update, size_push']
  show wpAny _ _ _ _ _ { s with heap := PySem.W.copyHeap s.heap vs }
  rw [sz]
  refine wpAny_bind (wpAny_holding (wpAny_call_entry_kw slot_list_sort ⟨_, PySem.W.copyHeap_at s.heap vs, rfl⟩ entry_list_sort ?_ (args_list_sort _)))
  show wpAny (model prog w) A.in1.in1 (Builtin.«list.sort» ⟨[.ref (s.heap.objs.size + 1)], []⟩) _ _ _
  exact PySem.W.list_sort_vals (s := { s with heap := PySem.W.copyHeap s.heap vs }) (PySem.W.copyHeap_at s.heap vs) S hL ⟨_, rfl, wpAny_pure ⟨_, rfl, h⟩⟩
end
end DL
namespace DLS
open PySem PySem.W PySem.Calls PyProof.Rows
theorem sortedT_data {prog : Program} {w : World} {A : Around} {E : Value → Shared → Prop} {s : Shared} {β : Type} {enc : β → PyData} {R : Value → β → Prop} {vs : List Value} {bs : List β} {l : Addr} {Q : Value → Shared → Prop} (ht : IsTup s.heap l vs.toArray) (e : EachIs R vs bs) (er : EachIs (fun v b => ∃ as, Reads s.heap v (enc b) as) vs bs) (hal : AllAlike (bs.map enc)) (hk : Sortable (bs.map enc)) (hL : bs.length ≤ sizeLine)
    (hu : ∀ b, b ∈ bs → A.units + 2 + (enc b).depth < cLine) (h : ∀ out, out.length = bs.length → EachIs R out (bs.mergeSort (dataLe false enc)) → Q (.ref (s.heap.objs.size + 1)) { s with heap := sortedAll s.heap vs (List.toArray out) }) : wpAny (model prog w) A (call (.builtin "sorted") [.ref l]) Q E s := by
  have ers : EachIs (fun v b => ∃ as, Reads (sortingHeap (copyHeap s.heap vs) (s.heap.objs.size + 1) vs) v (enc b) as) vs bs := er.mono fun _ _ ⟨as, r⟩ => ⟨as, PyProof.Rows.Reads.keeps (fun _ _ => sorting_copy_old) r⟩
  exact DL.sortedT_vals ht (SortsAt.data (s := { s with heap := sortingHeap (copyHeap s.heap vs) (s.heap.objs.size + 1) vs }) (each_map (R := fun v d => ∃ as, Reads (sortingHeap (copyHeap s.heap vs) (s.heap.objs.size + 1) vs) v d as) enc ers) hal hk (bound_map hu)) (by rw [e.length]; exact hL) (h _ (by rw [sortVals_length false rfl]; exact e.length) (sortVals_data false e ers hal))
end DLS
namespace DL
open PySem PySem.Spec PyProof.Rows L2
/-- sorted of a list or of a tuple -/
def rSortA (K : PySem.W.Frag) : List V → Hp → VK → Prop := fun vs H Q => rSortP K vs H Q ∨ ∃ (a : Addr) (us : List V) (ds : List PyData), vs = [.ref a] ∧ SqT K H a us ∧ DpAll K H us ds ∧ sortOk ds = true ∧ ds.length ≤ sizeLine ∧ ∀ p, H p = none → Q (.ref p) (upd H p (.lst ((zs ds us).map (·.2))))
theorem cr_sortA {X : Cx} (hu : X.A.units + 64 < cLine) : CallR X (.builtin "sorted") (rSortA X.K) := by
  intro pins s σ H vs us Q I r h
  rcases h with h | ⟨a, ws, ds, rfl, hs, hd, hok, hl, q⟩
  · exact cr_sortP hu pins s σ H vs us Q I r h
  · obtain ⟨its, rv, hp, _⟩ := I.tuple hs
    rw [Vals.ref1 r]
    obtain ⟨e1, e2⟩ := each_zip (K := X.K) I hd rv
    obtain ⟨o1, o2, o3⟩ := sortOk_ok hok
    have hlen : ds.length = ws.length := (DpAll.len hd).symm
    have ef : (ds.zip ws).map Prod.fst = ds := zip_fst hlen
    refine DLS.sortedT_data (enc := Prod.fst) hp e1 e2 (by rw [ef]; exact o1) (by rw [ef]; exact o2) (by rw [List.length_zip]; omega) (fun b hb => ?_) fun out hout he => ?_
    · have : b.1 ∈ ds := by
        rw [← ef]
        exact List.mem_map_of_mem hb
      have := o3 _ this
      omega
    · obtain ⟨ep, he'⟩ := PyProof.Rows.sortedAll_at s.heap its (List.toArray out)
      have hv := each_vals he
      have hz : ((zs ds ws).map (·.2)).length ≤ sizeLine := by
        rw [List.length_map, List.length_mergeSort, List.length_zip]
        omega
      exact ⟨.ref _, upd H (s.heap.objs.size + 1) (.lst ((zs ds ws).map (·.2))), I.laid (t' := s.toks) (fun _ _ => PyProof.Rows.sortedAll_old) (Nat.le_succ _) ⟨hz, out, ep, hv, he'⟩, rfl, q _ (I.hok.fresh (Nat.le_succ _))⟩
def sortAD : G1L := fun xs st => match xs with
  | [.d (.tuple ds)] => if sortOk ds = true ∧ ds.length ≤ 1000000 then some (sortD ds) else none
  | xs => sortLD xs st
end DL
namespace DL
open PySem PySem.Spec PyProof.Rows L2
theorem snd_sortA {K : PySem.W.Frag} : Snd1L K (rSortA K) sortAD := by
  intro as G H st vs xs ds Q er vx e k
  unfold sortAD at e
  split at e
  · next es =>
    split at e
    · next hok =>
      cases e
      cases vx with
      | cons h t =>
        cases t
        cases h with
        | tup hT hl t =>
          next a us =>
          have hlen : es.length = us.length := (RpAll.len t).symm
          refine .inr ⟨a, us, es, rfl, TupX.sq (TupX.mono er.sub hT), RpAll.dp er.sub t, hok.1, hl, fun p hp => k p _ hp (by unfold sortD; rw [List.length_mergeSort]; exact hl) ?_⟩
          rw [← zs_fst es us hlen]
          exact RpAll.ofMem fun b hb => RpAll.zipMem t b ((List.mergeSort_perm _ _).mem_iff.mp hb)
    · cases e
  · exact .inl (snd_sort as G H st vs xs ds Q er vx e k)
end DL
set_option maxHeartbeats 200000
/-! The meanings of defs that several laws share. -/
namespace DL
open PySem PySem.Spec L2
def c_KINDS : PyData := .tuple [.str "mute", .str "solo"]
def c_FLAGS : PyData := .tuple [.bool false, .bool true]
/-- is_name(value, sign) -/
def body_is_name : SS :=
  (sRet (eAnd (eIsi PyData.isStr (eV 0)) (eAnd (eChain leD leD (eK (.int 1)) (eB lenD (aCons (eV 0) aNil)) (eK (.int 8))) (eB (anyD true) (aCons (eLc (iOf (eV 0)) (.nm 1) eYes (eBin (signD false) (eV 1) (eK (.str "abcdefghijklmnopqrstuvwxyz"))) [1]) aNil)))))
def sem_is_name : SF := fnD 2 body_is_name
/-- is_layout(value, names, node) -/
def body_is_layout : SS :=
  (sSeq (sIf (eOr (eNot (eIsi PyData.isTuple (eV 0))) (eNot (eChain leD leD (eK (.int 1)) (eB lenD (aCons (eV 0) aNil)) (eK (.int 12)))))
  (sRet (eK (.bool false)))
  sNil)
  (sSeq (sAsg (eLstN aNil) (.nm 1))
  (sSeq (sFor (iOf (eV 0)) (.nm 2)
  (sSeq (sIf (eOr (eNot (eIsi PyData.isTuple (eV 2))) (eOr (eBin neD (eB lenD (aCons (eV 2) aNil)) (eK (.int 2))) (eOr (eNot (eCall sem_is_name (aCons (eBin ixD (eV 2) (eK (.int 0))) aNil))) (eBin (isinD false) (eBin ixD (eV 2) (eK (.int 0))) (eV 1)))))
  (sRet (eK (.bool false)))
  sNil)
  (sSeq (sIf (eOr (eNot (eIsi PyData.isStr (eBin ixD (eV 2) (eK (.int 1))))) (eAnd (eBin neD (eBin ixD (eV 2) (eK (.int 1))) (eK (.str ""))) (eBin (isinD true) (eBin ixD (eV 2) (eK (.int 1))) (eV 1))))
  (sRet (eK (.bool false)))
  sNil)
  (sExpr (eMth mAppend (eV 1) (aCons (eBin ixD (eV 2) (eK (.int 0))) aNil))))))
  (sRet (eK (.bool true))))))
def sem_is_layout : SF := fnD 3 body_is_layout
/-- require_layout(value) -/
def body_require_layout : SS :=
  (sIf (eNot (eCall sem_is_layout (aCons (eV 0) aNil)))
  (sRaise "InvalidLayout")
  sNil)
def sem_require_layout : SF := fnD 1 body_require_layout
/-- names_of(layout, name, parent) -/
def body_names_of : SS :=
  (sRet (eLc (iOf (eV 0)) (.tp [1, 2]) eYes (eV 1) [1, 2]))
def sem_names_of : SF := fnD 3 body_names_of
/-- tracks_of(layout, parents, name, parent) -/
def body_tracks_of : SS :=
  (sSeq (sAsg (eLc (iOf (eV 0)) (.tp [2, 3]) eYes (eV 3) [2, 3]) (.nm 1))
  (sRet (eBN sortAD (aCons (eLc (iOf (eCall sem_names_of (aCons (eV 0) aNil))) (.nm 2) (eBin (isinD true) (eV 2) (eV 1)) (eV 2) [2]) aNil))))
def sem_tracks_of : SF := fnD 4 body_tracks_of
/-- is_node(layout, value) -/
def body_is_node : SS :=
  (sRet (eAnd (eIsi PyData.isStr (eV 1)) (eBin (isinD false) (eV 1) (eCall sem_names_of (aCons (eV 0) aNil)))))
def sem_is_node : SF := fnD 2 body_is_node
/-- is_button(layout, value) -/
def body_is_button : SS :=
  (sSeq (sIf (eOr (eNot (eIsi PyData.isTuple (eV 1))) (eOr (eBin neD (eB lenD (aCons (eV 1) aNil)) (eK (.int 2))) (eOr (eNot (eIsi PyData.isStr (eBin ixD (eV 1) (eK (.int 0))))) (eBin (isinD true) (eBin ixD (eV 1) (eK (.int 0))) (eK c_KINDS)))))
  (sRet (eK (.bool false)))
  sNil)
  (sRet (eCall sem_is_node (aCons (eV 0) (aCons (eBin ixD (eV 1) (eK (.int 1))) aNil)))))
def sem_is_button : SF := fnD 2 body_is_button
/-- is_rising(items, one, other) -/
def body_is_rising : SS :=
  (sRet (eB (anyD true) (aCons (eLc (iZp (aCons (eV 0) (aCons (eSl (eV 0) (oSome (eK (.int 1))) oNone) aNil))) (.tp [1, 2]) eYes (eBin ltD (eV 1) (eV 2)) [1, 2]) aNil)))
def sem_is_rising : SF := fnD 3 body_is_rising
/-- is_state_value(layout, value, button) -/
def body_is_state_value : SS :=
  (sSeq (sIf (eOr (eNot (eIsi PyData.isTuple (eV 1))) (eNot (eB (anyD true) (aCons (eLc (iOf (eV 1)) (.nm 2) eYes (eCall sem_is_button (aCons (eV 0) (aCons (eV 2) aNil))) [2]) aNil))))
  (sRet (eK (.bool false)))
  sNil)
  (sRet (eCall sem_is_rising (aCons (eV 1) aNil))))
def sem_is_state_value : SF := fnD 3 body_is_state_value
/-- require_state(layout, value) -/
def body_require_state : SS :=
  (sIf (eNot (eCall sem_is_state_value (aCons (eV 0) (aCons (eV 1) aNil))))
  (sRaise "InvalidState")
  sNil)
def sem_require_state : SF := fnD 2 body_require_state
/-- require_button(layout, value) -/
def body_require_button : SS :=
  (sIf (eNot (eCall sem_is_button (aCons (eV 0) (aCons (eV 1) aNil))))
  (sRaise "InvalidButton")
  sNil)
def sem_require_button : SF := fnD 2 body_require_button
/-- way_of(layout, name, parents, found) -/
def body_way_of : SS :=
  (sSeq (sPar 2 3 (aCons (eDict (aCons (eV 0) aNil)) (aCons (eLstN (aCons (eV 1) aNil)) aNil)))
  (sSeq (sWhile (eBin neD (eDGet (eV 2) (eBin ixD (eV 3) (eNeg (eK (.int 1))))) (eK (.str ""))) (sExpr (eMth mAppend (eV 3) (aCons (eDGet (eV 2) (eBin ixD (eV 3) (eNeg (eK (.int 1))))) aNil))) 1000)
  (sFrz 3 (sRet (eV 3)))))
def sem_way_of : SF := fnD 4 body_way_of
/-- branch_of(layout, name, track) -/
def body_branch_of : SS :=
  (sRet (eLc (iOf (eFz (eCall sem_tracks_of (aCons (eV 0) aNil)))) (.nm 2) (eBin (isinD false) (eV 1) (eCall sem_way_of (aCons (eV 0) (aCons (eV 2) aNil)))) (eV 2) [2]))
def sem_branch_of : SF := fnD 3 body_branch_of
/-- all_buttons(layout, kind, name) -/
def body_all_buttons : SS :=
  (sRet (eB (fz1 sortAD) (aCons (eLcM (iOf (eK c_KINDS)) (.nm 1) eYes [((iOf (eCall sem_names_of (aCons (eV 0) aNil))), (.nm 2), eYes)] (eTup (aCons (eV 1) (aCons (eV 2) aNil))) [1, 2]) aNil)))
def sem_all_buttons : SF := fnD 3 body_all_buttons
/-- tracks(layout) -/
def body_tracks : SS :=
  (sSeq (sExpr (eCall sem_require_layout (aCons (eV 0) aNil)))
  (sRet (eCall sem_tracks_of (aCons (eV 0) aNil))))
def sem_tracks : SF := fnD 1 body_tracks
/-- branch(layout, name) -/
def body_branch : SS :=
  (sSeq (sExpr (eCall sem_require_layout (aCons (eV 0) aNil)))
  (sSeq (sIf (eNot (eCall sem_is_node (aCons (eV 0) (aCons (eV 1) aNil))))
  (sRaise "UnknownName")
  sNil)
  (sRet (eCall sem_branch_of (aCons (eV 0) (aCons (eV 1) aNil))))))
def sem_branch : SF := fnD 2 body_branch
/-- reason_for(layout, state, track, way, solos, name, kind) -/
def body_reason_for : SS :=
  (sSeq (sAsg (eCall sem_way_of (aCons (eV 0) (aCons (eV 2) aNil))) (.nm 3))
  (sSeq (sIf (eB (anyD false) (aCons (eLc (iOf (eV 3)) (.nm 5) eYes (eBin (isinD false) (eTup (aCons (eK (.str "mute")) (aCons (eV 5) aNil))) (eV 1)) [5]) aNil))
  (sRet (eK (.str "mute")))
  sNil)
  (sSeq (sAsg (eLc (iOf (eV 1)) (.tp [6, 5]) (eBin eqD (eV 6) (eK (.str "solo"))) (eV 5) [6, 5]) (.nm 4))
  (sRet (eIf (eOr (eBin eqD (eV 4) (eLst aNil)) (eB (anyD false) (aCons (eLc (iOf (eV 3)) (.nm 5) eYes (eBin (isinD false) (eV 5) (eV 4)) [5]) aNil))) (eK (.str "heard")) (eK (.str "solo")))))))
def sem_reason_for : SF := fnD 7 body_reason_for
/-- heard_in(layout, state, track) -/
def body_heard_in : SS :=
  (sRet (eB tupleD (aCons (eLc (iOf (eFz (eCall sem_tracks_of (aCons (eV 0) aNil)))) (.nm 2) (eBin eqD (eCall sem_reason_for (aCons (eV 0) (aCons (eV 1) (aCons (eV 2) aNil)))) (eK (.str "heard"))) (eV 2) [2]) aNil)))
def sem_heard_in : SF := fnD 3 body_heard_in
/-- heard(layout, state) -/
def body_heard : SS :=
  (sSeq (sExpr (eCall sem_require_layout (aCons (eV 0) aNil)))
  (sSeq (sExpr (eCall sem_require_state (aCons (eV 0) (aCons (eV 1) aNil))))
  (sRet (eCall sem_heard_in (aCons (eV 0) (aCons (eV 1) aNil))))))
def sem_heard : SF := fnD 2 body_heard
/-- why(layout, state, track) -/
def body_why : SS :=
  (sSeq (sExpr (eCall sem_require_layout (aCons (eV 0) aNil)))
  (sSeq (sExpr (eCall sem_require_state (aCons (eV 0) (aCons (eV 1) aNil))))
  (sSeq (sIf (eOr (eNot (eIsi PyData.isStr (eV 2))) (eBin (isinD true) (eV 2) (eFz (eCall sem_tracks_of (aCons (eV 0) aNil)))))
  (sRaise "UnknownName")
  sNil)
  (sRet (eCall sem_reason_for (aCons (eV 0) (aCons (eV 1) (aCons (eV 2) aNil))))))))
def sem_why : SF := fnD 3 body_why
/-- after_press(state, button, other) -/
def body_after_press : SS :=
  (sSeq (sIf (eBin (isinD false) (eV 1) (eV 0))
  (sRet (eB tupleD (aCons (eLc (iOf (eV 0)) (.nm 2) (eBin neD (eV 2) (eV 1)) (eV 2) [2]) aNil)))
  sNil)
  (sRet (eB tupleD (aCons (eB (fz1 sortAD) (aCons (eBin addD (eV 0) (eTup (aCons (eV 1) aNil))) aNil)) aNil))))
def sem_after_press : SF := fnD 3 body_after_press
/-- pressed(layout, state, button) -/
def body_pressed : SS :=
  (sSeq (sExpr (eCall sem_require_layout (aCons (eV 0) aNil)))
  (sSeq (sExpr (eCall sem_require_state (aCons (eV 0) (aCons (eV 1) aNil))))
  (sSeq (sExpr (eCall sem_require_button (aCons (eV 0) (aCons (eV 2) aNil))))
  (sRet (eCall sem_after_press (aCons (eV 1) (aCons (eV 2) aNil)))))))
def sem_pressed : SF := fnD 3 body_pressed
/-- idle_buttons(layout, state, now, button) -/
def body_idle_buttons : SS :=
  (sSeq (sExpr (eCall sem_require_layout (aCons (eV 0) aNil)))
  (sSeq (sExpr (eCall sem_require_state (aCons (eV 0) (aCons (eV 1) aNil))))
  (sSeq (sAsg (eCall sem_heard_in (aCons (eV 0) (aCons (eV 1) aNil))) (.nm 2))
  (sRet (eLcN (iOf (eCall sem_all_buttons (aCons (eV 0) aNil))) (.nm 3) (eBin eqD (eCall sem_heard_in (aCons (eV 0) (aCons (eCall sem_after_press (aCons (eV 1) (aCons (eV 3) aNil))) aNil))) (eV 2)) (eV 3) [3])))))
def sem_idle_buttons : SF := fnD 4 body_idle_buttons
/-- _law_source(script, k, cell, primes, seed) -/
def body__law_source : SS :=
  (sSeq (sAsg (eK (.int 0)) (.nm 2))
  (sSeq (sIf (eBin ltD (eV 1) (eB lenD (aCons (eV 0) aNil)))
  (sAsg (eBin ixD (eV 0) (eV 1)) (.nm 2))
  sNil)
  (sSeq (sAsg (eLst (aCons (eK (.int 2147483647)) (aCons (eK (.int 2147483629)) (aCons (eK (.int 2147483587)) (aCons (eK (.int 2147483579)) (aCons (eK (.int 2147483563)) (aCons (eK (.int 2147483549)) (aCons (eK (.int 2147483543)) (aCons (eK (.int 2147483497)) aNil))))))))) (.nm 3))
  (sSeq (sAsg (eBin modD (eBin mulD (eBin addD (eBin modD (eV 2) (eK (.int 2147483489))) (eK (.int 1))) (eBin addD (eK (.int 48271)) (eBin mulD (eK (.int 2)) (eV 1)))) (eK (.int 2147483489))) (.nm 4))
  (sSeq (sAsg (eBin addD (eBin addD (eBin modD (eBin mulD (eV 4) (eV 4)) (eK (.int 2147483477))) (eV 1)) (eK (.int 1))) (.nm 4))
  (sSeq (sIf (eBin geD (eV 2) (eBin powD (eK (.int 10)) (eK (.int 18))))
  (sRet (eLstN (aCons (eV 2) (aCons (eV 4) (aCons (eBin ixD (eV 3) (eBin modD (eV 1) (eK (.int 8)))) aNil)))))
  sNil)
  (sRet (eLstN (aCons (eK (.int 0)) (aCons (eV 4) (aCons (eBin ixD (eV 3) (eBin modD (eV 1) (eK (.int 8)))) aNil)))))))))))
def sem__law_source : SF := fnD 5 body__law_source
/-- _law_pick(source, size, drawn) -/
def body__law_pick : SS :=
  (sSeq (sIf (eBin gtD (eBin ixD (eV 0) (eK (.int 0))) (eK (.int 0)))
  (sSeq (sAsg (eBin modD (eBin ixD (eV 0) (eK (.int 0))) (eV 1)) (.nm 2))
  (sSeq (sSetL (eBin fdivD (eBin ixD (eV 0) (eK (.int 0))) (eV 1)) (eV 0) (eK (.int 0)))
  (sRet (eV 2))))
  sNil)
  (sSeq (sSetL (eBin addD (eBin modD (eBin mulD (eBin ixD (eV 0) (eK (.int 1))) (eK (.int 48271))) (eBin ixD (eV 0) (eK (.int 2)))) (eK (.int 1))) (eV 0) (eK (.int 1)))
  (sRet (eBin modD (eBin fdivD (eBin modD (eBin mulD (eBin ixD (eV 0) (eK (.int 1))) (eBin ixD (eV 0) (eK (.int 1)))) (eK (.int 2147483423))) (eK (.int 7))) (eV 1)))))
def sem__law_pick : SF := fnD 3 body__law_pick
abbrev sem__law_error_name : Str → Addr → SF := fun c a => fnD 6 (body_err c a)
/-- _law_nodes(source, most, left, found, near, turn, name, above) -/
def body__law_nodes : SS :=
  (sSeq (sPar 2 3 (aCons (eBN listSD (aCons (eK (.str "abcdefghijklmnop")) aNil)) (aCons (eTup aNil) aNil)))
  (sSeq (sAsg (eBin addD (eK (.int 1)) (eCall sem__law_pick (aCons (eV 0) (aCons (eK (.int 3)) aNil)))) (.nm 4))
  (sSeq (sFor (iRg (aCons (eBin addD (eK (.int 1)) (eCall sem__law_pick (aCons (eV 0) (aCons (eV 1) aNil)))) aNil)) (.nm 5)
  (sSeq (sAsg (eMth mPopAt (eV 2) (aCons (eBin ixD (eLst (aCons (eK (.int 0)) (aCons (eCall sem__law_pick (aCons (eV 0) (aCons (eB lenD (aCons (eV 2) aNil)) aNil))) aNil))) (eCall sem__law_pick (aCons (eV 0) (aCons (eK (.int 2)) aNil)))) aNil)) (.nm 6))
  (sSeq (sAsg (eK (.str "")) (.nm 7))
  (sSeq (sIf (eAnd (eBin neD (eV 3) (eTup aNil)) (eBin gtD (eCall sem__law_pick (aCons (eV 0) (aCons (eK (.int 4)) aNil))) (eK (.int 0))))
  (sAsg (eBin ixD (eBin ixD (eV 3) (eB maxD2 (aCons (eK (.int 0)) (aCons (eBin subD (eBin subD (eB lenD (aCons (eV 3) aNil)) (eK (.int 1))) (eCall sem__law_pick (aCons (eV 0) (aCons (eV 4) aNil)))) aNil)))) (eK (.int 0))) (.nm 7))
  sNil)
  (sAsg (eBin addD (eV 3) (eTup (aCons (eTup (aCons (eV 6) (aCons (eV 7) aNil))) aNil))) (.nm 3))))))
  (sRet (eV 3)))))
def sem__law_nodes : SF := fnD 8 body__law_nodes
/-- _law_all_buttons(nodes, name, parent) -/
def body__law_all_buttons : SS :=
  (sRet (eB (fz1 sortAD) (aCons (eBin addD (eLc (iOf (eV 0)) (.tp [1, 2]) eYes (eTup (aCons (eK (.str "mute")) (aCons (eV 1) aNil))) [1, 2]) (eLc (iOf (eV 0)) (.tp [1, 2]) eYes (eTup (aCons (eK (.str "solo")) (aCons (eV 1) aNil))) [1, 2])) aNil)))
def sem__law_all_buttons : SF := fnD 3 body__law_all_buttons
/-- _law_lights(source, nodes, rare, button) -/
def body__law_lights : SS :=
  (sSeq (sAsg (eBin addD (eK (.int 2)) (eCall sem__law_pick (aCons (eV 0) (aCons (eK (.int 4)) aNil)))) (.nm 2))
  (sRet (eB tupleD (aCons (eLc (iOf (eCall sem__law_all_buttons (aCons (eV 1) aNil))) (.nm 3) (eBin eqD (eCall sem__law_pick (aCons (eV 0) (aCons (eV 2) aNil))) (eK (.int 0))) (eV 3) [3]) aNil))))
def sem__law_lights : SF := fnD 4 body__law_lights
/-- _law_way(nodes, name, table_so, found) -/
def body__law_way : SS :=
  (sSeq (sPar 2 3 (aCons (eDict (aCons (eV 0) aNil)) (aCons (eLstN (aCons (eV 1) aNil)) aNil)))
  (sSeq (sWhile (eBin neD (eDGet (eV 2) (eBin ixD (eV 3) (eNeg (eK (.int 1))))) (eK (.str ""))) (sExpr (eMth mAppend (eV 3) (aCons (eDGet (eV 2) (eBin ixD (eV 3) (eNeg (eK (.int 1))))) aNil))) 1000)
  (sFrz 3 (sRet (eV 3)))))
def sem__law_way : SF := fnD 4 body__law_way
/-- _law_ends(nodes, above, name, parent) -/
def body__law_ends : SS :=
  (sSeq (sAsg (eLc (iOf (eV 0)) (.tp [2, 3]) eYes (eV 3) [2, 3]) (.nm 1))
  (sRet (eB (fz1 sortAD) (aCons (eLc (iOf (eV 0)) (.tp [2, 3]) (eBin (isinD true) (eV 2) (eV 1)) (eV 2) [2, 3]) aNil))))
def sem__law_ends : SF := fnD 4 body__law_ends
/-- _law_sounds(nodes, lit, found, some, track, way, muted, kind, name) -/
def body__law_sounds : SS :=
  (sSeq (sAsg (eLstN aNil) (.nm 2))
  (sSeq (sAsg (eLc (iOf (eV 1)) (.tp [7, 8]) (eBin eqD (eV 7) (eK (.str "solo"))) (eV 8) [7, 8]) (.nm 3))
  (sSeq (sFor (iOf (eCall sem__law_ends (aCons (eV 0) aNil))) (.nm 4)
  (sSeq (sAsg (eCall sem__law_way (aCons (eV 0) (aCons (eV 4) aNil))) (.nm 5))
  (sSeq (sAsg (eBin neD (eLc (iOf (eV 5)) (.nm 8) (eBin (isinD false) (eTup (aCons (eK (.str "mute")) (aCons (eV 8) aNil))) (eV 1)) (eV 8) [8]) (eLst aNil)) (.nm 6))
  (sIf (eAnd (eNot (eV 6)) (eOr (eBin eqD (eV 3) (eLst aNil)) (eBin neD (eLc (iOf (eV 5)) (.nm 8) (eBin (isinD false) (eV 8) (eV 3)) (eV 8) [8]) (eLst aNil))))
  (sExpr (eMth mAppend (eV 2) (aCons (eV 4) aNil)))
  sNil))))
  (sRet (eB tupleD (aCons (eV 2) aNil))))))
def sem__law_sounds : SF := fnD 9 body__law_sounds
/-- _law_reason(nodes, lit, track, way, name) -/
def body__law_reason : SS :=
  (sSeq (sAsg (eCall sem__law_way (aCons (eV 0) (aCons (eV 2) aNil))) (.nm 3))
  (sSeq (sIf (eBin neD (eLc (iOf (eV 3)) (.nm 4) (eBin (isinD false) (eTup (aCons (eK (.str "mute")) (aCons (eV 4) aNil))) (eV 1)) (eV 4) [4]) (eLst aNil))
  (sRet (eK (.str "mute")))
  sNil)
  (sRet (eIf (eBin (isinD false) (eV 2) (eCall sem__law_sounds (aCons (eV 0) (aCons (eV 1) aNil)))) (eK (.str "heard")) (eK (.str "solo"))))))
def sem__law_reason : SF := fnD 5 body__law_reason
/-- effect(layout, state, button, before, after, lost, name) -/
def body_effect : SS :=
  (sSeq (sExpr (eCall sem_require_layout (aCons (eV 0) aNil)))
  (sSeq (sExpr (eCall sem_require_state (aCons (eV 0) (aCons (eV 1) aNil))))
  (sSeq (sExpr (eCall sem_require_button (aCons (eV 0) (aCons (eV 2) aNil))))
  (sSeq (sAsg (eTup (aCons (eCall sem_heard_in (aCons (eV 0) (aCons (eV 1) aNil))) (aCons (eCall sem_heard_in (aCons (eV 0) (aCons (eCall sem_after_press (aCons (eV 1) (aCons (eV 2) aNil))) aNil))) aNil))) (.tp [3, 4]))
  (sSeq (sAsg (eLc (iOf (eV 3)) (.nm 6) (eBin (isinD true) (eV 6) (eV 4)) (eV 6) [6]) (.nm 5))
  (sRet (eTup (aCons (eB tupleD (aCons (eV 5) aNil)) (aCons (eB tupleD (aCons (eLc (iOf (eV 4)) (.nm 6) (eBin (isinD true) (eV 6) (eV 3)) (eV 6) [6]) aNil)) aNil)))))))))
def sem_effect : SF := fnD 7 body_effect
/-- _law_turned(lit, button, one) -/
def body__law_turned : SS :=
  (sSeq (sIf (eBin (isinD false) (eV 1) (eV 0))
  (sRet (eB tupleD (aCons (eLc (iOf (eV 0)) (.nm 2) (eBin neD (eV 2) (eV 1)) (eV 2) [2]) aNil)))
  sNil)
  (sRet (eB tupleD (aCons (eB (fz1 sortAD) (aCons (eBin addD (eB (fz1 listLD) (aCons (eV 0) aNil)) (eLst (aCons (eV 1) aNil))) aNil)) aNil))))
def sem__law_turned : SF := fnD 3 body__law_turned
end DL
set_option maxHeartbeats 200000
/-! F layer, part 1: how the meanings are worked out, over data with a Lean type. -/
namespace DL
open PySem PySem.W
abbrev jD {α : Type} [DecidableEq α] [Datum α] (a : α) : PyData := Datum.toD a
abbrev jL {α : Type} [DecidableEq α] [Datum α] (xs : List α) : PyData := .list (xs.map Datum.toD)
abbrev jT {α : Type} [DecidableEq α] [Datum α] (xs : List α) : PyData := .tuple (xs.map Datum.toD)
section
variable {α β : Type} [DecidableEq α] [DatumOrd α] [DecidableEq β] [DatumOrd β] {r : Vn} {st : Sto}
theorem bind_cong {γ δ : Type} {f g : Res γ} {k : γ → Sto → Res δ} (h : f = g) : f.bind k = g.bind k := by rw [h]
theorem outOf_cong {γ : Type} {f g : Res γ} {k : γ → Sto → Out} (h : f = g) : outOf r f k = outOf r g k := by rw [h]
/-! ### unfolding -/
@[simp] theorem eK_ev {d : PyData} : eK d r st = .ok (.d d) st := rfl
@[simp] theorem eV0 {x : Dv} {l : Vn} : eV 0 (some x :: l) st = .ok x st := rfl
@[simp] theorem eV1 {x : Dv} {a0 : Option Dv} {l : Vn} : eV 1 (a0 :: some x :: l) st = .ok x st := rfl
@[simp] theorem eV2 {x : Dv} {a0 a1 : Option Dv} {l : Vn} : eV 2 (a0 :: a1 :: some x :: l) st = .ok x st := rfl
@[simp] theorem eV3 {x : Dv} {a0 a1 a2 : Option Dv} {l : Vn} : eV 3 (a0 :: a1 :: a2 :: some x :: l) st = .ok x st := rfl
@[simp] theorem eV4 {x : Dv} {a0 a1 a2 a3 : Option Dv} {l : Vn} : eV 4 (a0 :: a1 :: a2 :: a3 :: some x :: l) st = .ok x st := rfl
@[simp] theorem eV5 {x : Dv} {a0 a1 a2 a3 a4 : Option Dv} {l : Vn} : eV 5 (a0 :: a1 :: a2 :: a3 :: a4 :: some x :: l) st = .ok x st := rfl
@[simp] theorem eV6 {x : Dv} {a0 a1 a2 a3 a4 a5 : Option Dv} {l : Vn} : eV 6 (a0 :: a1 :: a2 :: a3 :: a4 :: a5 :: some x :: l) st = .ok x st := rfl
@[simp] theorem eV7 {x : Dv} {a0 a1 a2 a3 a4 a5 a6 : Option Dv} {l : Vn} : eV 7 (a0 :: a1 :: a2 :: a3 :: a4 :: a5 :: a6 :: some x :: l) st = .ok x st := rfl
@[simp] theorem eV8 {x : Dv} {a0 a1 a2 a3 a4 a5 a6 a7 : Option Dv} {l : Vn} : eV 8 (a0 :: a1 :: a2 :: a3 :: a4 :: a5 :: a6 :: a7 :: some x :: l) st = .ok x st := rfl
@[simp] theorem eV9 {x : Dv} {a0 a1 a2 a3 a4 a5 a6 a7 a8 : Option Dv} {l : Vn} : eV 9 (a0 :: a1 :: a2 :: a3 :: a4 :: a5 :: a6 :: a7 :: a8 :: some x :: l) st = .ok x st := rfl
@[simp] theorem eV10 {x : Dv} {a0 a1 a2 a3 a4 a5 a6 a7 a8 a9 : Option Dv} {l : Vn} : eV 10 (a0 :: a1 :: a2 :: a3 :: a4 :: a5 :: a6 :: a7 :: a8 :: a9 :: some x :: l) st = .ok x st := rfl
@[simp] theorem eV11 {x : Dv} {a0 a1 a2 a3 a4 a5 a6 a7 a8 a9 a10 : Option Dv} {l : Vn} : eV 11 (a0 :: a1 :: a2 :: a3 :: a4 :: a5 :: a6 :: a7 :: a8 :: a9 :: a10 :: some x :: l) st = .ok x st := rfl
@[simp] theorem eV12 {x : Dv} {a0 a1 a2 a3 a4 a5 a6 a7 a8 a9 a10 a11 : Option Dv} {l : Vn} : eV 12 (a0 :: a1 :: a2 :: a3 :: a4 :: a5 :: a6 :: a7 :: a8 :: a9 :: a10 :: a11 :: some x :: l) st = .ok x st := rfl
@[simp] theorem eV13 {x : Dv} {a0 a1 a2 a3 a4 a5 a6 a7 a8 a9 a10 a11 a12 : Option Dv} {l : Vn} : eV 13 (a0 :: a1 :: a2 :: a3 :: a4 :: a5 :: a6 :: a7 :: a8 :: a9 :: a10 :: a11 :: a12 :: some x :: l) st = .ok x st := rfl
@[simp] theorem eV14 {x : Dv} {a0 a1 a2 a3 a4 a5 a6 a7 a8 a9 a10 a11 a12 a13 : Option Dv} {l : Vn} : eV 14 (a0 :: a1 :: a2 :: a3 :: a4 :: a5 :: a6 :: a7 :: a8 :: a9 :: a10 :: a11 :: a12 :: a13 :: some x :: l) st = .ok x st := rfl
@[simp] theorem eV15 {x : Dv} {a0 a1 a2 a3 a4 a5 a6 a7 a8 a9 a10 a11 a12 a13 a14 : Option Dv} {l : Vn} : eV 15 (a0 :: a1 :: a2 :: a3 :: a4 :: a5 :: a6 :: a7 :: a8 :: a9 :: a10 :: a11 :: a12 :: a13 :: a14 :: some x :: l) st = .ok x st := rfl
@[simp] theorem aNil_ev : aNil r st = .ok [] st := rfl
@[simp] theorem aCons_ev {fa : SE} {fr : SA} : aCons fa fr r st = (fa r st).bind fun x s1 => (fr r s1).bind fun xs s2 => .ok (x :: xs) s2 := rfl
@[simp] theorem eTup_ev {f : SA} : eTup f r st = (f r st).bind fun xs s1 => ansD s1 (((datas xs).bind few).map .tuple) := rfl
@[simp] theorem eLst_ev {f : SA} : eLst f r st = (f r st).bind fun xs s1 => ansD s1 (((datas xs).bind few).map .list) := rfl
@[simp] theorem eLstN_ev {f : SA} : eLstN f r st = (f r st).bind fun xs s1 => ansN s1 ((datas xs).bind few) := rfl
@[simp] theorem eBin_ev {g : G2} {fa fb : SE} : eBin g fa fb r st = (fa r st).bind fun x s1 => (fb r s1).bind fun y s2 => ansD s2 (g x y s2) := rfl
@[simp] theorem eB_ev {g : G1} {fa : SA} : eB g fa r st = (fa r st).bind fun xs s1 => ansD s1 (g xs s1) := rfl
@[simp] theorem eBN_ev {g : G1L} {fa : SA} : eBN g fa r st = (fa r st).bind fun xs s1 => ansN s1 (g xs s1) := rfl
@[simp] theorem eCall_ev {g : SF} {fa : SA} : eCall g fa r st = (fa r st).bind fun xs s1 => g xs s1 := rfl
@[simp] theorem eNot_ev {fa : SE} : eNot fa r st = (asB (fa r st)).bind fun b s1 => .ok (.d (.bool (!b))) s1 := rfl
@[simp] theorem asB_b {b : Bool} : asB (.ok (.d (.bool b)) st) = .ok b st := rfl
@[simp] theorem iOf_ev {f : SE} : iOf f r st = (f r st).bind fun x s1 => match walkOf s1 x with
  | some z => .ok z s1
  | none => .stuck := rfl
@[simp] theorem ansD_s {d : PyData} : ansD st (some d) = .ok (.d d) st := rfl
@[simp] theorem ansN_s {ds : List PyData} : ansN st (some ds) = .ok (.o st.length) (st ++ [.lst ds]) := rfl
@[simp] theorem walkL {ds : List PyData} : walkOf st (.d (.list ds)) = some (ds, none, true) := rfl
@[simp] theorem walkT {ds : List PyData} : walkOf st (.d (.tuple ds)) = some (ds, none, true) := rfl
@[simp] theorem eAnd_ev {fa fb : SE} : eAnd fa fb r st = (asB (fa r st)).bind fun b s1 => cond b (fb r s1) (.ok (.d (.bool false)) s1) := rfl
@[simp] theorem eOr_ev {fa fb : SE} : eOr fa fb r st = (asB (fa r st)).bind fun b s1 => cond b (.ok (.d (.bool true)) s1) (fb r s1) := rfl
@[simp] theorem eIf_ev {ft fa fb : SE} : eIf ft fa fb r st = (asB (ft r st)).bind fun b s1 => cond b (fa r s1) (fb r s1) := rfl
theorem asB_cong {f g : Res Dv} (h : f = g) : asB f = asB g := by rw [h]
def seqK (o : Out) (F : SS) : Out := match o with
  | .nx r1 s1 => F r1 s1
  | o => o
theorem seqK_cong {o o' : Out} {F : SS} (h : o = o') : seqK o F = seqK o' F := by rw [h]
@[simp] theorem sSeq_ev {F1 F2 : SS} : sSeq F1 F2 r st = seqK (F1 r st) F2 := by
  unfold sSeq seqK
  cases F1 r st <;> rfl
@[simp] theorem seqK_nx {F : SS} : seqK (.nx r st) F = F r st := rfl
@[simp] theorem seqK_ret {F : SS} {v : Dv} : seqK (.ret v st) F = .ret v st := rfl
@[simp] theorem seqK_exc {F : SS} {c : Str} : seqK (.exc c r st) F = .exc c r st := rfl
@[simp] theorem seqK_bk {F : SS} : seqK (.bk r st) F = .bk r st := rfl
@[simp] theorem seqK_ct {F : SS} : seqK (.ct r st) F = .ct r st := rfl
@[simp] theorem sNil_ev : sNil r st = .nx r st := rfl
@[simp] theorem sExpr_ev {f : SE} : sExpr f r st = outOf r (f r st) fun _ s1 => .nx r s1 := rfl
@[simp] theorem sRet_ev {f : SE} : sRet f r st = outOf r (f r st) fun x s1 => .ret x s1 := rfl
@[simp] theorem sRaise_ev {c : Str} : sRaise c r st = .exc c r st := rfl
@[simp] theorem sIf_ev {ft : SE} {F1 F2 : SS} : sIf ft F1 F2 r st = outOf r (asB (ft r st)) fun b s1 => cond b (F1 r s1) (F2 r s1) := rfl
@[simp] theorem sAsg_nm {f : SE} {i : Nat} : sAsg f (.nm i) r st = outOf r (f r st) fun x s1 => .nx (r.set i (some x)) s1 := rfl
def tpK (is : List Nat) (x : Dv) (r : Vn) (st : Sto) : Out := match setT (.tp is) x r with
  | some r1 => .nx r1 st
  | none => .stuck
@[simp] theorem sAsg_tp {f : SE} {is : List Nat} : sAsg f (.tp is) r st = outOf r (f r st) fun x s1 => tpK is x r s1 := rfl
@[simp] theorem tpK_tup {is : List Nat} {ds : List PyData} : tpK is (.d (.tuple ds)) r st = if ds.length = is.length then .nx (setN is ds r) st else .stuck := by
  by_cases hl : ds.length = is.length
  · simp [tpK, setT, hl]
  · simp [tpK, setT, hl]
@[simp] theorem sPar_ev {i j : Nat} {fa : SA} : sPar i j fa r st = outOf r (fa r st) fun xs s1 => match xs with
  | [x, y] => .nx ((r.set i (some x)).set j (some y)) s1
  | _ => .stuck := rfl
@[simp] theorem sSetL_ev {f fo fi : SE} : sSetL f fo fi r st = outOf r (f r st) fun v s1 => outOf r (fo r s1) fun o s2 => outOf r (fi r s2) fun i s3 => match o, i, v with
  | .o k, .d (.int j), .d y => match s3[k]? with
    | some (.lst ds) => match L2.ixN ds.length j with
      | some n => .nx r (s3.set k (.lst (ds.set n y)))
      | none => .stuck
    | _ => .stuck
  | _, _, _ => .stuck := rfl
@[simp] theorem eMth_ev {m : Mth} {fo : SE} {fa : SA} : eMth m fo fa r st = (fo r st).bind fun x s1 => match lstAt s1 x with
  | none => .stuck
  | some i => (fa r s1).bind fun ys s2 => match s2[i]? with
    | some (.lst ds) => match m ds ys with
      | some (res, ds') => .ok (.d res) (s2.set i (.lst ds'))
      | none => .stuck
    | _ => .stuck := rfl
/-! ### defs -/
theorem fnD_ret {N : Nat} {F : SS} {xs : List Dv} {x : PyData} {s1 s2 : Sto} (h : F (xs.map some ++ List.replicate (N - xs.length) none) st = .ret (.d x) s1) (hs : s1.take st.length = s2) : fnD N F xs st = .ok (.d x) s2 := by
  unfold fnD
  rw [h]
  show Res.ok (Dv.d x) (s1.take st.length) = _
  rw [hs]
theorem fnD_new {N : Nat} {F : SS} {xs : List Dv} {i : Nat} {s1 s2 : Sto} {o : Ob} (h : F (xs.map some ++ List.replicate (N - xs.length) none) st = .ret (.o i) s1) (hi : st.length ≤ i) (ho : s1[i]? = some o) (hs : s1.take st.length = s2) : fnD N F xs st = .ok (.o st.length) (s2 ++ [o]) := by
  unfold fnD
  rw [h]
  show leave st.length (Dv.o i) s1 = _
  unfold leave
  simp only [if_neg (Nat.not_lt.mpr hi), ho, hs]
theorem fnD_none {N : Nat} {F : SS} {xs : List Dv} {r1 : Vn} {s1 s2 : Sto} (h : F (xs.map some ++ List.replicate (N - xs.length) none) st = .nx r1 s1) (hs : s1.take st.length = s2) : fnD N F xs st = .ok (.d .none) s2 := by
  unfold fnD
  rw [h]
  show Res.ok (Dv.d .none) (s1.take st.length) = _
  rw [hs]
theorem fnD_exc {N : Nat} {F : SS} {xs : List Dv} {c : Str} {r1 : Vn} {s1 s2 : Sto} (h : F (xs.map some ++ List.replicate (N - xs.length) none) st = .exc c r1 s1) (hs : s1.take st.length = s2) : fnD N F xs st = .exc c s2 := by
  unfold fnD
  rw [h]
  show Res.exc c (s1.take st.length) = _
  rw [hs]
/-! ### and, or, if -/
theorem eAnd_t {fa fb : SE} {s1 : Sto} (h : fa r st = .ok (.d (.bool true)) s1) : eAnd fa fb r st = fb r s1 := by unfold eAnd; rw [h]; rfl
theorem eAnd_f {fa fb : SE} {s1 : Sto} (h : fa r st = .ok (.d (.bool false)) s1) : eAnd fa fb r st = .ok (.d (.bool false)) s1 := by unfold eAnd; rw [h]; rfl
theorem eAnd_ok {fa fb : SE} {a b : Bool} (h : fa r st = .ok (.d (.bool a)) st) (h2 : a = true → fb r st = .ok (.d (.bool b)) st) : eAnd fa fb r st = .ok (.d (.bool (a && b))) st := by
  cases a
  · exact eAnd_f h
  · rw [eAnd_t h, h2 rfl, Bool.true_and]
theorem eOr_ok {fa fb : SE} {a b : Bool} (h : fa r st = .ok (.d (.bool a)) st) (h2 : a = false → fb r st = .ok (.d (.bool b)) st) : eOr fa fb r st = .ok (.d (.bool (a || b))) st := by
  unfold eOr
  rw [h]
  cases a
  · show fb r st = _
    rw [h2 rfl, Bool.false_or]
  · rfl
theorem eOr_f {fa fb : SE} {s1 : Sto} (h : fa r st = .ok (.d (.bool false)) s1) : eOr fa fb r st = fb r s1 := by unfold eOr; rw [h]; rfl
theorem eOr_t {fa fb : SE} {s1 : Sto} (h : fa r st = .ok (.d (.bool true)) s1) : eOr fa fb r st = .ok (.d (.bool true)) s1 := by unfold eOr; rw [h]; rfl
theorem sIf_no {ft : SE} {F1 F2 : SS} {s1 : Sto} (h : ft r st = .ok (.d (.bool false)) s1) : sIf ft F1 F2 r st = F2 r s1 := by unfold sIf; rw [h]; rfl
theorem sIf_yes {ft : SE} {F1 F2 : SS} {s1 : Sto} (h : ft r st = .ok (.d (.bool true)) s1) : sIf ft F1 F2 r st = F1 r s1 := by unfold sIf; rw [h]; rfl
theorem eNot_ok {fa : SE} {a : Bool} (h : fa r st = .ok (.d (.bool a)) st) : eNot fa r st = .ok (.d (.bool (!a))) st := by unfold eNot; rw [h]; rfl
/-! ### comprehensions -/
theorem lcD_pure {z : Wk} {turn : Turn1} {γ : Type} {em : γ → PyData} {p : γ → Bool} {g : γ → PyData} (hz : okG st z = true) : ∀ {xs : List γ}, (∀ x ∈ xs, turn (em x) st = .ok (if p x = true then some (g x) else none) st) → lcD z turn (xs.map em) st = .ok ((xs.filter p).map g) st := by
  intro xs
  induction xs with
  | nil =>
    intro _
    show (if okG st z = true then Res.ok [] st else .stuck) = _
    rw [if_pos hz]
    rfl
  | cons x xs ih =>
    intro h
    have h1 := h x (List.mem_cons_self ..)
    have h2 := ih fun y hy => h y (List.mem_cons_of_mem _ hy)
    show (if okG st z = true then (turn (em x) st).bind (fun o s1 => (lcD z turn (xs.map em) s1).bind fun ys s2 => Res.ok (match o with
      | none => ys
      | some y => y :: ys) s2) else Res.stuck) = _
    rw [if_pos hz, h1, bind_ok, h2, bind_ok]
    cases hp : p x
    · simp [List.filter_cons, hp]
    · simp [List.filter_cons, hp]
theorem eLc_pure {fi : SI} {tg : Tgt} {ft fe : SE} {vs : List Nat} {γ : Type} {em : γ → PyData} {p : γ → Bool} {g : γ → PyData} {xs : List γ} {j : Option Nat} {ex : Bool} (hi : fi r st = .ok (xs.map em, j, ex) st) (hz : okG st (xs.map em, j, ex) = true) (h : ∀ x ∈ xs, lcT ex r vs tg ft fe (em x) st = .ok (if p x = true then some (g x) else none) st) :
    eLc fi tg ft fe vs r st = .ok (.d (.list ((xs.filter p).map g))) st := by
  unfold eLc eLc0
  rw [hi]
  show (lcD (xs.map em, j, ex) (lcT ex r vs tg ft fe) (xs.map em) st).bind _ = _
  rw [lcD_pure hz h]
  rfl
theorem eLc_map {fi : SI} {tg : Tgt} {fe : SE} {vs : List Nat} {γ : Type} {em : γ → PyData} {g : γ → PyData} {xs : List γ} {j : Option Nat} {ex : Bool} (hi : fi r st = .ok (xs.map em, j, ex) st) (hz : okG st (xs.map em, j, ex) = true) (h : ∀ x ∈ xs, lcT ex r vs tg eYes fe (em x) st = .ok (some (g x)) st) :
    eLc fi tg eYes fe vs r st = .ok (.d (.list (xs.map g))) st := by
  rw [eLc_pure (p := fun _ => true) (g := g) hi hz h, List.filter_eq_self.mpr fun _ _ => rfl]
theorem eLc_fil {fi : SI} {tg : Tgt} {ft fe : SE} {vs : List Nat} {γ : Type} {em : γ → PyData} {p : γ → Bool} {g : γ → PyData} {xs : List γ} {j : Option Nat} {ex : Bool} (hi : fi r st = .ok (xs.map em, j, ex) st) (hz : okG st (xs.map em, j, ex) = true) (h : ∀ x ∈ xs, lcT ex r vs tg ft fe (em x) st = .ok (if p x = true then some (g x) else none) st) :
    eLc fi tg ft fe vs r st = .ok (.d (.list ((xs.filter p).map g))) st := eLc_pure hi hz h
theorem eLc_mapT {fi : SI} {tg : Tgt} {fe : SE} {vs : List Nat} {γ : Type} {em : γ → PyData} {g : γ → α} {xs : List γ} {j : Option Nat} {ex : Bool} (hi : fi r st = .ok (xs.map em, j, ex) st) (hz : okG st (xs.map em, j, ex) = true) (h : ∀ x ∈ xs, lcT ex r vs tg eYes fe (em x) st = .ok (some (jD (g x))) st) :
    eLc fi tg eYes fe vs r st = .ok (.d (jL (xs.map g))) st := by
  rw [eLc_map (g := fun x => jD (g x)) hi hz h, jL, List.map_map]
  rfl
theorem eLc_filT {fi : SI} {tg : Tgt} {ft fe : SE} {vs : List Nat} {γ : Type} {em : γ → PyData} {p : γ → Bool} {g : γ → α} {xs : List γ} {j : Option Nat} {ex : Bool} (hi : fi r st = .ok (xs.map em, j, ex) st) (hz : okG st (xs.map em, j, ex) = true) (h : ∀ x ∈ xs, lcT ex r vs tg ft fe (em x) st = .ok (if p x = true then some (jD (g x)) else none) st) :
    eLc fi tg ft fe vs r st = .ok (.d (jL ((xs.filter p).map g))) st := by
  rw [eLc_fil (p := p) (g := fun x => jD (g x)) hi hz h, jL, List.map_map]
  rfl
theorem eLc_selT {fi : SI} {tg : Tgt} {ft fe : SE} {vs : List Nat} {p : α → Bool} {xs : List α} {j : Option Nat} {ex : Bool} (hi : fi r st = .ok (xs.map Datum.toD, j, ex) st) (hz : okG st (xs.map Datum.toD, j, ex) = true) (h : ∀ x ∈ xs, lcT ex r vs tg ft fe (Datum.toD x) st = .ok (if p x = true then some (jD x) else none) st) :
    eLc fi tg ft fe vs r st = .ok (.d (jL (xs.filter p))) st := by
  rw [eLc_fil (p := p) (g := fun x => jD x) hi hz h]
@[simp] theorem wipeV_nil : wipeV r [] = r := rfl
@[simp] theorem wipeV_cons {v : Nat} {vs : List Nat} : wipeV r (v :: vs) = (wipeV r vs).set v none := rfl
@[simp] theorem eYes_ev : eYes r st = .ok (.d (.bool true)) st := rfl
/-- a turn -/
theorem lcT_ok {ex : Bool} {vs : List Nat} {tg : Tgt} {ft fe : SE} {d : PyData} {r1 : Vn} {b : Bool} {y : PyData} (h1 : setI ex tg d (wipeV r vs) = some r1) (h2 : ft r1 st = .ok (.d (.bool b)) st) (h3 : b = true → fe r1 st = .ok (.d y) st) : lcT ex r vs tg ft fe d st = .ok (if b = true then some y else none) st := by
  unfold lcT
  rw [h1]
  show (noX (asB (ft r1 st))).bind _ = _
  rw [h2]
  cases b
  · rfl
  · show (noX (fe r1 st)).bind _ = _
    rw [h3 rfl]
    rfl
theorem lcT_all {ex : Bool} {vs : List Nat} {tg : Tgt} {fe : SE} {d : PyData} {r1 : Vn} {y : PyData} (h1 : setI ex tg d (wipeV r vs) = some r1) (h3 : fe r1 st = .ok (.d y) st) : lcT ex r vs tg eYes fe d st = .ok (some y) st := lcT_ok (b := true) h1 rfl fun _ => h3
/-! ### comparisons -/
theorem dep2 (a : α) (b : β) (h : Datum.depth α ≤ 60 := by decide) : min (jD a).depth (jD b).depth ≤ 60 := Nat.le_trans (Nat.min_le_left _ _) (Nat.le_trans (Datum.depth_le a) h)
theorem eqD_t (a b : α) (h : Datum.depth α ≤ 60 := by decide) : eqD (.d (jD a)) (.d (jD b)) st = some (.bool (decide (a = b))) := by
  show (if min (jD a).depth (jD b).depth ≤ 60 then some (PyData.bool (PyData.eqv (jD a) (jD b))) else none) = _
  rw [if_pos (dep2 a b h), Datum.eqv]
theorem neD_t (a b : α) (h : Datum.depth α ≤ 60 := by decide) : neD (.d (jD a)) (.d (jD b)) st = some (.bool (!decide (a = b))) := by
  show (if min (jD a).depth (jD b).depth ≤ 60 then some (PyData.bool (!PyData.eqv (jD a) (jD b))) else none) = _
  rw [if_pos (dep2 a b h), Datum.eqv]
/-- a is one of xs -/
def memB {α : Type} [DecidableEq α] (a : α) (xs : List α) : Bool := decide (a ∈ xs)
theorem memB_yes {α : Type} [DecidableEq α] {a : α} {xs : List α} (h : a ∈ xs) : memB a xs = true := decide_eq_true h
theorem memB_no {α : Type} [DecidableEq α] {a : α} {xs : List α} (h : a ∉ xs) : memB a xs = false := decide_eq_false h
theorem memB_iff {α : Type} [DecidableEq α] {a : α} {xs : List α} : memB a xs = true ↔ a ∈ xs := decide_eq_true_iff
theorem isinL_t (neg : Bool) (a : α) (xs : List α) (h : Datum.depth α ≤ 60 := by decide) : isinD neg (.d (jD a)) (.d (jL xs)) st = some (.bool (if neg = true then !memB a xs else memB a xs)) := by
  show (if min (PyData.depthAll (xs.map Datum.toD)) (jD a).depth ≤ 60 then some (PyData.bool (if neg = true then !((xs.map Datum.toD).any fun z => PyData.eqv z (jD a)) else (xs.map Datum.toD).any fun z => PyData.eqv z (jD a))) else none) = _
  rw [if_pos (Nat.le_trans (Nat.min_le_right _ _) (Nat.le_trans (Datum.depth_le a) h)), any_datum]
  rfl
theorem isinT_t (neg : Bool) (a : α) (xs : List α) (h : Datum.depth α ≤ 60 := by decide) : isinD neg (.d (jD a)) (.d (jT xs)) st = some (.bool (if neg = true then !memB a xs else memB a xs)) := by
  show (if min (PyData.depthAll (xs.map Datum.toD)) (jD a).depth ≤ 60 then some (PyData.bool (if neg = true then !((xs.map Datum.toD).any fun z => PyData.eqv z (jD a)) else (xs.map Datum.toD).any fun z => PyData.eqv z (jD a))) else none) = _
  rw [if_pos (Nat.le_trans (Nat.min_le_right _ _) (Nat.le_trans (Datum.depth_le a) h)), any_datum]
  rfl
theorem ltD_t (a b : α) (hn : ∀ i : Int, jD a ≠ .int i) (h : Datum.depth α ≤ 60 := by decide) : ltD (.d (jD a)) (.d (jD b)) st = some (.bool (DatumOrd.lt a b)) := by
  have hnn : isNoneD (jD a) = false := by
    have := DatumOrd.notNone a
    unfold jD
    cases e : Datum.toD a <;> first | rfl | exact absurd e this
  show ordD _ _ (.d (jD a)) (.d (jD b)) st = _
  unfold ordD
  show (match (some (jD a)), (some (jD b)) with
    | some (.int i), some (.int j) => some (PyData.bool (decide (i < j)))
    | some d, some e => if PySem.W.alike d e = true ∧ isNoneD d = false ∧ min d.depth e.depth ≤ 60 then some (.bool (dataLt d e)) else none
    | _, _ => none) = _
  split
  · next i j e1 e2 => exact absurd (Option.some.inj e1) (hn i)
  · next d e _ e1 e2 =>
    cases e1
    cases e2
    rw [if_pos ⟨DatumOrd.alike a b, hnn, dep2 a b h⟩, DatumOrd.lt_eq]
  · next h1 h2 => exact absurd rfl (h2 _ _ rfl)
/-! ### primitives -/
section
variable {a b : Int} {x y : Str}
theorem deref_d {d : PyData} : deref st (.d d) = some d := rfl
@[simp] theorem items_d {ds : List PyData} : itemsOf st (.d (.list ds)) = some ds := rfl
@[simp] theorem items_t {ds : List PyData} : itemsOf st (.d (.tuple ds)) = some ds := rfl
@[simp] theorem items_i : itemsOf st (.d (.int a)) = none := rfl
@[simp] theorem items_s : itemsOf st (.d (.str x)) = none := rfl
@[simp] theorem items_o {i : Nat} {ds : List PyData} (h : st[i]? = some (.lst ds)) : itemsOf st (.o i) = some ds := by simp [itemsOf, h]
@[simp] theorem items_sc {ns : List Int} : itemsOf st (.s ns) = some (ns.map .int) := rfl
@[simp] theorem list_d {ds : List PyData} : listOf st (.d (.list ds)) = some ds := rfl
@[simp] theorem list_t {ds : List PyData} : listOf st (.d (.tuple ds)) = none := rfl
@[simp] theorem list_o {i : Nat} {ds : List PyData} (h : st[i]? = some (.lst ds)) : listOf st (.o i) = some ds := by simp [listOf, h]
theorem lst_at {i : Nat} {ds : List PyData} (h : st[i]? = some (.lst ds)) : lstAt st (.o i) = some i := by simp [lstAt, h]
@[simp] theorem gtD_i : gtD (.d (.int a)) (.d (.int b)) st = some (.bool (decide (b < a))) := rfl
@[simp] theorem ltD_i : ltD (.d (.int a)) (.d (.int b)) st = some (.bool (decide (a < b))) := rfl
@[simp] theorem leD_i : leD (.d (.int a)) (.d (.int b)) st = some (.bool (decide (a ≤ b))) := rfl
@[simp] theorem geD_i : geD (.d (.int a)) (.d (.int b)) st = some (.bool (decide (b ≤ a))) := rfl
@[simp] theorem modD_i : modD (.d (.int a)) (.d (.int b)) st = if 0 < b then some (.int (a % b)) else none := by simp [modD, intD]
@[simp] theorem fdivD_i : fdivD (.d (.int a)) (.d (.int b)) st = if 0 < b ∧ b < 1073741824 then some (.int (a / b)) else none := by simp [fdivD, intD]
@[simp] theorem subD_i : subD (.d (.int a)) (.d (.int b)) st = some (.int (a - b)) := rfl
@[simp] theorem addD_i : addD (.d (.int a)) (.d (.int b)) st = some (.int (a + b)) := rfl
@[simp] theorem mulD_i : mulD (.d (.int a)) (.d (.int b)) st = if mulOk a b = true then some (.int (a * b)) else none := rfl
@[simp] theorem eqD_i : eqD (.d (.int a)) (.d (.int b)) st = some (.bool (decide (a = b))) := eqD_t a b
@[simp] theorem neD_i : neD (.d (.int a)) (.d (.int b)) st = some (.bool (!decide (a = b))) := neD_t a b
@[simp] theorem eqD_s : eqD (.d (.str x)) (.d (.str y)) st = some (.bool (decide (x = y))) := eqD_t x y
@[simp] theorem neD_s : neD (.d (.str x)) (.d (.str y)) st = some (.bool (!decide (x = y))) := neD_t x y
@[simp] theorem maxD2_i : maxD2 [.d (.int a), .d (.int b)] st = some (.int (if b > a then b else a)) := rfl
@[simp] theorem minD2_i : minD2 [.d (.int a), .d (.int b)] st = some (.int (if b < a then b else a)) := rfl
@[simp] theorem addD_t {xs ys : List PyData} : addD (.d (.tuple xs)) (.d (.tuple ys)) st = if xs.length + ys.length ≤ 1000000 then some (.tuple (xs ++ ys)) else none := rfl
@[simp] theorem addD_l {xs ys : List PyData} : addD (.d (.list xs)) (.d (.list ys)) st = if xs.length + ys.length ≤ 1000000 then some (.list (xs ++ ys)) else none := rfl
@[simp] theorem lenD_d {ds : List PyData} : lenD [.d (.list ds)] st = some (.int ds.length) := rfl
@[simp] theorem lenD_t {ds : List PyData} : lenD [.d (.tuple ds)] st = some (.int ds.length) := rfl
@[simp] theorem lenD_o {i : Nat} {ds : List PyData} (h : st[i]? = some (.lst ds)) : lenD [.o i] st = some (.int ds.length) := by
  show (match itemsOf st (.o i) with
    | some ds => some (PyData.int ds.length)
    | none => _) = _
  rw [items_o h]
@[simp] theorem lenD_sc {ns : List Int} : lenD [.s ns] st = some (.int ns.length) := by
  show some (PyData.int (ns.map PyData.int).length) = _
  rw [List.length_map]
@[simp] theorem lenD_s : lenD [.d (.str x)] st = if x.length ≤ 1000000 then some (.int x.length) else none := rfl
@[simp] theorem tupleD_l {ds : List PyData} : tupleD [.d (.list ds)] st = some (.tuple ds) := rfl
@[simp] theorem datas_nil : datas [] = some [] := rfl
@[simp] theorem datas_cons {d : PyData} {r : List Dv} : datas (.d d :: r) = (datas r).map (d :: ·) := rfl
@[simp] theorem few_s {ds : List PyData} : few ds = if ds.length ≤ 1000000 then some ds else none := rfl
theorem ixD_at {v : Dv} {i : Int} {ds : List PyData} {d : PyData} (h : itemsOf st v = some ds) (h2 : L2.atI ds i = some d) : ixD v (.d (.int i)) st = some d := by
  show (match itemsOf st v with
    | some ds => L2.atI ds i
    | none => _) = _
  rw [h]
  exact h2
@[simp] theorem ixD_d {i : Int} {ds : List PyData} : ixD (.d (.list ds)) (.d (.int i)) st = L2.atI ds i := rfl
@[simp] theorem ixD_t {i : Int} {ds : List PyData} : ixD (.d (.tuple ds)) (.d (.int i)) st = L2.atI ds i := rfl
@[simp] theorem ixD_sc {i : Int} {ns : List Int} : ixD (.s ns) (.d (.int i)) st = L2.atI (ns.map .int) i := rfl
@[simp] theorem ixD_o {i : Int} {j : Nat} {ds : List PyData} (h : st[j]? = some (.lst ds)) : ixD (.o j) (.d (.int i)) st = L2.atI ds i := by
  show (match itemsOf st (.o j) with
    | some ds => L2.atI ds i
    | none => _) = _
  rw [items_o h]
@[simp] theorem atI_0 {γ : Type} {u : γ} {l : List γ} : L2.atI (u :: l) 0 = some u := by simp [L2.atI, L2.ixN]
theorem atI_1 {γ : Type} {u v : γ} {l : List γ} : L2.atI (u :: v :: l) 1 = some v := by
  have h : (1 : Int) < ((u :: v :: l).length : Int) := by simp; omega
  simp only [L2.atI, L2.ixN, if_pos h]
  rfl
theorem atI_2 {γ : Type} {u v x : γ} {l : List γ} : L2.atI (u :: v :: x :: l) 2 = some x := by
  have h : (2 : Int) < ((u :: v :: x :: l).length : Int) := by simp; omega
  simp only [L2.atI, L2.ixN, if_pos h]
  rfl
end
end
end DL
namespace DL
open PySem PySem.W
/-! ### loops -/
theorem forD_run {z : Wk} {tg : Tgt} {F : SS} {γ : Type} {em : γ → PyData} {I : List γ → Vn → Sto → Prop} (xs : List γ) (hz : ∀ pre r st, I pre r st → okG st z = true)
    (step : ∀ pre x post, xs = pre ++ x :: post → ∀ r st, I pre r st → ∃ r1, setI z.2.2 tg (em x) r = some r1 ∧ ∃ r2 st2, F r1 st = .nx r2 st2 ∧ I (pre ++ [x]) r2 st2) :
    ∀ r st, I [] r st → ∃ r' st', forD z tg F (xs.map em) r st = .nx r' st' ∧ I xs r' st' := by
  have key : ∀ (post pre : List γ), xs = pre ++ post → ∀ r st, I pre r st → ∃ r' st', forD z tg F (post.map em) r st = .nx r' st' ∧ I xs r' st' := by
    intro post
    induction post with
    | nil =>
      intro pre e r st h
      refine ⟨r, st, ?_, ?_⟩
      · show (if okG st z = true then Out.nx r st else .stuck) = _
        rw [if_pos (hz _ _ _ h)]
      · rw [e, List.append_nil]
        exact h
    | cons x post ih =>
      intro pre e r st h
      obtain ⟨r1, h1, r2, st2, h2, h3⟩ := step pre x post e r st h
      obtain ⟨r', st', h4, h5⟩ := ih (pre ++ [x]) (by rw [e, List.append_assoc]; rfl) r2 st2 h3
      refine ⟨r', st', ?_, h5⟩
      show (if okG st z = true then (match setI z.2.2 tg (em x) r with
        | none => Out.stuck
        | some r1 => match F r1 st with
          | .nx r2 s2 => forD z tg F (post.map em) r2 s2
          | .ct r2 s2 => forD z tg F (post.map em) r2 s2
          | .bk r2 s2 => .nx r2 s2
          | o => o) else .stuck) = _
      rw [if_pos (hz _ _ _ h), h1]
      show (match F r1 st with
          | .nx r2 s2 => forD z tg F (post.map em) r2 s2
          | .ct r2 s2 => forD z tg F (post.map em) r2 s2
          | .bk r2 s2 => .nx r2 s2
          | o => o) = _
      rw [h2]
      exact h4
  exact fun r st h => key xs [] rfl r st h
theorem sFor_run {fi : SI} {tg : Tgt} {F : SS} {γ : Type} {em : γ → PyData} {I : List γ → Vn → Sto → Prop} {xs : List γ} {j : Option Nat} {ex : Bool} {r : Vn} {st st1 : Sto} (hi : fi r st = .ok (xs.map em, j, ex) st1) (hz : ∀ pre r st, I pre r st → okG st (xs.map em, j, ex) = true)
    (step : ∀ pre x post, xs = pre ++ x :: post → ∀ r st, I pre r st → ∃ r1, setI ex tg (em x) r = some r1 ∧ ∃ r2 st2, F r1 st = .nx r2 st2 ∧ I (pre ++ [x]) r2 st2) (h0 : I [] r st1) :
    ∃ r' st', sFor fi tg F r st = .nx r' st' ∧ I xs r' st' := by
  obtain ⟨r', st', h1, h2⟩ := forD_run (z := (xs.map em, j, ex)) (F := F) xs hz step r st1 h0
  refine ⟨r', st', ?_, h2⟩
  unfold sFor
  rw [hi]
  exact h1
/-! ### sorting -/
section
variable {α : Type} [DecidableEq α] [DatumOrd α]
/-- Python's order -/
def pyLe (a b : α) : Bool := !DatumOrd.lt b a
def pySort (xs : List α) : List α := xs.mergeSort pyLe
theorem dataLe_t (a b : α) : PySem.W.dataLe false id (Datum.toD a) (Datum.toD b) = pyLe a b := by
  show (!dataLt (Datum.toD b) (Datum.toD a)) = _
  rw [DatumOrd.lt_eq]
  rfl
theorem sortD_t (xs : List α) : sortD (xs.map Datum.toD) = (pySort xs).map Datum.toD := by
  unfold sortD pySort
  exact (List.map_mergeSort fun a _ b _ => (dataLe_t a b).symm).symm
theorem sortOk_t (xs : List α) (h : (∀ a : α, tupOk (Datum.toD a) = true) ∨ ∀ a : α, noTup (Datum.toD a) = true) (hd : Datum.depth α ≤ 60) : sortOk (xs.map Datum.toD) = true := by
  unfold sortOk
  have h1 : ((xs.map Datum.toD).all fun a => (xs.map Datum.toD).all fun b => PySem.W.alike a b) = true := by
    rw [List.all_eq_true]
    intro a ha
    rw [List.all_eq_true]
    intro b hb
    obtain ⟨a', _, rfl⟩ := List.mem_map.mp ha
    obtain ⟨b', _, rfl⟩ := List.mem_map.mp hb
    exact DatumOrd.alike a' b'
  have h2 : ((xs.map Datum.toD).all tupOk || (xs.map Datum.toD).all noTup) = true := by
    rcases h with h | h
    · have : (xs.map Datum.toD).all tupOk = true := by
        rw [List.all_eq_true]
        intro a ha
        obtain ⟨a', _, rfl⟩ := List.mem_map.mp ha
        exact h a'
      rw [this, Bool.true_or]
    · have : (xs.map Datum.toD).all noTup = true := by
        rw [List.all_eq_true]
        intro a ha
        obtain ⟨a', _, rfl⟩ := List.mem_map.mp ha
        exact h a'
      rw [this, Bool.or_true]
  have h3 : ((xs.map Datum.toD).all fun d => decide (d.depth ≤ 60)) = true := by
    rw [List.all_eq_true]
    intro a ha
    obtain ⟨a', _, rfl⟩ := List.mem_map.mp ha
    exact decide_eq_true (Nat.le_trans (Datum.depth_le a') hd)
  rw [h1, h2, h3]
  rfl
theorem sortLD_t {st : Sto} (xs : List α) (h : (∀ a : α, tupOk (Datum.toD a) = true) ∨ ∀ a : α, noTup (Datum.toD a) = true) (hd : Datum.depth α ≤ 60 := by decide) : sortLD [.d (jL xs)] st = some ((pySort xs).map Datum.toD) := by
  show (if sortOk (xs.map Datum.toD) = true then some (sortD (xs.map Datum.toD)) else none) = _
  rw [if_pos (sortOk_t xs h hd), sortD_t]
end
theorem sort_str {st : Sto} (xs : List Str) : sortAD [.d (jL xs)] st = some ((pySort xs).map Datum.toD) := sortLD_t (st := st) xs (.inr fun _ => rfl)
theorem sortT_t {α : Type} [DecidableEq α] [DatumOrd α] {st : Sto} (xs : List α) (h : (∀ a : α, tupOk (Datum.toD a) = true) ∨ ∀ a : α, noTup (Datum.toD a) = true) (hl : xs.length ≤ 1000000) (hd : Datum.depth α ≤ 60 := by decide) : sortAD [.d (jT xs)] st = some ((pySort xs).map Datum.toD) := by
  show (if sortOk (xs.map Datum.toD) = true ∧ (xs.map Datum.toD).length ≤ 1000000 then some (sortD (xs.map Datum.toD)) else none) = _
  rw [if_pos ⟨sortOk_t xs h hd, by rw [List.length_map]; exact hl⟩, sortD_t]
theorem sortT_str {st : Sto} (xs : List Str) (hl : xs.length ≤ 1000000) : sortAD [.d (jT xs)] st = some ((pySort xs).map Datum.toD) := sortT_t xs (.inr fun _ => rfl) hl
theorem sortT_pair {α β : Type} [DecidableEq α] [DatumOrd α] [DecidableEq β] [DatumOrd β] {st : Sto} (xs : List (α × β)) (hl : xs.length ≤ 1000000) (hd : Datum.depth (α × β) ≤ 60 := by decide) : sortAD [.d (jT xs)] st = some ((pySort xs).map Datum.toD) := sortT_t xs (.inl fun _ => rfl) hl hd
theorem sort_pair {α β : Type} [DecidableEq α] [DatumOrd α] [DecidableEq β] [DatumOrd β] {st : Sto} (xs : List (α × β)) (hd : Datum.depth (α × β) ≤ 60 := by decide) : sortAD [.d (jL xs)] st = some ((pySort xs).map Datum.toD) := sortLD_t (st := st) xs (.inl fun _ => rfl) hd
end DL
namespace DL
open PySem PySem.W
theorem sWhile_run {ft : SE} {F : SS} {I : Nat → Vn → Sto → Prop} {P : Vn → Sto → Prop}
    (step : ∀ n r st, I n r st → (∃ s1, ft r st = .ok (.d (.bool false)) s1 ∧ P r s1) ∨ (∃ s1, ft r st = .ok (.d (.bool true)) s1 ∧ ∃ m r2 s2, F r s1 = .nx r2 s2 ∧ m < n ∧ I m r2 s2)) : ∀ k n r st, n < k → I n r st → ∃ r' s', sWhile ft F k r st = .nx r' s' ∧ P r' s' := by
  intro k
  induction k with
  | zero => intro n r st h; omega
  | succ k ih =>
    intro n r st h hi
    rcases step n r st hi with ⟨s1, h1, h2⟩ | ⟨s1, h1, m, r2, s2, h2, h3, h4⟩
    · refine ⟨r, s1, ?_, h2⟩
      simp [sWhile, h1]
    · obtain ⟨r', s', h5, h6⟩ := ih m r2 s2 (by omega) h4
      refine ⟨r', s', ?_, h6⟩
      simp [sWhile, h1, h2, h5]
theorem atI_last {γ : Type} {l : List γ} {u : γ} : L2.atI (l ++ [u]) (-1) = some u := by
  have h1 : ¬ (0 : Int) ≤ -1 := by omega
  have h2 : -((l ++ [u]).length : Int) ≤ -1 := by simp; omega
  simp only [L2.atI, L2.ixN, if_neg h1, if_pos h2]
  have h3 : (-1 + ((l ++ [u]).length : Int)).toNat = l.length := by simp; omega
  rw [h3]
  simp
@[simp] theorem eNeg_ev {f : SE} {r : Vn} {st : Sto} : eNeg f r st = (f r st).bind fun x s1 => match x with
  | .d (.int i) => .ok (.d (.int (-i))) s1
  | _ => .stuck := rfl
theorem eDGet_at {fo fk : SE} {r : Vn} {st : Sto} {i : Nat} {k : PyData} {kk : L2.Key} {kvs : List (PyData × PyData)} {v : PyData} (h1 : fo r st = .ok (.o i) st) (h2 : fk r st = .ok (.d k) st) (h3 : st[i]? = some (.dct kvs)) (h4 : keyOf k = some kk) (h5 : dget kvs k = some v) : eDGet fo fk r st = .ok (.d v) st := by
  simp [eDGet, h1, h2, h3, h4, h5]
end DL
set_option maxHeartbeats 200000
/-! F layer, part 2: the laws' draws. -/
namespace DL
open PySem PySem.W
def Src (o : Ob) : Prop := ∃ a b c : Int, o = .lst [.int a, .int b, .int c] ∧ 0 < c ∧ c ≤ 2147483647
theorem pick_ok {st : Sto} {i : Nat} {o : Ob} {size : Int} (h : st[i]? = some o) (ho : Src o) (h1 : 0 < size) (h2 : size < 1073741824) : ∃ (r : Int) (o' : Ob), Src o' ∧ 0 ≤ r ∧ r < size ∧ sem__law_pick [.o i, .d (.int size)] st = .ok (.d (.int r)) (st.set i o') := by
  obtain ⟨a, b, c, rfl, c1, c2⟩ := ho
  have hi : i < st.length := (List.getElem?_eq_some_iff.mp h).1
  by_cases ha : 0 < a
  · refine ⟨a % size, .lst [.int (a / size), .int b, .int c], ⟨_, _, _, rfl, c1, c2⟩, Int.emod_nonneg _ (by omega), Int.emod_lt_of_pos _ h1, ?_⟩
    refine fnD_ret (s1 := st.set i (.lst [.int (a / size), .int b, .int c])) ?_ (List.take_of_length_le (by simp))
    simp [body__law_pick, h, ha, h1, h2, L2.ixN]
  · have e1 := Int.emod_nonneg (b * 48271) (b := c) (by omega)
    have e2 := Int.emod_lt_of_pos (b * 48271) c1
    have m1 : mulOk b 48271 = true := by simp [mulOk]
    have m2 : ∀ d : Int, mulOk (b * 48271 % c + 1) d = true := fun d => by
      have z1 : -(2 ^ 64 : Int) < b * 48271 % c + 1 := by omega
      have z2 : b * 48271 % c + 1 < (2 ^ 64 : Int) := by omega
      unfold mulOk
      rw [decide_eq_true z1, decide_eq_true z2]
      rfl
    refine ⟨(b * 48271 % c + 1) * (b * 48271 % c + 1) % 2147483423 / 7 % size, .lst [.int a, .int (b * 48271 % c + 1), .int c], ⟨_, _, _, rfl, c1, c2⟩, Int.emod_nonneg _ (by omega), Int.emod_lt_of_pos _ h1, ?_⟩
    refine fnD_ret (s1 := st.set i (.lst [.int a, .int (b * 48271 % c + 1), .int c])) ?_ (List.take_of_length_le (by simp))
    have h3 : (st.set i (.lst [.int a, .int (b * 48271 % c + 1), .int c]))[i]? = some (.lst [.int a, .int (b * 48271 % c + 1), .int c]) := by rw [List.getElem?_set_self hi]
    simp [body__law_pick, h, ha, h1, h2, h3, L2.ixN, atI_1, atI_2, c1, m1, m2]
theorem source_ok {ns : List Int} {k : Int} {st : Sto} (hk : 0 ≤ k) (hk2 : k < 64) : ∃ o, Src o ∧ sem__law_source [.s ns, .d (.int k)] st = .ok (.o st.length) (st ++ [o]) := by
  have hm : ∀ x : Int, mulOk (x % 2147483489 + 1) (48271 + 2 * k) = true := fun x => by
    have e1 := Int.emod_nonneg x (b := 2147483489) (by omega)
    have e2 := Int.emod_lt_of_pos x (b := 2147483489) (by omega)
    have z1 : -(2 ^ 64 : Int) < x % 2147483489 + 1 := by omega
    have z2 : x % 2147483489 + 1 < (2 ^ 64 : Int) := by omega
    unfold mulOk
    rw [decide_eq_true z1, decide_eq_true z2]
    rfl
  have hm2 : ∀ x : Int, mulOk (x % 2147483489) (x % 2147483489) = true := fun x => by
    have e1 := Int.emod_nonneg x (b := 2147483489) (by omega)
    have e2 := Int.emod_lt_of_pos x (b := 2147483489) (by omega)
    have z1 : -(2 ^ 64 : Int) < x % 2147483489 := by omega
    have z2 : x % 2147483489 < (2 ^ 64 : Int) := by omega
    unfold mulOk
    rw [decide_eq_true z1, decide_eq_true z2]
    rfl
  have hm3 : mulOk 2 k = true := by simp [mulOk]
  have hp : powD (.d (.int 10)) (.d (.int 18)) st = some (.int 1000000000000000000) := rfl
  have cell : ∃ x : Int, (sIf (eBin ltD (eV 1) (eB lenD (aCons (eV 0) aNil))) (sAsg (eBin ixD (eV 0) (eV 1)) (.nm 2)) sNil [some (.s ns), some (.d (.int k)), some (.d (.int 0)), none, none] st) = .nx [some (.s ns), some (.d (.int k)), some (.d (.int x)), none, none] st := by
    by_cases hl : k < ns.length
    · obtain ⟨x, hx⟩ : ∃ x, L2.atI (ns.map PyData.int) k = some (.int x) := by
        refine ⟨ns[k.toNat]'(by omega), ?_⟩
        simp only [L2.atI, L2.ixN, List.length_map, if_pos hk, if_pos hl]
        simp
      refine ⟨x, ?_⟩
      simp [hl, hx]
    · refine ⟨0, ?_⟩
      simp [hl]
  obtain ⟨x, hx⟩ := cell
  have prime : ∀ s : Sto, ∃ q : Int, 0 < q ∧ q ≤ 2147483647 ∧ L2.atI [PyData.int 2147483647, .int 2147483629, .int 2147483587, .int 2147483579, .int 2147483563, .int 2147483549, .int 2147483543, .int 2147483497] (k % 8) = some (.int q) := fun s => by
    have z1 := Int.emod_nonneg k (b := 8) (by omega)
    have z2 := Int.emod_lt_of_pos k (b := 8) (by omega)
    generalize k % 8 = m at *
    obtain h | h | h | h | h | h | h | h : m = 0 ∨ m = 1 ∨ m = 2 ∨ m = 3 ∨ m = 4 ∨ m = 5 ∨ m = 6 ∨ m = 7 := by omega
    all_goals subst h; exact ⟨_, by decide, by decide, rfl⟩
  obtain ⟨q, q1, q2, hq⟩ := prime st
  generalize hs : (x % 2147483489 + 1) * (48271 + 2 * k) % 2147483489 = s
  have hs2 : mulOk s s = true := by
    rw [← hs]
    exact hm2 _
  by_cases hb : (1000000000000000000 : Int) ≤ x
  · refine ⟨.lst [.int x, .int (s * s % 2147483477 + k + 1), .int q], ⟨_, _, _, rfl, q1, q2⟩, ?_⟩
    refine fnD_new (i := st.length) (s1 := st ++ [.lst [.int x, .int (s * s % 2147483477 + k + 1), .int q]]) (s2 := st) ?_ (Nat.le_refl _) (by simp) (by simp)
    unfold body__law_source
    simp only [sSeq_ev, sAsg_nm, eK_ev, outOf_ok, seqK_nx, List.set, List.map_cons, List.map_nil, List.length_cons, List.length_nil, List.cons_append, List.nil_append, List.replicate]
    rw [hx]
    simp [hm, hm3, hp, hb, hq, hs, hs2]
  · refine ⟨.lst [.int 0, .int (s * s % 2147483477 + k + 1), .int q], ⟨_, _, _, rfl, q1, q2⟩, ?_⟩
    refine fnD_new (i := st.length) (s1 := st ++ [.lst [.int 0, .int (s * s % 2147483477 + k + 1), .int q]]) (s2 := st) ?_ (Nat.le_refl _) (by simp) (by simp)
    unfold body__law_source
    simp only [sSeq_ev, sAsg_nm, eK_ev, outOf_ok, seqK_nx, List.set, List.map_cons, List.map_nil, List.length_cons, List.length_nil, List.cons_append, List.nil_append, List.replicate]
    rw [hx]
    simp [hm, hm3, hp, hb, hq, hs, hs2]
end DL
set_option maxHeartbeats 200000
/-! F layer, part 3: layouts, what is heard. -/
namespace DL
open PySem PySem.W
abbrev Nodes := List (Str × Str)
abbrev Lights := List (Str × Str)
def namesOf (ns : Nodes) : List Str := ns.map (·.1)
def tracksOf (ns : Nodes) : List Str := pySort ((namesOf ns).filter fun x => !memB x (ns.map (·.2)))
variable {st : Sto}
theorem names_of_ok (ns : Nodes) : sem_names_of [.d (jT ns)] st = .ok (.d (jL (namesOf ns))) st := by
  refine fnD_ret (s1 := st) ?_ List.take_length
  show outOf _ (eLc _ _ _ _ _ _ _) _ = _
  rw [eLc_mapT (em := Datum.toD) (g := fun x : Str × Str => x.1) (xs := ns) rfl rfl fun x _ => lcT_all rfl rfl]
  rfl
theorem tracks_of_ok (ns : Nodes) : sem_tracks_of [.d (jT ns)] st = .ok (.o st.length) (st ++ [.lst ((tracksOf ns).map Datum.toD)]) := by
  refine fnD_new (i := st.length) (s1 := st ++ [.lst ((tracksOf ns).map Datum.toD)]) ?_ (Nat.le_refl _) (by simp) (by simp)
  show body_tracks_of [some (.d (jT ns)), none, none, none] st = _
  unfold body_tracks_of
  rw [sSeq_ev, sAsg_nm, eLc_mapT (em := Datum.toD) (g := fun x : Str × Str => x.2) (xs := ns) rfl rfl fun x _ => lcT_all rfl rfl]
  show outOf _ (eBN _ _ _ _) _ = _
  rw [eBN_ev, aCons_ev, eLc_selT (p := fun x : Str => !memB x (ns.map (·.2))) (xs := namesOf ns) (j := none) (ex := true) (by simp [names_of_ok]) rfl]
  · simp only [bind_ok, aNil_ev]
    rw [sort_str]
    simp [tracksOf]
  · intro x _
    refine lcT_ok rfl ?_ fun _ => rfl
    show ansD st (isinD true (.d (jD x)) (.d (jL (ns.map (·.2)))) st) = _
    rw [isinL_t]
    rfl
end DL
namespace DL
open PySem PySem.W
variable {st : Sto}
/-! ### names, layouts -/
def letters : Str := "abcdefghijklmnopqrstuvwxyz"
def isNameB (x : Str) : Bool := decide (1 ≤ x.length) && (decide (x.length ≤ 8) && x.cps.toList.all fun c => decide (c ∈ letters.cps.toList))
structure Lay (ns : Nodes) : Prop where
  ne : 1 ≤ ns.length
  le : ns.length ≤ 12
  nm : ∀ p ∈ ns, isNameB p.1 = true
  nd : (namesOf ns).Nodup
  up : ∀ pre p post, ns = pre ++ p :: post → p.2 = ("" : Str) ∨ p.2 ∈ namesOf pre
theorem eFz_new {f : SE} {r : Vn} {ds : List PyData} (h : f r st = .ok (.o st.length) (st ++ [.lst ds])) : eFz f r st = .ok (.d (.list ds)) st := by
  unfold eFz
  rw [h]
  simp
theorem tracks_fz (ns : Nodes) {r : Vn} {i : Nat} (h : eV i r st = .ok (.d (jT ns)) st) : eFz (eCall sem_tracks_of (aCons (eV i) aNil)) r st = .ok (.d (jL (tracksOf ns))) st := eFz_new (by simp [h, tracks_of_ok])
/-! ### the way up -/
def par (ns : Nodes) (x : Str) : Option Str := (ns.find? fun p => decide (p.1 = x)).map (·.2)
def wayAux (ns : Nodes) : Nat → Str → List Str
  | 0, x => [x]
  | n + 1, x => match par ns x with
    | none => [x]
    | some p => if p = ("" : Str) then [x] else x :: wayAux ns n p
def wayOf (ns : Nodes) (x : Str) : List Str := wayAux ns ns.length x
theorem par_mem {ns : Nodes} {x p : Str} (h : par ns x = some p) : (x, p) ∈ ns := by
  unfold par at h
  obtain ⟨q, h1, h2⟩ := Option.map_eq_some_iff.mp h
  have h3 := List.find?_some h1
  have h4 := List.mem_of_find?_eq_some h1
  have h5 : q.1 = x := by simpa using h3
  rw [← h5, ← h2]
  exact h4
theorem par_of {ns : Nodes} (hn : (namesOf ns).Nodup) {x p : Str} (h : (x, p) ∈ ns) : par ns x = some p := by
  unfold par
  cases e : ns.find? (fun q => decide (q.1 = x)) with
  | none =>
    have z := List.find?_eq_none.mp e (x, p) h
    simp at z
  | some q =>
    have h3 := List.find?_some e
    have h4 := List.mem_of_find?_eq_some e
    have h5 : q.1 = x := by simpa using h3
    have : q = (x, p) := by
      have inj : ∀ (l : Nodes), (l.map (·.1)).Nodup → ∀ a ∈ l, ∀ b ∈ l, a.1 = b.1 → a = b := by
        intro l
        induction l with
        | nil => intro _ a ha; cases ha
        | cons y l ih =>
          intro hnd a ha b hb hab
          rw [List.map_cons, List.nodup_cons] at hnd
          rcases List.mem_cons.mp ha with ea | ha
          · rcases List.mem_cons.mp hb with eb | hb
            · rw [ea, eb]
            · exact absurd (by rw [← ea, hab]; exact List.mem_map_of_mem hb) hnd.1
          · rcases List.mem_cons.mp hb with eb | hb
            · exact absurd (by rw [← eb, ← hab]; exact List.mem_map_of_mem ha) hnd.1
            · exact ih hnd.2 a ha b hb hab
      exact inj ns hn q h4 (x, p) h (by rw [h5])
    rw [this]
    rfl
/-- where a name stands -/
def rank (ns : Nodes) (x : Str) : Nat := (namesOf ns).idxOf x
theorem rank_lt {ns : Nodes} {x : Str} (h : x ∈ namesOf ns) : rank ns x < ns.length := by
  have := List.idxOf_lt_length_iff.mpr h
  simpa [rank, namesOf] using this
theorem Lay.par_some {ns : Nodes} (L : Lay ns) {x : Str} (h : x ∈ namesOf ns) : ∃ p, par ns x = some p := by
  obtain ⟨q, hq, rfl⟩ := List.mem_map.mp h
  exact ⟨q.2, par_of L.nd hq⟩
theorem Lay.par_up {ns : Nodes} (L : Lay ns) {x p : Str} (h : par ns x = some p) (hp : p ≠ ("" : Str)) : p ∈ namesOf ns ∧ rank ns p < rank ns x := by
  obtain ⟨pre, post, e⟩ := List.append_of_mem (par_mem h)
  rcases L.up pre (x, p) post e with z | z
  · exact absurd z hp
  · have hm : p ∈ namesOf ns := by
      rw [e]
      unfold namesOf at z ⊢
      rw [List.map_append]
      exact List.mem_append_left _ z
    refine ⟨hm, ?_⟩
    have e2 : namesOf ns = namesOf pre ++ x :: namesOf post := by rw [e]; simp [namesOf]
    have nx : x ∉ namesOf pre := fun hx => by
      have := L.nd
      rw [e2, List.nodup_append] at this
      exact this.2.2 x hx x (List.mem_cons_self ..) rfl
    have r1 : rank ns p < (namesOf pre).length := by
      unfold rank
      rw [e2, List.idxOf_append, if_pos z]
      exact List.idxOf_lt_length_iff.mpr z
    have r2 : rank ns x = (namesOf pre).length := by
      unfold rank
      rw [e2, List.idxOf_append, if_neg nx]
      simp
    omega
theorem Lay.aux {ns : Nodes} (L : Lay ns) : ∀ (n m : Nat) (x : Str), x ∈ namesOf ns → rank ns x < n → n ≤ m → wayAux ns m x = wayAux ns n x := by
  intro n
  induction n with
  | zero => intro m x _ h _; omega
  | succ n ih =>
    intro m x hx hr hm
    cases m with
    | zero => omega
    | succ m =>
      obtain ⟨p, hp⟩ := L.par_some hx
      simp only [wayAux, hp]
      by_cases h0 : p = ("" : Str)
      · rw [if_pos h0, if_pos h0]
      · rw [if_neg h0, if_neg h0]
        obtain ⟨h1, h2⟩ := L.par_up hp h0
        rw [ih m p h1 (by omega) (by omega)]
/-- the way of a node: its own name, then the way of its parent -/
theorem Lay.way {ns : Nodes} (L : Lay ns) {x : Str} (hx : x ∈ namesOf ns) {p : Str} (hp : par ns x = some p) : wayOf ns x = if p = ("" : Str) then [x] else x :: wayOf ns p := by
  have h1 := rank_lt hx
  have e : wayOf ns x = wayAux ns (ns.length + 1) x := (L.aux ns.length (ns.length + 1) x hx h1 (by omega)).symm
  rw [e]
  simp only [wayAux, hp]
  by_cases h0 : p = ("" : Str)
  · rw [if_pos h0, if_pos h0]
  · rw [if_neg h0, if_neg h0]
    rfl
end DL
namespace DL
open PySem PySem.W
variable {st : Sto}
/-! ### the way up, as the program and the laws work it out -/
def kvOf (ns : Nodes) : List (PyData × PyData) := ns.map fun p => (jD p.1, jD p.2)
theorem pairs_of (ns : Nodes) : pairsD (ns.map Datum.toD) = some (kvOf ns) := by
  induction ns with
  | nil => rfl
  | cons p ns ih =>
    show (match keyOf (jD p.1), pairsD (ns.map Datum.toD) with
      | some _, some t => some ((jD p.1, jD p.2) :: t)
      | _, _ => none) = _
    rw [ih]
    rfl
theorem any_key (ns : Nodes) (x : Str) : ((kvOf ns).any fun p => PyData.eqv p.1 (jD x)) = decide (x ∈ namesOf ns) := by
  have e : ((kvOf ns).any fun p => PyData.eqv p.1 (jD x)) = ((namesOf ns).map Datum.toD).any fun d => PyData.eqv d (Datum.toD x) := by
    simp [kvOf, namesOf, List.any_map, Function.comp_def]
  rw [e, any_datum]
theorem dmerge_of {ns : Nodes} (h : (namesOf ns).Nodup) : dmerge (kvOf ns) = kvOf ns := by
  have key : ∀ (l acc : Nodes), (namesOf (acc ++ l)).Nodup → (kvOf l).foldl (fun acc p => dput acc p.1 p.2) (kvOf acc) = kvOf (acc ++ l) := by
    intro l
    induction l with
    | nil => intro acc _; simp [kvOf]
    | cons p l ih =>
      intro acc hnd
      have np : p.1 ∉ namesOf acc := fun hx => by
        have e : namesOf (acc ++ p :: l) = namesOf acc ++ p.1 :: namesOf l := by simp [namesOf]
        rw [e, List.nodup_append] at hnd
        exact hnd.2.2 p.1 hx p.1 (List.mem_cons_self ..) rfl
      have e1 : dput (kvOf acc) (jD p.1) (jD p.2) = kvOf (acc ++ [p]) := by
        unfold dput
        rw [any_key, decide_eq_false np]
        simp [kvOf]
      show (kvOf l).foldl _ (dput (kvOf acc) (jD p.1) (jD p.2)) = _
      rw [e1, ih (acc ++ [p]) (by rw [List.append_assoc]; exact hnd), List.append_assoc]
      rfl
  exact key ns [] (by simpa using h)
theorem dget_of (ns : Nodes) (x : Str) : dget (kvOf ns) (jD x) = (par ns x).map fun p => jD p := by
  unfold dget par kvOf
  rw [List.find?_map]
  have e : ((fun p : PyData × PyData => PyData.eqv p.1 (jD x)) ∘ fun p : Str × Str => (jD p.1, jD p.2)) = fun p : Str × Str => decide (p.1 = x) := by
    funext p
    exact Datum.eqv p.1 x
  rw [e]
  cases ns.find? fun p => decide (p.1 = x) <;> rfl
theorem way_loop {ns : Nodes} (L : Lay ns) {x : Str} (hx : x ∈ namesOf ns) (st : Sto) : ∃ r', sWhile (eBin neD (eDGet (eV 2) (eBin ixD (eV 3) (eNeg (eK (.int 1))))) (eK (.str ""))) (sExpr (eMth mAppend (eV 3) (aCons (eDGet (eV 2) (eBin ixD (eV 3) (eNeg (eK (.int 1))))) aNil))) 1000
    [some (.d (jT ns)), some (.d (jD x)), some (.o st.length), some (.o (st.length + 1))] (st ++ [.dct (kvOf ns), .lst [jD x]]) = .nx r' (st ++ [.dct (kvOf ns), .lst ((wayOf ns x).map Datum.toD)]) ∧ r' = [some (.d (jT ns)), some (.d (jD x)), some (.o st.length), some (.o (st.length + 1))] := by
  have run := sWhile_run (ft := eBin neD (eDGet (eV 2) (eBin ixD (eV 3) (eNeg (eK (.int 1))))) (eK (.str ""))) (F := sExpr (eMth mAppend (eV 3) (aCons (eDGet (eV 2) (eBin ixD (eV 3) (eNeg (eK (.int 1))))) aNil)))
    (I := fun n r s => r = [some (.d (jT ns)), some (.d (jD x)), some (.o st.length), some (.o (st.length + 1))] ∧ ∃ (pre : List Str) (y : Str), s = st ++ [.dct (kvOf ns), .lst ((pre ++ [y]).map Datum.toD)] ∧ y ∈ namesOf ns ∧ rank ns y = n ∧ wayOf ns x = pre ++ wayOf ns y ∧ pre.length + n < ns.length)
    (P := fun r s => r = [some (.d (jT ns)), some (.d (jD x)), some (.o st.length), some (.o (st.length + 1))] ∧ s = st ++ [.dct (kvOf ns), .lst ((wayOf ns x).map Datum.toD)]) ?_ 1000 (rank ns x)
    [some (.d (jT ns)), some (.d (jD x)), some (.o st.length), some (.o (st.length + 1))] (st ++ [.dct (kvOf ns), .lst [jD x]]) (by have := rank_lt hx; have := L.le; omega) ⟨rfl, [], x, rfl, hx, rfl, rfl, by have := rank_lt hx; simpa using this⟩
  · obtain ⟨r', s', h1, h2, h3⟩ := run
    exact ⟨r', by rw [h1, h3], h2⟩
  · rintro n r s ⟨rfl, pre, y, rfl, hy, hr, hw, hl⟩
    obtain ⟨p, hp⟩ := L.par_some hy
    have hget : eDGet (eV 2) (eBin ixD (eV 3) (eNeg (eK (.int 1)))) [some (.d (jT ns)), some (.d (jD x)), some (.o st.length), some (.o (st.length + 1))] (st ++ [.dct (kvOf ns), .lst ((pre ++ [y]).map Datum.toD)]) = .ok (.d (jD p)) (st ++ [.dct (kvOf ns), .lst ((pre ++ [y]).map Datum.toD)]) := by
      refine eDGet_at (i := st.length) (kvs := kvOf ns) (k := jD y) (kk := .inr y) rfl ?_ (by simp) rfl (by rw [dget_of, hp]; rfl)
      have hi : (st ++ [Ob.dct (kvOf ns), .lst ((pre ++ [y]).map Datum.toD)])[st.length + 1]? = some (.lst ((pre ++ [y]).map Datum.toD)) := by simp
      simp only [eBin_ev, eV3, bind_ok, eNeg_ev, eK_ev]
      rw [ixD_o hi, List.map_append, List.map_singleton, atI_last]
      rfl
    have e := L.way hy hp
    have hne : ∀ S : Sto, neD (.d (jD p)) (.d (.str "")) S = some (.bool (!decide (p = ("" : Str)))) := fun S => neD_t p ("" : Str)
    by_cases h0 : p = ("" : Str)
    · left
      refine ⟨st ++ [.dct (kvOf ns), .lst ((pre ++ [y]).map Datum.toD)], ?_, rfl, ?_⟩
      · rw [eBin_ev, hget, bind_ok, eK_ev, bind_ok, hne, decide_eq_true h0]
        rfl
      · rw [if_pos h0] at e
        rw [hw, e]
    · right
      obtain ⟨h1, h2⟩ := L.par_up hp h0
      refine ⟨st ++ [.dct (kvOf ns), .lst ((pre ++ [y]).map Datum.toD)], ?_, rank ns p, _, st ++ [.dct (kvOf ns), .lst ((pre ++ [y] ++ [p]).map Datum.toD)], ?_, by omega, rfl, pre ++ [y], p, rfl, h1, rfl, ?_, ?_⟩
      · rw [eBin_ev, hget, bind_ok, eK_ev, bind_ok, hne, decide_eq_false h0]
        rfl
      · have hi : (st ++ [Ob.dct (kvOf ns), .lst ((pre ++ [y]).map Datum.toD)])[st.length + 1]? = some (.lst ((pre ++ [y]).map Datum.toD)) := by simp
        have hlen : ((pre ++ [y]).map Datum.toD).length < 1000000 := by
          have := L.le
          simp
          omega
        rw [sExpr_ev, eMth_ev, eV3, bind_ok, lst_at hi]
        simp only [aCons_ev, hget, bind_ok, aNil_ev, hi, mAppend, if_pos hlen, outOf_ok]
        simp
      · rw [if_neg h0] at e
        rw [hw, e]
        simp
      · simp
        omega
theorem way_of_ok {ns : Nodes} (L : Lay ns) {x : Str} (hx : x ∈ namesOf ns) : sem_way_of [.d (jT ns), .d (jD x)] st = .ok (.d (jL (wayOf ns x))) st := by
  obtain ⟨r', h1, h2⟩ := way_loop L hx st
  refine fnD_ret (s1 := st ++ [.dct (kvOf ns), .dead]) ?_ (by simp)
  show body_way_of [some (.d (jT ns)), some (.d (jD x)), none, none] st = _
  unfold body_way_of
  have ed : eDict (aCons (eV 0) aNil) [some (.d (jT ns)), some (.d (jD x)), none, none] st = .ok (.o st.length) (st ++ [.dct (kvOf ns)]) := by
    simp [eDict, pairs_of, dmerge_of L.nd]
  rw [sSeq_ev, sPar_ev, aCons_ev, ed]
  simp only [bind_ok, aCons_ev, eLstN_ev, eV1, aNil_ev, datas_cons, datas_nil, Option.map_some, Option.bind_some, few_s, List.length_cons, List.length_nil]
  rw [if_pos (by decide), ansN_s]
  simp only [bind_ok, outOf_ok, seqK_nx, List.length_append, List.length_cons, List.length_nil, List.set, List.append_assoc, List.cons_append, List.nil_append]
  rw [sSeq_ev, h1, seqK_nx, h2]
  unfold sFrz
  simp [unO]
end DL
set_option maxHeartbeats 200000
/-! F layer, part 4: checks of layouts and states; what is heard. -/
namespace DL
open PySem PySem.W
variable {st : Sto}
/-! ### names -/
theorem any_all (bs : List Bool) : bools (bs.map PyData.bool) = some bs := by
  induction bs with
  | nil => rfl
  | cons b bs ih =>
    show (bools (bs.map PyData.bool)).map (b :: ·) = _
    rw [ih]
    rfl
theorem allD_t (bs : List Bool) : anyD true [.d (.list (bs.map PyData.bool))] st = some (.bool (bs.all id)) := by
  show (bools (bs.map PyData.bool)).map _ = _
  rw [any_all]
  rfl
theorem anyD_t (bs : List Bool) : anyD false [.d (.list (bs.map PyData.bool))] st = some (.bool (bs.any id)) := by
  show (bools (bs.map PyData.bool)).map _ = _
  rw [any_all]
  rfl
theorem is_name_ok (x : Str) (hz : x.length ≤ 1000000) : sem_is_name [.d (jD x)] st = .ok (.d (.bool (isNameB x))) st := by
  refine fnD_ret (s1 := st) ?_ List.take_length
  show body_is_name [some (.d (.str x)), none] st = _
  unfold body_is_name
  have e1 : eChain leD leD (eK (.int 1)) (eB lenD (aCons (eV 0) aNil)) (eK (.int 8)) [some (.d (.str x)), none] st = .ok (.d (.bool (decide ((1 : Int) ≤ x.length) && decide ((x.length : Int) ≤ 8)))) st := by
    unfold eChain
    simp only [eK_ev, bind_ok, eB_ev, aCons_ev, eV0, aNil_ev, lenD_s, if_pos hz, ansD_s, leD_i]
    cases decide ((1 : Int) ≤ x.length) <;> rfl
  have e2 : eLc (iOf (eV 0)) (.nm 1) eYes (eBin (signD false) (eV 1) (eK (.str "abcdefghijklmnopqrstuvwxyz"))) [1] [some (.d (.str x)), none] st = .ok (.d (.list ((x.cps.toList.map fun c => decide (c ∈ letters.cps.toList)).map PyData.bool))) st := by
    rw [eLc_map (em := fun c : Nat => PyData.str ⟨#[c]⟩) (g := fun c : Nat => PyData.bool (decide (c ∈ letters.cps.toList))) (xs := x.cps.toList) (j := none) (ex := true) (by simp [iOf, walkOf, hz]) rfl (fun c _ => lcT_all rfl rfl)]
    simp
  have e0 : eIsi PyData.isStr (eV 0) [some (.d (.str x)), none] st = .ok (.d (.bool true)) st := rfl
  rw [sRet_ev, eAnd_t e0, eAnd_ev, e1]
  simp only [asB_b, bind_ok]
  rw [eB_ev, aCons_ev, e2]
  simp only [bind_ok, aNil_ev]
  rw [allD_t]
  unfold isNameB
  have c1 : decide ((1 : Int) ≤ x.length) = decide (1 ≤ x.length) := by
    apply decide_eq_decide.mpr
    omega
  have c2 : decide ((x.length : Int) ≤ 8) = decide (x.length ≤ 8) := by
    apply decide_eq_decide.mpr
    omega
  rw [c1, c2]
  have ea : (x.cps.toList.map fun c => decide (c ∈ letters.cps.toList)).all id = x.cps.toList.all fun c => decide (c ∈ letters.cps.toList) := by simp [List.all_map]
  rw [ea]
  cases decide (1 ≤ x.length) <;> cases decide (x.length ≤ 8) <;> rfl
theorem nameB_len {x : Str} (h : isNameB x = true) : x.length ≤ 8 := by
  unfold isNameB at h
  simp only [Bool.and_eq_true, decide_eq_true_eq] at h
  exact h.2.1
theorem Lay.name_ok {ns : Nodes} (L : Lay ns) {p : Str × Str} (h : p ∈ ns) : sem_is_name [.d (jD p.1)] st = .ok (.d (.bool true)) st := by
  rw [is_name_ok p.1 (Nat.le_trans (nameB_len (L.nm p h)) (by decide)), L.nm p h]
/-! ### layouts -/
theorem is_layout_ok {ns : Nodes} (L : Lay ns) : sem_is_layout [.d (jT ns)] st = .ok (.d (.bool true)) st := by
  have run := sFor_run (fi := iOf (eV 0)) (tg := .nm 2) (F := (sSeq (sIf (eOr (eNot (eIsi PyData.isTuple (eV 2))) (eOr (eBin neD (eB lenD (aCons (eV 2) aNil)) (eK (.int 2))) (eOr (eNot (eCall sem_is_name (aCons (eBin ixD (eV 2) (eK (.int 0))) aNil))) (eBin (isinD false) (eBin ixD (eV 2) (eK (.int 0))) (eV 1)))))
    (sRet (eK (.bool false)))
    sNil)
    (sSeq (sIf (eOr (eNot (eIsi PyData.isStr (eBin ixD (eV 2) (eK (.int 1))))) (eAnd (eBin neD (eBin ixD (eV 2) (eK (.int 1))) (eK (.str ""))) (eBin (isinD true) (eBin ixD (eV 2) (eK (.int 1))) (eV 1))))
    (sRet (eK (.bool false)))
    sNil)
    (sExpr (eMth mAppend (eV 1) (aCons (eBin ixD (eV 2) (eK (.int 0))) aNil)))))) (em := Datum.toD) (xs := ns) (j := none) (ex := true)
    (r := [some (.d (jT ns)), some (.o st.length), none]) (st := st ++ [.lst []]) (st1 := st ++ [.lst []])
    (I := fun pre r s => (∃ x, r = [some (.d (jT ns)), some (.o st.length), x]) ∧ s = st ++ [.lst ((namesOf pre).map Datum.toD)]) rfl (fun _ _ _ _ => rfl) ?_ ⟨⟨none, rfl⟩, rfl⟩
  · obtain ⟨r', s', h1, ⟨x, rfl⟩, rfl⟩ := run
    refine fnD_ret (s1 := st ++ [.lst ((namesOf ns).map Datum.toD)]) ?_ (by simp)
    show body_is_layout [some (.d (jT ns)), none, none] st = _
    unfold body_is_layout
    have e1 : eChain leD leD (eK (.int 1)) (eB lenD (aCons (eV 0) aNil)) (eK (.int 12)) [some (.d (jT ns)), none, none] st = .ok (.d (.bool true)) st := by
      unfold eChain
      have c1 : decide ((1 : Int) ≤ ((ns.map Datum.toD).length : Nat)) = true := by have := L.ne; simp; omega
      have c2 : decide ((((ns.map Datum.toD).length : Nat) : Int) ≤ 12) = true := by have := L.le; simp; omega
      simp only [eK_ev, bind_ok, eB_ev, aCons_ev, eV0, aNil_ev, lenD_t, ansD_s, leD_i, c1, c2]
    have e0 : eIsi PyData.isTuple (eV 0) [some (.d (jT ns)), none, none] st = .ok (.d (.bool true)) st := rfl
    rw [sSeq_ev, sIf_no ((eOr_f (eNot_ok e0)).trans (eNot_ok e1)), sNil_ev, seqK_nx]
    rw [sSeq_ev, sAsg_nm, eLstN_ev, aNil_ev]
    simp only [bind_ok, datas_nil, Option.bind_some, few_s, List.length_nil]
    rw [if_pos (by decide), ansN_s]
    simp only [outOf_ok, seqK_nx, List.set]
    rw [sSeq_ev, h1]
    rfl
  · rintro pre p post e r s ⟨⟨x, rfl⟩, rfl⟩
    have hp : p ∈ ns := by rw [e]; simp
    have hi : (st ++ [Ob.lst ((namesOf pre).map Datum.toD)])[st.length]? = some (.lst ((namesOf pre).map Datum.toD)) := by simp
    have np : p.1 ∉ namesOf pre := fun hx => by
      have := L.nd
      rw [e, show namesOf (pre ++ p :: post) = namesOf pre ++ p.1 :: namesOf post by simp [namesOf], List.nodup_append] at this
      exact this.2.2 p.1 hx p.1 (List.mem_cons_self ..) rfl
    refine ⟨[some (.d (jT ns)), some (.o st.length), some (.d (jD p))], rfl, [some (.d (jT ns)), some (.o st.length), some (.d (jD p))], st ++ [.lst ((namesOf (pre ++ [p])).map Datum.toD)], ?_, ⟨_, rfl⟩, rfl⟩
    have i0 : eBin ixD (eV 2) (eK (.int 0)) [some (.d (jT ns)), some (.o st.length), some (.d (jD p))] (st ++ [Ob.lst ((namesOf pre).map Datum.toD)]) = .ok (.d (jD p.1)) (st ++ [Ob.lst ((namesOf pre).map Datum.toD)]) := rfl
    have i1 : eBin ixD (eV 2) (eK (.int 1)) [some (.d (jT ns)), some (.o st.length), some (.d (jD p))] (st ++ [Ob.lst ((namesOf pre).map Datum.toD)]) = .ok (.d (jD p.2)) (st ++ [Ob.lst ((namesOf pre).map Datum.toD)]) := rfl
    have isin : ∀ (neg : Bool) (y : Str), isinD neg (.d (jD y)) (.o st.length) (st ++ [Ob.lst ((namesOf pre).map Datum.toD)]) = some (.bool (if neg = true then !memB y (namesOf pre) else memB y (namesOf pre))) := fun neg y => by
      have := isinL_t (st := st ++ [Ob.lst ((namesOf pre).map Datum.toD)]) neg y (namesOf pre)
      unfold isinD at this ⊢
      have hd : deref (st ++ [Ob.lst ((namesOf pre).map Datum.toD)]) (.o st.length) = some (jL (namesOf pre)) := by simp [deref]
      rw [hd]
      exact this
    have hne : ∀ S : Sto, neD (.d (jD p.2)) (.d (.str "")) S = some (.bool (!decide (p.2 = ("" : Str)))) := fun S => neD_t p.2 ("" : Str)
    have hlen : ((namesOf pre).map Datum.toD).length < 1000000 := by
      have := L.le
      rw [e] at this
      simp [namesOf] at this ⊢
      omega
    have tup : eIsi PyData.isTuple (eV 2) [some (.d (jT ns)), some (.o st.length), some (.d (jD p))] (st ++ [Ob.lst ((namesOf pre).map Datum.toD)]) = .ok (.d (.bool true)) (st ++ [Ob.lst ((namesOf pre).map Datum.toD)]) := rfl
    have len2 : eBin neD (eB lenD (aCons (eV 2) aNil)) (eK (.int 2)) [some (.d (jT ns)), some (.o st.length), some (.d (jD p))] (st ++ [Ob.lst ((namesOf pre).map Datum.toD)]) = .ok (.d (.bool false)) (st ++ [Ob.lst ((namesOf pre).map Datum.toD)]) := rfl
    have nmk : eCall sem_is_name (aCons (eBin ixD (eV 2) (eK (.int 0))) aNil) [some (.d (jT ns)), some (.o st.length), some (.d (jD p))] (st ++ [Ob.lst ((namesOf pre).map Datum.toD)]) = .ok (.d (.bool true)) (st ++ [Ob.lst ((namesOf pre).map Datum.toD)]) := by
      rw [eCall_ev, aCons_ev, i0]
      exact L.name_ok hp
    have nin : eBin (isinD false) (eBin ixD (eV 2) (eK (.int 0))) (eV 1) [some (.d (jT ns)), some (.o st.length), some (.d (jD p))] (st ++ [Ob.lst ((namesOf pre).map Datum.toD)]) = .ok (.d (.bool false)) (st ++ [Ob.lst ((namesOf pre).map Datum.toD)]) := by
      rw [eBin_ev, i0]
      simp only [bind_ok, eV1]
      rw [isin, memB_no np]
      rfl
    rw [sSeq_ev, sIf_no ((eOr_f (eNot_ok tup)).trans ((eOr_f len2).trans ((eOr_f (eNot_ok nmk)).trans nin))), sNil_ev, seqK_nx]
    have str : eIsi PyData.isStr (eBin ixD (eV 2) (eK (.int 1))) [some (.d (jT ns)), some (.o st.length), some (.d (jD p))] (st ++ [Ob.lst ((namesOf pre).map Datum.toD)]) = .ok (.d (.bool true)) (st ++ [Ob.lst ((namesOf pre).map Datum.toD)]) := rfl
    have up : eAnd (eBin neD (eBin ixD (eV 2) (eK (.int 1))) (eK (.str ""))) (eBin (isinD true) (eBin ixD (eV 2) (eK (.int 1))) (eV 1)) [some (.d (jT ns)), some (.o st.length), some (.d (jD p))] (st ++ [Ob.lst ((namesOf pre).map Datum.toD)]) = .ok (.d (.bool false)) (st ++ [Ob.lst ((namesOf pre).map Datum.toD)]) := by
      rw [eAnd_ev, eBin_ev, i1, bind_ok, eK_ev, bind_ok, hne]
      rcases L.up pre p post e with h | h
      · rw [decide_eq_true h]
        rfl
      · by_cases h0 : p.2 = ("" : Str)
        · rw [decide_eq_true h0]
          rfl
        · rw [decide_eq_false h0]
          simp only [ansD_s, asB_b, bind_ok, Bool.not_false, cond_true]
          rw [eBin_ev, i1]
          simp only [bind_ok, eV1]
          rw [isin, memB_yes h]
          rfl
    rw [sSeq_ev, sIf_no ((eOr_f (eNot_ok str)).trans up), sNil_ev, seqK_nx]
    rw [sExpr_ev, eMth_ev, eV1, bind_ok, lst_at hi]
    simp only [aCons_ev, i0, bind_ok, aNil_ev, hi, mAppend, if_pos hlen, outOf_ok]
    simp [namesOf]
theorem require_layout_ok {ns : Nodes} (L : Lay ns) : sem_require_layout [.d (jT ns)] st = .ok (.d .none) st := by
  refine fnD_none (r1 := [some (.d (jT ns))]) (s1 := st) ?_ List.take_length
  show body_require_layout [some (.d (jT ns))] st = _
  simp [body_require_layout, is_layout_ok L]
end DL
set_option maxHeartbeats 200000
/-! F layer, part 5: Python's order; states. -/
namespace DL
open PySem PySem.W PyProof.Rows
section
variable {α : Type} [DecidableEq α] [DatumOrd α]
theorem pyLe_trans (a b c : α) (h1 : pyLe a b = true) (h2 : pyLe b c = true) : pyLe a c = true := by
  rw [← dataLe_t] at h1 h2 ⊢
  exact (sortLe_total (listOrd itemOrd) false fun d : PyData => keyToks d).trans _ _ _ h1 h2
theorem pyLe_total (a b : α) : (pyLe a b || pyLe b a) = true := by
  rw [← dataLe_t, ← dataLe_t]
  have t := (sortLe_total (listOrd itemOrd) false fun d : PyData => keyToks d).total (Datum.toD a) (Datum.toD b)
  show (PySem.W.dataLe false id _ _ || PySem.W.dataLe false id _ _) = true
  rcases t with t | t
  · exact Bool.or_eq_true_iff.mpr (.inl t)
  · exact Bool.or_eq_true_iff.mpr (.inr t)
theorem pySort_pair (xs : List α) : (pySort xs).Pairwise fun a b => pyLe a b = true := List.pairwise_mergeSort (fun a b c => pyLe_trans a b c) (fun a b => by simpa using pyLe_total a b) xs
theorem pySort_perm (xs : List α) : (pySort xs).Perm xs := List.mergeSort_perm xs pyLe
theorem mem_pySort {xs : List α} {x : α} : x ∈ pySort xs ↔ x ∈ xs := (pySort_perm xs).mem_iff
/-- an order in which different things are not alike -/
class Tri (α : Type) [DecidableEq α] [DatumOrd α] : Prop where
  tri : ∀ a b : α, DatumOrd.lt a b = false → DatumOrd.lt b a = false → a = b
instance : Tri Str := ⟨fun a b h1 h2 => by
  have h1 : ¬ a.cps.toList < b.cps.toList := of_decide_eq_false h1
  have h2 : ¬ b.cps.toList < a.cps.toList := of_decide_eq_false h2
  exact str_of_cps (List.le_antisymm (List.not_lt.mp h2) (List.not_lt.mp h1))⟩
instance : Tri Int := ⟨fun a b h1 h2 => by
  have h1 : ¬ a < b := of_decide_eq_false h1
  have h2 : ¬ b < a := of_decide_eq_false h2
  omega⟩
instance {β : Type} [DecidableEq β] [DatumOrd β] [Tri α] [Tri β] : Tri (α × β) := ⟨fun p q h1 h2 => by
  have h1 : (if p.1 = q.1 then DatumOrd.lt p.2 q.2 else DatumOrd.lt p.1 q.1) = false := h1
  have h2 : (if q.1 = p.1 then DatumOrd.lt q.2 p.2 else DatumOrd.lt q.1 p.1) = false := h2
  by_cases e : p.1 = q.1
  · rw [if_pos e] at h1
    rw [if_pos e.symm] at h2
    exact Prod.ext e (Tri.tri _ _ h1 h2)
  · rw [if_neg e] at h1
    rw [if_neg (Ne.symm e)] at h2
    exact absurd (Tri.tri _ _ h1 h2) e⟩
/-- rising -/
def Rising (xs : List α) : Prop := xs.Pairwise fun a b => DatumOrd.lt a b = true
theorem pySort_rising [Tri α] {xs : List α} (h : xs.Nodup) : Rising (pySort xs) := by
  have hn : (pySort xs).Nodup := (pySort_perm xs).nodup_iff.mpr h
  have hp := pySort_pair xs
  have both := hp.and hn
  refine both.imp ?_
  rintro a b ⟨h1, h2⟩
  cases e : DatumOrd.lt a b with
  | true => rfl
  | false =>
    have h3 : DatumOrd.lt b a = false := by
      unfold pyLe at h1
      simpa using h1
    exact absurd (Tri.tri a b e h3) h2
theorem lt_irrefl (a : α) : DatumOrd.lt a a = false := by
  rw [← DatumOrd.lt_eq]
  exact lex_irrefl _
theorem Rising.nodup {xs : List α} (h : Rising xs) : xs.Nodup := h.imp fun {a b} z e => by
  rw [e, lt_irrefl] at z
  cases z
/-- two rising lists of the same things are the same -/
theorem Rising.ext [Tri α] {xs ys : List α} (h1 : Rising xs) (h2 : Rising ys) (h : ∀ x, x ∈ xs ↔ x ∈ ys) : xs = ys := by
  have perm : xs.Perm ys := (List.perm_ext_iff_of_nodup h1.nodup h2.nodup).mpr h
  refine perm.eq_of_pairwise (le := fun a b => DatumOrd.lt a b = true) ?_ h1 h2
  intro a b _ _ z1 z2
  have z : pyLe b a = false := by simp [pyLe, z1]
  have t := pyLe_total a b
  have z' : pyLe a b = false := by simp [pyLe, z2]
  rw [z, z'] at t
  cases t
end
end DL
set_option maxHeartbeats 200000
/-! F layer, part 6: nodes, buttons, states; what is heard. -/
namespace DL
open PySem PySem.W
variable {st : Sto}
theorem is_node_str (ns : Nodes) (x : Str) : sem_is_node [.d (jT ns), .d (jD x)] st = .ok (.d (.bool (memB x (namesOf ns)))) st := by
  refine fnD_ret (s1 := st) ?_ List.take_length
  show body_is_node [some (.d (jT ns)), some (.d (jD x))] st = _
  unfold body_is_node
  have e0 : eIsi PyData.isStr (eV 1) [some (.d (jT ns)), some (.d (jD x))] st = .ok (.d (.bool true)) st := rfl
  have e1 : eCall sem_names_of (aCons (eV 0) aNil) [some (.d (jT ns)), some (.d (jD x))] st = .ok (.d (jL (namesOf ns))) st := names_of_ok ns
  rw [sRet_ev, eAnd_t e0, eBin_ev, eV1, bind_ok, e1, bind_ok, isinL_t]
  rfl
theorem is_node_no (ns : Nodes) {v : PyData} (h : v.isStr = false) : sem_is_node [.d (jT ns), .d v] st = .ok (.d (.bool false)) st := by
  refine fnD_ret (s1 := st) ?_ List.take_length
  show body_is_node [some (.d (jT ns)), some (.d v)] st = _
  unfold body_is_node
  have e0 : eIsi PyData.isStr (eV 1) [some (.d (jT ns)), some (.d v)] st = .ok (.d (.bool false)) st := by
    show (Res.ok (Dv.d (PyData.bool v.isStr)) st : Res Dv) = _
    rw [h]
  rw [sRet_ev, eAnd_f e0]
  rfl
theorem branch_of_ok {ns : Nodes} (L : Lay ns) (x : Str) : sem_branch_of [.d (jT ns), .d (jD x)] st = .ok (.d (jL ((tracksOf ns).filter fun t => memB x (wayOf ns t)))) st := by
  refine fnD_ret (s1 := st) ?_ List.take_length
  show body_branch_of [some (.d (jT ns)), some (.d (jD x)), none] st = _
  unfold body_branch_of
  rw [sRet_ev, eLc_selT (p := fun t : Str => memB x (wayOf ns t)) (xs := tracksOf ns) (j := none) (ex := true)]
  · rfl
  · have ez : eFz (eCall sem_tracks_of (aCons (eV 0) aNil)) [some (.d (jT ns)), some (.d (jD x)), none] st = .ok (.d (jL (tracksOf ns))) st := tracks_fz ns rfl
    rw [iOf_ev, ez]
    rfl
  · rfl
  · intro t ht
    refine lcT_ok rfl ?_ fun _ => rfl
    have hm : t ∈ namesOf ns := (List.mem_filter.mp (mem_pySort.mp ht)).1
    have e1 : eCall sem_way_of (aCons (eV 0) (aCons (eV 2) aNil)) [some (.d (jT ns)), some (.d (jD x)), some (.d (jD t))] st = .ok (.d (jL (wayOf ns t))) st := way_of_ok L hm
    show eBin (isinD false) (eV 1) _ [some (.d (jT ns)), some (.d (jD x)), some (.d (jD t))] st = _
    rw [eBin_ev, eV1, bind_ok, e1, bind_ok, isinL_t]
    rfl
theorem tracks_ok {ns : Nodes} (L : Lay ns) : sem_tracks [.d (jT ns)] st = .ok (.o st.length) (st ++ [.lst ((tracksOf ns).map Datum.toD)]) := by
  refine fnD_new (i := st.length) (s1 := st ++ [.lst ((tracksOf ns).map Datum.toD)]) ?_ (Nat.le_refl _) (by simp) (by simp)
  show body_tracks [some (.d (jT ns))] st = _
  simp [body_tracks, require_layout_ok L, tracks_of_ok]
theorem branch_ok {ns : Nodes} (L : Lay ns) {x : Str} (hx : x ∈ namesOf ns) : sem_branch [.d (jT ns), .d (jD x)] st = .ok (.d (jL ((tracksOf ns).filter fun t => memB x (wayOf ns t)))) st := by
  refine fnD_ret (s1 := st) ?_ List.take_length
  show body_branch [some (.d (jT ns)), some (.d (jD x))] st = _
  simp [body_branch, require_layout_ok L, is_node_str, memB_yes hx, branch_of_ok L]
theorem branch_no {ns : Nodes} (L : Lay ns) {v : PyData} (h : sem_is_node [.d (jT ns), .d v] st = .ok (.d (.bool false)) st) : sem_branch [.d (jT ns), .d v] st = .exc "UnknownName" st := by
  refine fnD_exc (r1 := [some (.d (jT ns)), some (.d v)]) (s1 := st) ?_ List.take_length
  show body_branch [some (.d (jT ns)), some (.d v)] st = _
  simp [body_branch, require_layout_ok L, h]
/-! ### states -/
def kinds : List Str := ["mute", "solo"]
structure Sta (ns : Nodes) (lit : Lights) : Prop where
  kd : ∀ b ∈ lit, b.1 ∈ kinds
  nm : ∀ b ∈ lit, b.2 ∈ namesOf ns
  up : Rising lit
theorem is_button_pair (ns : Nodes) (b : Str × Str) : sem_is_button [.d (jT ns), .d (jD b)] st = .ok (.d (.bool (memB b.1 kinds && memB b.2 (namesOf ns)))) st := by
  refine fnD_ret (s1 := st) ?_ List.take_length
  show body_is_button [some (.d (jT ns)), some (.d (jD b))] st = _
  unfold body_is_button
  have e0 : eIsi PyData.isTuple (eV 1) [some (.d (jT ns)), some (.d (jD b))] st = .ok (.d (.bool true)) st := rfl
  have e1 : eBin neD (eB lenD (aCons (eV 1) aNil)) (eK (.int 2)) [some (.d (jT ns)), some (.d (jD b))] st = .ok (.d (.bool false)) st := rfl
  have e2 : eIsi PyData.isStr (eBin ixD (eV 1) (eK (.int 0))) [some (.d (jT ns)), some (.d (jD b))] st = .ok (.d (.bool true)) st := rfl
  have i0 : eBin ixD (eV 1) (eK (.int 0)) [some (.d (jT ns)), some (.d (jD b))] st = .ok (.d (jD b.1)) st := rfl
  have i1 : eBin ixD (eV 1) (eK (.int 1)) [some (.d (jT ns)), some (.d (jD b))] st = .ok (.d (jD b.2)) st := rfl
  have hk : ∀ S : Sto, isinD true (.d (jD b.1)) (.d c_KINDS) S = some (.bool (!memB b.1 kinds)) := fun S => isinT_t true b.1 kinds
  have e3 : eBin (isinD true) (eBin ixD (eV 1) (eK (.int 0))) (eK c_KINDS) [some (.d (jT ns)), some (.d (jD b))] st = .ok (.d (.bool (!memB b.1 kinds))) st := by
    rw [eBin_ev, i0, bind_ok, eK_ev, bind_ok, hk]
    rfl
  rw [sSeq_ev]
  by_cases h : b.1 ∈ kinds
  · rw [memB_yes h] at e3 ⊢
    rw [sIf_no ((eOr_f (eNot_ok e0)).trans ((eOr_f e1).trans ((eOr_f (eNot_ok e2)).trans e3))), sNil_ev, seqK_nx, sRet_ev, eCall_ev, aCons_ev]
    simp only [eV0, bind_ok, aCons_ev, i1, aNil_ev, is_node_str, outOf_ok, Bool.true_and]
  · rw [memB_no h] at e3 ⊢
    rw [sIf_yes ((eOr_f (eNot_ok e0)).trans ((eOr_f e1).trans ((eOr_f (eNot_ok e2)).trans e3)))]
    rfl
theorem cut_tail (ds : List PyData) : cutD ds (some 1) none = ds.tail := by
  unfold cutD
  have e : HT.sIx ds.length 0 (some 1) = min 1 ds.length := HT.sIx_nat ds.length 0 1
  rw [e, HT.sIx_none]
  cases ds with
  | nil => rfl
  | cons d ds =>
    simp
theorem pairs_t {α β : Type} [DecidableEq α] [Datum α] [DecidableEq β] [Datum β] : ∀ (xs : List α) (ys : List β), pairs (xs.map Datum.toD) (ys.map Datum.toD) = (xs.zip ys).map Datum.toD
  | [], _ => by simp [pairs]
  | _ :: _, [] => by simp [pairs]
  | x :: xs, y :: ys => by
    have := pairs_t xs ys
    unfold pairs at this ⊢
    simp only [List.map_cons, List.zipWith_cons_cons, List.zip_cons_cons, this]
    rfl
theorem is_rising_ok {α : Type} [DecidableEq α] [DatumOrd α] (xs : List α) (hn : ∀ (a : α) (i : Int), jD a ≠ .int i) (hd : Datum.depth α ≤ 60 := by decide) : sem_is_rising [.d (jT xs)] st = .ok (.d (.bool ((xs.zip xs.tail).all fun p => DatumOrd.lt p.1 p.2))) st := by
  refine fnD_ret (s1 := st) ?_ List.take_length
  show body_is_rising [some (.d (jT xs)), none, none] st = _
  unfold body_is_rising
  have hs : eSl (eV 0) (oSome (eK (.int 1))) oNone [some (.d (jT xs)), none, none] st = .ok (.d (jT xs.tail)) st := by
    show ansD st (some (PyData.tuple (cutD (xs.map Datum.toD) (some 1) none))) = _
    rw [cut_tail, ← List.map_tail]
    rfl
  have e : eLc (iZp (aCons (eV 0) (aCons (eSl (eV 0) (oSome (eK (.int 1))) oNone) aNil))) (.tp [1, 2]) eYes (eBin ltD (eV 1) (eV 2)) [1, 2] [some (.d (jT xs)), none, none] st = .ok (.d (.list (((xs.zip xs.tail).map fun p => DatumOrd.lt p.1 p.2).map PyData.bool))) st := by
    rw [eLc_map (em := Datum.toD) (g := fun p : α × α => PyData.bool (DatumOrd.lt p.1 p.2)) (xs := xs.zip xs.tail) (j := none) (ex := false)]
    · simp
    · unfold iZp
      rw [aCons_ev, eV0, bind_ok, aCons_ev, hs]
      simp only [bind_ok, aNil_ev]
      show Res.ok (pairs (xs.map Datum.toD) (xs.tail.map Datum.toD), none, false) st = _
      rw [pairs_t]
    · rfl
    · intro p _
      refine lcT_all rfl ?_
      show eBin ltD (eV 1) (eV 2) [some (.d (jT xs)), some (.d (jD p.1)), some (.d (jD p.2))] st = _
      rw [eBin_ev, eV1, bind_ok, eV2, bind_ok, ltD_t p.1 p.2 (hn p.1) hd]
      rfl
  rw [sRet_ev, eB_ev, aCons_ev, e]
  simp only [bind_ok, aNil_ev]
  rw [allD_t]
  simp [List.all_map, Function.comp_def]
theorem Rising.adj {α : Type} [DecidableEq α] [DatumOrd α] : ∀ {xs : List α}, Rising xs → ((xs.zip xs.tail).all fun p => DatumOrd.lt p.1 p.2) = true
  | [], _ => rfl
  | [_], _ => rfl
  | a :: b :: xs, h => by
    have h1 := List.pairwise_cons.mp h
    have h2 := Rising.adj h1.2
    simp only [List.tail_cons, List.zip_cons_cons, List.all_cons] at h2 ⊢
    rw [h1.1 b (List.mem_cons_self ..), Bool.true_and]
    exact h2
theorem require_state_ok {ns : Nodes} {lit : Lights} (S : Sta ns lit) : sem_require_state [.d (jT ns), .d (jT lit)] st = .ok (.d .none) st := by
  have e : sem_is_state_value [.d (jT ns), .d (jT lit)] st = .ok (.d (.bool true)) st := by
    refine fnD_ret (s1 := st) ?_ List.take_length
    show body_is_state_value [some (.d (jT ns)), some (.d (jT lit)), none] st = _
    unfold body_is_state_value
    have e0 : eIsi PyData.isTuple (eV 1) [some (.d (jT ns)), some (.d (jT lit)), none] st = .ok (.d (.bool true)) st := rfl
    have e1 : eLc (iOf (eV 1)) (.nm 2) eYes (eCall sem_is_button (aCons (eV 0) (aCons (eV 2) aNil))) [2] [some (.d (jT ns)), some (.d (jT lit)), none] st = .ok (.d (.list ((lit.map fun _ => true).map PyData.bool))) st := by
      rw [eLc_map (em := Datum.toD) (g := fun _ : Str × Str => PyData.bool true) (xs := lit) (j := none) (ex := true)]
      · simp
      · rfl
      · rfl
      · intro b hb
        refine lcT_all rfl ?_
        show sem_is_button [.d (jT ns), .d (jD b)] st = _
        rw [is_button_pair, memB_yes (S.kd b hb), memB_yes (S.nm b hb)]
        rfl
    have e2 : eB (anyD true) (aCons (eLc (iOf (eV 1)) (.nm 2) eYes (eCall sem_is_button (aCons (eV 0) (aCons (eV 2) aNil))) [2]) aNil) [some (.d (jT ns)), some (.d (jT lit)), none] st = .ok (.d (.bool true)) st := by
      rw [eB_ev, aCons_ev, e1]
      simp only [bind_ok, aNil_ev]
      rw [allD_t]
      simp
    have e3 : eCall sem_is_rising (aCons (eV 1) aNil) [some (.d (jT ns)), some (.d (jT lit)), none] st = .ok (.d (.bool true)) st := by
      show sem_is_rising [.d (jT lit)] st = _
      rw [is_rising_ok lit (fun a i e => by cases e), S.up.adj]
    rw [sSeq_ev, sIf_no ((eOr_f (eNot_ok e0)).trans (eNot_ok e2)), sNil_ev, seqK_nx, sRet_ev, e3]
    rfl
  refine fnD_none (r1 := [some (.d (jT ns)), some (.d (jT lit))]) (s1 := st) ?_ List.take_length
  show body_require_state [some (.d (jT ns)), some (.d (jT lit))] st = _
  simp [body_require_state, e]
end DL
set_option maxHeartbeats 200000
/-! F layer, part 7: what is heard, by the program. -/
namespace DL
open PySem PySem.W
variable {st : Sto}
def solosOf (lit : Lights) : List Str := (lit.filter fun b => decide (b.1 = ("solo" : Str))).map (·.2)
def mutedB (ns : Nodes) (lit : Lights) (t : Str) : Bool := (wayOf ns t).any fun x => memB (("mute" : Str), x) lit
def soloB (ns : Nodes) (lit : Lights) (t : Str) : Bool := decide (solosOf lit = []) || (wayOf ns t).any fun x => memB x (solosOf lit)
def reason (ns : Nodes) (lit : Lights) (t : Str) : Str := if mutedB ns lit t = true then "mute" else if soloB ns lit t = true then "heard" else "solo"
def heardIn (ns : Nodes) (lit : Lights) : List Str := (tracksOf ns).filter fun t => decide (reason ns lit t = ("heard" : Str))
theorem track_mem {ns : Nodes} {t : Str} (h : t ∈ tracksOf ns) : t ∈ namesOf ns := (List.mem_filter.mp (mem_pySort.mp h)).1
theorem reason_for_ok {ns : Nodes} (L : Lay ns) (lit : Lights) {t : Str} (ht : t ∈ namesOf ns) : sem_reason_for [.d (jT ns), .d (jT lit), .d (jD t)] st = .ok (.d (jD (reason ns lit t))) st := by
  refine fnD_ret (s1 := st) ?_ List.take_length
  show body_reason_for [some (.d (jT ns)), some (.d (jT lit)), some (.d (jD t)), none, none, none, none] st = _
  unfold body_reason_for
  have e0 : eCall sem_way_of (aCons (eV 0) (aCons (eV 2) aNil)) [some (.d (jT ns)), some (.d (jT lit)), some (.d (jD t)), none, none, none, none] st = .ok (.d (jL (wayOf ns t))) st := way_of_ok L ht
  rw [sSeq_ev, sAsg_nm, e0]
  simp only [outOf_ok, seqK_nx, List.set]
  have e1 : eB (anyD false) (aCons (eLc (iOf (eV 3)) (.nm 5) eYes (eBin (isinD false) (eTup (aCons (eK (.str "mute")) (aCons (eV 5) aNil))) (eV 1)) [5]) aNil) [some (.d (jT ns)), some (.d (jT lit)), some (.d (jD t)), some (.d (jL (wayOf ns t))), none, none, none] st = .ok (.d (.bool (mutedB ns lit t))) st := by
    rw [eB_ev, aCons_ev, eLc_mapT (em := Datum.toD) (g := fun x : Str => memB (("mute" : Str), x) lit) (xs := wayOf ns t) (j := none) (ex := true)]
    · simp only [bind_ok, aNil_ev]
      have := anyD_t (st := st) ((wayOf ns t).map fun x => memB (("mute" : Str), x) lit)
      show ansD st (anyD false [.d (jL _)] st) = _
      rw [show (jL ((wayOf ns t).map fun x => memB (("mute" : Str), x) lit)) = .list (((wayOf ns t).map fun x => memB (("mute" : Str), x) lit).map PyData.bool) from rfl, this]
      simp [mutedB, List.any_map, Function.comp_def]
    · rfl
    · rfl
    · intro x _
      refine lcT_all rfl ?_
      have h := isinT_t (st := st) false (("mute" : Str), x) lit
      show ansD st (isinD false (.d (jD (("mute" : Str), x))) (.d (jT lit)) st) = _
      rw [h]
      rfl
  rw [sSeq_ev]
  unfold reason
  by_cases hm : mutedB ns lit t = true
  · rw [hm] at e1
    rw [sIf_yes e1, if_pos hm]
    rfl
  · have hm' : mutedB ns lit t = false := by simpa using hm
    rw [hm'] at e1
    rw [sIf_no e1, if_neg hm, sNil_ev, seqK_nx, sSeq_ev, sAsg_nm, eLc_filT (em := Datum.toD) (p := fun b : Str × Str => decide (b.1 = ("solo" : Str))) (g := fun b : Str × Str => b.2) (xs := lit) (j := none) (ex := true)]
    · simp only [outOf_ok, seqK_nx, List.set]
      have e2 : eOr (eBin eqD (eV 4) (eLst aNil)) (eB (anyD false) (aCons (eLc (iOf (eV 3)) (.nm 5) eYes (eBin (isinD false) (eV 5) (eV 4)) [5]) aNil)) [some (.d (jT ns)), some (.d (jT lit)), some (.d (jD t)), some (.d (jL (wayOf ns t))), some (.d (jL (solosOf lit))), none, none] st = .ok (.d (.bool (soloB ns lit t))) st := by
        refine eOr_ok ?_ fun _ => ?_
        · have h := eqD_t (st := st) (solosOf lit) ([] : List Str)
          show ansD st (eqD (.d (jL (solosOf lit))) (.d (jL ([] : List Str))) st) = _
          rw [show eqD (.d (jL (solosOf lit))) (.d (jL ([] : List Str))) st = some (.bool (decide (solosOf lit = []))) from h]
          rfl
        · rw [eB_ev, aCons_ev, eLc_mapT (em := Datum.toD) (g := fun x : Str => memB x (solosOf lit)) (xs := wayOf ns t) (j := none) (ex := true)]
          · simp only [bind_ok, aNil_ev]
            have := anyD_t (st := st) ((wayOf ns t).map fun x => memB x (solosOf lit))
            rw [show (jL ((wayOf ns t).map fun x => memB x (solosOf lit))) = .list (((wayOf ns t).map fun x => memB x (solosOf lit)).map PyData.bool) from rfl, this]
            simp [List.any_map, Function.comp_def]
          · rfl
          · rfl
          · intro x _
            refine lcT_all rfl ?_
            have h := isinL_t (st := st) false x (solosOf lit)
            show ansD st (isinD false (.d (jD x)) (.d (jL (solosOf lit))) st) = _
            rw [h]
            rfl
      show outOf _ (eIf _ _ _ _ _) _ = _
      rw [eIf_ev]
      rw [show (jL ((lit.filter fun b => decide (b.1 = ("solo" : Str))).map fun b => b.2)) = jL (solosOf lit) from rfl, e2]
      simp only [asB_b, bind_ok]
      cases soloB ns lit t <;> rfl
    · rfl
    · rfl
    · intro b _
      refine lcT_ok rfl ?_ fun _ => rfl
      have h := eqD_t (st := st) b.1 ("solo" : Str)
      show ansD st (eqD (.d (jD b.1)) (.d (jD ("solo" : Str))) st) = _
      rw [h]
      rfl
theorem heard_in_ok {ns : Nodes} (L : Lay ns) (lit : Lights) : sem_heard_in [.d (jT ns), .d (jT lit)] st = .ok (.d (jT (heardIn ns lit))) st := by
  refine fnD_ret (s1 := st) ?_ List.take_length
  show body_heard_in [some (.d (jT ns)), some (.d (jT lit)), none] st = _
  unfold body_heard_in
  have ez : eFz (eCall sem_tracks_of (aCons (eV 0) aNil)) [some (.d (jT ns)), some (.d (jT lit)), none] st = .ok (.d (jL (tracksOf ns))) st := tracks_fz ns rfl
  rw [sRet_ev, eB_ev, aCons_ev, eLc_selT (p := fun t : Str => decide (reason ns lit t = ("heard" : Str))) (xs := tracksOf ns) (j := none) (ex := true)]
  · rfl
  · rw [iOf_ev, ez]
    rfl
  · rfl
  · intro t ht
    refine lcT_ok rfl ?_ fun _ => rfl
    have e1 : eCall sem_reason_for (aCons (eV 0) (aCons (eV 1) (aCons (eV 2) aNil))) [some (.d (jT ns)), some (.d (jT lit)), some (.d (jD t))] st = .ok (.d (jD (reason ns lit t))) st := reason_for_ok L lit (track_mem ht)
    show eBin eqD _ (eK (.str "heard")) [some (.d (jT ns)), some (.d (jT lit)), some (.d (jD t))] st = _
    rw [eBin_ev, e1, bind_ok, eK_ev, bind_ok, show eqD (.d (jD (reason ns lit t))) (.d (.str "heard")) st = _ from eqD_t (reason ns lit t) ("heard" : Str)]
    rfl
theorem heard_ok {ns : Nodes} (L : Lay ns) {lit : Lights} (S : Sta ns lit) : sem_heard [.d (jT ns), .d (jT lit)] st = .ok (.d (jT (heardIn ns lit))) st := by
  refine fnD_ret (s1 := st) ?_ List.take_length
  show body_heard [some (.d (jT ns)), some (.d (jT lit))] st = _
  simp [body_heard, require_layout_ok L, require_state_ok S, heard_in_ok L]
theorem why_ok {ns : Nodes} (L : Lay ns) {lit : Lights} (S : Sta ns lit) {t : Str} (ht : t ∈ tracksOf ns) : sem_why [.d (jT ns), .d (jT lit), .d (jD t)] st = .ok (.d (jD (reason ns lit t))) st := by
  refine fnD_ret (s1 := st) ?_ List.take_length
  show body_why [some (.d (jT ns)), some (.d (jT lit)), some (.d (jD t))] st = _
  have ez : eFz (eCall sem_tracks_of (aCons (eV 0) aNil)) [some (.d (jT ns)), some (.d (jT lit)), some (.d (jD t))] st = .ok (.d (jL (tracksOf ns))) st := tracks_fz ns rfl
  have e0 : eIsi PyData.isStr (eV 2) [some (.d (jT ns)), some (.d (jT lit)), some (.d (jD t))] st = .ok (.d (.bool true)) st := rfl
  have e1 : eBin (isinD true) (eV 2) (eFz (eCall sem_tracks_of (aCons (eV 0) aNil))) [some (.d (jT ns)), some (.d (jT lit)), some (.d (jD t))] st = .ok (.d (.bool false)) st := by
    rw [eBin_ev, eV2, bind_ok, ez, bind_ok, isinL_t, memB_yes ht]
    rfl
  have e2 : sem_require_state [.d (jT ns), .d (jT lit)] st = .ok (.d .none) st := require_state_ok S
  have h1 : sExpr (eCall sem_require_layout (aCons (eV 0) aNil)) [some (.d (jT ns)), some (.d (jT lit)), some (.d (jD t))] st = .nx [some (.d (jT ns)), some (.d (jT lit)), some (.d (jD t))] st := by simp [require_layout_ok L]
  have h2 : sExpr (eCall sem_require_state (aCons (eV 0) (aCons (eV 1) aNil))) [some (.d (jT ns)), some (.d (jT lit)), some (.d (jD t))] st = .nx [some (.d (jT ns)), some (.d (jT lit)), some (.d (jD t))] st := by simp [e2]
  unfold body_why
  rw [sSeq_ev, h1, seqK_nx, sSeq_ev, h2, seqK_nx, sSeq_ev, sIf_no ((eOr_f (eNot_ok e0)).trans e1), sNil_ev, seqK_nx]
  simp [reason_for_ok L lit (track_mem ht)]
/-- no such track -/
theorem why_no {ns : Nodes} (L : Lay ns) {lit : Lights} (S : Sta ns lit) {v : PyData} (hv : v.isStr = false ∨ ∃ x, v = jD x ∧ x ∉ tracksOf ns) : sem_why [.d (jT ns), .d (jT lit), .d v] st = .exc "UnknownName" st := by
  refine fnD_exc (r1 := [some (.d (jT ns)), some (.d (jT lit)), some (.d v)]) (s1 := st) ?_ List.take_length
  show body_why [some (.d (jT ns)), some (.d (jT lit)), some (.d v)] st = _
  have ez : eFz (eCall sem_tracks_of (aCons (eV 0) aNil)) [some (.d (jT ns)), some (.d (jT lit)), some (.d v)] st = .ok (.d (jL (tracksOf ns))) st := tracks_fz ns rfl
  have h1 : sExpr (eCall sem_require_layout (aCons (eV 0) aNil)) [some (.d (jT ns)), some (.d (jT lit)), some (.d v)] st = .nx [some (.d (jT ns)), some (.d (jT lit)), some (.d v)] st := by simp [require_layout_ok L]
  have e2 : sem_require_state [.d (jT ns), .d (jT lit)] st = .ok (.d .none) st := require_state_ok S
  have h2 : sExpr (eCall sem_require_state (aCons (eV 0) (aCons (eV 1) aNil))) [some (.d (jT ns)), some (.d (jT lit)), some (.d v)] st = .nx [some (.d (jT ns)), some (.d (jT lit)), some (.d v)] st := by simp [e2]
  have cond : eOr (eNot (eIsi PyData.isStr (eV 2))) (eBin (isinD true) (eV 2) (eFz (eCall sem_tracks_of (aCons (eV 0) aNil)))) [some (.d (jT ns)), some (.d (jT lit)), some (.d v)] st = .ok (.d (.bool true)) st := by
    rcases hv with hv | ⟨x, rfl, hx⟩
    · have e0 : eIsi PyData.isStr (eV 2) [some (.d (jT ns)), some (.d (jT lit)), some (.d v)] st = .ok (.d (.bool false)) st := by
        show (Res.ok (Dv.d (PyData.bool v.isStr)) st : Res Dv) = _
        rw [hv]
      exact eOr_t (eNot_ok e0)
    · have e0 : eIsi PyData.isStr (eV 2) [some (.d (jT ns)), some (.d (jT lit)), some (.d (jD x))] st = .ok (.d (.bool true)) st := rfl
      rw [eOr_f (eNot_ok e0), eBin_ev, eV2, bind_ok, ez, bind_ok, isinL_t, memB_no hx]
      rfl
  unfold body_why
  rw [sSeq_ev, h1, seqK_nx, sSeq_ev, h2, seqK_nx, sSeq_ev, sIf_yes cond]
  rfl
end DL
set_option maxHeartbeats 200000
/-! F layer, part 8: what the laws work out themselves. -/
namespace DL
open PySem PySem.W
variable {st : Sto}
theorem law_way_ok {ns : Nodes} (L : Lay ns) {x : Str} (hx : x ∈ namesOf ns) : sem__law_way [.d (jT ns), .d (jD x)] st = .ok (.d (jL (wayOf ns x))) st := way_of_ok L hx
theorem law_ends_ok (ns : Nodes) : sem__law_ends [.d (jT ns)] st = .ok (.d (jL (tracksOf ns))) st := by
  refine fnD_ret (s1 := st) ?_ List.take_length
  show body__law_ends [some (.d (jT ns)), none, none, none] st = _
  unfold body__law_ends
  rw [sSeq_ev, sAsg_nm, eLc_mapT (em := Datum.toD) (g := fun x : Str × Str => x.2) (xs := ns) rfl rfl fun x _ => lcT_all rfl rfl]
  show outOf _ (eB _ _ _ _) _ = _
  rw [eB_ev, aCons_ev, eLc_filT (em := Datum.toD) (p := fun x : Str × Str => !memB x.1 (ns.map (·.2))) (g := fun x : Str × Str => x.1) (xs := ns) (j := none) (ex := true) rfl rfl]
  · simp only [bind_ok, aNil_ev, fz1]
    rw [sort_str]
    have e : (ns.filter fun x => !memB x.1 (ns.map (·.2))).map (·.1) = (namesOf ns).filter fun x => !memB x (ns.map (·.2)) := by
      unfold namesOf
      rw [List.filter_map]
      rfl
    rw [e]
    rfl
  · intro x _
    refine lcT_ok rfl ?_ fun _ => rfl
    show ansD st (isinD true (.d (jD x.1)) (.d (jL (ns.map (·.2)))) st) = _
    rw [isinL_t]
    rfl
def allButtons (ns : Nodes) : Lights := pySort ((namesOf ns).map (fun x => (("mute" : Str), x)) ++ (namesOf ns).map fun x => (("solo" : Str), x))
theorem law_all_buttons_ok {ns : Nodes} (L : Lay ns) : sem__law_all_buttons [.d (jT ns)] st = .ok (.d (jL (allButtons ns))) st := by
  refine fnD_ret (s1 := st) ?_ List.take_length
  show body__law_all_buttons [some (.d (jT ns)), none, none] st = _
  unfold body__law_all_buttons
  have hl := L.le
  rw [sRet_ev, eB_ev, aCons_ev, eBin_ev, eLc_mapT (em := Datum.toD) (g := fun x : Str × Str => (("mute" : Str), x.1)) (xs := ns) rfl rfl (fun x _ => lcT_all rfl rfl), bind_ok, eLc_mapT (em := Datum.toD) (g := fun x : Str × Str => (("solo" : Str), x.1)) (xs := ns) rfl rfl (fun x _ => lcT_all rfl rfl), bind_ok, addD_l, if_pos (by simp; omega), ansD_s]
  simp only [bind_ok, aNil_ev, fz1]
  rw [← List.map_append, sort_pair]
  have e : ((ns.map fun x => (("mute" : Str), x.1)) ++ ns.map fun x => (("solo" : Str), x.1)) = (namesOf ns).map (fun x => (("mute" : Str), x)) ++ (namesOf ns).map fun x => (("solo" : Str), x) := by simp [namesOf, Function.comp_def]
  rw [e]
  rfl
theorem mem_buttons {ns : Nodes} {b : Str × Str} : b ∈ allButtons ns ↔ b.1 ∈ kinds ∧ b.2 ∈ namesOf ns := by
  unfold allButtons
  rw [mem_pySort, List.mem_append, List.mem_map, List.mem_map]
  constructor
  · rintro (⟨x, hx, rfl⟩ | ⟨x, hx, rfl⟩)
    · exact ⟨by simp [kinds], hx⟩
    · exact ⟨by simp [kinds], hx⟩
  · rintro ⟨h1, h2⟩
    obtain ⟨k, x⟩ := b
    simp only [kinds, List.mem_cons, List.not_mem_nil, or_false] at h1
    rcases h1 with h | h
    · exact .inl ⟨x, h2, by rw [h]⟩
    · exact .inr ⟨x, h2, by rw [h]⟩
theorem buttons_rising {ns : Nodes} (L : Lay ns) : Rising (allButtons ns) := by
  refine pySort_rising ?_
  rw [List.nodup_append]
  have hnd := L.nd
  refine ⟨?_, ?_, ?_⟩
  · exact List.Pairwise.map _ (fun a b h e => h (Prod.mk.inj e).2) hnd
  · exact List.Pairwise.map _ (fun a b h e => h (Prod.mk.inj e).2) hnd
  · intro a ha b hb e
    obtain ⟨x, _, rfl⟩ := List.mem_map.mp ha
    obtain ⟨y, _, rfl⟩ := List.mem_map.mp hb
    have := (Prod.mk.inj e).1
    exact absurd this (by decide)
theorem sub_state {ns : Nodes} (L : Lay ns) {lit : Lights} (h : lit.Sublist (allButtons ns)) : Sta ns lit :=
  ⟨fun b hb => (mem_buttons.mp (h.subset hb)).1, fun b hb => (mem_buttons.mp (h.subset hb)).2, (buttons_rising L).sublist h⟩
theorem filter_any {α : Type} (p : α → Bool) (xs : List α) : (!decide (xs.filter p = [])) = xs.any p := by
  induction xs with
  | nil => rfl
  | cons x xs ih =>
    cases h : p x
    · simp only [List.filter_cons, h, Bool.false_eq_true, if_false, List.any_cons, Bool.false_or]
      exact ih
    · simp [List.filter_cons, h]
theorem nempty_str {xs : List Str} : neD (.d (jL xs)) (.d (.list [])) st = some (.bool (!decide (xs = []))) := neD_t xs ([] : List Str)
def soundsOf (ns : Nodes) (lit : Lights) : List Str := (tracksOf ns).filter fun t => !mutedB ns lit t && soloB ns lit t
theorem sounds_heard (ns : Nodes) (lit : Lights) : soundsOf ns lit = heardIn ns lit := by
  unfold soundsOf heardIn
  refine List.filter_congr fun t _ => ?_
  unfold reason
  cases mutedB ns lit t
  · cases soloB ns lit t
    · rfl
    · rfl
  · rfl
theorem law_sounds_ok {ns : Nodes} (L : Lay ns) (lit : Lights) : sem__law_sounds [.d (jT ns), .d (jT lit)] st = .ok (.d (jT (soundsOf ns lit))) st := by
  let sol := solosOf lit
  have run := sFor_run (fi := iOf (eCall sem__law_ends (aCons (eV 0) aNil))) (tg := .nm 4) (F := (sSeq (sAsg (eCall sem__law_way (aCons (eV 0) (aCons (eV 4) aNil))) (.nm 5))
    (sSeq (sAsg (eBin neD (eLc (iOf (eV 5)) (.nm 8) (eBin (isinD false) (eTup (aCons (eK (.str "mute")) (aCons (eV 8) aNil))) (eV 1)) (eV 8) [8]) (eLst aNil)) (.nm 6))
    (sIf (eAnd (eNot (eV 6)) (eOr (eBin eqD (eV 3) (eLst aNil)) (eBin neD (eLc (iOf (eV 5)) (.nm 8) (eBin (isinD false) (eV 8) (eV 3)) (eV 8) [8]) (eLst aNil))))
    (sExpr (eMth mAppend (eV 2) (aCons (eV 4) aNil)))
    sNil)))) (em := Datum.toD) (xs := tracksOf ns) (j := none) (ex := true)
    (r := [some (.d (jT ns)), some (.d (jT lit)), some (.o st.length), some (.d (jL (solosOf lit))), none, none, none, none, none]) (st := st ++ [.lst []]) (st1 := st ++ [.lst []])
    (I := fun pre r s => (∃ x y z, r = [some (.d (jT ns)), some (.d (jT lit)), some (.o st.length), some (.d (jL (solosOf lit))), x, y, z, none, none]) ∧ s = st ++ [.lst ((pre.filter fun t => !mutedB ns lit t && soloB ns lit t).map Datum.toD)]) ?hi (fun _ _ _ _ => rfl) ?_ ⟨⟨none, none, none, rfl⟩, rfl⟩
  case hi =>
    have e : eCall sem__law_ends (aCons (eV 0) aNil) [some (.d (jT ns)), some (.d (jT lit)), some (.o st.length), some (.d (jL (solosOf lit))), none, none, none, none, none] (st ++ [.lst []]) = .ok (.d (jL (tracksOf ns))) (st ++ [.lst []]) := law_ends_ok ns
    rw [iOf_ev, e]
    rfl
  · obtain ⟨r', s', h1, ⟨x, y, z, rfl⟩, rfl⟩ := run
    refine fnD_ret (s1 := st ++ [.lst ((soundsOf ns lit).map Datum.toD)]) ?_ (by simp)
    show body__law_sounds [some (.d (jT ns)), some (.d (jT lit)), none, none, none, none, none, none, none] st = _
    unfold body__law_sounds
    rw [sSeq_ev, sAsg_nm, eLstN_ev, aNil_ev]
    simp only [bind_ok, datas_nil, Option.bind_some, few_s, List.length_nil]
    rw [if_pos (by decide), ansN_s]
    simp only [outOf_ok, seqK_nx, List.set]
    rw [sSeq_ev, sAsg_nm, eLc_filT (em := Datum.toD) (p := fun b : Str × Str => decide (b.1 = ("solo" : Str))) (g := fun b : Str × Str => b.2) (xs := lit) (j := none) (ex := true) rfl rfl]
    · simp only [outOf_ok, seqK_nx, List.set]
      rw [show jL ((lit.filter fun b => decide (b.1 = ("solo" : Str))).map fun b => b.2) = jL (solosOf lit) from rfl, sSeq_ev, h1, seqK_nx]
      have hi : (st ++ [Ob.lst ((soundsOf ns lit).map Datum.toD)])[st.length]? = some (.lst ((soundsOf ns lit).map Datum.toD)) := by simp
      show outOf _ (ansD _ ((listOf (st ++ [Ob.lst ((soundsOf ns lit).map Datum.toD)]) (.o st.length)).map PyData.tuple)) _ = _
      rw [list_o hi]
      rfl
    · intro b _
      refine lcT_ok rfl ?_ fun _ => rfl
      have h := eqD_t (st := st ++ [.lst []]) b.1 ("solo" : Str)
      show ansD (st ++ [.lst []]) (eqD (.d (jD b.1)) (.d (jD ("solo" : Str))) (st ++ [.lst []])) = _
      rw [h]
      rfl
  · rintro pre t post e r s ⟨⟨x, y, z, rfl⟩, rfl⟩
    generalize hS : st ++ [Ob.lst ((pre.filter fun t => !mutedB ns lit t && soloB ns lit t).map Datum.toD)] = S
    have hi : S[st.length]? = some (.lst ((pre.filter fun t => !mutedB ns lit t && soloB ns lit t).map Datum.toD)) := by rw [← hS]; simp
    have ht : t ∈ namesOf ns := track_mem (by rw [e]; simp)
    refine ⟨[some (.d (jT ns)), some (.d (jT lit)), some (.o st.length), some (.d (jL (solosOf lit))), some (.d (jD t)), y, z, none, none], rfl, [some (.d (jT ns)), some (.d (jT lit)), some (.o st.length), some (.d (jL (solosOf lit))), some (.d (jD t)), some (.d (jL (wayOf ns t))), some (.d (.bool (mutedB ns lit t))), none, none], st ++ [.lst (((pre ++ [t]).filter fun t => !mutedB ns lit t && soloB ns lit t).map Datum.toD)], ?_, ⟨_, _, _, rfl⟩, rfl⟩
    have e0 : eCall sem__law_way (aCons (eV 0) (aCons (eV 4) aNil)) [some (.d (jT ns)), some (.d (jT lit)), some (.o st.length), some (.d (jL (solosOf lit))), some (.d (jD t)), y, z, none, none] S = .ok (.d (jL (wayOf ns t))) S := law_way_ok L ht
    rw [sSeq_ev, sAsg_nm, e0]
    simp only [outOf_ok, seqK_nx, List.set]
    rw [sSeq_ev, sAsg_nm, eBin_ev, eLc_selT (p := fun x : Str => memB (("mute" : Str), x) lit) (xs := wayOf ns t) (j := none) (ex := true) rfl rfl]
    · rw [bind_ok, show eLst aNil [some (.d (jT ns)), some (.d (jT lit)), some (.o st.length), some (.d (jL (solosOf lit))), some (.d (jD t)), some (.d (jL (wayOf ns t))), z, none, none] S = .ok (.d (.list [])) S from rfl, bind_ok, nempty_str, filter_any]
      rw [show (wayOf ns t).any (fun x : Str => memB (("mute" : Str), x) lit) = mutedB ns lit t from rfl]
      simp only [ansD_s, outOf_ok, seqK_nx, List.set]
      have hc : eAnd (eNot (eV 6)) (eOr (eBin eqD (eV 3) (eLst aNil)) (eBin neD (eLc (iOf (eV 5)) (.nm 8) (eBin (isinD false) (eV 8) (eV 3)) (eV 8) [8]) (eLst aNil))) [some (.d (jT ns)), some (.d (jT lit)), some (.o st.length), some (.d (jL (solosOf lit))), some (.d (jD t)), some (.d (jL (wayOf ns t))), some (.d (.bool (mutedB ns lit t))), none, none] S = .ok (.d (.bool (!mutedB ns lit t && soloB ns lit t))) S := by
        refine eAnd_ok (eNot_ok rfl) fun _ => eOr_ok ?_ fun _ => ?_
        · have h := eqD_t (st := S) (solosOf lit) ([] : List Str)
          show ansD S (eqD (.d (jL (solosOf lit))) (.d (jL ([] : List Str))) S) = _
          rw [show eqD (.d (jL (solosOf lit))) (.d (jL ([] : List Str))) S = some (.bool (decide (solosOf lit = []))) from h]
          rfl
        · rw [eBin_ev, eLc_selT (p := fun x : Str => memB x (solosOf lit)) (xs := wayOf ns t) (j := none) (ex := true) rfl rfl]
          · rw [bind_ok, show eLst aNil [some (.d (jT ns)), some (.d (jT lit)), some (.o st.length), some (.d (jL (solosOf lit))), some (.d (jD t)), some (.d (jL (wayOf ns t))), some (.d (.bool (mutedB ns lit t))), none, none] S = .ok (.d (.list [])) S from rfl, bind_ok, nempty_str, filter_any]
            rfl
          · intro x _
            refine lcT_ok rfl ?_ fun _ => rfl
            have h := isinL_t (st := S) false x (solosOf lit)
            show ansD S (isinD false (.d (jD x)) (.d (jL (solosOf lit))) S) = _
            rw [h]
            rfl
      have hlen : ((pre.filter fun t => !mutedB ns lit t && soloB ns lit t).map Datum.toD).length < 1000000 := by
        have h1 : (tracksOf ns).length ≤ ns.length := by
          unfold tracksOf
          rw [(pySort_perm _).length_eq]
          refine Nat.le_trans (List.length_filter_le _ _) ?_
          simp [namesOf]
        have h2 := L.le
        have h3 := List.length_filter_le (fun t => !mutedB ns lit t && soloB ns lit t) pre
        rw [e] at h1
        simp at h1 ⊢
        omega
      cases hb : (!mutedB ns lit t && soloB ns lit t)
      · rw [hb] at hc
        rw [sIf_no hc, sNil_ev, ← hS]
        simp [List.filter_append, hb]
      · rw [hb] at hc
        rw [sIf_yes hc, sExpr_ev, eMth_ev, eV2, bind_ok, lst_at hi]
        simp only [aCons_ev, eV4, bind_ok, aNil_ev, hi, mAppend, if_pos hlen, outOf_ok]
        rw [← hS]
        simp [List.filter_append, hb]
    · intro x _
      refine lcT_ok rfl ?_ fun _ => rfl
      have h := isinT_t (st := S) false (("mute" : Str), x) lit
      show ansD S (isinD false (.d (jD (("mute" : Str), x))) (.d (jT lit)) S) = _
      rw [h]
      rfl
end DL
set_option maxHeartbeats 200000
/-! F layer, part 9: drawn layouts and states. -/
namespace DL
open PySem PySem.W
variable {st : Sto}
theorem law_reason_ok {ns : Nodes} (L : Lay ns) (lit : Lights) {t : Str} (ht : t ∈ tracksOf ns) : sem__law_reason [.d (jT ns), .d (jT lit), .d (jD t)] st = .ok (.d (jD (reason ns lit t))) st := by
  refine fnD_ret (s1 := st) ?_ List.take_length
  show body__law_reason [some (.d (jT ns)), some (.d (jT lit)), some (.d (jD t)), none, none] st = _
  unfold body__law_reason
  have e0 : eCall sem__law_way (aCons (eV 0) (aCons (eV 2) aNil)) [some (.d (jT ns)), some (.d (jT lit)), some (.d (jD t)), none, none] st = .ok (.d (jL (wayOf ns t))) st := law_way_ok L (track_mem ht)
  rw [sSeq_ev, sAsg_nm, e0]
  simp only [outOf_ok, seqK_nx, List.set]
  have e1 : eBin neD (eLc (iOf (eV 3)) (.nm 4) (eBin (isinD false) (eTup (aCons (eK (.str "mute")) (aCons (eV 4) aNil))) (eV 1)) (eV 4) [4]) (eLst aNil) [some (.d (jT ns)), some (.d (jT lit)), some (.d (jD t)), some (.d (jL (wayOf ns t))), none] st = .ok (.d (.bool (mutedB ns lit t))) st := by
    rw [eBin_ev, eLc_selT (p := fun x : Str => memB (("mute" : Str), x) lit) (xs := wayOf ns t) (j := none) (ex := true) rfl rfl]
    · rw [bind_ok, show eLst aNil [some (.d (jT ns)), some (.d (jT lit)), some (.d (jD t)), some (.d (jL (wayOf ns t))), none] st = .ok (.d (.list [])) st from rfl, bind_ok, nempty_str, filter_any]
      rfl
    · intro x _
      refine lcT_ok rfl ?_ fun _ => rfl
      have h := isinT_t (st := st) false (("mute" : Str), x) lit
      show ansD st (isinD false (.d (jD (("mute" : Str), x))) (.d (jT lit)) st) = _
      rw [h]
      rfl
  have e2 : eCall sem__law_sounds (aCons (eV 0) (aCons (eV 1) aNil)) [some (.d (jT ns)), some (.d (jT lit)), some (.d (jD t)), some (.d (jL (wayOf ns t))), none] st = .ok (.d (jT (soundsOf ns lit))) st := law_sounds_ok L lit
  rw [sSeq_ev]
  have mem : memB t (soundsOf ns lit) = (!mutedB ns lit t && soloB ns lit t) := by
    rw [Bool.eq_iff_iff, memB_iff]
    unfold soundsOf
    rw [List.mem_filter]
    exact ⟨fun h => h.2, fun h => ⟨ht, h⟩⟩
  unfold reason
  cases hm : mutedB ns lit t
  · rw [hm] at e1 mem
    rw [sIf_no e1, sNil_ev, seqK_nx, sRet_ev, eIf_ev, eBin_ev, eV2, bind_ok, e2, bind_ok, isinT_t, mem]
    cases soloB ns lit t <;> rfl
  · rw [hm] at e1
    rw [sIf_yes e1]
    rfl
/-! ### draws -/
theorem lcD_sub {z : Wk} {turn : Turn1} {γ : Type} {em : γ → PyData} (J : Sto → Prop) (hz : ∀ s, J s → okG s z = true) : ∀ {xs : List γ}, (∀ x ∈ xs, ∀ s, J s → ∃ (b : Bool) (s' : Sto), J s' ∧ turn (em x) s = .ok (if b = true then some (em x) else none) s') → ∀ s, J s → ∃ (ys : List γ) (s' : Sto), ys.Sublist xs ∧ J s' ∧ lcD z turn (xs.map em) s = .ok (ys.map em) s' := by
  intro xs
  induction xs with
  | nil =>
    intro _ s hs
    refine ⟨[], s, .slnil, hs, ?_⟩
    show (if okG s z = true then Res.ok [] s else .stuck) = _
    rw [if_pos (hz s hs)]
    rfl
  | cons x xs ih =>
    intro h s hs
    obtain ⟨b, s1, h1, e1⟩ := h x (List.mem_cons_self ..) s hs
    obtain ⟨ys, s2, h2, h3, e2⟩ := ih (fun y hy => h y (List.mem_cons_of_mem _ hy)) s1 h1
    have e : lcD z turn ((x :: xs).map em) s = .ok (match (if b = true then some (em x) else none) with
      | none => ys.map em
      | some y => y :: ys.map em) s2 := by
      show (if okG s z = true then (turn (em x) s).bind (fun o s1 => (lcD z turn (xs.map em) s1).bind fun ys s2 => Res.ok (match o with
        | none => ys
        | some y => y :: ys) s2) else Res.stuck) = _
      rw [if_pos (hz s hs), e1, bind_ok, e2, bind_ok]
    cases b
    · exact ⟨ys, s2, h2.cons x, h3, e⟩
    · exact ⟨x :: ys, s2, h2.cons₂ x, h3, e⟩
theorem set_set {i : Nat} {o o2 : Ob} : (st.set i o).set i o2 = st.set i o2 := List.set_set ..
theorem law_lights_ok {ns : Nodes} (L : Lay ns) {i : Nat} {o : Ob} (hi : st[i]? = some o) (ho : Src o) : ∃ (lit : Lights) (o' : Ob), lit.Sublist (allButtons ns) ∧ Src o' ∧ sem__law_lights [.o i, .d (jT ns)] st = .ok (.d (jT lit)) (st.set i o') := by
  have hlt : i < st.length := (List.getElem?_eq_some_iff.mp hi).1
  obtain ⟨q, o1, s1, q0, q1, e1⟩ := pick_ok (size := 4) hi ho (by decide) (by decide)
  have h1 : eBin addD (eK (.int 2)) (eCall sem__law_pick (aCons (eV 0) (aCons (eK (.int 4)) aNil))) [some (.o i), some (.d (jT ns)), none, none] st = .ok (.d (.int (2 + q))) (st.set i o1) := by
    have e : eCall sem__law_pick (aCons (eV 0) (aCons (eK (.int 4)) aNil)) [some (.o i), some (.d (jT ns)), none, none] st = .ok (.d (.int q)) (st.set i o1) := e1
    rw [eBin_ev, eK_ev, bind_ok, e]
    rfl
  have all : ∀ s : Sto, eCall sem__law_all_buttons (aCons (eV 1) aNil) [some (.o i), some (.d (jT ns)), some (.d (.int (2 + q))), none] s = .ok (.d (jL (allButtons ns))) s := fun s => law_all_buttons_ok L
  have hi1 : (st.set i o1)[i]? = some o1 := by rw [List.getElem?_set_self hlt]
  obtain ⟨lit, s', hsub, ⟨o2, s2, rfl⟩, e2⟩ := lcD_sub (z := ((allButtons ns).map Datum.toD, none, true)) (em := Datum.toD) (xs := allButtons ns) (turn := lcT true [some (.o i), some (.d (jT ns)), some (.d (.int (2 + q))), none] [3] (.nm 3) (eBin eqD (eCall sem__law_pick (aCons (eV 0) (aCons (eV 2) aNil))) (eK (.int 0))) (eV 3))
    (fun s => ∃ o', Src o' ∧ s = st.set i o') (fun _ _ => rfl) (fun b _ s ⟨o', so, es⟩ => by
      have hi' : s[i]? = some o' := by rw [es, List.getElem?_set_self hlt]
      obtain ⟨c, o2, s2, c0, c1, e2⟩ := pick_ok (size := 2 + q) hi' so (by omega) (by omega)
      refine ⟨decide (c = 0), s.set i o2, ⟨o2, s2, by rw [es, set_set]⟩, ?_⟩
      have ec : eBin eqD (eCall sem__law_pick (aCons (eV 0) (aCons (eV 2) aNil))) (eK (.int 0)) [some (.o i), some (.d (jT ns)), some (.d (.int (2 + q))), some (.d (Datum.toD b))] s = .ok (.d (.bool (decide (c = 0)))) (s.set i o2) := by
        have e : eCall sem__law_pick (aCons (eV 0) (aCons (eV 2) aNil)) [some (.o i), some (.d (jT ns)), some (.d (.int (2 + q))), some (.d (Datum.toD b))] s = .ok (.d (.int c)) (s.set i o2) := e2
        rw [eBin_ev, e, bind_ok, eK_ev, bind_ok, eqD_i]
        rfl
      show ((noX (asB (eBin eqD _ _ [some (.o i), some (.d (jT ns)), some (.d (.int (2 + q))), some (.d (Datum.toD b))] s))).bind _) = _
      rw [ec]
      cases decide (c = 0) <;> rfl) (st.set i o1) ⟨o1, s1, rfl⟩
  refine ⟨lit, o2, hsub, s2, fnD_ret (s1 := st.set i o2) ?_ (List.take_of_length_le (by simp))⟩
  show body__law_lights [some (.o i), some (.d (jT ns)), none, none] st = _
  unfold body__law_lights
  rw [sSeq_ev, sAsg_nm, h1]
  simp only [outOf_ok, seqK_nx, List.set]
  have ei : iOf (eCall sem__law_all_buttons (aCons (eV 1) aNil)) [some (.o i), some (.d (jT ns)), some (.d (.int (2 + q))), none] (st.set i o1) = .ok ((allButtons ns).map Datum.toD, none, true) (st.set i o1) := by
    rw [iOf_ev, all]
    rfl
  have el : eLc (iOf (eCall sem__law_all_buttons (aCons (eV 1) aNil))) (.nm 3) (eBin eqD (eCall sem__law_pick (aCons (eV 0) (aCons (eV 2) aNil))) (eK (.int 0))) (eV 3) [3] [some (.o i), some (.d (jT ns)), some (.d (.int (2 + q))), none] (st.set i o1) = .ok (.d (jL lit)) (st.set i o2) := by
    unfold eLc eLc0
    rw [ei, bind_ok]
    show (lcD _ _ _ _).bind _ = _
    rw [e2]
    rfl
  rw [sRet_ev, eB_ev, aCons_ev, el]
  rfl
end DL
set_option maxHeartbeats 200000
/-! F layer, part 10: drawn layouts. -/
namespace DL
open PySem PySem.W
variable {st : Sto}
def pool : List Str := ["a", "b", "c", "d", "e", "f", "g", "h", "i", "j", "k", "l", "m", "n", "o", "p"]
theorem pool_name : ∀ x ∈ pool, isNameB x = true := by decide +kernel
theorem pool_nodup : pool.Nodup := by decide +kernel
theorem pool_letters : listSD [.d (.str "abcdefghijklmnop")] st = some (pool.map Datum.toD) := by
  have h : ((Str.ofString "abcdefghijklmnop").cps.toList.map fun c => PyData.str ⟨#[c]⟩) = pool.map Datum.toD := rfl
  show (if (Str.ofString "abcdefghijklmnop").length ≤ 1000000 then some ((Str.ofString "abcdefghijklmnop").cps.toList.map fun c => PyData.str ⟨#[c]⟩) else none) = _
  rw [if_pos (by decide +kernel), h]
/-- the store while a layout is drawn -/
def stN (st : Sto) (i : Nat) (o : Ob) (left : List Str) : Sto := st.set i o ++ [.lst (left.map Datum.toD)]
theorem stN_i {i : Nat} {o : Ob} {left : List Str} (h : i < st.length) : (stN st i o left)[i]? = some o := by
  unfold stN
  rw [List.getElem?_append_left (by simpa using h), List.getElem?_set_self h]
theorem stN_l {i : Nat} {o : Ob} {left : List Str} : (stN st i o left)[st.length]? = some (.lst (left.map Datum.toD)) := by
  unfold stN
  rw [List.getElem?_append_right (by simp)]
  simp
theorem stN_set {i : Nat} {o o2 : Ob} {left : List Str} (h : i < st.length) : (stN st i o left).set i o2 = stN st i o2 left := by
  unfold stN
  rw [List.set_append_left _ _ (by simpa using h), List.set_set]
theorem stN_pop {i : Nat} {o : Ob} {left l2 : List Str} : (stN st i o left).set st.length (.lst (l2.map Datum.toD)) = stN st i o l2 := by
  unfold stN
  rw [List.set_append_right _ _ (by simp)]
  simp
/-- what stands of a layout while it is drawn -/
structure Part (ns : Nodes) (left : List Str) : Prop where
  nd : (namesOf ns ++ left).Nodup
  pl : ∀ x ∈ namesOf ns ++ left, x ∈ pool
  sz : ns.length + left.length = 16
  up : ∀ pre p post, ns = pre ++ p :: post → p.2 = ("" : Str) ∨ p.2 ∈ namesOf pre
theorem Part.lay {ns : Nodes} {left : List Str} (P : Part ns left) (h1 : 1 ≤ ns.length) (h2 : ns.length ≤ 12) : Lay ns :=
  ⟨h1, h2, fun p hp => pool_name _ (P.pl _ (List.mem_append_left _ (List.mem_map_of_mem hp))), (List.nodup_append.mp P.nd).1, P.up⟩
theorem Part.add {ns : Nodes} {left : List Str} (P : Part ns left) {k : Nat} {x above : Str} (hx : left[k]? = some x) (ha : above = ("" : Str) ∨ above ∈ namesOf ns) : Part (ns ++ [(x, above)]) (left.eraseIdx k) := by
  have hk : k < left.length := (List.getElem?_eq_some_iff.mp hx).1
  have e : left = left.take k ++ x :: left.drop (k + 1) := by
    have := List.take_append_drop k left
    rw [List.drop_eq_getElem_cons hk] at this
    rw [(List.getElem?_eq_some_iff.mp hx).2] at this
    exact this.symm
  have e2 : left.eraseIdx k = left.take k ++ left.drop (k + 1) := List.eraseIdx_eq_take_drop_succ ..
  have perm : (namesOf (ns ++ [(x, above)]) ++ left.eraseIdx k).Perm (namesOf ns ++ left) := by
    have e3 : namesOf (ns ++ [(x, above)]) = namesOf ns ++ [x] := by simp [namesOf]
    rw [e3, e2, List.append_assoc]
    refine List.Perm.append_left _ ?_
    conv => rhs; rw [e]
    exact (List.perm_middle (a := x) (l₁ := left.take k) (l₂ := left.drop (k + 1))).symm
  refine ⟨perm.nodup_iff.mpr P.nd, fun y hy => P.pl y (perm.mem_iff.mp hy), ?_, ?_⟩
  · have := P.sz
    rw [List.length_append, List.length_eraseIdx_of_lt hk]
    simp
    omega
  · intro pre p post h
    rcases List.eq_nil_or_concat post with rfl | ⟨post', q, rfl⟩
    · have h' : ns ++ [(x, above)] = pre ++ [p] := h
      obtain ⟨h1, h2⟩ := List.append_inj' h' rfl
      cases h2
      rw [← h1]
      exact ha
    · have h' : ns ++ [(x, above)] = (pre ++ p :: post') ++ [q] := by rw [h]; simp
      obtain ⟨h1, _⟩ := List.append_inj' h' rfl
      exact P.up pre p post' h1
theorem atI_nat {γ : Type} {l : List γ} {n : Nat} {x : γ} (h : l[n]? = some x) : L2.atI l (n : Int) = some x := by
  have hn : n < l.length := (List.getElem?_eq_some_iff.mp h).1
  have h0 : (0 : Int) ≤ n := by omega
  have h1 : (n : Int) < (l.length : Int) := by omega
  simp only [L2.atI, L2.ixN, if_pos h0, if_pos h1]
  simpa using h
theorem int_nat {q : Int} (h : 0 ≤ q) : ∃ n : Nat, q = n := ⟨q.toNat, by omega⟩
abbrev rowN (ns : Nodes) (i : Nat) (most near : Int) (l : Nat) (x5 x6 x7 : Option Dv) : Vn := [some (.o i), some (.d (.int most)), some (.o l), some (.d (jT ns)), some (.d (.int near)), x5, x6, x7]
theorem eraseIdx_map' {α β : Type} {f : α → β} : ∀ {l : List α} {k : Nat}, (l.map f).eraseIdx k = (l.eraseIdx k).map f
  | [], _ => rfl
  | _ :: _, 0 => rfl
  | x :: l, k + 1 => by simp [eraseIdx_map' (l := l) (k := k)]
/-- one draw -/
theorem pick_in {i : Nat} {o : Ob} {left : List Str} {size : Int} {r : Vn} {e : SE} (hi : i < st.length) (ho : Src o) (h1 : 0 < size) (h2 : size < 1073741824) (hr : eV 0 r (stN st i o left) = .ok (.o i) (stN st i o left)) (he : e r (stN st i o left) = .ok (.d (.int size)) (stN st i o left)) :
    ∃ (q : Nat) (o' : Ob), Src o' ∧ (q : Int) < size ∧ eCall sem__law_pick (aCons (eV 0) (aCons e aNil)) r (stN st i o left) = .ok (.d (.int q)) (stN st i o' left) := by
  obtain ⟨q, o', s1, q0, q1, e1⟩ := pick_ok (st := stN st i o left) (stN_i hi) ho h1 h2
  obtain ⟨n, rfl⟩ := int_nat q0
  refine ⟨n, o', s1, q1, ?_⟩
  rw [eCall_ev, aCons_ev, hr, bind_ok, aCons_ev, he, bind_ok, aNil_ev, bind_ok, bind_ok]
  show sem__law_pick [.o i, .d (.int size)] (stN st i o left) = _
  rw [e1, stN_set hi]
theorem nodes_turn {i : Nat} {o : Ob} {ns : Nodes} {left : List Str} {most : Int} {near : Nat} {x5 x6 x7 : Option Dv} (hi : i < st.length) (ho : Src o) (P : Part ns left) (hl : ns.length < 12) (hn : 1 ≤ near) (hn2 : near ≤ 3) :
    ∃ (x above : Str) (o' : Ob) (l2 : List Str), Src o' ∧ Part (ns ++ [(x, above)]) l2 ∧
    (sSeq (sAsg (eMth mPopAt (eV 2) (aCons (eBin ixD (eLst (aCons (eK (.int 0)) (aCons (eCall sem__law_pick (aCons (eV 0) (aCons (eB lenD (aCons (eV 2) aNil)) aNil))) aNil))) (eCall sem__law_pick (aCons (eV 0) (aCons (eK (.int 2)) aNil)))) aNil)) (.nm 6))
    (sSeq (sAsg (eK (.str "")) (.nm 7))
    (sSeq (sIf (eAnd (eBin neD (eV 3) (eTup aNil)) (eBin gtD (eCall sem__law_pick (aCons (eV 0) (aCons (eK (.int 4)) aNil))) (eK (.int 0))))
    (sAsg (eBin ixD (eBin ixD (eV 3) (eB maxD2 (aCons (eK (.int 0)) (aCons (eBin subD (eBin subD (eB lenD (aCons (eV 3) aNil)) (eK (.int 1))) (eCall sem__law_pick (aCons (eV 0) (aCons (eV 4) aNil)))) aNil)))) (eK (.int 0))) (.nm 7))
    sNil)
    (sAsg (eBin addD (eV 3) (eTup (aCons (eTup (aCons (eV 6) (aCons (eV 7) aNil))) aNil))) (.nm 3))))) (rowN ns i most near st.length x5 x6 x7) (stN st i o left) = .nx (rowN (ns ++ [(x, above)]) i most near st.length x5 (some (.d (jD x))) (some (.d (jD above)))) (stN st i o' l2) := by
  have hsz := P.sz
  have hlen : eB lenD (aCons (eV 2) aNil) (rowN ns i most near st.length x5 x6 x7) (stN st i o left) = .ok (.d (.int left.length)) (stN st i o left) := by
    rw [eB_ev, aCons_ev, eV2, bind_ok, aNil_ev, bind_ok, bind_ok, lenD_o stN_l]
    simp
  obtain ⟨q1, o1, s1, h1, e1⟩ := pick_in (r := rowN ns i most near st.length x5 x6 x7) (size := left.length) (left := left) hi ho (by omega) (by omega) rfl hlen
  obtain ⟨q2, o2, s2, h2, e2⟩ := pick_in (r := rowN ns i most near st.length x5 x6 x7) (size := 2) (left := left) (e := eK (.int 2)) hi s1 (by decide) (by decide) rfl rfl
  -- which one
  obtain ⟨k, hk, hk2⟩ : ∃ k : Nat, k < left.length ∧ L2.atI [PyData.int 0, .int q1] q2 = some (.int k) := by
    have : q2 = 0 ∨ q2 = 1 := by omega
    rcases this with rfl | rfl
    · exact ⟨0, by omega, rfl⟩
    · exact ⟨q1, by omega, rfl⟩
  obtain ⟨x, hx⟩ : ∃ x, left[k]? = some x := ⟨_, List.getElem?_eq_getElem hk⟩
  have hpop : eMth mPopAt (eV 2) (aCons (eBin ixD (eLst (aCons (eK (.int 0)) (aCons (eCall sem__law_pick (aCons (eV 0) (aCons (eB lenD (aCons (eV 2) aNil)) aNil))) aNil))) (eCall sem__law_pick (aCons (eV 0) (aCons (eK (.int 2)) aNil)))) aNil) (rowN ns i most near st.length x5 x6 x7) (stN st i o left) = .ok (.d (jD x)) (stN st i o2 (left.eraseIdx k)) := by
    have hix : L2.ixN (left.map (Datum.toD : Str → PyData)).length (k : Int) = some k := by
      have h0 : (0 : Int) ≤ k := by omega
      have h1 : (k : Int) < ((left.map (Datum.toD : Str → PyData)).length : Int) := by simp; omega
      simp only [L2.ixN, if_pos h0, if_pos h1]
      simp
    have hget : (left.map (Datum.toD : Str → PyData))[k]? = some (jD x) := by rw [List.getElem?_map, hx]; rfl
    rw [eMth_ev, eV2, bind_ok, lst_at stN_l]
    simp only [aCons_ev, eBin_ev, eLst_ev, eK_ev, bind_ok, e1, aNil_ev, datas_cons, datas_nil, Option.map_some, Option.bind_some, few_s]
    rw [if_pos (Nat.le_of_ble_eq_true rfl)]
    simp only [Option.map_some, ansD_s, bind_ok, e2, ixD_d, hk2, stN_l, mPopAt, hix, hget]
    rw [eraseIdx_map', stN_pop]
  rw [sSeq_ev, sAsg_nm, hpop]
  simp only [outOf_ok, seqK_nx, List.set]
  rw [sSeq_ev, sAsg_nm, eK_ev]
  simp only [outOf_ok, seqK_nx, List.set]
  -- the parent
  have last : ∀ (above : Str) (o' : Ob), sAsg (eBin addD (eV 3) (eTup (aCons (eTup (aCons (eV 6) (aCons (eV 7) aNil))) aNil))) (.nm 3) (rowN ns i most near st.length x5 (some (.d (jD x))) (some (.d (jD above)))) (stN st i o' (left.eraseIdx k)) = .nx (rowN (ns ++ [(x, above)]) i most near st.length x5 (some (.d (jD x))) (some (.d (jD above)))) (stN st i o' (left.eraseIdx k)) := fun above o' => by
    have h3 : (ns.map (Datum.toD : Str × Str → PyData)).length + [PyData.tuple [jD x, jD above]].length ≤ 1000000 := by simp; omega
    have et : eTup (aCons (eTup (aCons (eV 6) (aCons (eV 7) aNil))) aNil) (rowN ns i most near st.length x5 (some (.d (jD x))) (some (.d (jD above)))) (stN st i o' (left.eraseIdx k)) = .ok (.d (.tuple [.tuple [jD x, jD above]])) (stN st i o' (left.eraseIdx k)) := rfl
    rw [sAsg_nm, eBin_ev, eV3, bind_ok, et, bind_ok, addD_t, if_pos h3]
    simp only [ansD_s, outOf_ok, List.set]
    have ej : (.tuple (ns.map Datum.toD ++ [.tuple [jD x, jD above]]) : PyData) = jT (ns ++ [(x, above)]) := by
      show _ = PyData.tuple ((ns ++ [(x, above)]).map Datum.toD)
      rw [List.map_append]
      rfl
    rw [ej]
  rw [sSeq_ev]
  by_cases h0 : ns = []
  · have hc : eAnd (eBin neD (eV 3) (eTup aNil)) (eBin gtD (eCall sem__law_pick (aCons (eV 0) (aCons (eK (.int 4)) aNil))) (eK (.int 0))) (rowN ns i most near st.length x5 (some (.d (jD x))) (some (.d (.str "")))) (stN st i o2 (left.eraseIdx k)) = .ok (.d (.bool false)) (stN st i o2 (left.eraseIdx k)) := by
      refine eAnd_f ?_
      subst h0
      rfl
    refine ⟨x, "", o2, left.eraseIdx k, s2, P.add hx (.inl rfl), ?_⟩
    rw [sIf_no hc, sNil_ev, seqK_nx]
    exact last "" o2
  · have hne : eBin neD (eV 3) (eTup aNil) (rowN ns i most near st.length x5 (some (.d (jD x))) (some (.d (.str "")))) (stN st i o2 (left.eraseIdx k)) = .ok (.d (.bool true)) (stN st i o2 (left.eraseIdx k)) := by
      have h := neD_t (st := stN st i o2 (left.eraseIdx k)) (Tup.mk ns) (Tup.mk ([] : Nodes))
      rw [decide_eq_false (fun z => h0 (by cases z; rfl))] at h
      show ansD _ (neD (.d (jT ns)) (.d (jT ([] : Nodes))) (stN st i o2 (left.eraseIdx k))) = _
      rw [show neD (.d (jT ns)) (.d (jT ([] : Nodes))) (stN st i o2 (left.eraseIdx k)) = _ from h]
      rfl
    obtain ⟨q3, o3, s3, h3, e3⟩ := pick_in (st := st) (r := rowN ns i most near st.length x5 (some (.d (jD x))) (some (.d (.str "")))) (size := 4) (left := left.eraseIdx k) (e := eK (.int 4)) hi s2 (by decide) (by decide) rfl rfl
    have hc : eAnd (eBin neD (eV 3) (eTup aNil)) (eBin gtD (eCall sem__law_pick (aCons (eV 0) (aCons (eK (.int 4)) aNil))) (eK (.int 0))) (rowN ns i most near st.length x5 (some (.d (jD x))) (some (.d (.str "")))) (stN st i o2 (left.eraseIdx k)) = .ok (.d (.bool (decide ((0 : Int) < q3)))) (stN st i o3 (left.eraseIdx k)) := by
      rw [eAnd_t hne, eBin_ev, e3, bind_ok, eK_ev, bind_ok, gtD_i]
      rfl
    by_cases hq : (0 : Int) < q3
    · rw [decide_eq_true hq] at hc
      obtain ⟨q4, o4, s4, h4, e4⟩ := pick_in (st := st) (r := rowN ns i most near st.length x5 (some (.d (jD x))) (some (.d (.str "")))) (size := near) (left := left.eraseIdx k) (e := eV 4) hi s3 (by omega) (by omega) rfl rfl
      have hpos : 0 < ns.length := List.length_pos_iff.mpr h0
      obtain ⟨m, hm, hm2⟩ : ∃ m : Nat, m < ns.length ∧ (if (((ns.map (Datum.toD : Str × Str → PyData)).length : Int) - 1 - q4) > 0 then (((ns.map (Datum.toD : Str × Str → PyData)).length : Int) - 1 - q4) else 0) = (m : Int) := by
        rw [List.length_map]
        by_cases hg : ((ns.length : Int) - 1 - q4) > 0
        · exact ⟨((ns.length : Int) - 1 - q4).toNat, by omega, by rw [if_pos hg]; omega⟩
        · exact ⟨0, hpos, by rw [if_neg hg]; rfl⟩
      obtain ⟨p, hp⟩ : ∃ p, ns[m]? = some p := ⟨_, List.getElem?_eq_getElem hm⟩
      have hget : (ns.map (Datum.toD : Str × Str → PyData))[m]? = some (jD p) := by rw [List.getElem?_map, hp]; rfl
      refine ⟨x, p.1, o4, left.eraseIdx k, s4, P.add hx (.inr (List.mem_map_of_mem (List.mem_of_getElem? hp))), ?_⟩
      have ea : eBin ixD (eBin ixD (eV 3) (eB maxD2 (aCons (eK (.int 0)) (aCons (eBin subD (eBin subD (eB lenD (aCons (eV 3) aNil)) (eK (.int 1))) (eCall sem__law_pick (aCons (eV 0) (aCons (eV 4) aNil)))) aNil)))) (eK (.int 0)) (rowN ns i most near st.length x5 (some (.d (jD x))) (some (.d (.str "")))) (stN st i o3 (left.eraseIdx k)) = .ok (.d (jD p.1)) (stN st i o4 (left.eraseIdx k)) := by
        simp only [eBin_ev, eV3, bind_ok, eB_ev, aCons_ev, eK_ev, aNil_ev, lenD_t, ansD_s, subD_i, e4, maxD2_i, hm2, ixD_t, atI_nat hget]
        rfl
      rw [sIf_yes hc, sAsg_nm, ea]
      simp only [outOf_ok, seqK_nx, List.set]
      exact last p.1 o4
    · rw [decide_eq_false hq] at hc
      refine ⟨x, "", o3, left.eraseIdx k, s3, P.add hx (.inl rfl), ?_⟩
      rw [sIf_no hc, sNil_ev, seqK_nx]
      exact last "" o3
end DL
namespace DL
open PySem PySem.W
variable {st : Sto}
theorem set_same {i : Nat} {o : Ob} (h : st[i]? = some o) : st.set i o = st := by
  obtain ⟨hl, e⟩ := List.getElem?_eq_some_iff.mp h
  rw [← e]
  exact List.set_getElem_self hl
/-- of range -/
theorem iRg_ev {fa : SA} {r : Vn} {s1 : Sto} {n : Nat} (h : fa r st = .ok [.d (.int n)] s1) (hn : n ≤ 1000000) : iRg fa r st = .ok ((List.range n).map (fun i : Nat => PyData.int (0 + i)), none, true) s1 := by
  unfold iRg
  rw [h]
  have e : rngOf [.d (.int n)] = some ((List.range n).map (fun i : Nat => PyData.int (0 + i)), none, true) := by
    show (if (n : Int) ≤ 1000000 ∧ -1000000 ≤ (n : Int) then some ((List.range (n : Int).toNat).map (fun i : Nat => PyData.int (0 + i)), none, true) else none) = _
    rw [if_pos (by omega), Int.toNat_natCast]
  simp only [bind_ok, e]
theorem law_nodes_ok {i : Nat} {o : Ob} (hi : st[i]? = some o) (ho : Src o) {most : Int} (m1 : 1 ≤ most) (m2 : most ≤ 12) : ∃ (ns : Nodes) (o' : Ob), Lay ns ∧ (ns.length : Int) ≤ most ∧ (∀ x ∈ namesOf ns, x ∈ pool) ∧ Src o' ∧ sem__law_nodes [.o i, .d (.int most)] st = .ok (.d (jT ns)) (st.set i o') := by
  have hlt : i < st.length := (List.getElem?_eq_some_iff.mp hi).1
  have est : st ++ [.lst (pool.map Datum.toD)] = stN st i o pool := by
    unfold stN
    rw [set_same hi]
  obtain ⟨q1, o1, s1, h1, e1⟩ := pick_in (st := st) (r := [some (.o i), some (.d (.int most)), some (.o st.length), some (.d (jT ([] : Nodes))), none, none, none, none]) (size := 3) (left := pool) (e := eK (.int 3)) hlt ho (by decide) (by decide) rfl rfl
  obtain ⟨q2, o2, s2, h2, e2⟩ := pick_in (st := st) (r := rowN [] i most ((1 + q1 : Nat) : Int) st.length none none none) (size := most) (left := pool) (e := eV 1) hlt s1 (by omega) (by omega) rfl rfl
  have cnt : iRg (aCons (eBin addD (eK (.int 1)) (eCall sem__law_pick (aCons (eV 0) (aCons (eV 1) aNil)))) aNil) (rowN [] i most ((1 + q1 : Nat) : Int) st.length none none none) (stN st i o1 pool) = .ok ((List.range (1 + q2)).map (fun i : Nat => PyData.int (0 + i)), none, true) (stN st i o2 pool) := by
    refine iRg_ev ?_ (by omega)
    rw [aCons_ev, eBin_ev, eK_ev, bind_ok, e2, bind_ok, addD_i, ansD_s, bind_ok, aNil_ev, bind_ok]
    rw [show (1 : Int) + (q2 : Nat) = ((1 + q2 : Nat) : Int) by omega]
  have run := sFor_run (fi := iRg (aCons (eBin addD (eK (.int 1)) (eCall sem__law_pick (aCons (eV 0) (aCons (eV 1) aNil)))) aNil)) (tg := .nm 5)
    (F := (sSeq (sAsg (eMth mPopAt (eV 2) (aCons (eBin ixD (eLst (aCons (eK (.int 0)) (aCons (eCall sem__law_pick (aCons (eV 0) (aCons (eB lenD (aCons (eV 2) aNil)) aNil))) aNil))) (eCall sem__law_pick (aCons (eV 0) (aCons (eK (.int 2)) aNil)))) aNil)) (.nm 6))
    (sSeq (sAsg (eK (.str "")) (.nm 7))
    (sSeq (sIf (eAnd (eBin neD (eV 3) (eTup aNil)) (eBin gtD (eCall sem__law_pick (aCons (eV 0) (aCons (eK (.int 4)) aNil))) (eK (.int 0))))
    (sAsg (eBin ixD (eBin ixD (eV 3) (eB maxD2 (aCons (eK (.int 0)) (aCons (eBin subD (eBin subD (eB lenD (aCons (eV 3) aNil)) (eK (.int 1))) (eCall sem__law_pick (aCons (eV 0) (aCons (eV 4) aNil)))) aNil)))) (eK (.int 0))) (.nm 7))
    sNil)
    (sAsg (eBin addD (eV 3) (eTup (aCons (eTup (aCons (eV 6) (aCons (eV 7) aNil))) aNil))) (.nm 3))))))
    (em := fun i : Nat => PyData.int (0 + i)) (xs := List.range (1 + q2)) (j := none) (ex := true)
    (I := fun pre r s => ∃ (ns : Nodes) (o' : Ob) (left : List Str) (x5 x6 x7 : Option Dv), r = rowN ns i most ((1 + q1 : Nat) : Int) st.length x5 x6 x7 ∧ s = stN st i o' left ∧ Src o' ∧ Part ns left ∧ ns.length = pre.length)
    cnt (fun _ _ _ _ => rfl) ?_ ⟨[], o2, pool, none, none, none, rfl, rfl, s2, ⟨pool_nodup, fun x hx => hx, rfl, fun pre p post e => by simp at e⟩, rfl⟩
  · obtain ⟨r', s', hrun, ns, o', left, x5, x6, x7, rfl, rfl, so, P, hlen⟩ := run
    have hl : ns.length = 1 + q2 := by rw [hlen, List.length_range]
    refine ⟨ns, o', P.lay (by omega) (by omega), by omega, fun x hx => P.pl x (List.mem_append_left _ hx), so, fnD_ret (s1 := stN st i o' left) ?_ (by unfold stN; simp)⟩
    show body__law_nodes [some (.o i), some (.d (.int most)), none, none, none, none, none, none] st = _
    unfold body__law_nodes
    have ep : aCons (eBN listSD (aCons (eK (.str "abcdefghijklmnop")) aNil)) (aCons (eTup aNil) aNil) [some (.o i), some (.d (.int most)), none, none, none, none, none, none] st = .ok [.o st.length, .d (jT ([] : Nodes))] (stN st i o pool) := by
      rw [aCons_ev, eBN_ev, aCons_ev, eK_ev, bind_ok, aNil_ev, bind_ok, bind_ok, pool_letters, ansN_s, bind_ok, est]
      rfl
    rw [sSeq_ev, sPar_ev, ep]
    simp only [outOf_ok, seqK_nx, List.set]
    rw [sSeq_ev, sAsg_nm, eBin_ev, eK_ev, bind_ok, e1, bind_ok, addD_i, ansD_s]
    simp only [outOf_ok, seqK_nx, List.set]
    rw [show (1 : Int) + (q1 : Nat) = ((1 + q1 : Nat) : Int) by omega, sSeq_ev, hrun, seqK_nx]
    rfl
  · rintro pre x post e r s ⟨ns, o', left, x5, x6, x7, rfl, rfl, so, P, hlen⟩
    have hl : pre.length < 1 + q2 := by
      have := congrArg List.length e
      simp at this
      omega
    obtain ⟨y, above, o'', l2, so2, P2, hF⟩ := nodes_turn (i := i) (most := most) (near := 1 + q1) (x5 := some (.d (.int (0 + x)))) (x6 := x6) (x7 := x7) hlt so P (by omega) (by omega) (by omega)
    exact ⟨rowN ns i most ((1 + q1 : Nat) : Int) st.length (some (.d (.int (0 + x)))) x6 x7, rfl, _, _, hF, _, _, _, _, _, _, rfl, rfl, so2, P2, by simp [hlen]⟩
end DL
set_option maxHeartbeats 200000
/-! F layer, part 11: bodies that end without a return; outcomes. -/
namespace DL
open PySem PySem.W
def Post (o : Out) (Q : Vn → Sto → Prop) : Prop := ∃ r s, o = .nx r s ∧ Q r s
section
variable {r : Vn} {st s1 : Sto} {Q : Vn → Sto → Prop} {B F1 : SS} {f ft : SE} {v : Dv} {i : Nat}
theorem post_asg (h : f r st = .ok v s1) (k : Post (B (r.set i (some v)) s1) Q) : Post (sSeq (sAsg f (.nm i)) B r st) Q := by
  rw [sSeq_ev, sAsg_nm, h]
  exact k
theorem post_asg1 (h : f r st = .ok v s1) (k : Q (r.set i (some v)) s1) : Post (sAsg f (.nm i) r st) Q := by
  rw [sAsg_nm, h]
  exact ⟨_, _, rfl, k⟩
theorem post_ifn (h : ft r st = .ok (.d (.bool false)) s1) (k : Post (B r s1) Q) : Post (sSeq (sIf ft F1 sNil) B r st) Q := by
  rw [sSeq_ev, sIf_no h]
  exact k
theorem post_ifn1 (h : ft r st = .ok (.d (.bool false)) s1) (k : Q r s1) : Post (sIf ft F1 sNil r st) Q := by
  rw [sIf_no h]
  exact ⟨_, _, rfl, k⟩
theorem post_expr (h : f r st = .ok v s1) (k : Post (B r s1) Q) : Post (sSeq (sExpr f) B r st) Q := by
  rw [sSeq_ev, sExpr_ev, h]
  exact k
theorem post_expr1 (h : f r st = .ok v s1) (k : Q r s1) : Post (sExpr f r st) Q := by
  rw [sExpr_ev, h]
  exact ⟨_, _, rfl, k⟩
theorem post_for {fi : SI} {tg : Tgt} {F : SS} {γ : Type} {em : γ → PyData} {xs : List γ} {j : Option Nat} {ex : Bool} (I : List γ → Vn → Sto → Prop) (hi : fi r st = .ok (xs.map em, j, ex) s1) (hz : ∀ pre r st, I pre r st → okG st (xs.map em, j, ex) = true) (h0 : I [] r s1)
    (step : ∀ pre x post, xs = pre ++ x :: post → ∀ r st, I pre r st → ∃ r1, setI ex tg (em x) r = some r1 ∧ Post (F r1 st) (I (pre ++ [x]))) (k : ∀ r' s', I xs r' s' → Post (B r' s') Q) : Post (sSeq (sFor fi tg F) B r st) Q := by
  obtain ⟨r', s', h1, h2⟩ := sFor_run (F := F) hi hz (fun pre x post e r st hI => by
    obtain ⟨r1, z1, r2, s2, z2, z3⟩ := step pre x post e r st hI
    exact ⟨r1, z1, r2, s2, z2, z3⟩) h0
  rw [sSeq_ev, h1]
  exact k r' s' h2
theorem post_for1 {fi : SI} {tg : Tgt} {F : SS} {γ : Type} {em : γ → PyData} {xs : List γ} {j : Option Nat} {ex : Bool} (I : List γ → Vn → Sto → Prop) (hi : fi r st = .ok (xs.map em, j, ex) s1) (hz : ∀ pre r st, I pre r st → okG st (xs.map em, j, ex) = true) (h0 : I [] r s1)
    (step : ∀ pre x post, xs = pre ++ x :: post → ∀ r st, I pre r st → ∃ r1, setI ex tg (em x) r = some r1 ∧ Post (F r1 st) (I (pre ++ [x]))) (k : ∀ r' s', I xs r' s' → Q r' s') : Post (sFor fi tg F r st) Q := by
  obtain ⟨r', s', h1, h2⟩ := sFor_run (F := F) hi hz (fun pre x post e r st hI => by
    obtain ⟨r1, z1, r2, s2, z2, z3⟩ := step pre x post e r st hI
    exact ⟨r1, z1, r2, s2, z2, z3⟩) h0
  rw [h1]
  exact ⟨_, _, rfl, k r' s' h2⟩
end
section
variable {α : Type} [DecidableEq α] [DatumOrd α] {st : Sto}
theorem ne_self (a : α) (h : Datum.depth α ≤ 60 := by decide) : neD (.d (jD a)) (.d (jD a)) st = some (.bool false) := by
  rw [neD_t a a h, decide_eq_true rfl]
  rfl
theorem neL_self {xs ys : List α} (e : xs = ys) (h : Datum.depth (List α) ≤ 60 := by decide) : neD (.d (jL xs)) (.d (jL ys)) st = some (.bool false) := by
  subst e
  exact ne_self xs h
theorem neT_self {xs ys : List α} (e : xs = ys) (h : Datum.depth (Tup α) ≤ 60 := by decide) : neD (.d (jT xs)) (.d (jT ys)) st = some (.bool false) := by
  subst e
  exact ne_self (Tup.mk xs) h
/-- two sides that are the same -/
theorem neq_false {fa fb : SE} {r : Vn} {x y : Dv} {s1 s2 : Sto} (ha : fa r st = .ok x s1) (hb : fb r s1 = .ok y s2) (h : neD x y s2 = some (.bool false)) : eBin neD fa fb r st = .ok (.d (.bool false)) s2 := by
  rw [eBin_ev, ha, bind_ok, hb, bind_ok, h]
  rfl
end
/-- the law's rounds -/
theorem rounds_ev {ns : List Int} {lo hi : Int} {r : Vn} {st : Sto} (hr : r[0]? = some (some (.s ns))) (h0 : 0 ≤ lo) (h1 : lo ≤ 64) (h2 : 0 ≤ hi) (h3 : hi ≤ 64) : ∃ n : Nat, n ≤ 64 ∧ iRg (aCons (eB maxD2 (aCons (eK (.int lo)) (aCons (eB minD2 (aCons (eK (.int hi)) (aCons (eB lenD (aCons (eV 0) aNil)) aNil))) aNil))) aNil) r st = .ok ((List.range n).map (fun i : Nat => PyData.int (0 + i)), none, true) st := by
  have hv : eV 0 r st = .ok (.s ns) st := by unfold eV; rw [hr]
  refine ⟨(if (if (ns.length : Int) < hi then (ns.length : Int) else hi) > lo then (if (ns.length : Int) < hi then (ns.length : Int) else hi) else lo).toNat, ?_, ?_⟩
  · split <;> split <;> omega
  · refine iRg_ev ?_ ?_
    · simp only [aCons_ev, eB_ev, eK_ev, bind_ok, hv, aNil_ev, lenD_sc, ansD_s, minD2_i, maxD2_i]
      congr 4
      split <;> split <;> omega
    · split <;> split <;> omega
end DL
set_option maxHeartbeats 200000
/-! F layer, part 12: comprehensions of several clauses; all buttons. -/
namespace DL
open PySem PySem.W
section
variable {r : Vn} {st : Sto}
theorem loopM_pure {vs : List Nat} {z : Wk} {t : Tgt} {ft : SE} {k : Vn → Sto → Res (List PyData)} {γ : Type} {em : γ → PyData} {p : γ → Bool} {g : γ → List PyData} (hz : okG st z = true) : ∀ {xs : List γ}, (∀ x ∈ xs, ∃ r1, setI z.2.2 t (em x) (wipeV r vs) = some r1 ∧ ft r1 st = .ok (.d (.bool (p x))) st ∧ (p x = true → k r1 st = .ok (g x) st)) →
    loopM vs z t ft k r (xs.map em) st = .ok (xs.flatMap fun x => if p x = true then g x else []) st := by
  intro xs
  induction xs with
  | nil =>
    intro _
    rw [List.map_nil, loopM, if_pos hz]
    rfl
  | cons x xs ih =>
    intro h
    obtain ⟨r1, h1, h2, h3⟩ := h x (List.mem_cons_self ..)
    have e := ih fun y hy => h y (List.mem_cons_of_mem _ hy)
    rw [List.map_cons, loopM, if_pos hz, h1]
    simp only [h2, asB_b, noX_ok, bind_ok]
    cases hp : p x
    · simp only [bind_ok, e]
      simp [hp]
    · simp only [h3 hp, bind_ok, e]
      simp [hp]
theorem lcM_nil {fe : SE} {y : PyData} (h : fe r st = .ok (.d y) st) : lcM fe [] r st = .ok [y] st := by
  unfold lcM
  rw [h]
  rfl
theorem lcM_cons {fe : SE} {fi : SI} {t : Tgt} {ft : SE} {cs : List Cl} {γ : Type} {em : γ → PyData} {p : γ → Bool} {g : γ → List PyData} {xs : List γ} {j : Option Nat} {ex : Bool} (hi : fi r st = .ok (xs.map em, j, ex) st) (hz : okG st (xs.map em, j, ex) = true)
    (h : ∀ x ∈ xs, ∃ r1, setI ex t (em x) (wipeV r (slotsOf ((fi, t, ft) :: cs))) = some r1 ∧ ft r1 st = .ok (.d (.bool (p x))) st ∧ (p x = true → lcM fe cs r1 st = .ok (g x) st)) : lcM fe ((fi, t, ft) :: cs) r st = .ok (xs.flatMap fun x => if p x = true then g x else []) st := by
  unfold lcM
  rw [show ((fi, t, ft) : Cl).1 r st = fi r st from rfl, hi]
  exact loopM_pure hz h
theorem eLcM_pure {fe : SE} {fi : SI} {t : Tgt} {ft : SE} {cs : List Cl} {vs : List Nat} {γ : Type} {em : γ → PyData} {p : γ → Bool} {g : γ → List PyData} {xs : List γ} {j : Option Nat} {ex : Bool} (hi : fi r st = .ok (xs.map em, j, ex) st) (hz : okG st (xs.map em, j, ex) = true)
    (h : ∀ x ∈ xs, ∃ r1, setI ex t (em x) (wipeV r vs) = some r1 ∧ ft r1 st = .ok (.d (.bool (p x))) st ∧ (p x = true → lcM fe cs r1 st = .ok (g x) st)) (hl : (xs.flatMap fun x => if p x = true then g x else []).length ≤ 1000000) : eLcM fi t ft cs fe vs r st = .ok (.d (.list (xs.flatMap fun x => if p x = true then g x else []))) st := by
  unfold eLcM eLcM0
  rw [hi]
  have e := loopM_pure (r := r) (vs := vs) (t := t) (ft := ft) (k := lcM fe cs) (z := (xs.map em, j, ex)) hz h
  simp only [bind_ok]
  rw [e]
  simp only [bind_ok, fewS, if_pos hl]
end
variable {st : Sto}
theorem all_buttons_ok {ns : Nodes} (L : Lay ns) : sem_all_buttons [.d (jT ns)] st = .ok (.d (jL (allButtons ns))) st := by
  refine fnD_ret (s1 := st) ?_ List.take_length
  show body_all_buttons [some (.d (jT ns)), none, none] st = _
  unfold body_all_buttons
  have hl := L.le
  have inner : ∀ (k : Str), lcM (eTup (aCons (eV 1) (aCons (eV 2) aNil))) [(iOf (eCall sem_names_of (aCons (eV 0) aNil)), .nm 2, eYes)] [some (.d (jT ns)), some (.d (jD k)), none] st = .ok ((namesOf ns).flatMap fun x => if (fun _ : Str => true) x = true then [jD (k, x)] else []) st := fun k => by
    refine lcM_cons (em := Datum.toD) (p := fun _ => true) (g := fun x : Str => [jD (k, x)]) (xs := namesOf ns) (j := none) (ex := true) ?_ rfl fun x _ => ⟨_, rfl, rfl, fun _ => lcM_nil rfl⟩
    have e1 : eCall sem_names_of (aCons (eV 0) aNil) [some (.d (jT ns)), some (.d (jD k)), none] st = .ok (.d (jL (namesOf ns))) st := names_of_ok ns
    rw [iOf_ev, e1]
    rfl
  have flat : ∀ k : Str, ((namesOf ns).flatMap fun x => if (fun _ : Str => true) x = true then [jD (k, x)] else []) = (namesOf ns).map fun x => jD (k, x) := fun k => by
    simp [List.flatMap_singleton']
    induction namesOf ns with
    | nil => rfl
    | cons a l ih => simp [ih]
  have e : eLcM (iOf (eK c_KINDS)) (.nm 1) eYes [(iOf (eCall sem_names_of (aCons (eV 0) aNil)), .nm 2, eYes)] (eTup (aCons (eV 1) (aCons (eV 2) aNil))) [1, 2] [some (.d (jT ns)), none, none] st = .ok (.d (jL ((namesOf ns).map (fun x => (("mute" : Str), x)) ++ (namesOf ns).map fun x => (("solo" : Str), x)))) st := by
    rw [eLcM_pure (em := Datum.toD) (p := fun _ => true) (g := fun k : Str => (namesOf ns).map fun x => jD (k, x)) (xs := kinds) (j := none) (ex := true) rfl rfl (fun k _ => ⟨_, rfl, rfl, fun _ => (inner k).trans (by rw [flat k])⟩) (by simp [kinds, namesOf]; omega)]
    simp [kinds, jL, Function.comp_def]
  rw [sRet_ev, eB_ev, aCons_ev, e]
  simp only [bind_ok, aNil_ev, fz1]
  rw [sort_pair]
  rfl
end DL
set_option maxHeartbeats 200000
/-! F layer, part 13: presses. -/
namespace DL
open PySem PySem.W
variable {st : Sto}
def afterPress (lit : Lights) (b : Str × Str) : Lights := if memB b lit = true then lit.filter fun o => !decide (o = b) else pySort (lit ++ [b])
theorem mem_after {lit : Lights} {b x : Str × Str} : x ∈ afterPress lit b ↔ (if b ∈ lit then x ∈ lit ∧ x ≠ b else x ∈ lit ∨ x = b) := by
  unfold afterPress
  by_cases h : b ∈ lit
  · rw [if_pos (memB_yes h), if_pos h, List.mem_filter]
    simp
  · rw [if_neg (by rw [memB_no h]; decide), if_neg h, mem_pySort, List.mem_append, List.mem_singleton]
theorem after_rising {lit : Lights} {b : Str × Str} (h : Rising lit) : Rising (afterPress lit b) := by
  unfold afterPress
  by_cases hb : b ∈ lit
  · rw [if_pos (memB_yes hb)]
    exact h.sublist List.filter_sublist
  · rw [if_neg (by rw [memB_no hb]; decide)]
    refine pySort_rising ?_
    rw [List.nodup_append]
    refine ⟨h.nodup, by simp, fun a ha c hc e => ?_⟩
    rw [List.mem_singleton.mp hc] at e
    exact hb (e ▸ ha)
theorem Sta.press {ns : Nodes} {lit : Lights} (S : Sta ns lit) {b : Str × Str} (h1 : b.1 ∈ kinds) (h2 : b.2 ∈ namesOf ns) : Sta ns (afterPress lit b) := by
  refine ⟨fun x hx => ?_, fun x hx => ?_, after_rising S.up⟩
  · rw [mem_after] at hx
    split at hx
    · exact S.kd x hx.1
    · rcases hx with hx | rfl
      · exact S.kd x hx
      · exact h1
  · rw [mem_after] at hx
    split at hx
    · exact S.nm x hx.1
    · rcases hx with hx | rfl
      · exact S.nm x hx
      · exact h2
/-- two presses of one button lead back -/
theorem press_back {lit : Lights} (h : Rising lit) (b : Str × Str) : afterPress (afterPress lit b) b = lit := by
  refine Rising.ext (after_rising (after_rising h)) h fun x => ?_
  rw [mem_after]
  by_cases hb : b ∈ lit
  · have h1 : b ∉ afterPress lit b := fun z => by
      rw [mem_after, if_pos hb] at z
      exact z.2 rfl
    rw [if_neg h1, mem_after, if_pos hb]
    constructor
    · rintro (z | rfl)
      · exact z.1
      · exact hb
    · intro z
      by_cases e : x = b
      · exact .inr e
      · exact .inl ⟨z, e⟩
  · have h1 : b ∈ afterPress lit b := by
      rw [mem_after, if_neg hb]
      exact .inr rfl
    rw [if_pos h1, mem_after, if_neg hb]
    constructor
    · rintro ⟨z | z, e⟩
      · exact z
      · exact absurd z e
    · intro z
      exact ⟨.inl z, fun e => hb (e ▸ z)⟩
theorem sta_len {ns : Nodes} {lit : Lights} (L : Lay ns) (S : Sta ns lit) : lit.length ≤ 24 := by
  have h2 : lit = (allButtons ns).filter fun b => memB b lit := by
    refine Rising.ext S.up ((buttons_rising L).sublist List.filter_sublist) fun b => ?_
    rw [List.mem_filter, memB_iff]
    exact ⟨fun hb => ⟨mem_buttons.mpr ⟨S.kd b hb, S.nm b hb⟩, hb⟩, fun hb => hb.2⟩
  have h3 : lit.length ≤ (allButtons ns).length := by
    rw [h2]
    exact List.length_filter_le _ _
  have h4 : (allButtons ns).length = ns.length + ns.length := by
    unfold allButtons
    rw [(pySort_perm _).length_eq]
    simp [namesOf]
  have := L.le
  omega
theorem after_press_ok (lit : Lights) (b : Str × Str) (hl : lit.length ≤ 1000) : sem_after_press [.d (jT lit), .d (jD b)] st = .ok (.d (jT (afterPress lit b))) st := by
  refine fnD_ret (s1 := st) ?_ List.take_length
  show body_after_press [some (.d (jT lit)), some (.d (jD b)), none] st = _
  unfold body_after_press
  have e1 : eBin (isinD false) (eV 1) (eV 0) [some (.d (jT lit)), some (.d (jD b)), none] st = .ok (.d (.bool (memB b lit))) st := by
    rw [eBin_ev, eV1, bind_ok, eV0, bind_ok, isinT_t]
    rfl
  unfold afterPress
  cases hb : memB b lit
  · rw [hb] at e1
    have e2 : eBin addD (eV 0) (eTup (aCons (eV 1) aNil)) [some (.d (jT lit)), some (.d (jD b)), none] st = .ok (.d (jT (lit ++ [b]))) st := by
      rw [eBin_ev, eV0, bind_ok, show eTup (aCons (eV 1) aNil) [some (.d (jT lit)), some (.d (jD b)), none] st = .ok (.d (.tuple [jD b])) st from rfl, bind_ok, addD_t, if_pos (by simp; omega)]
      show _ = Res.ok (Dv.d (.tuple ((lit ++ [b]).map Datum.toD))) st
      rw [List.map_append]
      rfl
    rw [sSeq_ev, sIf_no e1, sNil_ev, seqK_nx, sRet_ev, eB_ev, aCons_ev, eB_ev, aCons_ev, e2]
    simp only [bind_ok, aNil_ev, fz1]
    rw [sortT_pair _ (by simp; omega)]
    rfl
  · rw [hb] at e1
    rw [sSeq_ev, sIf_yes e1, sRet_ev, eB_ev, aCons_ev, eLc_selT (p := fun o : Str × Str => !decide (o = b)) (xs := lit) (j := none) (ex := true) rfl rfl]
    · rfl
    · intro o _
      refine lcT_ok rfl ?_ fun _ => rfl
      show ansD st (neD (.d (jD o)) (.d (jD b)) st) = _
      rw [neD_t]
      rfl
end DL
namespace DL
open PySem PySem.W
variable {st : Sto}
theorem law_turned_ok (lit : Lights) (b : Str × Str) (hl : lit.length ≤ 1000) : sem__law_turned [.d (jT lit), .d (jD b)] st = .ok (.d (jT (afterPress lit b))) st := by
  refine fnD_ret (s1 := st) ?_ List.take_length
  show body__law_turned [some (.d (jT lit)), some (.d (jD b)), none] st = _
  unfold body__law_turned
  have e1 : eBin (isinD false) (eV 1) (eV 0) [some (.d (jT lit)), some (.d (jD b)), none] st = .ok (.d (.bool (memB b lit))) st := by
    rw [eBin_ev, eV1, bind_ok, eV0, bind_ok, isinT_t]
    rfl
  unfold afterPress
  cases hb : memB b lit
  · rw [hb] at e1
    have e2 : eBin addD (eB (fz1 listLD) (aCons (eV 0) aNil)) (eLst (aCons (eV 1) aNil)) [some (.d (jT lit)), some (.d (jD b)), none] st = .ok (.d (jL (lit ++ [b]))) st := by
      rw [eBin_ev, show eB (fz1 listLD) (aCons (eV 0) aNil) [some (.d (jT lit)), some (.d (jD b)), none] st = .ok (.d (jL lit)) st from rfl, bind_ok, show eLst (aCons (eV 1) aNil) [some (.d (jT lit)), some (.d (jD b)), none] st = .ok (.d (.list [jD b])) st from rfl, bind_ok, addD_l, if_pos (by simp; omega)]
      show _ = Res.ok (Dv.d (.list ((lit ++ [b]).map Datum.toD))) st
      rw [List.map_append]
      rfl
    rw [sSeq_ev, sIf_no e1, sNil_ev, seqK_nx, sRet_ev, eB_ev, aCons_ev, eB_ev, aCons_ev, e2]
    simp only [bind_ok, aNil_ev, fz1]
    rw [sort_pair]
    rfl
  · rw [hb] at e1
    rw [sSeq_ev, sIf_yes e1, sRet_ev, eB_ev, aCons_ev, eLc_selT (p := fun o : Str × Str => !decide (o = b)) (xs := lit) (j := none) (ex := true) rfl rfl]
    · rfl
    · intro o _
      refine lcT_ok rfl ?_ fun _ => rfl
      show ansD st (neD (.d (jD o)) (.d (jD b)) st) = _
      rw [neD_t]
      rfl
theorem require_button_ok {ns : Nodes} {b : Str × Str} (h1 : b.1 ∈ kinds) (h2 : b.2 ∈ namesOf ns) : sem_require_button [.d (jT ns), .d (jD b)] st = .ok (.d .none) st := by
  refine fnD_none (r1 := [some (.d (jT ns)), some (.d (jD b))]) (s1 := st) ?_ List.take_length
  show body_require_button [some (.d (jT ns)), some (.d (jD b))] st = _
  simp [body_require_button, is_button_pair, memB_yes h1, memB_yes h2]
theorem pressed_ok {ns : Nodes} (L : Lay ns) {lit : Lights} (S : Sta ns lit) {b : Str × Str} (h1 : b.1 ∈ kinds) (h2 : b.2 ∈ namesOf ns) : sem_pressed [.d (jT ns), .d (jT lit), .d (jD b)] st = .ok (.d (jT (afterPress lit b))) st := by
  refine fnD_ret (s1 := st) ?_ List.take_length
  show body_pressed [some (.d (jT ns)), some (.d (jT lit)), some (.d (jD b))] st = _
  simp [body_pressed, require_layout_ok L, require_state_ok S, require_button_ok h1 h2, after_press_ok lit b (Nat.le_trans (sta_len L S) (by decide))]
theorem effect_ok {ns : Nodes} (L : Lay ns) {lit : Lights} (S : Sta ns lit) {b : Str × Str} (h1 : b.1 ∈ kinds) (h2 : b.2 ∈ namesOf ns) : sem_effect [.d (jT ns), .d (jT lit), .d (jD b)] st = .ok (.d (.tuple [jT ((heardIn ns lit).filter fun x => !memB x (heardIn ns (afterPress lit b))), jT ((heardIn ns (afterPress lit b)).filter fun x => !memB x (heardIn ns lit))])) st := by
  refine fnD_ret (s1 := st) ?_ List.take_length
  show body_effect [some (.d (jT ns)), some (.d (jT lit)), some (.d (jD b)), none, none, none, none] st = _
  unfold body_effect
  have g1 : sExpr (eCall sem_require_layout (aCons (eV 0) aNil)) [some (.d (jT ns)), some (.d (jT lit)), some (.d (jD b)), none, none, none, none] st = .nx [some (.d (jT ns)), some (.d (jT lit)), some (.d (jD b)), none, none, none, none] st := by simp [require_layout_ok L]
  have g2 : sExpr (eCall sem_require_state (aCons (eV 0) (aCons (eV 1) aNil))) [some (.d (jT ns)), some (.d (jT lit)), some (.d (jD b)), none, none, none, none] st = .nx [some (.d (jT ns)), some (.d (jT lit)), some (.d (jD b)), none, none, none, none] st := by simp [require_state_ok S]
  have g3 : sExpr (eCall sem_require_button (aCons (eV 0) (aCons (eV 2) aNil))) [some (.d (jT ns)), some (.d (jT lit)), some (.d (jD b)), none, none, none, none] st = .nx [some (.d (jT ns)), some (.d (jT lit)), some (.d (jD b)), none, none, none, none] st := by simp [require_button_ok h1 h2]
  have e0 : eTup (aCons (eCall sem_heard_in (aCons (eV 0) (aCons (eV 1) aNil))) (aCons (eCall sem_heard_in (aCons (eV 0) (aCons (eCall sem_after_press (aCons (eV 1) (aCons (eV 2) aNil))) aNil))) aNil)) [some (.d (jT ns)), some (.d (jT lit)), some (.d (jD b)), none, none, none, none] st = .ok (.d (.tuple [jT (heardIn ns lit), jT (heardIn ns (afterPress lit b))])) st := by
    simp [heard_in_ok L, after_press_ok lit b (Nat.le_trans (sta_len L S) (by decide))]
  rw [sSeq_ev, g1, seqK_nx, sSeq_ev, g2, seqK_nx, sSeq_ev, g3, seqK_nx, sSeq_ev, sAsg_tp, e0]
  simp only [outOf_ok, tpK_tup]
  show sSeq _ _ [some (.d (jT ns)), some (.d (jT lit)), some (.d (jD b)), some (.d (jT (heardIn ns lit))), some (.d (jT (heardIn ns (afterPress lit b)))), none, none] st = _
  rw [sSeq_ev, sAsg_nm, eLc_selT (p := fun x : Str => !memB x (heardIn ns (afterPress lit b))) (xs := heardIn ns lit) (j := none) (ex := true) rfl rfl]
  · simp only [outOf_ok, seqK_nx, List.set]
    rw [sRet_ev, eTup_ev, aCons_ev, show eB tupleD (aCons (eV 5) aNil) [some (.d (jT ns)), some (.d (jT lit)), some (.d (jD b)), some (.d (jT (heardIn ns lit))), some (.d (jT (heardIn ns (afterPress lit b)))), some (.d (jL ((heardIn ns lit).filter fun x => !memB x (heardIn ns (afterPress lit b))))), none] st = .ok (.d (jT ((heardIn ns lit).filter fun x => !memB x (heardIn ns (afterPress lit b))))) st from rfl, bind_ok, aCons_ev, eB_ev, aCons_ev, eLc_selT (p := fun x : Str => !memB x (heardIn ns lit)) (xs := heardIn ns (afterPress lit b)) (j := none) (ex := true) rfl rfl]
    · rfl
    · intro x _
      refine lcT_ok rfl ?_ fun _ => rfl
      show ansD st (isinD true (.d (jD x)) (.d (jT (heardIn ns lit))) st) = _
      rw [isinT_t]
      rfl
  · intro x _
    refine lcT_ok rfl ?_ fun _ => rfl
    show ansD st (isinD true (.d (jD x)) (.d (jT (heardIn ns (afterPress lit b)))) st) = _
    rw [isinT_t]
    rfl
end DL
set_option maxHeartbeats 200000
/-! F layer, part 14: idle buttons. -/
namespace DL
open PySem PySem.W
variable {st : Sto}
theorem eLcN_selT {α : Type} [DecidableEq α] [DatumOrd α] {r : Vn} {fi : SI} {tg : Tgt} {ft fe : SE} {vs : List Nat} {p : α → Bool} {xs : List α} {j : Option Nat} {ex : Bool} (hi : fi r st = .ok (xs.map Datum.toD, j, ex) st) (hz : okG st (xs.map Datum.toD, j, ex) = true) (h : ∀ x ∈ xs, lcT ex r vs tg ft fe (Datum.toD x) st = .ok (if p x = true then some (jD x) else none) st) :
    eLcN fi tg ft fe vs r st = .ok (.o st.length) (st ++ [.lst ((xs.filter p).map Datum.toD)]) := by
  have e := eLc_selT (p := p) (xs := xs) hi hz h
  unfold eLc at e
  unfold eLcN
  cases h0 : eLc0 fi tg ft fe vs r st with
  | ok ys s =>
    rw [h0] at e
    cases e
    rfl
  | exc c s => rw [h0] at e; cases e
  | stuck => rw [h0] at e; cases e
def idleOf (ns : Nodes) (lit : Lights) : Lights := (allButtons ns).filter fun b => decide (heardIn ns (afterPress lit b) = heardIn ns lit)
theorem idle_ok {ns : Nodes} (L : Lay ns) {lit : Lights} (S : Sta ns lit) : sem_idle_buttons [.d (jT ns), .d (jT lit)] st = .ok (.o st.length) (st ++ [.lst ((idleOf ns lit).map Datum.toD)]) := by
  refine fnD_new (i := st.length) (s1 := st ++ [.lst ((idleOf ns lit).map Datum.toD)]) ?_ (Nat.le_refl _) (by simp) (by simp)
  show body_idle_buttons [some (.d (jT ns)), some (.d (jT lit)), none, none] st = _
  unfold body_idle_buttons
  have g1 : sExpr (eCall sem_require_layout (aCons (eV 0) aNil)) [some (.d (jT ns)), some (.d (jT lit)), none, none] st = .nx [some (.d (jT ns)), some (.d (jT lit)), none, none] st := by simp [require_layout_ok L]
  have g2 : sExpr (eCall sem_require_state (aCons (eV 0) (aCons (eV 1) aNil))) [some (.d (jT ns)), some (.d (jT lit)), none, none] st = .nx [some (.d (jT ns)), some (.d (jT lit)), none, none] st := by simp [require_state_ok S]
  have e0 : eCall sem_heard_in (aCons (eV 0) (aCons (eV 1) aNil)) [some (.d (jT ns)), some (.d (jT lit)), none, none] st = .ok (.d (jT (heardIn ns lit))) st := heard_in_ok L lit
  rw [sSeq_ev, g1, seqK_nx, sSeq_ev, g2, seqK_nx, sSeq_ev, sAsg_nm, e0]
  simp only [outOf_ok, seqK_nx, List.set]
  rw [sRet_ev, eLcN_selT (p := fun b : Str × Str => decide (heardIn ns (afterPress lit b) = heardIn ns lit)) (xs := allButtons ns) (j := none) (ex := true)]
  · rfl
  · have e1 : eCall sem_all_buttons (aCons (eV 0) aNil) [some (.d (jT ns)), some (.d (jT lit)), some (.d (jT (heardIn ns lit))), none] st = .ok (.d (jL (allButtons ns))) st := all_buttons_ok L
    rw [iOf_ev, e1]
    rfl
  · rfl
  · intro b _
    refine lcT_ok rfl ?_ fun _ => rfl
    have e2 : eCall sem_heard_in (aCons (eV 0) (aCons (eCall sem_after_press (aCons (eV 1) (aCons (eV 3) aNil))) aNil)) [some (.d (jT ns)), some (.d (jT lit)), some (.d (jT (heardIn ns lit))), some (.d (jD b))] st = .ok (.d (jT (heardIn ns (afterPress lit b)))) st := by
      simp [heard_in_ok L, after_press_ok lit b (Nat.le_trans (sta_len L S) (by decide))]
    show eBin eqD _ (eV 2) [some (.d (jT ns)), some (.d (jT lit)), some (.d (jT (heardIn ns lit))), some (.d (jD b))] st = _
    have h := eqD_t (st := st) (Tup.mk (heardIn ns (afterPress lit b))) (Tup.mk (heardIn ns lit))
    rw [eBin_ev, e2, bind_ok, eV2, bind_ok, show eqD (.d (jT (heardIn ns (afterPress lit b)))) (.d (jT (heardIn ns lit))) st = _ from h]
    have hd : decide (Tup.mk (heardIn ns (afterPress lit b)) = Tup.mk (heardIn ns lit)) = decide (heardIn ns (afterPress lit b) = heardIn ns lit) := decide_eq_decide.mpr ⟨fun e => congrArg Tup.items e, fun e => by rw [e]⟩
    rw [hd]
    rfl
end DL
set_option maxHeartbeats 200000
namespace DL.K21
open PySem PySem.Spec PyProof.Rows L2 DL
/-- _law_outcome(call, nodes, button, e) -/
def body__law_outcome : SS :=
  (sSeq (sTry errCs errName (sIf (eBin eqD (eV 0) (eK (.int 0)))
  (sExpr (eCall sem_pressed (aCons (eV 1) (aCons (eTup aNil) (aCons (eV 2) aNil)))))
  (sExpr (eCall sem_effect (aCons (eV 1) (aCons (eTup aNil) (aCons (eV 2) aNil)))))))
  (sRet (eK (.str "fine"))))
def sem__law_outcome : SF := fnD 4 body__law_outcome
/-- law(script, k, source, nodes, lit, idle, told, button, later, after, lost, found, name, odd, track, call) -/
def body_law : SS :=
  (sSeq (sFor (iRg (aCons (eB maxD2 (aCons (eK (.int 5)) (aCons (eB minD2 (aCons (eK (.int 24)) (aCons (eB lenD (aCons (eV 0) aNil)) aNil))) aNil))) aNil)) (.nm 1)
  (sSeq (sAsg (eCall sem__law_source (aCons (eV 0) (aCons (eV 1) aNil))) (.nm 2))
  (sSeq (sAsg (eCall sem__law_nodes (aCons (eV 2) (aCons (eK (.int 10)) aNil))) (.nm 3))
  (sSeq (sPar 4 5 (aCons (eCall sem__law_lights (aCons (eV 2) (aCons (eV 3) aNil))) (aCons (eLstN aNil) aNil)))
  (sSeq (sAsg (eCall sem__law_sounds (aCons (eV 3) (aCons (eV 4) aNil))) (.nm 6))
  (sSeq (sFor (iOf (eCall sem__law_all_buttons (aCons (eV 3) aNil))) (.nm 7)
  (sSeq (sAsg (eCall sem__law_turned (aCons (eV 4) (aCons (eV 7) aNil))) (.nm 8))
  (sSeq (sAsg (eCall sem__law_sounds (aCons (eV 3) (aCons (eV 8) aNil))) (.nm 9))
  (sSeq (sIf (eOr (eBin neD (eCall sem_pressed (aCons (eV 3) (aCons (eV 4) (aCons (eV 7) aNil)))) (eV 8)) (eBin neD (eCall sem_pressed (aCons (eV 3) (aCons (eV 8) (aCons (eV 7) aNil)))) (eV 4)))
  (sRet (eK (.bool false)))
  sNil)
  (sSeq (sAsg (eB tupleD (aCons (eLc (iOf (eV 6)) (.nm 14) (eBin (isinD true) (eV 14) (eV 9)) (eV 14) [14]) aNil)) (.nm 10))
  (sSeq (sIf (eBin neD (eCall sem_effect (aCons (eV 3) (aCons (eV 4) (aCons (eV 7) aNil)))) (eTup (aCons (eV 10) (aCons (eB tupleD (aCons (eLc (iOf (eV 9)) (.nm 14) (eBin (isinD true) (eV 14) (eV 6)) (eV 14) [14]) aNil)) aNil))))
  (sRet (eK (.bool false)))
  sNil)
  (sIf (eBin eqD (eV 9) (eV 6))
  (sExpr (eMth mAppend (eV 5) (aCons (eV 7) aNil)))
  sNil)))))))
  (sSeq (sIf (eBin neD (eFz (eCall sem_idle_buttons (aCons (eV 3) (aCons (eV 4) aNil)))) (eV 5))
  (sRet (eK (.bool false)))
  sNil)
  (sSeq (sAsg (eCall sem_idle_buttons (aCons (eV 3) (aCons (eV 4) aNil))) (.nm 11))
  (sSeq (sExpr (eMth mAppend (eV 11) (aCons (eK .none) aNil)))
  (sSeq (sIf (eBin neD (eFz (eCall sem_idle_buttons (aCons (eV 3) (aCons (eV 4) aNil)))) (eV 5))
  (sRet (eK (.bool false)))
  sNil)
  (sSeq (sAsg (eBin ixD (eBin ixD (eV 3) (eK (.int 0))) (eK (.int 0))) (.nm 12))
  (sFor (iOf (eLst (aCons (eK .none) (aCons (eK (.str "mute")) (aCons (eTup (aCons (eK (.str "mute")) aNil)) (aCons (eTup (aCons (eK (.str "mute")) (aCons (eK (.str "zz")) aNil))) (aCons (eTup (aCons (eK (.str "Solo")) (aCons (eV 12) aNil))) (aCons (eLst (aCons (eK (.str "mute")) (aCons (eV 12) aNil))) (aCons (eTup (aCons (eV 12) (aCons (eK (.str "mute")) aNil))) aNil))))))))) (.nm 13)
  (sIf (eBin neD (eLc (iOf (eLst (aCons (eK (.int 0)) (aCons (eK (.int 1)) aNil)))) (.nm 15) eYes (eCall sem__law_outcome (aCons (eV 15) (aCons (eV 3) (aCons (eV 13) aNil)))) [15]) (eBin mulD (eLst (aCons (eK (.str "button")) aNil)) (eK (.int 2))))
  (sRet (eK (.bool false)))
  sNil)))))))))))))
  (sRet (eBin eqD (eFz (eCall sem_idle_buttons (aCons (eTup (aCons (eTup (aCons (eK (.str "a")) (aCons (eK (.str "")) aNil))) (aCons (eTup (aCons (eK (.str "b")) (aCons (eK (.str "")) aNil))) aNil))) (aCons (eTup (aCons (eTup (aCons (eK (.str "mute")) (aCons (eK (.str "a")) aNil))) aNil)) aNil)))) (eLst (aCons (eTup (aCons (eK (.str "solo")) (aCons (eK (.str "b")) aNil))) aNil)))))
def sem_law : SF := fnD 16 body_law
end DL.K21
set_option maxHeartbeats 200000
namespace DL.K21
open PySem PySem.W DL
variable {st : Sto}
def odds (x : Str) : List PyData := [.none, .str "mute", .tuple [.str "mute"], jD (("mute" : Str), ("zz" : Str)), jD (("Solo" : Str), x), .list [.str "mute", .str x], jD (x, ("mute" : Str))]
theorem odd_no {ns : Nodes} (hp : ∀ y ∈ namesOf ns, y ∈ pool) {x : Str} (hx : x ∈ namesOf ns) : ∀ v ∈ odds x, ∀ st : Sto, sem_is_button [.d (jT ns), .d v] st = .ok (.d (.bool false)) st := by
  intro v hv st
  simp only [odds, List.mem_cons, List.not_mem_nil, or_false] at hv
  rcases hv with rfl | rfl | rfl | rfl | rfl | rfl | rfl
  · exact fnD_ret (s1 := st) rfl List.take_length
  · exact fnD_ret (s1 := st) rfl List.take_length
  · exact fnD_ret (s1 := st) rfl List.take_length
  · rw [is_button_pair, memB_no (fun h => absurd (hp _ h) (by decide +kernel)), Bool.and_false]
  · rw [is_button_pair, memB_no (show ("Solo" : Str) ∉ kinds by decide +kernel), Bool.false_and]
  · exact fnD_ret (s1 := st) rfl List.take_length
  · rw [is_button_pair, memB_no (fun h => ?_), Bool.false_and]
    have h1 := hp _ hx
    simp only [kinds, List.mem_cons, List.not_mem_nil, or_false] at h
    rcases h with h | h
    · rw [show x = ("mute" : Str) from h] at h1
      exact absurd h1 (by decide +kernel)
    · rw [show x = ("solo" : Str) from h] at h1
      exact absurd h1 (by decide +kernel)
theorem no_button {ns : Nodes} {v : PyData} (h : ∀ st : Sto, sem_is_button [.d (jT ns), .d v] st = .ok (.d (.bool false)) st) : sem_require_button [.d (jT ns), .d v] st = .exc "InvalidButton" st := by
  refine fnD_exc (r1 := [some (.d (jT ns)), some (.d v)]) (s1 := st) ?_ List.take_length
  show body_require_button [some (.d (jT ns)), some (.d v)] st = _
  simp [body_require_button, h]
theorem sta_nil (ns : Nodes) : Sta ns [] := ⟨fun _ h => (by cases h), fun _ h => (by cases h), List.Pairwise.nil⟩
theorem out_odd {ns : Nodes} (L : Lay ns) {c : Int} {v : PyData} (h : ∀ st : Sto, sem_is_button [.d (jT ns), .d v] st = .ok (.d (.bool false)) st) : sem__law_outcome [.d (.int c), .d (jT ns), .d v] st = .ok (.d (.str "button")) st := by
  have hp : sem_pressed [.d (jT ns), .d (jT ([] : Lights)), .d v] st = .exc "InvalidButton" st := by
    refine fnD_exc (r1 := [some (.d (jT ns)), some (.d (jT ([] : Lights))), some (.d v)]) (s1 := st) ?_ List.take_length
    show body_pressed [some (.d (jT ns)), some (.d (jT ([] : Lights))), some (.d v)] st = _
    have e := require_state_ok (st := st) (sta_nil ns)
    simp only [body_pressed, sSeq_ev, sExpr_ev, eCall_ev, aCons_ev, eV0, eV1, eV2, bind_ok, aNil_ev, require_layout_ok L, outOf_ok, seqK_nx, e, no_button h, outOf_exc, seqK_exc]
  have he : sem_effect [.d (jT ns), .d (jT ([] : Lights)), .d v] st = .exc "InvalidButton" st := by
    refine fnD_exc (r1 := [some (.d (jT ns)), some (.d (jT ([] : Lights))), some (.d v), none, none, none, none]) (s1 := st) ?_ List.take_length
    show body_effect [some (.d (jT ns)), some (.d (jT ([] : Lights))), some (.d v), none, none, none, none] st = _
    have e := require_state_ok (st := st) (sta_nil ns)
    simp only [body_effect, sSeq_ev, sExpr_ev, eCall_ev, aCons_ev, eV0, eV1, eV2, bind_ok, aNil_ev, require_layout_ok L, outOf_ok, seqK_nx, e, no_button h, outOf_exc, seqK_exc]
  refine fnD_ret (s1 := st) ?_ List.take_length
  show body__law_outcome [some (.d (.int c)), some (.d (jT ns)), some (.d v), none] st = _
  unfold body__law_outcome
  have e : (sIf (eBin eqD (eV 0) (eK (.int 0))) (sExpr (eCall sem_pressed (aCons (eV 1) (aCons (eTup aNil) (aCons (eV 2) aNil))))) (sExpr (eCall sem_effect (aCons (eV 1) (aCons (eTup aNil) (aCons (eV 2) aNil)))))) [some (.d (.int c)), some (.d (jT ns)), some (.d v), none] st = .exc "InvalidButton" [some (.d (.int c)), some (.d (jT ns)), some (.d v), none] st := by
    by_cases hc : c = 0
    · have h1 : eBin eqD (eV 0) (eK (.int 0)) [some (.d (.int c)), some (.d (jT ns)), some (.d v), none] st = .ok (.d (.bool true)) st := by
        rw [eBin_ev, eV0, bind_ok, eK_ev, bind_ok, eqD_i, decide_eq_true hc]
        rfl
      have h2 : eCall sem_pressed (aCons (eV 1) (aCons (eTup aNil) (aCons (eV 2) aNil))) [some (.d (.int c)), some (.d (jT ns)), some (.d v), none] st = .exc "InvalidButton" st := hp
      rw [sIf_yes h1, sExpr_ev, h2]
      rfl
    · have h1 : eBin eqD (eV 0) (eK (.int 0)) [some (.d (.int c)), some (.d (jT ns)), some (.d v), none] st = .ok (.d (.bool false)) st := by
        rw [eBin_ev, eV0, bind_ok, eK_ev, bind_ok, eqD_i, decide_eq_false hc]
        rfl
      have h2 : eCall sem_effect (aCons (eV 1) (aCons (eTup aNil) (aCons (eV 2) aNil))) [some (.d (.int c)), some (.d (jT ns)), some (.d v), none] st = .exc "InvalidButton" st := he
      rw [sIf_no h1, sExpr_ev, h2]
      rfl
  rw [sSeq_ev]
  unfold sTry
  rw [e]
  rfl
end DL.K21
namespace DL.K21
open PySem PySem.W DL
theorem post_par {r : Vn} {st s1 : Sto} {Q : Vn → Sto → Prop} {B : SS} {fa : SA} {i j : Nat} {x y : Dv} (h : fa r st = .ok [x, y] s1) (k : Post (B ((r.set i (some x)).set j (some y)) s1) Q) : Post (sSeq (sPar i j fa) B r st) Q := by
  rw [sSeq_ev, sPar_ev, h]
  exact k
theorem ret_after {A B : SS} {r : Vn} {s : Sto} {v : Dv} {Q : Vn → Sto → Prop} (h : Post (A r s) Q) (k : ∀ r' s', Q r' s' → ∃ s2, B r' s' = .ret v s2) : ∃ s2, sSeq A B r s = .ret v s2 := by
  obtain ⟨r', s', e, q⟩ := h
  rw [sSeq_ev, e]
  exact k r' s' q
theorem len15 {xs : Vn} (h : xs.length = 15) : ∃ x1 x2 x3 x4 x5 x6 x7 x8 x9 x10 x11 x12 x13 x14 x15, xs = [x1, x2, x3, x4, x5, x6, x7, x8, x9, x10, x11, x12, x13, x14, x15] := by
  match xs, h with
  | [x1, x2, x3, x4, x5, x6, x7, x8, x9, x10, x11, x12, x13, x14, x15], _ => exact ⟨_, _, _, _, _, _, _, _, _, _, _, _, _, _, _, rfl⟩
abbrev R (s k src n lit idle told b later after lost found name x13 x14 x15 : Option Dv) : Vn := [s, k, src, n, lit, idle, told, b, later, after, lost, found, name, x13, x14, x15]
theorem ne_o {α : Type} [DecidableEq α] [DatumOrd α] {S : Sto} {i : Nat} {xs ys : List α} (h : S[i]? = some (.lst (ys.map Datum.toD))) (e : xs = ys) (hd : Datum.depth (List α) ≤ 60 := by decide) : neD (.d (jL xs)) (.o i) S = some (.bool false) := by
  have h1 := neL_self (st := S) e hd
  have h2 : deref S (.o i) = some (jL ys) := by simp [deref, h]
  unfold neD at h1 ⊢
  rw [h2]
  exact h1
theorem idle_fz {ns : Nodes} (L : Lay ns) {lit : Lights} (S : Sta ns lit) {r : Vn} {s : Sto} {f g : SE} (hf : f r s = .ok (.d (jT ns)) s) (hg : g r s = .ok (.d (jT lit)) s) : eFz (eCall sem_idle_buttons (aCons f (aCons g aNil))) r s = .ok (.d (jL (idleOf ns lit))) s := eFz_new (by
  rw [eCall_ev, aCons_ev, hf, bind_ok, aCons_ev, hg, bind_ok, aNil_ev, bind_ok, bind_ok, bind_ok]
  exact idle_ok L S)
end DL.K21
namespace DL.K21
open PySem PySem.W DL
def nd0 : Nodes := [("a", ""), ("b", "")]
def lit0 : Lights := [("mute", "a")]
theorem lay0 : Lay nd0 := ⟨by decide, by decide, by decide +kernel, by decide +kernel, fun pre p post e => .inl (by
  have hp : p ∈ nd0 := by rw [e]; simp
  simp only [nd0, List.mem_cons, List.not_mem_nil, or_false] at hp
  rcases hp with rfl | rfl <;> rfl)⟩
theorem sta0 : Sta nd0 lit0 := ⟨by decide +kernel, by decide +kernel, List.pairwise_singleton ..⟩
theorem pySort_eq {α : Type} [DecidableEq α] [DatumOrd α] [Tri α] {xs ys : List α} (h : Rising ys) (hn : xs.Nodup) (hm : ∀ x, x ∈ ys ↔ x ∈ xs) : pySort xs = ys := Rising.ext (pySort_rising hn) h fun x => mem_pySort.trans (hm x).symm
theorem tr0 : tracksOf nd0 = ([("a" : Str), "b"] : List Str) := pySort_eq (by unfold Rising; decide +kernel) (by decide +kernel) (fun x => by simp [nd0, namesOf, memB]; rintro (rfl | rfl) <;> decide +kernel)
theorem btn0 : allButtons nd0 = ([("mute", "a"), ("mute", "b"), ("solo", "a"), ("solo", "b")] : List (Str × Str)) := pySort_eq (by unfold Rising; decide +kernel) (by decide +kernel) (fun x => by simp [nd0, namesOf])
theorem af0 : afterPress lit0 ("mute", "a") = [] := by decide +kernel
theorem af1 : afterPress lit0 ("mute", "b") = ([("mute", "a"), ("mute", "b")] : List (Str × Str)) := pySort_eq (by unfold Rising; decide +kernel) (by decide +kernel) (fun x => by simp [lit0])
theorem af2 : afterPress lit0 ("solo", "a") = ([("mute", "a"), ("solo", "a")] : List (Str × Str)) := pySort_eq (by unfold Rising; decide +kernel) (by decide +kernel) (fun x => by simp [lit0])
theorem af3 : afterPress lit0 ("solo", "b") = ([("mute", "a"), ("solo", "b")] : List (Str × Str)) := pySort_eq (by unfold Rising; decide +kernel) (by decide +kernel) (fun x => by simp [lit0])
theorem idle0 : idleOf nd0 lit0 = [(("solo" : Str), ("b" : Str))] := by
  unfold idleOf heardIn
  rw [btn0, tr0]
  simp only [List.filter_cons, List.filter_nil, af0, af1, af2, af3]
  decide +kernel
theorem law_true (ns : List Int) (h : ns.length ≤ 63) : sem_law [.s ns] [] = .ok (.d (.bool true)) [] := by
  have main : ∃ s2, body_law [some (.s ns), none, none, none, none, none, none, none, none, none, none, none, none, none, none, none] [] = .ret (.d (.bool true)) s2 := by
    unfold body_law
    refine ret_after (Q := fun _ _ => True) ?_ fun r s _ => ⟨s, ?_⟩
    · obtain ⟨n, hn, er⟩ := rounds_ev (ns := ns) (lo := 5) (hi := 24) (r := [some (.s ns), none, none, none, none, none, none, none, none, none, none, none, none, none, none, none]) (st := []) rfl (by decide) (by decide) (by decide) (by decide)
      refine post_for1 (em := fun i : Nat => PyData.int (0 + i)) (xs := List.range n) (I := fun _ r _ => ∃ xs : Vn, r = some (.s ns) :: xs ∧ xs.length = 15) er (fun _ _ _ _ => rfl) ⟨_, rfl, rfl⟩ ?_ (fun _ _ _ => trivial)
      rintro pre k post ek r s ⟨xs, rfl, hx⟩
      obtain ⟨x1, x2, x3, x4, x5, x6, x7, x8, x9, x10, x11, x12, x13, x14, x15, rfl⟩ := len15 hx
      have hk : k < 64 := by
        have : k ∈ List.range n := by rw [ek]; simp
        have := List.mem_range.mp this
        omega
      refine ⟨R (some (.s ns)) (some (.d (.int (0 + k)))) x2 x3 x4 x5 x6 x7 x8 x9 x10 x11 x12 x13 x14 x15, rfl, ?_⟩
      obtain ⟨o, so, e0⟩ := source_ok (ns := ns) (k := 0 + k) (st := s) (by omega) (by omega)
      refine post_asg (v := .o s.length) (s1 := s ++ [o]) e0 ?_
      obtain ⟨nd, o1, L, _, hp, so1, e1⟩ := law_nodes_ok (st := s ++ [o]) (i := s.length) (o := o) (most := 10) (by simp) so (by decide) (by decide)
      refine post_asg (v := .d (jT nd)) (s1 := (s ++ [o]).set s.length o1) e1 ?_
      generalize hS : (s ++ [o]).set s.length o1 = S
      have hSi : S[s.length]? = some o1 := by rw [← hS]; simp
      have hSl : s.length < S.length := (List.getElem?_eq_some_iff.mp hSi).1
      obtain ⟨lit, o2, hsub, so2, e2⟩ := law_lights_ok L hSi so1
      have sta := sub_state L hsub
      generalize hT : S.set s.length o2 = T at e2
      refine post_par (x := .d (jT lit)) (y := .o T.length) (s1 := T ++ [Ob.lst []]) ?_ ?_
      · have e3 : eCall sem__law_lights (aCons (eV 2) (aCons (eV 3) aNil)) (R (some (.s ns)) (some (.d (.int (0 + k)))) (some (.o s.length)) (some (.d (jT nd))) x4 x5 x6 x7 x8 x9 x10 x11 x12 x13 x14 x15) S = .ok (.d (jT lit)) T := e2
        show aCons _ _ (R (some (.s ns)) (some (.d (.int (0 + k)))) (some (.o s.length)) (some (.d (jT nd))) x4 x5 x6 x7 x8 x9 x10 x11 x12 x13 x14 x15) S = _
        rw [aCons_ev, e3]
        rfl
      refine post_asg (v := .d (jT (soundsOf nd lit))) (s1 := T ++ [Ob.lst []]) (law_sounds_ok L lit) ?_
      let same : Str × Str → Bool := fun b => decide (soundsOf nd (afterPress lit b) = soundsOf nd lit)
      refine post_for (em := Datum.toD) (xs := allButtons nd) (j := none) (ex := true) (s1 := T ++ [Ob.lst []]) (I := fun pre r u => (∃ x7 x8 x9 x10 x14, r = R (some (.s ns)) (some (.d (.int (0 + k)))) (some (.o s.length)) (some (.d (jT nd))) (some (.d (jT lit))) (some (.o T.length)) (some (.d (jT (soundsOf nd lit)))) x7 x8 x9 x10 x11 x12 x13 x14 x15) ∧ u = T ++ [Ob.lst ((pre.filter same).map Datum.toD)]) ?_ (fun _ _ _ _ => rfl) ⟨⟨x7, x8, x9, x10, x14, rfl⟩, rfl⟩ ?_ ?_
      · have ea : eCall sem__law_all_buttons (aCons (eV 3) aNil) (R (some (.s ns)) (some (.d (.int (0 + k)))) (some (.o s.length)) (some (.d (jT nd))) (some (.d (jT lit))) (some (.o T.length)) (some (.d (jT (soundsOf nd lit)))) x7 x8 x9 x10 x11 x12 x13 x14 x15) (T ++ [Ob.lst []]) = .ok (.d (jL (allButtons nd))) (T ++ [Ob.lst []]) := law_all_buttons_ok L
        show iOf _ (R (some (.s ns)) (some (.d (.int (0 + k)))) (some (.o s.length)) (some (.d (jT nd))) (some (.d (jT lit))) (some (.o T.length)) (some (.d (jT (soundsOf nd lit)))) x7 x8 x9 x10 x11 x12 x13 x14 x15) (T ++ [Ob.lst []]) = _
        rw [iOf_ev, ea]
        rfl
      · rintro pre b post e r u ⟨⟨x7, x8, x9, x10, x14, rfl⟩, rfl⟩
        have hb : b ∈ allButtons nd := by rw [e]; simp
        obtain ⟨hb1, hb2⟩ := mem_buttons.mp hb
        generalize hU : T ++ [Ob.lst ((pre.filter same).map Datum.toD)] = U
        have hUi : U[T.length]? = some (.lst ((pre.filter same).map Datum.toD)) := by rw [← hU]; simp
        have sta2 := sta.press hb1 hb2
        have l1 : lit.length ≤ 1000 := Nat.le_trans (sta_len L sta) (by decide)
        refine ⟨R (some (.s ns)) (some (.d (.int (0 + k)))) (some (.o s.length)) (some (.d (jT nd))) (some (.d (jT lit))) (some (.o T.length)) (some (.d (jT (soundsOf nd lit)))) (some (.d (jD b))) x8 x9 x10 x11 x12 x13 x14 x15, rfl, ?_⟩
        refine post_asg (v := .d (jT (afterPress lit b))) (s1 := U) (law_turned_ok lit b l1) ?_
        refine post_asg (v := .d (jT (soundsOf nd (afterPress lit b)))) (s1 := U) (law_sounds_ok L (afterPress lit b)) ?_
        refine post_ifn (s1 := U) ((eOr_f (neq_false (x := .d (jT (afterPress lit b))) (y := .d (jT (afterPress lit b))) (pressed_ok L sta hb1 hb2) rfl (neT_self rfl))).trans (neq_false (x := .d (jT (afterPress (afterPress lit b) b))) (y := .d (jT lit)) (pressed_ok L sta2 hb1 hb2) rfl (neT_self (press_back sta.up b)))) ?_
        refine post_asg (v := .d (jT ((soundsOf nd lit).filter fun x => !memB x (soundsOf nd (afterPress lit b))))) (s1 := U) ?_ ?_
        · show eB tupleD _ (R (some (.s ns)) (some (.d (.int (0 + k)))) (some (.o s.length)) (some (.d (jT nd))) (some (.d (jT lit))) (some (.o T.length)) (some (.d (jT (soundsOf nd lit)))) (some (.d (jD b))) (some (.d (jT (afterPress lit b)))) (some (.d (jT (soundsOf nd (afterPress lit b))))) x10 x11 x12 x13 x14 x15) U = _
          rw [eB_ev, aCons_ev, eLc_selT (p := fun x : Str => !memB x (soundsOf nd (afterPress lit b))) (xs := soundsOf nd lit) (j := none) (ex := true) rfl rfl]
          · rfl
          · intro x _
            refine lcT_ok rfl ?_ fun _ => rfl
            show ansD U (isinD true (.d (jD x)) (.d (jT (soundsOf nd (afterPress lit b)))) U) = _
            rw [isinT_t]
            rfl
        refine post_ifn (s1 := U) (neq_false (x := .d (.tuple [jT ((heardIn nd lit).filter fun x => !memB x (heardIn nd (afterPress lit b))), jT ((heardIn nd (afterPress lit b)).filter fun x => !memB x (heardIn nd lit))])) (y := .d (.tuple [jT ((soundsOf nd lit).filter fun x => !memB x (soundsOf nd (afterPress lit b))), jT ((soundsOf nd (afterPress lit b)).filter fun x => !memB x (soundsOf nd lit))])) (effect_ok L sta hb1 hb2) ?_ ?_) ?_
        · show eTup _ (R (some (.s ns)) (some (.d (.int (0 + k)))) (some (.o s.length)) (some (.d (jT nd))) (some (.d (jT lit))) (some (.o T.length)) (some (.d (jT (soundsOf nd lit)))) (some (.d (jD b))) (some (.d (jT (afterPress lit b)))) (some (.d (jT (soundsOf nd (afterPress lit b))))) (some (.d (jT ((soundsOf nd lit).filter fun x => !memB x (soundsOf nd (afterPress lit b)))))) x11 x12 x13 x14 x15) U = _
          rw [eTup_ev, aCons_ev, eV10, bind_ok, aCons_ev, eB_ev, aCons_ev, eLc_selT (p := fun x : Str => !memB x (soundsOf nd lit)) (xs := soundsOf nd (afterPress lit b)) (j := none) (ex := true) rfl rfl]
          · rfl
          · intro x _
            refine lcT_ok rfl ?_ fun _ => rfl
            show ansD U (isinD true (.d (jD x)) (.d (jT (soundsOf nd lit))) U) = _
            rw [isinT_t]
            rfl
        · rw [sounds_heard, sounds_heard]
          exact ne_self ((Tup.mk ((heardIn nd lit).filter fun x => !memB x (heardIn nd (afterPress lit b))), Tup.mk ((heardIn nd (afterPress lit b)).filter fun x => !memB x (heardIn nd lit))) : Tup Str × Tup Str)
        have hq : eBin eqD (eV 9) (eV 6) (R (some (.s ns)) (some (.d (.int (0 + k)))) (some (.o s.length)) (some (.d (jT nd))) (some (.d (jT lit))) (some (.o T.length)) (some (.d (jT (soundsOf nd lit)))) (some (.d (jD b))) (some (.d (jT (afterPress lit b)))) (some (.d (jT (soundsOf nd (afterPress lit b))))) (some (.d (jT ((soundsOf nd lit).filter fun x => !memB x (soundsOf nd (afterPress lit b)))))) x11 x12 x13 x14 x15) U = .ok (.d (.bool (same b))) U := by
          have h := eqD_t (st := U) (Tup.mk (soundsOf nd (afterPress lit b))) (Tup.mk (soundsOf nd lit))
          have hd : decide (Tup.mk (soundsOf nd (afterPress lit b)) = Tup.mk (soundsOf nd lit)) = same b := decide_eq_decide.mpr ⟨fun e => congrArg Tup.items e, fun e => by rw [e]⟩
          rw [hd] at h
          rw [eBin_ev, eV9, bind_ok, eV6, bind_ok, show eqD (.d (jT (soundsOf nd (afterPress lit b)))) (.d (jT (soundsOf nd lit))) U = _ from h]
          rfl
        have plen : ((pre.filter same).map (Datum.toD : Str × Str → PyData)).length < 1000000 := by
          have h1 : (allButtons nd).length = nd.length + nd.length := by
            unfold allButtons
            rw [(pySort_perm _).length_eq]
            simp [namesOf]
          have h2 := L.le
          have h3 := List.length_filter_le same pre
          rw [e] at h1
          simp at h1 ⊢
          omega
        cases hsb : same b
        · rw [hsb] at hq
          refine post_ifn1 (s1 := U) hq ⟨⟨_, _, _, _, _, rfl⟩, ?_⟩
          rw [← hU]
          simp [List.filter_append, hsb]
        · rw [hsb] at hq
          refine ⟨R (some (.s ns)) (some (.d (.int (0 + k)))) (some (.o s.length)) (some (.d (jT nd))) (some (.d (jT lit))) (some (.o T.length)) (some (.d (jT (soundsOf nd lit)))) (some (.d (jD b))) (some (.d (jT (afterPress lit b)))) (some (.d (jT (soundsOf nd (afterPress lit b))))) (some (.d (jT ((soundsOf nd lit).filter fun x => !memB x (soundsOf nd (afterPress lit b)))))) x11 x12 x13 x14 x15, T ++ [Ob.lst (((pre ++ [b]).filter same).map Datum.toD)], ?_, ⟨_, _, _, _, _, rfl⟩, rfl⟩
          show sIf _ _ _ (R (some (.s ns)) (some (.d (.int (0 + k)))) (some (.o s.length)) (some (.d (jT nd))) (some (.d (jT lit))) (some (.o T.length)) (some (.d (jT (soundsOf nd lit)))) (some (.d (jD b))) (some (.d (jT (afterPress lit b)))) (some (.d (jT (soundsOf nd (afterPress lit b))))) (some (.d (jT ((soundsOf nd lit).filter fun x => !memB x (soundsOf nd (afterPress lit b)))))) x11 x12 x13 x14 x15) U = _
          rw [sIf_yes hq, sExpr_ev, eMth_ev, eV5, bind_ok, lst_at hUi]
          simp only [aCons_ev, eV7, bind_ok, aNil_ev, hUi, mAppend, if_pos plen, outOf_ok]
          rw [← hU]
          simp [List.filter_append, hsb]
      · rintro r u ⟨⟨x7, x8, x9, x10, x14, rfl⟩, rfl⟩
        have eI : (allButtons nd).filter same = idleOf nd lit := by
          unfold idleOf
          refine List.filter_congr fun b _ => ?_
          show decide (soundsOf nd (afterPress lit b) = soundsOf nd lit) = _
          rw [sounds_heard, sounds_heard]
        rw [eI]
        generalize hU : T ++ [Ob.lst ((idleOf nd lit).map Datum.toD)] = U
        have hUi : U[T.length]? = some (.lst ((idleOf nd lit).map Datum.toD)) := by rw [← hU]; simp
        have hUl : T.length < U.length := (List.getElem?_eq_some_iff.mp hUi).1
        refine post_ifn (s1 := U) (neq_false (x := .d (jL (idleOf nd lit))) (y := .o T.length) (idle_fz L sta rfl rfl) rfl (ne_o hUi rfl)) ?_
        refine post_asg (v := .o U.length) (s1 := U ++ [Ob.lst ((idleOf nd lit).map Datum.toD)]) (idle_ok L sta) ?_
        have hV : (U ++ [Ob.lst ((idleOf nd lit).map Datum.toD)])[U.length]? = some (.lst ((idleOf nd lit).map Datum.toD)) := by simp
        have plen : ((idleOf nd lit).map (Datum.toD : Str × Str → PyData)).length < 1000000 := by
          have h1 : (allButtons nd).length = nd.length + nd.length := by
            unfold allButtons
            rw [(pySort_perm _).length_eq]
            simp [namesOf]
          have h2 := L.le
          have h3 : (idleOf nd lit).length ≤ (allButtons nd).length := List.length_filter_le _ _
          simp
          omega
        refine post_expr (v := .d .none) (s1 := (U ++ [Ob.lst ((idleOf nd lit).map Datum.toD)]).set U.length (Ob.lst ((idleOf nd lit).map Datum.toD ++ [PyData.none]))) ?_ ?_
        · show eMth mAppend (eV 11) (aCons (eK .none) aNil) (R (some (.s ns)) (some (.d (.int (0 + k)))) (some (.o s.length)) (some (.d (jT nd))) (some (.d (jT lit))) (some (.o T.length)) (some (.d (jT (soundsOf nd lit)))) x7 x8 x9 x10 (some (.o U.length)) x12 x13 x14 x15) (U ++ [Ob.lst ((idleOf nd lit).map Datum.toD)]) = _
          rw [eMth_ev, eV11, bind_ok, lst_at hV]
          simp only [aCons_ev, eK_ev, bind_ok, aNil_ev, hV, mAppend, if_pos plen]
        have hY : ((U ++ [Ob.lst ((idleOf nd lit).map Datum.toD)]).set U.length (Ob.lst ((idleOf nd lit).map Datum.toD ++ [PyData.none])))[T.length]? = some (.lst ((idleOf nd lit).map Datum.toD)) := by
          rw [List.getElem?_set_ne (by omega), List.getElem?_append_left hUl]
          exact hUi
        generalize (U ++ [Ob.lst ((idleOf nd lit).map Datum.toD)]).set U.length (Ob.lst ((idleOf nd lit).map Datum.toD ++ [PyData.none])) = Y at hY
        refine post_ifn (s1 := Y) (neq_false (x := .d (jL (idleOf nd lit))) (y := .o T.length) (idle_fz L sta rfl rfl) rfl (ne_o hY rfl)) ?_
        obtain ⟨p, rest, hnd⟩ : ∃ p rest, nd = p :: rest := by
          cases nd with
          | nil => exact absurd L.ne (by decide)
          | cons p rest => exact ⟨p, rest, rfl⟩
        have hp1 : p.1 ∈ namesOf nd := by rw [hnd]; simp [namesOf]
        refine post_asg (v := .d (jD p.1)) (s1 := Y) ?_ ?_
        · show eBin ixD (eBin ixD (eV 3) (eK (.int 0))) (eK (.int 0)) (R (some (.s ns)) (some (.d (.int (0 + k)))) (some (.o s.length)) (some (.d (jT nd))) (some (.d (jT lit))) (some (.o T.length)) (some (.d (jT (soundsOf nd lit)))) x7 x8 x9 x10 (some (.o U.length)) x12 x13 x14 x15) Y = _
          have i1 : eBin ixD (eV 3) (eK (.int 0)) (R (some (.s ns)) (some (.d (.int (0 + k)))) (some (.o s.length)) (some (.d (jT nd))) (some (.d (jT lit))) (some (.o T.length)) (some (.d (jT (soundsOf nd lit)))) x7 x8 x9 x10 (some (.o U.length)) x12 x13 x14 x15) Y = .ok (.d (jD p)) Y := by
            rw [eBin_ev, eV3, bind_ok, eK_ev, bind_ok, ixD_t, hnd, List.map_cons, atI_0]
            rfl
          rw [eBin_ev, i1]
          rfl
        refine post_for1 (em := fun v : PyData => v) (xs := odds p.1) (j := none) (ex := true) (s1 := Y) (I := fun _ r u => u = Y ∧ ∃ x13 x15, r = R (some (.s ns)) (some (.d (.int (0 + k)))) (some (.o s.length)) (some (.d (jT nd))) (some (.d (jT lit))) (some (.o T.length)) (some (.d (jT (soundsOf nd lit)))) x7 x8 x9 x10 (some (.o U.length)) (some (.d (jD p.1))) x13 x14 x15) rfl (fun _ _ _ _ => rfl) ⟨rfl, x13, x15, rfl⟩ ?_ (fun _ _ q => ?_)
        · rintro pre v post e r u ⟨rfl, x13, x15, rfl⟩
          have hv := odd_no hp hp1 v (by rw [e]; simp)
          refine ⟨R (some (.s ns)) (some (.d (.int (0 + k)))) (some (.o s.length)) (some (.d (jT nd))) (some (.d (jT lit))) (some (.o T.length)) (some (.d (jT (soundsOf nd lit)))) x7 x8 x9 x10 (some (.o U.length)) (some (.d (jD p.1))) (some (.d v)) x14 x15, rfl, ?_⟩
          refine post_ifn1 (s1 := u) (neq_false (x := .d (jL (["button", "button"] : List Str))) (y := .d (jL (["button", "button"] : List Str))) (eLc_mapT (em := fun c : Int => PyData.int c) (g := fun _ : Int => ("button" : Str)) (xs := [0, 1]) rfl rfl ?_) rfl (neL_self rfl)) ⟨rfl, _, _, rfl⟩
          intro c _
          exact lcT_all rfl (out_odd L hv)
        · obtain ⟨_, x13, x15, rfl⟩ := q
          exact ⟨_, rfl, rfl⟩
    · have e1 := idle_fz (r := r) (s := s) lay0 sta0 (f := eTup (aCons (eTup (aCons (eK (.str "a")) (aCons (eK (.str "")) aNil))) (aCons (eTup (aCons (eK (.str "b")) (aCons (eK (.str "")) aNil))) aNil))) (g := eTup (aCons (eTup (aCons (eK (.str "mute")) (aCons (eK (.str "a")) aNil))) aNil)) rfl rfl
      rw [idle0] at e1
      rw [sRet_ev, eBin_ev, e1]
      rfl
  obtain ⟨s2, e⟩ := main
  exact fnD_ret e (by simp)
end DL.K21
set_option maxHeartbeats 200000
namespace DL.K21
open PySem PySem.Spec PyProof.Rows L2 DL
def topS (i : Nat) : Stmt := PySem.Challenge.pw_mutesolos_k21_presses_and_idle_buttons.main.body.getD i (.Pass ⟨0, 0, 0, 0⟩)
structure Csts (K : PySem.W.Frag) (mg : Str → Option Value) : Prop where
  LETTERS : ∃ t, mg "LETTERS" = some (.str "abcdefghijklmnopqrstuvwxyz" t)
  MAX_NAME : ∃ t, mg "MAX_NAME" = some (.int 8 t)
  MAX_NODES : ∃ t, mg "MAX_NODES" = some (.int 12 t)
  KINDS : mg "KINDS" = some (.ref (He.ga K "KINDS")) ∧ ∀ G, Rp K G (.ref (He.ga K "KINDS")) c_KINDS
abbrev s_is_name : Stmt := topS 16
abbrev s_is_layout : Stmt := topS 17
abbrev s_require_layout : Stmt := topS 18
abbrev s_names_of : Stmt := topS 19
abbrev s_tracks_of : Stmt := topS 20
abbrev s_is_node : Stmt := topS 21
abbrev s_is_button : Stmt := topS 22
abbrev s_is_rising : Stmt := topS 23
abbrev s_is_state_value : Stmt := topS 24
abbrev s_require_state : Stmt := topS 25
abbrev s_require_button : Stmt := topS 26
abbrev s_way_of : Stmt := topS 27
abbrev s_all_buttons : Stmt := topS 28
abbrev s_reason_for : Stmt := topS 30
abbrev s_heard_in : Stmt := topS 31
abbrev s_after_press : Stmt := topS 33
abbrev s_pressed : Stmt := topS 34
abbrev s_effect : Stmt := topS 35
abbrev s_idle_buttons : Stmt := topS 36
abbrev s__law_source : Stmt := topS 38
abbrev s__law_pick : Stmt := topS 39
abbrev s__law_error_name : Stmt := topS 40
abbrev s__law_nodes : Stmt := topS 41
abbrev s__law_way : Stmt := topS 42
abbrev s__law_ends : Stmt := topS 43
abbrev s__law_all_buttons : Stmt := topS 44
abbrev s__law_sounds : Stmt := topS 45
abbrev s__law_lights : Stmt := topS 46
abbrev s__law_turned : Stmt := topS 47
abbrev s__law_outcome : Stmt := topS 48
abbrev s_law : Stmt := topS 49
section
variable {P : Program} {w : World} {K : PySem.W.Frag} {mg : Str → Option Value} {base : Heap}
abbrev N_is_name : List Str := ["value", "sign"]
theorem sc_is_name : FnScope N_is_name ["value"] (defScope s_is_name) := ⟨rfl, rfl, rfl, by decide +kernel, rfl, by decide +kernel, by decide +kernel⟩
theorem walk_is_name {f : Addr} {fd : FuncData} (F : FunD K "is_name" "is_name" (defArgs s_is_name) (defBody s_is_name) (defScope s_is_name) [] [] f fd) (hm : mg "is_name" = some (.ref f)) (T : Txt mg) (C : Csts K mg)   : Def P w K mg base (He.ga K) "is_name" ["value"] 1 sem_is_name :=
  def_ok (N := N_is_name) (F := body_is_name) F sc_is_name hm (fun _ _ _ _ _ _ us hl => match us, hl with | [_], _ => rfl) fun cdv A outer s H E hr => by
    have hu := hu64 hr
    have hu1 := hu_of hr
    exact (dss_one (ds_ret (de_and (de_isi isT_str rfl T.isinstance bt_isinstance (de_n 0) rfl T.str bt_str) (de_and (de_chain (op_leP hu) snd_le (op_leP hu) snd_le de_int (de_b call_len snd_len rfl T.len bt_len (da_cons (de_n 0) da_nil)) (de_gint C.MAX_NAME rfl)) (de_one (de_b (cr_all rfl) snd_all rfl T.all bt_all (da_cons (de_lc (own := [("sign", 1)]) rfl sc_is_name.nd (di_of (de_n 0)) (blkOk_by (N := N_is_name) (sc := defScope s_is_name) (by decide +kernel)) (fun _ _ _ _ _ => (dg_n 1 sc_is_name.nd)) (fun _ _ _ _ _ => dts_nil) (fun _ _ _ _ _ => (de_cmp op_inSign snd_sign (de_n 1) (de_gstr C.LETTERS rfl) (by with_unfolding_all rfl)))) da_nil)))))))
abbrev N_is_layout : List Str := ["value", "names", "node"]
theorem sc_is_layout : FnScope N_is_layout ["value"] (defScope s_is_layout) := ⟨rfl, rfl, rfl, by decide +kernel, rfl, by decide +kernel, by decide +kernel⟩
theorem walk_is_layout {f : Addr} {fd : FuncData} (F : FunD K "is_layout" "is_layout" (defArgs s_is_layout) (defBody s_is_layout) (defScope s_is_layout) [] [] f fd) (hm : mg "is_layout" = some (.ref f)) (T : Txt mg) (C : Csts K mg)  (D_is_name : Def P w K mg base (He.ga K) "is_name" ["value"] 1 sem_is_name) : Def P w K mg base (He.ga K) "is_layout" ["value"] 2 sem_is_layout :=
  def_ok (N := N_is_layout) (F := body_is_layout) F sc_is_layout hm (fun _ _ _ _ _ _ us hl => match us, hl with | [_], _ => rfl) fun cdv A outer s H E hr => by
    have hu := hu64 hr
    have hu1 := hu_of hr
    exact (dss_cons (ds_if (PW.pt (dw_or (dt_not (dt_val (de_isi isT_tuple rfl T.isinstance bt_isinstance (de_n 0) rfl T.tuple bt_tuple))) (dw_or1 (dt_not (dt_chain (op_leP hu) snd_le (op_leP hu) snd_le de_int (de_b call_len snd_len rfl T.len bt_len (da_cons (de_n 0) da_nil)) (de_gint C.MAX_NODES rfl))))))
  (dss_one (ds_ret de_bool))
  dss_nil)
  (dss_cons (ds_setN 1 sc_is_layout.nd (de_lstN da_nil))
  (dss_cons (ds_for passB rfl (di_of (de_n 0)) (dg_n 2 sc_is_layout.nd)
  (dss_cons (ds_if (PW.pt (dw_or (dt_not (dt_val (de_isi isT_tuple rfl T.isinstance bt_isinstance (de_n 2) rfl T.tuple bt_tuple))) (dw_or (dt_cmp (op_neP hu) snd_ne (de_b call_len snd_len rfl T.len bt_len (da_cons (de_n 2) da_nil)) de_int (nomark _)) (dw_or (dt_not (dt_val (de_callD D_is_name (hr.mono (by decide)) takesB rfl (da_cons (de_ix (de_n 2) de_int) da_nil) (aLen_cons aLen_nil)))) (dw_or1 (dt_cmp (op_inP hu) snd_isin (de_ix (de_n 2) de_int) (de_n 1) (by with_unfolding_all rfl)))))))
  (dss_one (ds_ret de_bool))
  dss_nil)
  (dss_cons (ds_if (PW.pt (dw_or (dt_not (dt_val (de_isi isT_str rfl T.isinstance bt_isinstance (de_ix (de_n 2) de_int) rfl T.str bt_str))) (dw_or1 (PW.pt (dw_and (dt_cmp (op_neP hu) snd_ne (de_ix (de_n 2) de_int) de_str (nomark _)) (dw_and1 (dt_cmp (op_notInP hu) snd_isin (de_ix (de_n 2) de_int) (de_n 1) (by with_unfolding_all rfl))))))))
  (dss_one (ds_ret de_bool))
  dss_nil)
  (dss_one (ds_expr (de_mth PySem.F.slot_list_append PySem.F.type_list_append mt_append snd_append (de_n 1) (da_cons (de_ix (de_n 2) de_int) da_nil)))))))
  (dss_one (ds_ret de_bool)))))
abbrev N_require_layout : List Str := ["value"]
theorem sc_require_layout : FnScope N_require_layout ["value"] (defScope s_require_layout) := ⟨rfl, rfl, rfl, by decide +kernel, rfl, by decide +kernel, by decide +kernel⟩
theorem walk_require_layout {f : Addr} {fd : FuncData} (F : FunD K "require_layout" "require_layout" (defArgs s_require_layout) (defBody s_require_layout) (defScope s_require_layout) [] [] f fd) (hm : mg "require_layout" = some (.ref f)) (T : Txt mg)  (E_InvalidLayout : ExcOk K mg "InvalidLayout") (D_is_layout : Def P w K mg base (He.ga K) "is_layout" ["value"] 2 sem_is_layout) : Def P w K mg base (He.ga K) "require_layout" ["value"] 3 sem_require_layout :=
  def_ok (N := N_require_layout) (F := body_require_layout) F sc_require_layout hm (fun _ _ _ _ _ _ us hl => match us, hl with | [_], _ => rfl) fun cdv A outer s H E hr => by
    have hu := hu64 hr
    have hu1 := hu_of hr
    exact (dss_one (ds_if (dt_not (dt_val (de_callD D_is_layout (hr.mono (by decide)) takesB rfl (da_cons (de_n 0) da_nil) (aLen_cons aLen_nil))))
  (dss_one (ds_raise (c := "InvalidLayout") rfl takesB (E_InvalidLayout).1 (E_InvalidLayout).2.1 (E_InvalidLayout).2.2.1 (E_InvalidLayout).2.2.2.1 (E_InvalidLayout).2.2.2.2 rfl))
  dss_nil))
abbrev N_names_of : List Str := ["layout", "name", "parent"]
theorem sc_names_of : FnScope N_names_of ["layout"] (defScope s_names_of) := ⟨rfl, rfl, rfl, by decide +kernel, rfl, by decide +kernel, by decide +kernel⟩
theorem walk_names_of {f : Addr} {fd : FuncData} (F : FunD K "names_of" "names_of" (defArgs s_names_of) (defBody s_names_of) (defScope s_names_of) [] [] f fd) (hm : mg "names_of" = some (.ref f)) (T : Txt mg)    : Def P w K mg base (He.ga K) "names_of" ["layout"] 1 sem_names_of :=
  def_ok (N := N_names_of) (F := body_names_of) F sc_names_of hm (fun _ _ _ _ _ _ us hl => match us, hl with | [_], _ => rfl) fun cdv A outer s H E hr => by
    have hu := hu64 hr
    have hu1 := hu_of hr
    exact (dss_one (ds_ret (de_lc (own := [("name", 1), ("parent", 2)]) rfl sc_names_of.nd (di_of (de_n 0)) (blkOk_by (N := N_names_of) (sc := defScope s_names_of) (by decide +kernel)) (fun _ _ _ _ _ => (dg_tp rfl (dgs_cons (dg_n 1 sc_names_of.nd) (dgs_cons (dg_n 2 sc_names_of.nd) dgs_nil)))) (fun _ _ _ _ _ => dts_nil) (fun _ _ _ _ _ => (de_n 1)))))
abbrev N_tracks_of : List Str := ["layout", "parents", "name", "parent"]
theorem sc_tracks_of : FnScope N_tracks_of ["layout"] (defScope s_tracks_of) := ⟨rfl, rfl, rfl, by decide +kernel, rfl, by decide +kernel, by decide +kernel⟩
theorem walk_tracks_of {f : Addr} {fd : FuncData} (F : FunD K "tracks_of" "tracks_of" (defArgs s_tracks_of) (defBody s_tracks_of) (defScope s_tracks_of) [] [] f fd) (hm : mg "tracks_of" = some (.ref f)) (T : Txt mg)   (D_names_of : Def P w K mg base (He.ga K) "names_of" ["layout"] 1 sem_names_of) : Def P w K mg base (He.ga K) "tracks_of" ["layout"] 2 sem_tracks_of :=
  def_ok (N := N_tracks_of) (F := body_tracks_of) F sc_tracks_of hm (fun _ _ _ _ _ _ us hl => match us, hl with | [_], _ => rfl) fun cdv A outer s H E hr => by
    have hu := hu64 hr
    have hu1 := hu_of hr
    exact (dss_cons (ds_setN 1 sc_tracks_of.nd (de_lc (own := [("name", 2), ("parent", 3)]) rfl sc_tracks_of.nd (di_of (de_n 0)) (blkOk_by (N := N_tracks_of) (sc := defScope s_tracks_of) (by decide +kernel)) (fun _ _ _ _ _ => (dg_tp rfl (dgs_cons (dg_n 2 sc_tracks_of.nd) (dgs_cons (dg_n 3 sc_tracks_of.nd) dgs_nil)))) (fun _ _ _ _ _ => dts_nil) (fun _ _ _ _ _ => (de_n 3))))
  (dss_one (ds_ret (de_bN (cr_sortA hu) snd_sortA rfl T.sorted bt_sorted (da_cons (de_lc (own := [("name", 2)]) rfl sc_tracks_of.nd (di_of (de_callD D_names_of (hr.mono (by decide)) takesB rfl (da_cons (de_n 0) da_nil) (aLen_cons aLen_nil))) (blkOk_by (N := N_tracks_of) (sc := defScope s_tracks_of) (by decide +kernel)) (fun _ _ _ _ _ => (dg_n 2 sc_tracks_of.nd)) (fun _ _ _ _ _ => (dts_one (dt_cmp (op_notInP hu) snd_isin (de_n 2) (de_n 1) (by with_unfolding_all rfl)))) (fun _ _ _ _ _ => (de_n 2))) da_nil)))))
abbrev N_is_node : List Str := ["layout", "value"]
theorem sc_is_node : FnScope N_is_node ["layout", "value"] (defScope s_is_node) := ⟨rfl, rfl, rfl, by decide +kernel, rfl, by decide +kernel, by decide +kernel⟩
theorem walk_is_node {f : Addr} {fd : FuncData} (F : FunD K "is_node" "is_node" (defArgs s_is_node) (defBody s_is_node) (defScope s_is_node) [] [] f fd) (hm : mg "is_node" = some (.ref f)) (T : Txt mg)   (D_names_of : Def P w K mg base (He.ga K) "names_of" ["layout"] 1 sem_names_of) : Def P w K mg base (He.ga K) "is_node" ["layout", "value"] 2 sem_is_node :=
  def_ok (N := N_is_node) (F := body_is_node) F sc_is_node hm (fun _ _ _ _ _ _ us hl => match us, hl with | [_, _], _ => rfl) fun cdv A outer s H E hr => by
    have hu := hu64 hr
    have hu1 := hu_of hr
    exact (dss_one (ds_ret (de_and (de_isi isT_str rfl T.isinstance bt_isinstance (de_n 1) rfl T.str bt_str) (de_one (de_cmp (op_inP hu) snd_isin (de_n 1) (de_callD D_names_of (hr.mono (by decide)) takesB rfl (da_cons (de_n 0) da_nil) (aLen_cons aLen_nil)) (by with_unfolding_all rfl))))))
abbrev N_is_button : List Str := ["layout", "value"]
theorem sc_is_button : FnScope N_is_button ["layout", "value"] (defScope s_is_button) := ⟨rfl, rfl, rfl, by decide +kernel, rfl, by decide +kernel, by decide +kernel⟩
theorem walk_is_button {f : Addr} {fd : FuncData} (F : FunD K "is_button" "is_button" (defArgs s_is_button) (defBody s_is_button) (defScope s_is_button) [] [] f fd) (hm : mg "is_button" = some (.ref f)) (T : Txt mg) (C : Csts K mg)  (D_is_node : Def P w K mg base (He.ga K) "is_node" ["layout", "value"] 2 sem_is_node) : Def P w K mg base (He.ga K) "is_button" ["layout", "value"] 3 sem_is_button :=
  def_ok (N := N_is_button) (F := body_is_button) F sc_is_button hm (fun _ _ _ _ _ _ us hl => match us, hl with | [_, _], _ => rfl) fun cdv A outer s H E hr => by
    have hu := hu64 hr
    have hu1 := hu_of hr
    exact (dss_cons (ds_if (PW.pt (dw_or (dt_not (dt_val (de_isi isT_tuple rfl T.isinstance bt_isinstance (de_n 1) rfl T.tuple bt_tuple))) (dw_or (dt_cmp (op_neP hu) snd_ne (de_b call_len snd_len rfl T.len bt_len (da_cons (de_n 1) da_nil)) de_int (nomark _)) (dw_or (dt_not (dt_val (de_isi isT_str rfl T.isinstance bt_isinstance (de_ix (de_n 1) de_int) rfl T.str bt_str))) (dw_or1 (dt_cmp (op_notInP hu) snd_isin (de_ix (de_n 1) de_int) (de_gref C.KINDS rfl) (by with_unfolding_all rfl)))))))
  (dss_one (ds_ret de_bool))
  dss_nil)
  (dss_one (ds_ret (de_callD D_is_node (hr.mono (by decide)) takesB rfl (da_cons (de_n 0) (da_cons (de_ix (de_n 1) de_int) da_nil)) (aLen_cons (aLen_cons aLen_nil))))))
abbrev N_is_rising : List Str := ["items", "one", "other"]
theorem sc_is_rising : FnScope N_is_rising ["items"] (defScope s_is_rising) := ⟨rfl, rfl, rfl, by decide +kernel, rfl, by decide +kernel, by decide +kernel⟩
theorem walk_is_rising {f : Addr} {fd : FuncData} (F : FunD K "is_rising" "is_rising" (defArgs s_is_rising) (defBody s_is_rising) (defScope s_is_rising) [] [] f fd) (hm : mg "is_rising" = some (.ref f)) (T : Txt mg)    : Def P w K mg base (He.ga K) "is_rising" ["items"] 1 sem_is_rising :=
  def_ok (N := N_is_rising) (F := body_is_rising) F sc_is_rising hm (fun _ _ _ _ _ _ us hl => match us, hl with | [_], _ => rfl) fun cdv A outer s H E hr => by
    have hu := hu64 hr
    have hu1 := hu_of hr
    exact (dss_one (ds_ret (de_b (cr_all rfl) snd_all rfl T.all bt_all (da_cons (de_lc (own := [("one", 1), ("other", 2)]) rfl sc_is_rising.nd (di_zip rfl T.zip (da_cons (de_n 0) (da_cons (de_sl (de_n 0) (do_some de_int) do_none) da_nil))) (blkOk_by (N := N_is_rising) (sc := defScope s_is_rising) (by decide +kernel)) (fun _ _ _ _ _ => (dg_tp rfl (dgs_cons (dg_n 1 sc_is_rising.nd) (dgs_cons (dg_n 2 sc_is_rising.nd) dgs_nil)))) (fun _ _ _ _ _ => dts_nil) (fun _ _ _ _ _ => (de_cmp (op_ltP hu) snd_lt (de_n 1) (de_n 2) (nomark _)))) da_nil))))
abbrev N_is_state_value : List Str := ["layout", "value", "button"]
theorem sc_is_state_value : FnScope N_is_state_value ["layout", "value"] (defScope s_is_state_value) := ⟨rfl, rfl, rfl, by decide +kernel, rfl, by decide +kernel, by decide +kernel⟩
theorem walk_is_state_value {f : Addr} {fd : FuncData} (F : FunD K "is_state_value" "is_state_value" (defArgs s_is_state_value) (defBody s_is_state_value) (defScope s_is_state_value) [] [] f fd) (hm : mg "is_state_value" = some (.ref f)) (T : Txt mg)   (D_is_button : Def P w K mg base (He.ga K) "is_button" ["layout", "value"] 3 sem_is_button) (D_is_rising : Def P w K mg base (He.ga K) "is_rising" ["items"] 1 sem_is_rising) : Def P w K mg base (He.ga K) "is_state_value" ["layout", "value"] 4 sem_is_state_value :=
  def_ok (N := N_is_state_value) (F := body_is_state_value) F sc_is_state_value hm (fun _ _ _ _ _ _ us hl => match us, hl with | [_, _], _ => rfl) fun cdv A outer s H E hr => by
    have hu := hu64 hr
    have hu1 := hu_of hr
    exact (dss_cons (ds_if (PW.pt (dw_or (dt_not (dt_val (de_isi isT_tuple rfl T.isinstance bt_isinstance (de_n 1) rfl T.tuple bt_tuple))) (dw_or1 (dt_not (dt_val (de_b (cr_all rfl) snd_all rfl T.all bt_all (da_cons (de_lc (own := [("button", 2)]) rfl sc_is_state_value.nd (di_of (de_n 1)) (blkOk_by (N := N_is_state_value) (sc := defScope s_is_state_value) (by decide +kernel)) (fun _ _ _ _ _ => (dg_n 2 sc_is_state_value.nd)) (fun _ _ _ _ _ => dts_nil) (fun _ _ _ _ _ => (de_callD D_is_button (hr.mono (by decide)) takesW0 rfl (da_cons (de_n 0) (da_cons (de_n 2) da_nil)) (aLen_cons (aLen_cons aLen_nil))))) da_nil)))))))
  (dss_one (ds_ret de_bool))
  dss_nil)
  (dss_one (ds_ret (de_callD D_is_rising (hr.mono (by decide)) takesB rfl (da_cons (de_n 1) da_nil) (aLen_cons aLen_nil)))))
abbrev N_require_state : List Str := ["layout", "value"]
theorem sc_require_state : FnScope N_require_state ["layout", "value"] (defScope s_require_state) := ⟨rfl, rfl, rfl, by decide +kernel, rfl, by decide +kernel, by decide +kernel⟩
theorem walk_require_state {f : Addr} {fd : FuncData} (F : FunD K "require_state" "require_state" (defArgs s_require_state) (defBody s_require_state) (defScope s_require_state) [] [] f fd) (hm : mg "require_state" = some (.ref f)) (T : Txt mg)  (E_InvalidState : ExcOk K mg "InvalidState") (D_is_state_value : Def P w K mg base (He.ga K) "is_state_value" ["layout", "value"] 4 sem_is_state_value) : Def P w K mg base (He.ga K) "require_state" ["layout", "value"] 5 sem_require_state :=
  def_ok (N := N_require_state) (F := body_require_state) F sc_require_state hm (fun _ _ _ _ _ _ us hl => match us, hl with | [_, _], _ => rfl) fun cdv A outer s H E hr => by
    have hu := hu64 hr
    have hu1 := hu_of hr
    exact (dss_one (ds_if (dt_not (dt_val (de_callD D_is_state_value (hr.mono (by decide)) takesB rfl (da_cons (de_n 0) (da_cons (de_n 1) da_nil)) (aLen_cons (aLen_cons aLen_nil)))))
  (dss_one (ds_raise (c := "InvalidState") rfl takesB (E_InvalidState).1 (E_InvalidState).2.1 (E_InvalidState).2.2.1 (E_InvalidState).2.2.2.1 (E_InvalidState).2.2.2.2 rfl))
  dss_nil))
abbrev N_require_button : List Str := ["layout", "value"]
theorem sc_require_button : FnScope N_require_button ["layout", "value"] (defScope s_require_button) := ⟨rfl, rfl, rfl, by decide +kernel, rfl, by decide +kernel, by decide +kernel⟩
theorem walk_require_button {f : Addr} {fd : FuncData} (F : FunD K "require_button" "require_button" (defArgs s_require_button) (defBody s_require_button) (defScope s_require_button) [] [] f fd) (hm : mg "require_button" = some (.ref f)) (T : Txt mg)  (E_InvalidButton : ExcOk K mg "InvalidButton") (D_is_button : Def P w K mg base (He.ga K) "is_button" ["layout", "value"] 3 sem_is_button) : Def P w K mg base (He.ga K) "require_button" ["layout", "value"] 4 sem_require_button :=
  def_ok (N := N_require_button) (F := body_require_button) F sc_require_button hm (fun _ _ _ _ _ _ us hl => match us, hl with | [_, _], _ => rfl) fun cdv A outer s H E hr => by
    have hu := hu64 hr
    have hu1 := hu_of hr
    exact (dss_one (ds_if (dt_not (dt_val (de_callD D_is_button (hr.mono (by decide)) takesB rfl (da_cons (de_n 0) (da_cons (de_n 1) da_nil)) (aLen_cons (aLen_cons aLen_nil)))))
  (dss_one (ds_raise (c := "InvalidButton") rfl takesB (E_InvalidButton).1 (E_InvalidButton).2.1 (E_InvalidButton).2.2.1 (E_InvalidButton).2.2.2.1 (E_InvalidButton).2.2.2.2 rfl))
  dss_nil))
abbrev N_way_of : List Str := ["layout", "name", "parents", "found"]
theorem sc_way_of : FnScope N_way_of ["layout", "name"] (defScope s_way_of) := ⟨rfl, rfl, rfl, by decide +kernel, rfl, by decide +kernel, by decide +kernel⟩
theorem walk_way_of {f : Addr} {fd : FuncData} (F : FunD K "way_of" "way_of" (defArgs s_way_of) (defBody s_way_of) (defScope s_way_of) [] [] f fd) (hm : mg "way_of" = some (.ref f)) (T : Txt mg)    : Def P w K mg base (He.ga K) "way_of" ["layout", "name"] 1 sem_way_of :=
  def_ok (N := N_way_of) (F := body_way_of) F sc_way_of hm (fun _ _ _ _ _ _ us hl => match us, hl with | [_, _], _ => rfl) fun cdv A outer s H E hr => by
    have hu := hu64 hr
    have hu1 := hu_of hr
    exact (dss_cons (ds_par (i := 2) (j := 3) rfl sc_way_of.nd rfl rfl (by decide) rfl rfl (da_cons (de_dict rfl rfl T.dict bt_dict (da_cons (de_n 0) da_nil)) (da_cons (de_lstN (da_cons (de_n 1) da_nil)) da_nil)) (by rfl))
  (dss_cons (ds_while 1000 passB (dt_cmp (op_neP hu) snd_ne (de_dget hu1 (de_n 2) (de_ix (de_n 3) (de_neg de_int)) (fun _ _ => rfl)) de_str (nomark _)) (dss_one (ds_expr (de_mth PySem.F.slot_list_append PySem.F.type_list_append mt_append snd_append (de_n 3) (da_cons (de_dget hu1 (de_n 2) (de_ix (de_n 3) (de_neg de_int)) (fun _ _ => rfl)) da_nil)))))
  (dss_one (ds_frz 3 (ds_ret (de_n 3))))))
abbrev N_all_buttons : List Str := ["layout", "kind", "name"]
theorem sc_all_buttons : FnScope N_all_buttons ["layout"] (defScope s_all_buttons) := ⟨rfl, rfl, rfl, by decide +kernel, rfl, by decide +kernel, by decide +kernel⟩
theorem walk_all_buttons {f : Addr} {fd : FuncData} (F : FunD K "all_buttons" "all_buttons" (defArgs s_all_buttons) (defBody s_all_buttons) (defScope s_all_buttons) [] [] f fd) (hm : mg "all_buttons" = some (.ref f)) (T : Txt mg) (C : Csts K mg)  (D_names_of : Def P w K mg base (He.ga K) "names_of" ["layout"] 1 sem_names_of) : Def P w K mg base (He.ga K) "all_buttons" ["layout"] 2 sem_all_buttons :=
  def_ok (N := N_all_buttons) (F := body_all_buttons) F sc_all_buttons hm (fun _ _ _ _ _ _ us hl => match us, hl with | [_], _ => rfl) fun cdv A outer s H E hr => by
    have hu := hu64 hr
    have hu1 := hu_of hr
    exact (dss_one (ds_ret (de_b (cr_sortA hu) snd_sortA.frz rfl T.sorted bt_sorted (da_cons (de_lcM (own := [("kind", 1), ("name", 2)]) rfl sc_all_buttons.nd (di_of (de_gref C.KINDS rfl)) (blkOk_by (N := N_all_buttons) (sc := defScope s_all_buttons) (by decide +kernel)) (fun _ _ _ _ _ => (dg_n 1 sc_all_buttons.nd)) (fun _ _ _ _ _ => dts_nil) (fun _ _ _ _ _ => (.cons (cl_ok (di_of (de_callD D_names_of (hr.mono (by decide)) takesW0 rfl (da_cons (de_n 0) da_nil) (aLen_cons aLen_nil))) (dg_n 2 sc_all_buttons.nd) dts_nil) .nil)) (fun _ _ _ _ _ => (de_tup (da_cons (de_n 1) (da_cons (de_n 2) da_nil))))) da_nil))))
abbrev N_reason_for : List Str := ["layout", "state", "track", "way", "solos", "name", "kind"]
theorem sc_reason_for : FnScope N_reason_for ["layout", "state", "track"] (defScope s_reason_for) := ⟨rfl, rfl, rfl, by decide +kernel, rfl, by decide +kernel, by decide +kernel⟩
theorem walk_reason_for {f : Addr} {fd : FuncData} (F : FunD K "reason_for" "reason_for" (defArgs s_reason_for) (defBody s_reason_for) (defScope s_reason_for) [] [] f fd) (hm : mg "reason_for" = some (.ref f)) (T : Txt mg)   (D_way_of : Def P w K mg base (He.ga K) "way_of" ["layout", "name"] 1 sem_way_of) : Def P w K mg base (He.ga K) "reason_for" ["layout", "state", "track"] 2 sem_reason_for :=
  def_ok (N := N_reason_for) (F := body_reason_for) F sc_reason_for hm (fun _ _ _ _ _ _ us hl => match us, hl with | [_, _, _], _ => rfl) fun cdv A outer s H E hr => by
    have hu := hu64 hr
    have hu1 := hu_of hr
    exact (dss_cons (ds_setN 3 sc_reason_for.nd (de_callD D_way_of (hr.mono (by decide)) takesB rfl (da_cons (de_n 0) (da_cons (de_n 2) da_nil)) (aLen_cons (aLen_cons aLen_nil))))
  (dss_cons (ds_if (dt_val (de_b (cr_any rfl) snd_any rfl T.any bt_any (da_cons (de_lc (own := [("name", 5)]) rfl sc_reason_for.nd (di_of (de_n 3)) (blkOk_by (N := N_reason_for) (sc := defScope s_reason_for) (by decide +kernel)) (fun _ _ _ _ _ => (dg_n 5 sc_reason_for.nd)) (fun _ _ _ _ _ => dts_nil) (fun _ _ _ _ _ => (de_cmp (op_inP hu) snd_isin (de_tup (da_cons de_str (da_cons (de_n 5) da_nil))) (de_n 1) (by with_unfolding_all rfl)))) da_nil)))
  (dss_one (ds_ret de_str))
  dss_nil)
  (dss_cons (ds_setN 4 sc_reason_for.nd (de_lc (own := [("kind", 6), ("name", 5)]) rfl sc_reason_for.nd (di_of (de_n 1)) (blkOk_by (N := N_reason_for) (sc := defScope s_reason_for) (by decide +kernel)) (fun _ _ _ _ _ => (dg_tp rfl (dgs_cons (dg_n 6 sc_reason_for.nd) (dgs_cons (dg_n 5 sc_reason_for.nd) dgs_nil)))) (fun _ _ _ _ _ => (dts_one (dt_cmp (op_eqP hu) snd_eq (de_n 6) de_str (nomark _)))) (fun _ _ _ _ _ => (de_n 5))))
  (dss_one (ds_ret (de_if (PW.pt (dw_or (dt_cmp (op_eqP hu) snd_eq (de_n 4) (de_lst da_nil) (nomark _)) (dw_or1 (dt_val (de_b (cr_any rfl) snd_any rfl T.any bt_any (da_cons (de_lc (own := [("name", 5)]) rfl sc_reason_for.nd (di_of (de_n 3)) (blkOk_by (N := N_reason_for) (sc := defScope s_reason_for) (by decide +kernel)) (fun _ _ _ _ _ => (dg_n 5 sc_reason_for.nd)) (fun _ _ _ _ _ => dts_nil) (fun _ _ _ _ _ => (de_cmp (op_inP hu) snd_isin (de_n 5) (de_n 4) (by with_unfolding_all rfl)))) da_nil)))))) de_str de_str))))))
abbrev N_heard_in : List Str := ["layout", "state", "track"]
theorem sc_heard_in : FnScope N_heard_in ["layout", "state"] (defScope s_heard_in) := ⟨rfl, rfl, rfl, by decide +kernel, rfl, by decide +kernel, by decide +kernel⟩
theorem walk_heard_in {f : Addr} {fd : FuncData} (F : FunD K "heard_in" "heard_in" (defArgs s_heard_in) (defBody s_heard_in) (defScope s_heard_in) [] [] f fd) (hm : mg "heard_in" = some (.ref f)) (T : Txt mg)   (D_tracks_of : Def P w K mg base (He.ga K) "tracks_of" ["layout"] 2 sem_tracks_of) (D_reason_for : Def P w K mg base (He.ga K) "reason_for" ["layout", "state", "track"] 2 sem_reason_for) : Def P w K mg base (He.ga K) "heard_in" ["layout", "state"] 3 sem_heard_in :=
  def_ok (N := N_heard_in) (F := body_heard_in) F sc_heard_in hm (fun _ _ _ _ _ _ us hl => match us, hl with | [_, _], _ => rfl) fun cdv A outer s H E hr => by
    have hu := hu64 hr
    have hu1 := hu_of hr
    exact (dss_one (ds_ret (de_ty call_tupX snd_tuple rfl T.tuple bt_tuple (da_cons (de_lc (own := [("track", 2)]) rfl sc_heard_in.nd (di_of (de_fz (de_callD D_tracks_of (hr.mono (by decide)) takesB rfl (da_cons (de_n 0) da_nil) (aLen_cons aLen_nil)))) (blkOk_by (N := N_heard_in) (sc := defScope s_heard_in) (by decide +kernel)) (fun _ _ _ _ _ => (dg_n 2 sc_heard_in.nd)) (fun _ _ _ _ _ => (dts_one (dt_cmp (op_eqP hu) snd_eq (de_callD D_reason_for (hr.mono (by decide)) takesW0 rfl (da_cons (de_n 0) (da_cons (de_n 1) (da_cons (de_n 2) da_nil))) (aLen_cons (aLen_cons (aLen_cons aLen_nil)))) de_str (nomark _)))) (fun _ _ _ _ _ => (de_n 2))) da_nil))))
abbrev N_after_press : List Str := ["state", "button", "other"]
theorem sc_after_press : FnScope N_after_press ["state", "button"] (defScope s_after_press) := ⟨rfl, rfl, rfl, by decide +kernel, rfl, by decide +kernel, by decide +kernel⟩
theorem walk_after_press {f : Addr} {fd : FuncData} (F : FunD K "after_press" "after_press" (defArgs s_after_press) (defBody s_after_press) (defScope s_after_press) [] [] f fd) (hm : mg "after_press" = some (.ref f)) (T : Txt mg)    : Def P w K mg base (He.ga K) "after_press" ["state", "button"] 1 sem_after_press :=
  def_ok (N := N_after_press) (F := body_after_press) F sc_after_press hm (fun _ _ _ _ _ _ us hl => match us, hl with | [_, _], _ => rfl) fun cdv A outer s H E hr => by
    have hu := hu64 hr
    have hu1 := hu_of hr
    exact (dss_cons (ds_if (dt_cmp (op_inP hu) snd_isin (de_n 1) (de_n 0) (by with_unfolding_all rfl))
  (dss_one (ds_ret (de_ty call_tupX snd_tuple rfl T.tuple bt_tuple (da_cons (de_lc (own := [("other", 2)]) rfl sc_after_press.nd (di_of (de_n 0)) (blkOk_by (N := N_after_press) (sc := defScope s_after_press) (by decide +kernel)) (fun _ _ _ _ _ => (dg_n 2 sc_after_press.nd)) (fun _ _ _ _ _ => (dts_one (dt_cmp (op_neP hu) snd_ne (de_n 2) (de_n 1) (nomark _)))) (fun _ _ _ _ _ => (de_n 2))) da_nil))))
  dss_nil)
  (dss_one (ds_ret (de_ty call_tupX snd_tuple rfl T.tuple bt_tuple (da_cons (de_b (cr_sortA hu) snd_sortA.frz rfl T.sorted bt_sorted (da_cons (de_bin op_addP snd_add (de_n 0) (de_tup (da_cons (de_n 1) da_nil))) da_nil)) da_nil)))))
abbrev N_pressed : List Str := ["layout", "state", "button"]
theorem sc_pressed : FnScope N_pressed ["layout", "state", "button"] (defScope s_pressed) := ⟨rfl, rfl, rfl, by decide +kernel, rfl, by decide +kernel, by decide +kernel⟩
theorem walk_pressed {f : Addr} {fd : FuncData} (F : FunD K "pressed" "pressed" (defArgs s_pressed) (defBody s_pressed) (defScope s_pressed) [] [] f fd) (hm : mg "pressed" = some (.ref f)) (T : Txt mg)   (D_require_layout : Def P w K mg base (He.ga K) "require_layout" ["value"] 3 sem_require_layout) (D_require_state : Def P w K mg base (He.ga K) "require_state" ["layout", "value"] 5 sem_require_state) (D_require_button : Def P w K mg base (He.ga K) "require_button" ["layout", "value"] 4 sem_require_button) (D_after_press : Def P w K mg base (He.ga K) "after_press" ["state", "button"] 1 sem_after_press) : Def P w K mg base (He.ga K) "pressed" ["layout", "state", "button"] 6 sem_pressed :=
  def_ok (N := N_pressed) (F := body_pressed) F sc_pressed hm (fun _ _ _ _ _ _ us hl => match us, hl with | [_, _, _], _ => rfl) fun cdv A outer s H E hr => by
    have hu := hu64 hr
    have hu1 := hu_of hr
    exact (dss_cons (ds_expr (de_callD D_require_layout (hr.mono (by decide)) takesB rfl (da_cons (de_n 0) da_nil) (aLen_cons aLen_nil)))
  (dss_cons (ds_expr (de_callD D_require_state (hr.mono (by decide)) takesB rfl (da_cons (de_n 0) (da_cons (de_n 1) da_nil)) (aLen_cons (aLen_cons aLen_nil))))
  (dss_cons (ds_expr (de_callD D_require_button (hr.mono (by decide)) takesB rfl (da_cons (de_n 0) (da_cons (de_n 2) da_nil)) (aLen_cons (aLen_cons aLen_nil))))
  (dss_one (ds_ret (de_callD D_after_press (hr.mono (by decide)) takesB rfl (da_cons (de_n 1) (da_cons (de_n 2) da_nil)) (aLen_cons (aLen_cons aLen_nil))))))))
abbrev N_effect : List Str := ["layout", "state", "button", "before", "after", "lost", "name"]
theorem sc_effect : FnScope N_effect ["layout", "state", "button"] (defScope s_effect) := ⟨rfl, rfl, rfl, by decide +kernel, rfl, by decide +kernel, by decide +kernel⟩
theorem walk_effect {f : Addr} {fd : FuncData} (F : FunD K "effect" "effect" (defArgs s_effect) (defBody s_effect) (defScope s_effect) [] [] f fd) (hm : mg "effect" = some (.ref f)) (T : Txt mg)   (D_require_layout : Def P w K mg base (He.ga K) "require_layout" ["value"] 3 sem_require_layout) (D_require_state : Def P w K mg base (He.ga K) "require_state" ["layout", "value"] 5 sem_require_state) (D_require_button : Def P w K mg base (He.ga K) "require_button" ["layout", "value"] 4 sem_require_button) (D_heard_in : Def P w K mg base (He.ga K) "heard_in" ["layout", "state"] 3 sem_heard_in) (D_after_press : Def P w K mg base (He.ga K) "after_press" ["state", "button"] 1 sem_after_press) : Def P w K mg base (He.ga K) "effect" ["layout", "state", "button"] 6 sem_effect :=
  def_ok (N := N_effect) (F := body_effect) F sc_effect hm (fun _ _ _ _ _ _ us hl => match us, hl with | [_, _, _], _ => rfl) fun cdv A outer s H E hr => by
    have hu := hu64 hr
    have hu1 := hu_of hr
    exact (dss_cons (ds_expr (de_callD D_require_layout (hr.mono (by decide)) takesB rfl (da_cons (de_n 0) da_nil) (aLen_cons aLen_nil)))
  (dss_cons (ds_expr (de_callD D_require_state (hr.mono (by decide)) takesB rfl (da_cons (de_n 0) (da_cons (de_n 1) da_nil)) (aLen_cons (aLen_cons aLen_nil))))
  (dss_cons (ds_expr (de_callD D_require_button (hr.mono (by decide)) takesB rfl (da_cons (de_n 0) (da_cons (de_n 2) da_nil)) (aLen_cons (aLen_cons aLen_nil))))
  (dss_cons (ds_asg (de_tup (da_cons (de_callD D_heard_in (hr.mono (by decide)) takesB rfl (da_cons (de_n 0) (da_cons (de_n 1) da_nil)) (aLen_cons (aLen_cons aLen_nil))) (da_cons (de_callD D_heard_in (hr.mono (by decide)) takesB rfl (da_cons (de_n 0) (da_cons (de_callD D_after_press (hr.mono (by decide)) takesB rfl (da_cons (de_n 1) (da_cons (de_n 2) da_nil)) (aLen_cons (aLen_cons aLen_nil))) da_nil)) (aLen_cons (aLen_cons aLen_nil))) da_nil))) (dg_tp rfl (dgs_cons (dg_n 3 sc_effect.nd) (dgs_cons (dg_n 4 sc_effect.nd) dgs_nil))))
  (dss_cons (ds_setLc (i := 5) (own := [("name", 6)]) rfl sc_effect.nd rfl rfl (sw_true rfl rfl rfl (by decide +kernel)) (di_of (de_n 3)) (blkOk_by (N := N_effect) (sc := defScope s_effect) (by decide +kernel)) (fun _ _ _ _ _ => (dg_n 6 sc_effect.nd)) (fun _ _ _ _ _ => (dts_one (dt_cmp (op_notInP hu) snd_isin (de_n 6) (de_n 4) (by with_unfolding_all rfl)))) (fun _ _ _ _ _ => (de_n 6)))
  (dss_one (ds_ret (de_tup (da_cons (de_ty call_tupX snd_tuple rfl T.tuple bt_tuple (da_cons (de_n 5) da_nil)) (da_cons (de_ty call_tupX snd_tuple rfl T.tuple bt_tuple (da_cons (de_lc (own := [("name", 6)]) rfl sc_effect.nd (di_of (de_n 4)) (blkOk_by (N := N_effect) (sc := defScope s_effect) (by decide +kernel)) (fun _ _ _ _ _ => (dg_n 6 sc_effect.nd)) (fun _ _ _ _ _ => (dts_one (dt_cmp (op_notInP hu) snd_isin (de_n 6) (de_n 3) (by with_unfolding_all rfl)))) (fun _ _ _ _ _ => (de_n 6))) da_nil)) da_nil))))))))))
abbrev N_idle_buttons : List Str := ["layout", "state", "now", "button"]
theorem sc_idle_buttons : FnScope N_idle_buttons ["layout", "state"] (defScope s_idle_buttons) := ⟨rfl, rfl, rfl, by decide +kernel, rfl, by decide +kernel, by decide +kernel⟩
theorem walk_idle_buttons {f : Addr} {fd : FuncData} (F : FunD K "idle_buttons" "idle_buttons" (defArgs s_idle_buttons) (defBody s_idle_buttons) (defScope s_idle_buttons) [] [] f fd) (hm : mg "idle_buttons" = some (.ref f)) (T : Txt mg)   (D_require_layout : Def P w K mg base (He.ga K) "require_layout" ["value"] 3 sem_require_layout) (D_require_state : Def P w K mg base (He.ga K) "require_state" ["layout", "value"] 5 sem_require_state) (D_heard_in : Def P w K mg base (He.ga K) "heard_in" ["layout", "state"] 3 sem_heard_in) (D_all_buttons : Def P w K mg base (He.ga K) "all_buttons" ["layout"] 2 sem_all_buttons) (D_after_press : Def P w K mg base (He.ga K) "after_press" ["state", "button"] 1 sem_after_press) : Def P w K mg base (He.ga K) "idle_buttons" ["layout", "state"] 6 sem_idle_buttons :=
  def_ok (N := N_idle_buttons) (F := body_idle_buttons) F sc_idle_buttons hm (fun _ _ _ _ _ _ us hl => match us, hl with | [_, _], _ => rfl) fun cdv A outer s H E hr => by
    have hu := hu64 hr
    have hu1 := hu_of hr
    exact (dss_cons (ds_expr (de_callD D_require_layout (hr.mono (by decide)) takesB rfl (da_cons (de_n 0) da_nil) (aLen_cons aLen_nil)))
  (dss_cons (ds_expr (de_callD D_require_state (hr.mono (by decide)) takesB rfl (da_cons (de_n 0) (da_cons (de_n 1) da_nil)) (aLen_cons (aLen_cons aLen_nil))))
  (dss_cons (ds_setN 2 sc_idle_buttons.nd (de_callD D_heard_in (hr.mono (by decide)) takesB rfl (da_cons (de_n 0) (da_cons (de_n 1) da_nil)) (aLen_cons (aLen_cons aLen_nil))))
  (dss_one (ds_ret (de_lcN (own := [("button", 3)]) rfl sc_idle_buttons.nd (di_of (de_callD D_all_buttons (hr.mono (by decide)) takesB rfl (da_cons (de_n 0) da_nil) (aLen_cons aLen_nil))) (blkOk_by (N := N_idle_buttons) (sc := defScope s_idle_buttons) (by decide +kernel)) (fun _ _ _ _ _ => (dg_n 3 sc_idle_buttons.nd)) (fun _ _ _ _ _ => (dts_one (dt_cmp (op_eqP hu) snd_eq (de_callD D_heard_in (hr.mono (by decide)) takesW0 rfl (da_cons (de_n 0) (da_cons (de_callD D_after_press (hr.mono (by decide)) takesW0 rfl (da_cons (de_n 1) (da_cons (de_n 3) da_nil)) (aLen_cons (aLen_cons aLen_nil))) da_nil)) (aLen_cons (aLen_cons aLen_nil))) (de_n 2) (nomark _)))) (fun _ _ _ _ _ => (de_n 3))))))))
abbrev N__law_source : List Str := ["script", "k", "cell", "primes", "seed"]
theorem sc__law_source : FnScope N__law_source ["script", "k"] (defScope s__law_source) := ⟨rfl, rfl, rfl, by decide +kernel, rfl, by decide +kernel, by decide +kernel⟩
theorem walk__law_source {f : Addr} {fd : FuncData} (F : FunD K "_law_source" "_law_source" (defArgs s__law_source) (defBody s__law_source) (defScope s__law_source) [] [] f fd) (hm : mg "_law_source" = some (.ref f)) (T : Txt mg)    : Def P w K mg base (He.ga K) "_law_source" ["script", "k"] 1 sem__law_source :=
  def_ok (N := N__law_source) (F := body__law_source) F sc__law_source hm (fun _ _ _ _ _ _ us hl => match us, hl with | [_, _], _ => rfl) fun cdv A outer s H E hr => by
    have hu := hu64 hr
    have hu1 := hu_of hr
    exact (dss_cons (ds_setN 2 sc__law_source.nd de_int)
  (dss_cons (ds_if (dt_cmp (op_ltP hu) snd_lt (de_n 1) (de_b call_len snd_len rfl T.len bt_len (da_cons (de_n 0) da_nil)) (nomark _))
  (dss_one (ds_setN 2 sc__law_source.nd (de_ix (de_n 0) (de_n 1))))
  dss_nil)
  (dss_cons (ds_setN 3 sc__law_source.nd (de_lst (da_cons de_int (da_cons de_int (da_cons de_int (da_cons de_int (da_cons de_int (da_cons de_int (da_cons de_int (da_cons de_int da_nil))))))))))
  (dss_cons (ds_setN 4 sc__law_source.nd (de_bin op_mod snd_mod (de_bin op_mulP snd_mul (de_bin op_addP snd_add (de_bin op_mod snd_mod (de_n 2) de_int) de_int) (de_bin op_addP snd_add de_int (de_bin op_mulP snd_mul de_int (de_n 1)))) de_int))
  (dss_cons (ds_setN 4 sc__law_source.nd (de_bin op_addP snd_add (de_bin op_addP snd_add (de_bin op_mod snd_mod (de_bin op_mulP snd_mul (de_n 4) (de_n 4)) de_int) (de_n 1)) de_int))
  (dss_cons (ds_if (dt_cmp (op_geP hu) snd_ge (de_n 2) (de_bin op_pow snd_pow de_int de_int) (nomark _))
  (dss_one (ds_ret (de_lstN (da_cons (de_n 2) (da_cons (de_n 4) (da_cons (de_ix (de_n 3) (de_bin op_mod snd_mod (de_n 1) de_int)) da_nil))))))
  dss_nil)
  (dss_one (ds_ret (de_lstN (da_cons de_int (da_cons (de_n 4) (da_cons (de_ix (de_n 3) (de_bin op_mod snd_mod (de_n 1) de_int)) da_nil))))))))))))
abbrev N__law_pick : List Str := ["source", "size", "drawn"]
theorem sc__law_pick : FnScope N__law_pick ["source", "size"] (defScope s__law_pick) := ⟨rfl, rfl, rfl, by decide +kernel, rfl, by decide +kernel, by decide +kernel⟩
theorem walk__law_pick {f : Addr} {fd : FuncData} (F : FunD K "_law_pick" "_law_pick" (defArgs s__law_pick) (defBody s__law_pick) (defScope s__law_pick) [] [] f fd) (hm : mg "_law_pick" = some (.ref f)) (T : Txt mg)    : Def P w K mg base (He.ga K) "_law_pick" ["source", "size"] 1 sem__law_pick :=
  def_ok (N := N__law_pick) (F := body__law_pick) F sc__law_pick hm (fun _ _ _ _ _ _ us hl => match us, hl with | [_, _], _ => rfl) fun cdv A outer s H E hr => by
    have hu := hu64 hr
    have hu1 := hu_of hr
    exact (dss_cons (ds_if (dt_cmp (op_gtP hu) snd_gt (de_ix (de_n 0) de_int) de_int (nomark _))
  (dss_cons (ds_setN 2 sc__law_pick.nd (de_bin op_mod snd_mod (de_ix (de_n 0) de_int) (de_n 1)))
  (dss_cons (ds_setL (de_bin op_fdiv snd_fdiv (de_ix (de_n 0) de_int) (de_n 1)) (de_n 0) de_int)
  (dss_one (ds_ret (de_n 2)))))
  dss_nil)
  (dss_cons (ds_setL (de_bin op_addP snd_add (de_bin op_mod snd_mod (de_bin op_mulP snd_mul (de_ix (de_n 0) de_int) de_int) (de_ix (de_n 0) de_int)) de_int) (de_n 0) de_int)
  (dss_one (ds_ret (de_bin op_mod snd_mod (de_bin op_fdiv snd_fdiv (de_bin op_mod snd_mod (de_bin op_mulP snd_mul (de_ix (de_n 0) de_int) (de_ix (de_n 0) de_int)) de_int) de_int) (de_n 1))))))
abbrev N__law_error_name : List Str := ["e", "some", "words", "names", "word", "good"]
theorem sc__law_error_name : FnScope N__law_error_name ["e"] (defScope s__law_error_name) := ⟨rfl, rfl, rfl, by decide +kernel, rfl, by decide +kernel, by decide +kernel⟩
theorem walk__law_error_name {f : Addr} {fd : FuncData} (F : FunD K "_law_error_name" "_law_error_name" (defArgs s__law_error_name) (defBody s__law_error_name) (defScope s__law_error_name) [] [] f fd) (hm : mg "_law_error_name" = some (.ref f)) (T : Txt mg) (Er : Errs K mg) : DefE P w K mg base (He.ga K) "_law_error_name" "e" errCs 1 sem__law_error_name :=
  defE_ok (N := N__law_error_name) (F := body_err) F sc__law_error_name hm (fun _ _ _ _ _ _ us hl => match us, hl with | [_], _ => rfl) fun c hc cdv A outer s H E p hot hz hr => by
    have hu := hu64H hr
    have nd := sc__law_error_name.nd
    have hf : ∃ vs, p.2.data = .fields vs := ⟨_, hot.2.choose_spec.1⟩
    have hc2 : L2H.HotC (L2H.cxH (L2N.CX P w) P w K mg base N__law_error_name "_law_error_name" (defScope s__law_error_name) f cdv A outer s H E p) := ⟨p, hot, List.mem_singleton.mpr rfl⟩
    exact (dss_cons (ds_setN 1 nd (de_lst (da_cons (de_isE (List.mem_singleton.mpr rfl) (Er.cls c hc) hz hf rfl T.isinstance (de_n 0) (pe_glob (v := .ref _) rfl (Er.mgD "InvalidLayout" (by decide)) rfl) (fun _ h => h) (Er.kit c hc "InvalidLayout" (by decide))) (da_cons (de_isE (List.mem_singleton.mpr rfl) (Er.cls c hc) hz hf rfl T.isinstance (de_n 0) (pe_glob (v := .ref _) rfl (Er.mgD "InvalidState" (by decide)) rfl) (fun _ h => h) (Er.kit c hc "InvalidState" (by decide))) (da_cons (de_isE (List.mem_singleton.mpr rfl) (Er.cls c hc) hz hf rfl T.isinstance (de_n 0) (pe_glob (v := .ref _) rfl (Er.mgD "InvalidTracks" (by decide)) rfl) (fun _ h => h) (Er.kit c hc "InvalidTracks" (by decide))) da_nil)))))
  (dss_cons (ds_setN 1 nd (de_bin op_addP snd_add (de_n 1) (de_lst (da_cons (de_isE (List.mem_singleton.mpr rfl) (Er.cls c hc) hz hf rfl T.isinstance (de_n 0) (pe_glob (v := .ref _) rfl (Er.mgD "InvalidButton" (by decide)) rfl) (fun _ h => h) (Er.kit c hc "InvalidButton" (by decide))) (da_cons (de_isE (List.mem_singleton.mpr rfl) (Er.cls c hc) hz hf rfl T.isinstance (de_n 0) (pe_glob (v := .ref _) rfl (Er.mgD "InvalidKnown" (by decide)) rfl) (fun _ h => h) (Er.kit c hc "InvalidKnown" (by decide))) (da_cons (de_isE (List.mem_singleton.mpr rfl) (Er.cls c hc) hz hf rfl T.isinstance (de_n 0) (pe_glob (v := .ref _) rfl (Er.mgD "InvalidNumber" (by decide)) rfl) (fun _ h => h) (Er.kit c hc "InvalidNumber" (by decide))) da_nil))))))
  (dss_cons (ds_setN 1 nd (de_bin op_addP snd_add (de_n 1) (de_lst (da_cons (de_isE (List.mem_singleton.mpr rfl) (Er.cls c hc) hz hf rfl T.isinstance (de_n 0) (pe_glob (v := .ref _) rfl (Er.mgD "UnknownName" (by decide)) rfl) (fun _ h => h) (Er.kit c hc "UnknownName" (by decide))) (da_cons (de_isE (List.mem_singleton.mpr rfl) (Er.cls c hc) hz hf rfl T.isinstance (de_n 0) (pe_glob (v := .ref _) rfl (Er.mgD "TwiceName" (by decide)) rfl) (fun _ h => h) (Er.kit c hc "TwiceName" (by decide))) (da_cons (de_isE (List.mem_singleton.mpr rfl) (Er.cls c hc) hz hf rfl T.isinstance (de_n 0) (pe_glob (v := .ref _) rfl (Er.mgD "NothingToUndo" (by decide)) rfl) (fun _ h => h) (Er.kit c hc "NothingToUndo" (by decide))) da_nil))))))
  (dss_cons (ds_setN 1 nd (de_bin op_addP snd_add (de_n 1) (de_lst (da_cons (de_isE (List.mem_singleton.mpr rfl) (Er.cls c hc) hz hf rfl T.isinstance (de_n 0) (pe_glob (v := .ref _) rfl (Er.mgD "MixerError" (by decide)) rfl) (fun _ h => h) (Er.kit c hc "MixerError" (by decide))) (da_cons (de_isE (List.mem_singleton.mpr rfl) (Er.cls c hc) hz hf rfl T.isinstance (de_n 0) (pe_bltn (v := .ty "ValueError") rfl T.ValueError bt_ValueError rfl) (fun _ h => h) (Er.val c hc)) da_nil)))))
  (dss_cons (ds_setN 2 nd de_str)
  (dss_cons (ds_setLcH (i := 3) (own := [("word", 4), ("good", 5)]) hc2 nd rfl rfl (sw_true rfl rfl rfl (by decide +kernel)) (di_zipH rfl T.zip (da_cons (de_split (de_n 2) de_str) (da_cons (de_n 1) da_nil))) (blkOk_by (N := N__law_error_name) (sc := defScope s__law_error_name) (by decide +kernel)) (fun _ _ _ _ _ hI => dg_tpH hI (dgs_cons (dg_n 4 nd) (dgs_cons (dg_n 5 nd) dgs_nil))) (fun _ _ _ _ _ => (dts_one (dt_val (de_n 5)))) (fun _ _ _ _ _ => (de_n 4)))
  (dss_one (ds_ret (de_if (dt_cmp (op_eqP hu) snd_eq (de_sl (de_n 3) (do_some de_int) do_none) (de_lst (da_cons de_str (da_cons de_str da_nil))) (nomark _)) (de_ix (de_n 3) de_int) de_str)))))))))
abbrev N__law_nodes : List Str := ["source", "most", "left", "found", "near", "turn", "name", "above"]
theorem sc__law_nodes : FnScope N__law_nodes ["source", "most"] (defScope s__law_nodes) := ⟨rfl, rfl, rfl, by decide +kernel, rfl, by decide +kernel, by decide +kernel⟩
theorem walk__law_nodes {f : Addr} {fd : FuncData} (F : FunD K "_law_nodes" "_law_nodes" (defArgs s__law_nodes) (defBody s__law_nodes) (defScope s__law_nodes) [] [] f fd) (hm : mg "_law_nodes" = some (.ref f)) (T : Txt mg)   (D__law_pick : Def P w K mg base (He.ga K) "_law_pick" ["source", "size"] 1 sem__law_pick) : Def P w K mg base (He.ga K) "_law_nodes" ["source", "most"] 2 sem__law_nodes :=
  def_ok (N := N__law_nodes) (F := body__law_nodes) F sc__law_nodes hm (fun _ _ _ _ _ _ us hl => match us, hl with | [_, _], _ => rfl) fun cdv A outer s H E hr => by
    have hu := hu64 hr
    have hu1 := hu_of hr
    exact (dss_cons (ds_par (i := 2) (j := 3) rfl sc__law_nodes.nd rfl rfl (by decide) rfl rfl (da_cons (de_tyN (call_listS rfl) snd_listS rfl T.list bt_list (da_cons de_str da_nil)) (da_cons (de_tup da_nil) da_nil)) (by rfl))
  (dss_cons (ds_setN 4 sc__law_nodes.nd (de_bin op_addP snd_add de_int (de_callD D__law_pick (hr.mono (by decide)) takesB rfl (da_cons (de_n 0) (da_cons de_int da_nil)) (aLen_cons (aLen_cons aLen_nil)))))
  (dss_cons (ds_for passB rfl (di_range rfl T.range (da_cons (de_bin op_addP snd_add de_int (de_callD D__law_pick (hr.mono (by decide)) takesB rfl (da_cons (de_n 0) (da_cons (de_n 1) da_nil)) (aLen_cons (aLen_cons aLen_nil)))) da_nil)) (dg_n 5 sc__law_nodes.nd)
  (dss_cons (ds_setN 6 sc__law_nodes.nd (de_mth PySem.F.slot_list_pop PySem.F.type_list_pop mt_popAt snd_popAt (de_n 2) (da_cons (de_ix (de_lst (da_cons de_int (da_cons (de_callD D__law_pick (hr.mono (by decide)) takesB rfl (da_cons (de_n 0) (da_cons (de_b call_len snd_len rfl T.len bt_len (da_cons (de_n 2) da_nil)) da_nil)) (aLen_cons (aLen_cons aLen_nil))) da_nil))) (de_callD D__law_pick (hr.mono (by decide)) takesB rfl (da_cons (de_n 0) (da_cons de_int da_nil)) (aLen_cons (aLen_cons aLen_nil)))) da_nil)))
  (dss_cons (ds_setN 7 sc__law_nodes.nd de_str)
  (dss_cons (ds_if (PW.pt (dw_and (dt_cmp (op_neP hu) snd_ne (de_n 3) (de_tup da_nil) (nomark _)) (dw_and1 (dt_cmp (op_gtP hu) snd_gt (de_callD D__law_pick (hr.mono (by decide)) takesB rfl (da_cons (de_n 0) (da_cons de_int da_nil)) (aLen_cons (aLen_cons aLen_nil))) de_int (nomark _)))))
  (dss_one (ds_setN 7 sc__law_nodes.nd (de_ix (de_ix (de_n 3) (de_b (call_max2 rfl) snd_max2 rfl T.max bt_max (da_cons de_int (da_cons (de_bin op_subI snd_sub (de_bin op_subI snd_sub (de_b call_len snd_len rfl T.len bt_len (da_cons (de_n 3) da_nil)) de_int) (de_callD D__law_pick (hr.mono (by decide)) takesB rfl (da_cons (de_n 0) (da_cons (de_n 4) da_nil)) (aLen_cons (aLen_cons aLen_nil)))) da_nil)))) de_int)))
  dss_nil)
  (dss_one (ds_setN 3 sc__law_nodes.nd (de_bin op_addP snd_add (de_n 3) (de_tup (da_cons (de_tup (da_cons (de_n 6) (da_cons (de_n 7) da_nil))) da_nil)))))))))
  (dss_one (ds_ret (de_n 3))))))
abbrev N__law_way : List Str := ["nodes", "name", "table_so", "found"]
theorem sc__law_way : FnScope N__law_way ["nodes", "name"] (defScope s__law_way) := ⟨rfl, rfl, rfl, by decide +kernel, rfl, by decide +kernel, by decide +kernel⟩
theorem walk__law_way {f : Addr} {fd : FuncData} (F : FunD K "_law_way" "_law_way" (defArgs s__law_way) (defBody s__law_way) (defScope s__law_way) [] [] f fd) (hm : mg "_law_way" = some (.ref f)) (T : Txt mg)    : Def P w K mg base (He.ga K) "_law_way" ["nodes", "name"] 1 sem__law_way :=
  def_ok (N := N__law_way) (F := body__law_way) F sc__law_way hm (fun _ _ _ _ _ _ us hl => match us, hl with | [_, _], _ => rfl) fun cdv A outer s H E hr => by
    have hu := hu64 hr
    have hu1 := hu_of hr
    exact (dss_cons (ds_par (i := 2) (j := 3) rfl sc__law_way.nd rfl rfl (by decide) rfl rfl (da_cons (de_dict rfl rfl T.dict bt_dict (da_cons (de_n 0) da_nil)) (da_cons (de_lstN (da_cons (de_n 1) da_nil)) da_nil)) (by rfl))
  (dss_cons (ds_while 1000 passB (dt_cmp (op_neP hu) snd_ne (de_dget hu1 (de_n 2) (de_ix (de_n 3) (de_neg de_int)) (fun _ _ => rfl)) de_str (nomark _)) (dss_one (ds_expr (de_mth PySem.F.slot_list_append PySem.F.type_list_append mt_append snd_append (de_n 3) (da_cons (de_dget hu1 (de_n 2) (de_ix (de_n 3) (de_neg de_int)) (fun _ _ => rfl)) da_nil)))))
  (dss_one (ds_frz 3 (ds_ret (de_n 3))))))
abbrev N__law_ends : List Str := ["nodes", "above", "name", "parent"]
theorem sc__law_ends : FnScope N__law_ends ["nodes"] (defScope s__law_ends) := ⟨rfl, rfl, rfl, by decide +kernel, rfl, by decide +kernel, by decide +kernel⟩
theorem walk__law_ends {f : Addr} {fd : FuncData} (F : FunD K "_law_ends" "_law_ends" (defArgs s__law_ends) (defBody s__law_ends) (defScope s__law_ends) [] [] f fd) (hm : mg "_law_ends" = some (.ref f)) (T : Txt mg)    : Def P w K mg base (He.ga K) "_law_ends" ["nodes"] 1 sem__law_ends :=
  def_ok (N := N__law_ends) (F := body__law_ends) F sc__law_ends hm (fun _ _ _ _ _ _ us hl => match us, hl with | [_], _ => rfl) fun cdv A outer s H E hr => by
    have hu := hu64 hr
    have hu1 := hu_of hr
    exact (dss_cons (ds_setN 1 sc__law_ends.nd (de_lc (own := [("name", 2), ("parent", 3)]) rfl sc__law_ends.nd (di_of (de_n 0)) (blkOk_by (N := N__law_ends) (sc := defScope s__law_ends) (by decide +kernel)) (fun _ _ _ _ _ => (dg_tp rfl (dgs_cons (dg_n 2 sc__law_ends.nd) (dgs_cons (dg_n 3 sc__law_ends.nd) dgs_nil)))) (fun _ _ _ _ _ => dts_nil) (fun _ _ _ _ _ => (de_n 3))))
  (dss_one (ds_ret (de_b (cr_sortA hu) snd_sortA.frz rfl T.sorted bt_sorted (da_cons (de_lc (own := [("name", 2), ("parent", 3)]) rfl sc__law_ends.nd (di_of (de_n 0)) (blkOk_by (N := N__law_ends) (sc := defScope s__law_ends) (by decide +kernel)) (fun _ _ _ _ _ => (dg_tp rfl (dgs_cons (dg_n 2 sc__law_ends.nd) (dgs_cons (dg_n 3 sc__law_ends.nd) dgs_nil)))) (fun _ _ _ _ _ => (dts_one (dt_cmp (op_notInP hu) snd_isin (de_n 2) (de_n 1) (by with_unfolding_all rfl)))) (fun _ _ _ _ _ => (de_n 2))) da_nil)))))
abbrev N__law_all_buttons : List Str := ["nodes", "name", "parent"]
theorem sc__law_all_buttons : FnScope N__law_all_buttons ["nodes"] (defScope s__law_all_buttons) := ⟨rfl, rfl, rfl, by decide +kernel, rfl, by decide +kernel, by decide +kernel⟩
theorem walk__law_all_buttons {f : Addr} {fd : FuncData} (F : FunD K "_law_all_buttons" "_law_all_buttons" (defArgs s__law_all_buttons) (defBody s__law_all_buttons) (defScope s__law_all_buttons) [] [] f fd) (hm : mg "_law_all_buttons" = some (.ref f)) (T : Txt mg)    : Def P w K mg base (He.ga K) "_law_all_buttons" ["nodes"] 1 sem__law_all_buttons :=
  def_ok (N := N__law_all_buttons) (F := body__law_all_buttons) F sc__law_all_buttons hm (fun _ _ _ _ _ _ us hl => match us, hl with | [_], _ => rfl) fun cdv A outer s H E hr => by
    have hu := hu64 hr
    have hu1 := hu_of hr
    exact (dss_one (ds_ret (de_b (cr_sortA hu) snd_sortA.frz rfl T.sorted bt_sorted (da_cons (de_bin op_addP snd_add (de_lc (own := [("name", 1), ("parent", 2)]) rfl sc__law_all_buttons.nd (di_of (de_n 0)) (blkOk_by (N := N__law_all_buttons) (sc := defScope s__law_all_buttons) (by decide +kernel)) (fun _ _ _ _ _ => (dg_tp rfl (dgs_cons (dg_n 1 sc__law_all_buttons.nd) (dgs_cons (dg_n 2 sc__law_all_buttons.nd) dgs_nil)))) (fun _ _ _ _ _ => dts_nil) (fun _ _ _ _ _ => (de_tup (da_cons de_str (da_cons (de_n 1) da_nil))))) (de_lc (own := [("name", 1), ("parent", 2)]) rfl sc__law_all_buttons.nd (di_of (de_n 0)) (blkOk_by (N := N__law_all_buttons) (sc := defScope s__law_all_buttons) (by decide +kernel)) (fun _ _ _ _ _ => (dg_tp rfl (dgs_cons (dg_n 1 sc__law_all_buttons.nd) (dgs_cons (dg_n 2 sc__law_all_buttons.nd) dgs_nil)))) (fun _ _ _ _ _ => dts_nil) (fun _ _ _ _ _ => (de_tup (da_cons de_str (da_cons (de_n 1) da_nil)))))) da_nil))))
abbrev N__law_sounds : List Str := ["nodes", "lit", "found", "some", "track", "way", "muted", "kind", "name"]
theorem sc__law_sounds : FnScope N__law_sounds ["nodes", "lit"] (defScope s__law_sounds) := ⟨rfl, rfl, rfl, by decide +kernel, rfl, by decide +kernel, by decide +kernel⟩
theorem walk__law_sounds {f : Addr} {fd : FuncData} (F : FunD K "_law_sounds" "_law_sounds" (defArgs s__law_sounds) (defBody s__law_sounds) (defScope s__law_sounds) [] [] f fd) (hm : mg "_law_sounds" = some (.ref f)) (T : Txt mg)   (D__law_ends : Def P w K mg base (He.ga K) "_law_ends" ["nodes"] 1 sem__law_ends) (D__law_way : Def P w K mg base (He.ga K) "_law_way" ["nodes", "name"] 1 sem__law_way) : Def P w K mg base (He.ga K) "_law_sounds" ["nodes", "lit"] 2 sem__law_sounds :=
  def_ok (N := N__law_sounds) (F := body__law_sounds) F sc__law_sounds hm (fun _ _ _ _ _ _ us hl => match us, hl with | [_, _], _ => rfl) fun cdv A outer s H E hr => by
    have hu := hu64 hr
    have hu1 := hu_of hr
    exact (dss_cons (ds_setN 2 sc__law_sounds.nd (de_lstN da_nil))
  (dss_cons (ds_setN 3 sc__law_sounds.nd (de_lc (own := [("kind", 7), ("name", 8)]) rfl sc__law_sounds.nd (di_of (de_n 1)) (blkOk_by (N := N__law_sounds) (sc := defScope s__law_sounds) (by decide +kernel)) (fun _ _ _ _ _ => (dg_tp rfl (dgs_cons (dg_n 7 sc__law_sounds.nd) (dgs_cons (dg_n 8 sc__law_sounds.nd) dgs_nil)))) (fun _ _ _ _ _ => (dts_one (dt_cmp (op_eqP hu) snd_eq (de_n 7) de_str (nomark _)))) (fun _ _ _ _ _ => (de_n 8))))
  (dss_cons (ds_for passB rfl (di_of (de_callD D__law_ends (hr.mono (by decide)) takesB rfl (da_cons (de_n 0) da_nil) (aLen_cons aLen_nil))) (dg_n 4 sc__law_sounds.nd)
  (dss_cons (ds_setN 5 sc__law_sounds.nd (de_callD D__law_way (hr.mono (by decide)) takesB rfl (da_cons (de_n 0) (da_cons (de_n 4) da_nil)) (aLen_cons (aLen_cons aLen_nil))))
  (dss_cons (ds_setN 6 sc__law_sounds.nd (de_cmp (op_neP hu) snd_ne (de_lc (own := [("name", 8)]) rfl sc__law_sounds.nd (di_of (de_n 5)) (blkOk_by (N := N__law_sounds) (sc := defScope s__law_sounds) (by decide +kernel)) (fun _ _ _ _ _ => (dg_n 8 sc__law_sounds.nd)) (fun _ _ _ _ _ => (dts_one (dt_cmp (op_inP hu) snd_isin (de_tup (da_cons de_str (da_cons (de_n 8) da_nil))) (de_n 1) (by with_unfolding_all rfl)))) (fun _ _ _ _ _ => (de_n 8))) (de_lst da_nil) (nomark _)))
  (dss_one (ds_if (PW.pt (dw_and (dt_not (dt_val (de_n 6))) (dw_and1 (PW.pt (dw_or (dt_cmp (op_eqP hu) snd_eq (de_n 3) (de_lst da_nil) (nomark _)) (dw_or1 (dt_cmp (op_neP hu) snd_ne (de_lc (own := [("name", 8)]) rfl sc__law_sounds.nd (di_of (de_n 5)) (blkOk_by (N := N__law_sounds) (sc := defScope s__law_sounds) (by decide +kernel)) (fun _ _ _ _ _ => (dg_n 8 sc__law_sounds.nd)) (fun _ _ _ _ _ => (dts_one (dt_cmp (op_inP hu) snd_isin (de_n 8) (de_n 3) (by with_unfolding_all rfl)))) (fun _ _ _ _ _ => (de_n 8))) (de_lst da_nil) (nomark _))))))))
  (dss_one (ds_expr (de_mth PySem.F.slot_list_append PySem.F.type_list_append mt_append snd_append (de_n 2) (da_cons (de_n 4) da_nil))))
  dss_nil)))))
  (dss_one (ds_ret (de_ty call_tupX snd_tuple rfl T.tuple bt_tuple (da_cons (de_n 2) da_nil)))))))
abbrev N__law_lights : List Str := ["source", "nodes", "rare", "button"]
theorem sc__law_lights : FnScope N__law_lights ["source", "nodes"] (defScope s__law_lights) := ⟨rfl, rfl, rfl, by decide +kernel, rfl, by decide +kernel, by decide +kernel⟩
theorem walk__law_lights {f : Addr} {fd : FuncData} (F : FunD K "_law_lights" "_law_lights" (defArgs s__law_lights) (defBody s__law_lights) (defScope s__law_lights) [] [] f fd) (hm : mg "_law_lights" = some (.ref f)) (T : Txt mg)   (D__law_pick : Def P w K mg base (He.ga K) "_law_pick" ["source", "size"] 1 sem__law_pick) (D__law_all_buttons : Def P w K mg base (He.ga K) "_law_all_buttons" ["nodes"] 1 sem__law_all_buttons) : Def P w K mg base (He.ga K) "_law_lights" ["source", "nodes"] 2 sem__law_lights :=
  def_ok (N := N__law_lights) (F := body__law_lights) F sc__law_lights hm (fun _ _ _ _ _ _ us hl => match us, hl with | [_, _], _ => rfl) fun cdv A outer s H E hr => by
    have hu := hu64 hr
    have hu1 := hu_of hr
    exact (dss_cons (ds_setN 2 sc__law_lights.nd (de_bin op_addP snd_add de_int (de_callD D__law_pick (hr.mono (by decide)) takesB rfl (da_cons (de_n 0) (da_cons de_int da_nil)) (aLen_cons (aLen_cons aLen_nil)))))
  (dss_one (ds_ret (de_ty call_tupX snd_tuple rfl T.tuple bt_tuple (da_cons (de_lc (own := [("button", 3)]) rfl sc__law_lights.nd (di_of (de_callD D__law_all_buttons (hr.mono (by decide)) takesB rfl (da_cons (de_n 1) da_nil) (aLen_cons aLen_nil))) (blkOk_by (N := N__law_lights) (sc := defScope s__law_lights) (by decide +kernel)) (fun _ _ _ _ _ => (dg_n 3 sc__law_lights.nd)) (fun _ _ _ _ _ => (dts_one (dt_cmp (op_eqP hu) snd_eq (de_callD D__law_pick (hr.mono (by decide)) takesW0 rfl (da_cons (de_n 0) (da_cons (de_n 2) da_nil)) (aLen_cons (aLen_cons aLen_nil))) de_int (nomark _)))) (fun _ _ _ _ _ => (de_n 3))) da_nil)))))
abbrev N__law_turned : List Str := ["lit", "button", "one"]
theorem sc__law_turned : FnScope N__law_turned ["lit", "button"] (defScope s__law_turned) := ⟨rfl, rfl, rfl, by decide +kernel, rfl, by decide +kernel, by decide +kernel⟩
theorem walk__law_turned {f : Addr} {fd : FuncData} (F : FunD K "_law_turned" "_law_turned" (defArgs s__law_turned) (defBody s__law_turned) (defScope s__law_turned) [] [] f fd) (hm : mg "_law_turned" = some (.ref f)) (T : Txt mg)    : Def P w K mg base (He.ga K) "_law_turned" ["lit", "button"] 1 sem__law_turned :=
  def_ok (N := N__law_turned) (F := body__law_turned) F sc__law_turned hm (fun _ _ _ _ _ _ us hl => match us, hl with | [_, _], _ => rfl) fun cdv A outer s H E hr => by
    have hu := hu64 hr
    have hu1 := hu_of hr
    exact (dss_cons (ds_if (dt_cmp (op_inP hu) snd_isin (de_n 1) (de_n 0) (by with_unfolding_all rfl))
  (dss_one (ds_ret (de_ty call_tupX snd_tuple rfl T.tuple bt_tuple (da_cons (de_lc (own := [("one", 2)]) rfl sc__law_turned.nd (di_of (de_n 0)) (blkOk_by (N := N__law_turned) (sc := defScope s__law_turned) (by decide +kernel)) (fun _ _ _ _ _ => (dg_n 2 sc__law_turned.nd)) (fun _ _ _ _ _ => (dts_one (dt_cmp (op_neP hu) snd_ne (de_n 2) (de_n 1) (nomark _)))) (fun _ _ _ _ _ => (de_n 2))) da_nil))))
  dss_nil)
  (dss_one (ds_ret (de_ty call_tupX snd_tuple rfl T.tuple bt_tuple (da_cons (de_b (cr_sortA hu) snd_sortA.frz rfl T.sorted bt_sorted (da_cons (de_bin op_addP snd_add (de_ty call_list_of snd_list.frz rfl T.list bt_list (da_cons (de_n 0) da_nil)) (de_lst (da_cons (de_n 1) da_nil))) da_nil)) da_nil)))))
abbrev N__law_outcome : List Str := ["call", "nodes", "button", "e"]
theorem sc__law_outcome : FnScope N__law_outcome ["call", "nodes", "button"] (defScope s__law_outcome) := ⟨rfl, rfl, rfl, by decide +kernel, rfl, by decide +kernel, by decide +kernel⟩
theorem walk__law_outcome {f : Addr} {fd : FuncData} (F : FunD K "_law_outcome" "_law_outcome" (defArgs s__law_outcome) (defBody s__law_outcome) (defScope s__law_outcome) [] [] f fd) (hm : mg "_law_outcome" = some (.ref f)) (T : Txt mg)   (D__law_error_name : DefE P w K mg base (He.ga K) "_law_error_name" "e" errCs 1 sem__law_error_name) (Er : Errs K mg) (D_pressed : Def P w K mg base (He.ga K) "pressed" ["layout", "state", "button"] 6 sem_pressed) (D_effect : Def P w K mg base (He.ga K) "effect" ["layout", "state", "button"] 6 sem_effect) : Def P w K mg base (He.ga K) "_law_outcome" ["call", "nodes", "button"] 7 sem__law_outcome :=
  def_ok (N := N__law_outcome) (F := body__law_outcome) F sc__law_outcome hm (fun _ _ _ _ _ _ us hl => match us, hl with | [_, _, _], _ => rfl) fun cdv A outer s H E hr => by
    have hu := hu64 hr
    have hu1 := hu_of hr
    exact (dss_cons (ds_try (i := 3) rfl rfl sc__law_outcome.nd rfl rfl ⟨rfl, rfl, .inl (Er.mgD "MixerError" (by decide))⟩ takesB (hr.mono (by decide)) D__law_error_name rfl sem_err_eq Er.exm (fun Wb pn xx tk pb =>
  (dss_one (ds_if (dt_cmp (op_eqP hu) snd_eq (de_n 0) de_int (nomark _))
  (dss_one (ds_expr (de_callD D_pressed (hr.mono (by decide)) tk rfl (da_cons (de_n 1) (da_cons (de_tup da_nil) (da_cons (de_n 2) da_nil))) (aLen_cons (aLen_cons (aLen_cons aLen_nil))))))
  (dss_one (ds_expr (de_callD D_effect (hr.mono (by decide)) tk rfl (da_cons (de_n 1) (da_cons (de_tup da_nil) (da_cons (de_n 2) da_nil))) (aLen_cons (aLen_cons (aLen_cons aLen_nil))))))))))
  (dss_one (ds_ret de_str)))
abbrev N_law : List Str := ["script", "k", "source", "nodes", "lit", "idle", "told", "button", "later", "after", "lost", "found", "name", "odd", "track", "call"]
theorem sc_law : FnScope N_law ["script"] (defScope s_law) := ⟨rfl, rfl, rfl, by decide +kernel, rfl, by decide +kernel, by decide +kernel⟩
theorem walk_law {f : Addr} {fd : FuncData} (F : FunD K "law" "law" (defArgs s_law) (defBody s_law) (defScope s_law) [] [] f fd) (hm : mg "law" = some (.ref f)) (T : Txt mg)   (D__law_source : Def P w K mg base (He.ga K) "_law_source" ["script", "k"] 1 sem__law_source) (D__law_nodes : Def P w K mg base (He.ga K) "_law_nodes" ["source", "most"] 2 sem__law_nodes) (D__law_lights : Def P w K mg base (He.ga K) "_law_lights" ["source", "nodes"] 2 sem__law_lights) (D__law_sounds : Def P w K mg base (He.ga K) "_law_sounds" ["nodes", "lit"] 2 sem__law_sounds) (D__law_all_buttons : Def P w K mg base (He.ga K) "_law_all_buttons" ["nodes"] 1 sem__law_all_buttons) (D__law_turned : Def P w K mg base (He.ga K) "_law_turned" ["lit", "button"] 1 sem__law_turned) (D_pressed : Def P w K mg base (He.ga K) "pressed" ["layout", "state", "button"] 6 sem_pressed) (D_effect : Def P w K mg base (He.ga K) "effect" ["layout", "state", "button"] 6 sem_effect) (D_idle_buttons : Def P w K mg base (He.ga K) "idle_buttons" ["layout", "state"] 6 sem_idle_buttons) (D__law_outcome : Def P w K mg base (He.ga K) "_law_outcome" ["call", "nodes", "button"] 7 sem__law_outcome) : Def P w K mg base (He.ga K) "law" ["script"] 8 sem_law :=
  def_ok (N := N_law) (F := body_law) F sc_law hm (fun _ _ _ _ _ _ us hl => match us, hl with | [_], _ => rfl) fun cdv A outer s H E hr => by
    have hu := hu64 hr
    have hu1 := hu_of hr
    exact (dss_cons (ds_for passB rfl (di_range rfl T.range (da_cons (de_b (call_max2 rfl) snd_max2 rfl T.max bt_max (da_cons de_int (da_cons (de_b (call_min2 rfl) snd_min2 rfl T.min bt_min (da_cons de_int (da_cons (de_b call_len snd_len rfl T.len bt_len (da_cons (de_n 0) da_nil)) da_nil))) da_nil))) da_nil)) (dg_n 1 sc_law.nd)
  (dss_cons (ds_setN 2 sc_law.nd (de_callD D__law_source (hr.mono (by decide)) takesB rfl (da_cons (de_n 0) (da_cons (de_n 1) da_nil)) (aLen_cons (aLen_cons aLen_nil))))
  (dss_cons (ds_setN 3 sc_law.nd (de_callD D__law_nodes (hr.mono (by decide)) takesB rfl (da_cons (de_n 2) (da_cons de_int da_nil)) (aLen_cons (aLen_cons aLen_nil))))
  (dss_cons (ds_par (i := 4) (j := 5) rfl sc_law.nd rfl rfl (by decide) rfl rfl (da_cons (de_callD D__law_lights (hr.mono (by decide)) takesB rfl (da_cons (de_n 2) (da_cons (de_n 3) da_nil)) (aLen_cons (aLen_cons aLen_nil))) (da_cons (de_lstN da_nil) da_nil)) (by rfl))
  (dss_cons (ds_setN 6 sc_law.nd (de_callD D__law_sounds (hr.mono (by decide)) takesB rfl (da_cons (de_n 3) (da_cons (de_n 4) da_nil)) (aLen_cons (aLen_cons aLen_nil))))
  (dss_cons (ds_for passB rfl (di_of (de_callD D__law_all_buttons (hr.mono (by decide)) takesB rfl (da_cons (de_n 3) da_nil) (aLen_cons aLen_nil))) (dg_n 7 sc_law.nd)
  (dss_cons (ds_setN 8 sc_law.nd (de_callD D__law_turned (hr.mono (by decide)) takesB rfl (da_cons (de_n 4) (da_cons (de_n 7) da_nil)) (aLen_cons (aLen_cons aLen_nil))))
  (dss_cons (ds_setN 9 sc_law.nd (de_callD D__law_sounds (hr.mono (by decide)) takesB rfl (da_cons (de_n 3) (da_cons (de_n 8) da_nil)) (aLen_cons (aLen_cons aLen_nil))))
  (dss_cons (ds_if (PW.pt (dw_or (dt_cmp (op_neP hu) snd_ne (de_callD D_pressed (hr.mono (by decide)) takesB rfl (da_cons (de_n 3) (da_cons (de_n 4) (da_cons (de_n 7) da_nil))) (aLen_cons (aLen_cons (aLen_cons aLen_nil)))) (de_n 8) (nomark _)) (dw_or1 (dt_cmp (op_neP hu) snd_ne (de_callD D_pressed (hr.mono (by decide)) takesB rfl (da_cons (de_n 3) (da_cons (de_n 8) (da_cons (de_n 7) da_nil))) (aLen_cons (aLen_cons (aLen_cons aLen_nil)))) (de_n 4) (nomark _)))))
  (dss_one (ds_ret de_bool))
  dss_nil)
  (dss_cons (ds_setN 10 sc_law.nd (de_ty call_tupX snd_tuple rfl T.tuple bt_tuple (da_cons (de_lc (own := [("track", 14)]) rfl sc_law.nd (di_of (de_n 6)) (blkOk_by (N := N_law) (sc := defScope s_law) (by decide +kernel)) (fun _ _ _ _ _ => (dg_n 14 sc_law.nd)) (fun _ _ _ _ _ => (dts_one (dt_cmp (op_notInP hu) snd_isin (de_n 14) (de_n 9) (by with_unfolding_all rfl)))) (fun _ _ _ _ _ => (de_n 14))) da_nil)))
  (dss_cons (ds_if (dt_cmp (op_neP hu) snd_ne (de_callD D_effect (hr.mono (by decide)) takesB rfl (da_cons (de_n 3) (da_cons (de_n 4) (da_cons (de_n 7) da_nil))) (aLen_cons (aLen_cons (aLen_cons aLen_nil)))) (de_tup (da_cons (de_n 10) (da_cons (de_ty call_tupX snd_tuple rfl T.tuple bt_tuple (da_cons (de_lc (own := [("track", 14)]) rfl sc_law.nd (di_of (de_n 9)) (blkOk_by (N := N_law) (sc := defScope s_law) (by decide +kernel)) (fun _ _ _ _ _ => (dg_n 14 sc_law.nd)) (fun _ _ _ _ _ => (dts_one (dt_cmp (op_notInP hu) snd_isin (de_n 14) (de_n 6) (by with_unfolding_all rfl)))) (fun _ _ _ _ _ => (de_n 14))) da_nil)) da_nil))) (nomark _))
  (dss_one (ds_ret de_bool))
  dss_nil)
  (dss_one (ds_if (dt_cmp (op_eqP hu) snd_eq (de_n 9) (de_n 6) (nomark _))
  (dss_one (ds_expr (de_mth PySem.F.slot_list_append PySem.F.type_list_append mt_append snd_append (de_n 5) (da_cons (de_n 7) da_nil))))
  dss_nil))))))))
  (dss_cons (ds_if (dt_cmp (op_neP hu) snd_ne (de_fz (de_callD D_idle_buttons (hr.mono (by decide)) takesB rfl (da_cons (de_n 3) (da_cons (de_n 4) da_nil)) (aLen_cons (aLen_cons aLen_nil)))) (de_n 5) (nomark _))
  (dss_one (ds_ret de_bool))
  dss_nil)
  (dss_cons (ds_setN 11 sc_law.nd (de_callD D_idle_buttons (hr.mono (by decide)) takesB rfl (da_cons (de_n 3) (da_cons (de_n 4) da_nil)) (aLen_cons (aLen_cons aLen_nil))))
  (dss_cons (ds_expr (de_mth PySem.F.slot_list_append PySem.F.type_list_append mt_append snd_append (de_n 11) (da_cons de_none da_nil)))
  (dss_cons (ds_if (dt_cmp (op_neP hu) snd_ne (de_fz (de_callD D_idle_buttons (hr.mono (by decide)) takesB rfl (da_cons (de_n 3) (da_cons (de_n 4) da_nil)) (aLen_cons (aLen_cons aLen_nil)))) (de_n 5) (nomark _))
  (dss_one (ds_ret de_bool))
  dss_nil)
  (dss_cons (ds_setN 12 sc_law.nd (de_ix (de_ix (de_n 3) de_int) de_int))
  (dss_one (ds_for passB rfl (di_of (de_lst (da_cons de_none (da_cons de_str (da_cons (de_tup (da_cons de_str da_nil)) (da_cons (de_tup (da_cons de_str (da_cons de_str da_nil))) (da_cons (de_tup (da_cons de_str (da_cons (de_n 12) da_nil))) (da_cons (de_lst (da_cons de_str (da_cons (de_n 12) da_nil))) (da_cons (de_tup (da_cons (de_n 12) (da_cons de_str da_nil))) da_nil))))))))) (dg_n 13 sc_law.nd)
  (dss_one (ds_if (dt_cmp (op_neP hu) snd_ne (de_lc (own := [("call", 15)]) rfl sc_law.nd (di_of (de_lst (da_cons de_int (da_cons de_int da_nil)))) (blkOk_by (N := N_law) (sc := defScope s_law) (by decide +kernel)) (fun _ _ _ _ _ => (dg_n 15 sc_law.nd)) (fun _ _ _ _ _ => dts_nil) (fun _ _ _ _ _ => (de_callD D__law_outcome (hr.mono (by decide)) takesW0 rfl (da_cons (de_n 15) (da_cons (de_n 3) (da_cons (de_n 13) da_nil))) (aLen_cons (aLen_cons (aLen_cons aLen_nil)))))) (de_bin op_mulP snd_mul (de_lst (da_cons de_str da_nil)) de_int) (nomark _))
  (dss_one (ds_ret de_bool))
  dss_nil)))))))))))))))
  (dss_one (ds_ret (de_cmp (op_eqP hu) snd_eq (de_fz (de_callD D_idle_buttons (hr.mono (by decide)) takesB rfl (da_cons (de_tup (da_cons (de_tup (da_cons de_str (da_cons de_str da_nil))) (da_cons (de_tup (da_cons de_str (da_cons de_str da_nil))) da_nil))) (da_cons (de_tup (da_cons (de_tup (da_cons de_str (da_cons de_str da_nil))) da_nil)) da_nil)) (aLen_cons (aLen_cons aLen_nil)))) (de_lst (da_cons (de_tup (da_cons de_str (da_cons de_str da_nil))) da_nil)) (nomark _)))))
end
end DL.K21
set_option maxHeartbeats 0
namespace DL.K21
open PySem PySem.Spec PyProof.Rows L2 DL
def dD_is_name : He.DefD := ⟨("is_name", none), "is_name", "is_name", defArgs s_is_name, defBody s_is_name, defScope s_is_name, [], []⟩
def dD_is_layout : He.DefD := ⟨("is_layout", none), "is_layout", "is_layout", defArgs s_is_layout, defBody s_is_layout, defScope s_is_layout, [], []⟩
def dD_require_layout : He.DefD := ⟨("require_layout", none), "require_layout", "require_layout", defArgs s_require_layout, defBody s_require_layout, defScope s_require_layout, [], []⟩
def dD_names_of : He.DefD := ⟨("names_of", none), "names_of", "names_of", defArgs s_names_of, defBody s_names_of, defScope s_names_of, [], []⟩
def dD_tracks_of : He.DefD := ⟨("tracks_of", none), "tracks_of", "tracks_of", defArgs s_tracks_of, defBody s_tracks_of, defScope s_tracks_of, [], []⟩
def dD_is_node : He.DefD := ⟨("is_node", none), "is_node", "is_node", defArgs s_is_node, defBody s_is_node, defScope s_is_node, [], []⟩
def dD_is_button : He.DefD := ⟨("is_button", none), "is_button", "is_button", defArgs s_is_button, defBody s_is_button, defScope s_is_button, [], []⟩
def dD_is_rising : He.DefD := ⟨("is_rising", none), "is_rising", "is_rising", defArgs s_is_rising, defBody s_is_rising, defScope s_is_rising, [], []⟩
def dD_is_state_value : He.DefD := ⟨("is_state_value", none), "is_state_value", "is_state_value", defArgs s_is_state_value, defBody s_is_state_value, defScope s_is_state_value, [], []⟩
def dD_require_state : He.DefD := ⟨("require_state", none), "require_state", "require_state", defArgs s_require_state, defBody s_require_state, defScope s_require_state, [], []⟩
def dD_require_button : He.DefD := ⟨("require_button", none), "require_button", "require_button", defArgs s_require_button, defBody s_require_button, defScope s_require_button, [], []⟩
def dD_way_of : He.DefD := ⟨("way_of", none), "way_of", "way_of", defArgs s_way_of, defBody s_way_of, defScope s_way_of, [], []⟩
def dD_all_buttons : He.DefD := ⟨("all_buttons", none), "all_buttons", "all_buttons", defArgs s_all_buttons, defBody s_all_buttons, defScope s_all_buttons, [], []⟩
def dD_reason_for : He.DefD := ⟨("reason_for", none), "reason_for", "reason_for", defArgs s_reason_for, defBody s_reason_for, defScope s_reason_for, [], []⟩
def dD_heard_in : He.DefD := ⟨("heard_in", none), "heard_in", "heard_in", defArgs s_heard_in, defBody s_heard_in, defScope s_heard_in, [], []⟩
def dD_after_press : He.DefD := ⟨("after_press", none), "after_press", "after_press", defArgs s_after_press, defBody s_after_press, defScope s_after_press, [], []⟩
def dD_pressed : He.DefD := ⟨("pressed", none), "pressed", "pressed", defArgs s_pressed, defBody s_pressed, defScope s_pressed, [], []⟩
def dD_effect : He.DefD := ⟨("effect", none), "effect", "effect", defArgs s_effect, defBody s_effect, defScope s_effect, [], []⟩
def dD_idle_buttons : He.DefD := ⟨("idle_buttons", none), "idle_buttons", "idle_buttons", defArgs s_idle_buttons, defBody s_idle_buttons, defScope s_idle_buttons, [], []⟩
def dD__law_source : He.DefD := ⟨("_law_source", none), "_law_source", "_law_source", defArgs s__law_source, defBody s__law_source, defScope s__law_source, [], []⟩
def dD__law_pick : He.DefD := ⟨("_law_pick", none), "_law_pick", "_law_pick", defArgs s__law_pick, defBody s__law_pick, defScope s__law_pick, [], []⟩
def dD__law_error_name : He.DefD := ⟨("_law_error_name", none), "_law_error_name", "_law_error_name", defArgs s__law_error_name, defBody s__law_error_name, defScope s__law_error_name, [], []⟩
def dD__law_nodes : He.DefD := ⟨("_law_nodes", none), "_law_nodes", "_law_nodes", defArgs s__law_nodes, defBody s__law_nodes, defScope s__law_nodes, [], []⟩
def dD__law_way : He.DefD := ⟨("_law_way", none), "_law_way", "_law_way", defArgs s__law_way, defBody s__law_way, defScope s__law_way, [], []⟩
def dD__law_ends : He.DefD := ⟨("_law_ends", none), "_law_ends", "_law_ends", defArgs s__law_ends, defBody s__law_ends, defScope s__law_ends, [], []⟩
def dD__law_all_buttons : He.DefD := ⟨("_law_all_buttons", none), "_law_all_buttons", "_law_all_buttons", defArgs s__law_all_buttons, defBody s__law_all_buttons, defScope s__law_all_buttons, [], []⟩
def dD__law_sounds : He.DefD := ⟨("_law_sounds", none), "_law_sounds", "_law_sounds", defArgs s__law_sounds, defBody s__law_sounds, defScope s__law_sounds, [], []⟩
def dD__law_lights : He.DefD := ⟨("_law_lights", none), "_law_lights", "_law_lights", defArgs s__law_lights, defBody s__law_lights, defScope s__law_lights, [], []⟩
def dD__law_turned : He.DefD := ⟨("_law_turned", none), "_law_turned", "_law_turned", defArgs s__law_turned, defBody s__law_turned, defScope s__law_turned, [], []⟩
def dD__law_outcome : He.DefD := ⟨("_law_outcome", none), "_law_outcome", "_law_outcome", defArgs s__law_outcome, defBody s__law_outcome, defScope s__law_outcome, [], []⟩
def dD_law : He.DefD := ⟨("law", none), "law", "law", defArgs s_law, defBody s_law, defScope s_law, [], []⟩
def fn0 : List He.DefD := [dD_is_name, dD_is_layout, dD_require_layout, dD_names_of, dD_tracks_of, dD_is_node, dD_is_button, dD_is_rising, dD_is_state_value, dD_require_state, dD_require_button, dD_way_of, dD_all_buttons, dD_reason_for, dD_heard_in, dD_after_press, dD_pressed, dD_effect, dD_idle_buttons, dD__law_source, dD__law_pick, dD__law_error_name, dD__law_nodes, dD__law_way, dD__law_ends, dD__law_all_buttons, dD__law_sounds, dD__law_lights, dD__law_turned, dD__law_outcome]
def fn1 : List He.DefD := [dD_law]
def fn : List He.DefD := fn0 ++ fn1
def fa0 : List He.Fa := [.free "len", .free "range", .free "sorted", .free "isinstance", .free "list", .free "tuple", .free "dict", .free "set", .free "sum", .free "any", .free "all", .free "min", .free "max", .free "int", .free "bool", .free "str", .free "zip", .free "enumerate", .free "ValueError", .str "LETTERS" "abcdefghijklmnopqrstuvwxyz", .int "MAX_NAME" 8, .int "MAX_NODES" 12, .glo "KINDS", .glo "MixerError", .glo "InvalidLayout", .glo "InvalidState", .glo "InvalidTracks", .glo "InvalidButton", .glo "InvalidKnown", .glo "InvalidNumber"]
def fa1 : List He.Fa := [.glo "UnknownName", .glo "TwiceName", .glo "NothingToUndo", .exc "InvalidButton", .exc "InvalidLayout", .exc "InvalidState", .glo "is_name", .glo "is_layout", .glo "require_layout", .glo "names_of", .glo "tracks_of", .glo "is_node", .glo "is_button", .glo "is_rising", .glo "is_state_value", .glo "require_state", .glo "require_button", .glo "way_of", .glo "all_buttons", .glo "reason_for", .glo "heard_in", .glo "after_press", .glo "pressed", .glo "effect", .glo "idle_buttons", .glo "_law_source", .glo "_law_pick", .glo "_law_error_name", .glo "_law_nodes", .glo "_law_way"]
def fa2 : List He.Fa := [.glo "_law_ends", .glo "_law_all_buttons", .glo "_law_sounds", .glo "_law_lights", .glo "_law_turned", .glo "_law_outcome", .glo "law"]
def fa : List He.Fa := fa0 ++ fa1 ++ fa2
def loose0 : List Str := ["MixerError", "InvalidLayout", "InvalidState", "InvalidTracks", "InvalidButton", "InvalidKnown", "InvalidNumber", "UnknownName", "TwiceName", "NothingToUndo", "LETTERS", "MAX_NAME", "MAX_NODES", "KINDS", "is_name", "is_layout", "require_layout", "names_of", "tracks_of", "is_node", "is_button", "is_rising", "is_state_value", "require_state", "require_button", "way_of", "all_buttons", "reason_for", "heard_in", "after_press"]
def loose1 : List Str := ["pressed", "effect", "idle_buttons", "_law_source", "_law_pick", "_law_error_name", "_law_nodes", "_law_way", "_law_ends", "_law_all_buttons", "_law_sounds", "_law_lights", "_law_turned", "_law_outcome"]
def loose : List Str := loose0 ++ loose1
def ex (K : PySem.W.Frag) : Bool := valB K 3 (.ref (He.ga K "KINDS")) c_KINDS && (errsB K)
abbrev RowH : PySem.W.OpenRow := PySem.W.OpenLaw.row PySem.Challenge.rw_mutesolos_k21_presses_and_idle_buttons
abbrev hk : PySem.W.Hook := He.hookX 4 fa fn [] [] ex
def ob (s : PySem.W.SharedT) : He.AlX := He.obsX 4 fa fn [] [] ex (HandSHeadRun.getT s)
theorem ob_eq (s : PySem.W.SharedT) : ob s = hk.obs s.abs := He.obsX_eq (HandSHeadRun.getT_eq s)
theorem run (w : World) : HandSHeadRun.RunEq RowH (PySem.W.view RowH.prog [49]) hk ob 6000 loose w := by
  intro os
  kernel_rfl
theorem facts {P : Program} {w : World} {K : PySem.W.Frag} {h base : Heap} {mg : Str → Option Value} (X : K.In h) (G : h.Ns mainGlobals mg) (c : He.SaysX fa fn [] [] ex w h K) : Def P w K mg base (He.ga K) "law" ["script"] 8 sem_law := by
  have exm := c.more
  obtain ⟨ex0, exm⟩ := bAnd exm
  have ex1 := exm
  have T : Txt mg := ⟨He.free_ok X G (c.t.d.fact 0 (f := .free "len") rfl), He.free_ok X G (c.t.d.fact 1 (f := .free "range") rfl), He.free_ok X G (c.t.d.fact 2 (f := .free "sorted") rfl), He.free_ok X G (c.t.d.fact 3 (f := .free "isinstance") rfl), He.free_ok X G (c.t.d.fact 4 (f := .free "list") rfl), He.free_ok X G (c.t.d.fact 5 (f := .free "tuple") rfl), He.free_ok X G (c.t.d.fact 6 (f := .free "dict") rfl), He.free_ok X G (c.t.d.fact 7 (f := .free "set") rfl), He.free_ok X G (c.t.d.fact 8 (f := .free "sum") rfl), He.free_ok X G (c.t.d.fact 9 (f := .free "any") rfl), He.free_ok X G (c.t.d.fact 10 (f := .free "all") rfl), He.free_ok X G (c.t.d.fact 11 (f := .free "min") rfl), He.free_ok X G (c.t.d.fact 12 (f := .free "max") rfl), He.free_ok X G (c.t.d.fact 13 (f := .free "int") rfl), He.free_ok X G (c.t.d.fact 14 (f := .free "bool") rfl), He.free_ok X G (c.t.d.fact 15 (f := .free "str") rfl), He.free_ok X G (c.t.d.fact 16 (f := .free "zip") rfl), He.free_ok X G (c.t.d.fact 17 (f := .free "enumerate") rfl), He.free_ok X G (c.t.d.fact 18 (f := .free "ValueError") rfl)⟩
  have C : Csts K mg := ⟨He.str_ok X G (c.t.d.fact 19 (f := .str "LETTERS" "abcdefghijklmnopqrstuvwxyz") rfl), He.int_ok X G (c.t.d.fact 20 (f := .int "MAX_NAME" 8) rfl), He.int_ok X G (c.t.d.fact 21 (f := .int "MAX_NODES" 12) rfl), tup_ok (He.glo_ok X G (c.t.d.fact 22 (f := .glo "KINDS") rfl)) ex0⟩
  have Er : Errs K mg := errsB_ok ex1 fun D hD => by
    simp only [errDs, List.mem_cons, List.not_mem_nil, or_false] at hD
    rcases hD with rfl | rfl | rfl | rfl | rfl | rfl | rfl | rfl | rfl | rfl
    · exact He.glo_ok X G (c.t.d.fact 23 (f := .glo "MixerError") rfl)
    · exact He.glo_ok X G (c.t.d.fact 24 (f := .glo "InvalidLayout") rfl)
    · exact He.glo_ok X G (c.t.d.fact 25 (f := .glo "InvalidState") rfl)
    · exact He.glo_ok X G (c.t.d.fact 26 (f := .glo "InvalidTracks") rfl)
    · exact He.glo_ok X G (c.t.d.fact 27 (f := .glo "InvalidButton") rfl)
    · exact He.glo_ok X G (c.t.d.fact 28 (f := .glo "InvalidKnown") rfl)
    · exact He.glo_ok X G (c.t.d.fact 29 (f := .glo "InvalidNumber") rfl)
    · exact He.glo_ok X G (c.t.d.fact 30 (f := .glo "UnknownName") rfl)
    · exact He.glo_ok X G (c.t.d.fact 31 (f := .glo "TwiceName") rfl)
    · exact He.glo_ok X G (c.t.d.fact 32 (f := .glo "NothingToUndo") rfl)
  have E_InvalidButton : ExcOk K mg "InvalidButton" := excok_of (c.t.d.fact 33 (f := .exc "InvalidButton") rfl) (He.glo_ok X G (c.t.d.fact 27 (f := .glo "InvalidButton") rfl))
  have E_InvalidLayout : ExcOk K mg "InvalidLayout" := excok_of (c.t.d.fact 34 (f := .exc "InvalidLayout") rfl) (He.glo_ok X G (c.t.d.fact 24 (f := .glo "InvalidLayout") rfl))
  have E_InvalidState : ExcOk K mg "InvalidState" := excok_of (c.t.d.fact 35 (f := .exc "InvalidState") rfl) (He.glo_ok X G (c.t.d.fact 25 (f := .glo "InvalidState") rfl))
  obtain ⟨fd_is_name, F_is_name⟩ := c.t.d.def_ 0 (d := dD_is_name) rfl
  have D_is_name := walk_is_name (P := P) (w := w) (K := K) (mg := mg) (base := base) F_is_name (He.glo_ok X G (c.t.d.fact 36 (f := .glo "is_name") rfl)) T C
  obtain ⟨fd_is_layout, F_is_layout⟩ := c.t.d.def_ 1 (d := dD_is_layout) rfl
  have D_is_layout := walk_is_layout (P := P) (w := w) (K := K) (mg := mg) (base := base) F_is_layout (He.glo_ok X G (c.t.d.fact 37 (f := .glo "is_layout") rfl)) T C D_is_name
  obtain ⟨fd_require_layout, F_require_layout⟩ := c.t.d.def_ 2 (d := dD_require_layout) rfl
  have D_require_layout := walk_require_layout (P := P) (w := w) (K := K) (mg := mg) (base := base) F_require_layout (He.glo_ok X G (c.t.d.fact 38 (f := .glo "require_layout") rfl)) T E_InvalidLayout D_is_layout
  obtain ⟨fd_names_of, F_names_of⟩ := c.t.d.def_ 3 (d := dD_names_of) rfl
  have D_names_of := walk_names_of (P := P) (w := w) (K := K) (mg := mg) (base := base) F_names_of (He.glo_ok X G (c.t.d.fact 39 (f := .glo "names_of") rfl)) T
  obtain ⟨fd_tracks_of, F_tracks_of⟩ := c.t.d.def_ 4 (d := dD_tracks_of) rfl
  have D_tracks_of := walk_tracks_of (P := P) (w := w) (K := K) (mg := mg) (base := base) F_tracks_of (He.glo_ok X G (c.t.d.fact 40 (f := .glo "tracks_of") rfl)) T D_names_of
  obtain ⟨fd_is_node, F_is_node⟩ := c.t.d.def_ 5 (d := dD_is_node) rfl
  have D_is_node := walk_is_node (P := P) (w := w) (K := K) (mg := mg) (base := base) F_is_node (He.glo_ok X G (c.t.d.fact 41 (f := .glo "is_node") rfl)) T D_names_of
  obtain ⟨fd_is_button, F_is_button⟩ := c.t.d.def_ 6 (d := dD_is_button) rfl
  have D_is_button := walk_is_button (P := P) (w := w) (K := K) (mg := mg) (base := base) F_is_button (He.glo_ok X G (c.t.d.fact 42 (f := .glo "is_button") rfl)) T C D_is_node
  obtain ⟨fd_is_rising, F_is_rising⟩ := c.t.d.def_ 7 (d := dD_is_rising) rfl
  have D_is_rising := walk_is_rising (P := P) (w := w) (K := K) (mg := mg) (base := base) F_is_rising (He.glo_ok X G (c.t.d.fact 43 (f := .glo "is_rising") rfl)) T
  obtain ⟨fd_is_state_value, F_is_state_value⟩ := c.t.d.def_ 8 (d := dD_is_state_value) rfl
  have D_is_state_value := walk_is_state_value (P := P) (w := w) (K := K) (mg := mg) (base := base) F_is_state_value (He.glo_ok X G (c.t.d.fact 44 (f := .glo "is_state_value") rfl)) T D_is_button D_is_rising
  obtain ⟨fd_require_state, F_require_state⟩ := c.t.d.def_ 9 (d := dD_require_state) rfl
  have D_require_state := walk_require_state (P := P) (w := w) (K := K) (mg := mg) (base := base) F_require_state (He.glo_ok X G (c.t.d.fact 45 (f := .glo "require_state") rfl)) T E_InvalidState D_is_state_value
  obtain ⟨fd_require_button, F_require_button⟩ := c.t.d.def_ 10 (d := dD_require_button) rfl
  have D_require_button := walk_require_button (P := P) (w := w) (K := K) (mg := mg) (base := base) F_require_button (He.glo_ok X G (c.t.d.fact 46 (f := .glo "require_button") rfl)) T E_InvalidButton D_is_button
  obtain ⟨fd_way_of, F_way_of⟩ := c.t.d.def_ 11 (d := dD_way_of) rfl
  have D_way_of := walk_way_of (P := P) (w := w) (K := K) (mg := mg) (base := base) F_way_of (He.glo_ok X G (c.t.d.fact 47 (f := .glo "way_of") rfl)) T
  obtain ⟨fd_all_buttons, F_all_buttons⟩ := c.t.d.def_ 12 (d := dD_all_buttons) rfl
  have D_all_buttons := walk_all_buttons (P := P) (w := w) (K := K) (mg := mg) (base := base) F_all_buttons (He.glo_ok X G (c.t.d.fact 48 (f := .glo "all_buttons") rfl)) T C D_names_of
  obtain ⟨fd_reason_for, F_reason_for⟩ := c.t.d.def_ 13 (d := dD_reason_for) rfl
  have D_reason_for := walk_reason_for (P := P) (w := w) (K := K) (mg := mg) (base := base) F_reason_for (He.glo_ok X G (c.t.d.fact 49 (f := .glo "reason_for") rfl)) T D_way_of
  obtain ⟨fd_heard_in, F_heard_in⟩ := c.t.d.def_ 14 (d := dD_heard_in) rfl
  have D_heard_in := walk_heard_in (P := P) (w := w) (K := K) (mg := mg) (base := base) F_heard_in (He.glo_ok X G (c.t.d.fact 50 (f := .glo "heard_in") rfl)) T D_tracks_of D_reason_for
  obtain ⟨fd_after_press, F_after_press⟩ := c.t.d.def_ 15 (d := dD_after_press) rfl
  have D_after_press := walk_after_press (P := P) (w := w) (K := K) (mg := mg) (base := base) F_after_press (He.glo_ok X G (c.t.d.fact 51 (f := .glo "after_press") rfl)) T
  obtain ⟨fd_pressed, F_pressed⟩ := c.t.d.def_ 16 (d := dD_pressed) rfl
  have D_pressed := walk_pressed (P := P) (w := w) (K := K) (mg := mg) (base := base) F_pressed (He.glo_ok X G (c.t.d.fact 52 (f := .glo "pressed") rfl)) T D_require_layout D_require_state D_require_button D_after_press
  obtain ⟨fd_effect, F_effect⟩ := c.t.d.def_ 17 (d := dD_effect) rfl
  have D_effect := walk_effect (P := P) (w := w) (K := K) (mg := mg) (base := base) F_effect (He.glo_ok X G (c.t.d.fact 53 (f := .glo "effect") rfl)) T D_require_layout D_require_state D_require_button D_heard_in D_after_press
  obtain ⟨fd_idle_buttons, F_idle_buttons⟩ := c.t.d.def_ 18 (d := dD_idle_buttons) rfl
  have D_idle_buttons := walk_idle_buttons (P := P) (w := w) (K := K) (mg := mg) (base := base) F_idle_buttons (He.glo_ok X G (c.t.d.fact 54 (f := .glo "idle_buttons") rfl)) T D_require_layout D_require_state D_heard_in D_all_buttons D_after_press
  obtain ⟨fd__law_source, F__law_source⟩ := c.t.d.def_ 19 (d := dD__law_source) rfl
  have D__law_source := walk__law_source (P := P) (w := w) (K := K) (mg := mg) (base := base) F__law_source (He.glo_ok X G (c.t.d.fact 55 (f := .glo "_law_source") rfl)) T
  obtain ⟨fd__law_pick, F__law_pick⟩ := c.t.d.def_ 20 (d := dD__law_pick) rfl
  have D__law_pick := walk__law_pick (P := P) (w := w) (K := K) (mg := mg) (base := base) F__law_pick (He.glo_ok X G (c.t.d.fact 56 (f := .glo "_law_pick") rfl)) T
  obtain ⟨fd__law_error_name, F__law_error_name⟩ := c.t.d.def_ 21 (d := dD__law_error_name) rfl
  have D__law_error_name := walk__law_error_name (P := P) (w := w) (K := K) (mg := mg) (base := base) F__law_error_name (He.glo_ok X G (c.t.d.fact 57 (f := .glo "_law_error_name") rfl)) T Er
  obtain ⟨fd__law_nodes, F__law_nodes⟩ := c.t.d.def_ 22 (d := dD__law_nodes) rfl
  have D__law_nodes := walk__law_nodes (P := P) (w := w) (K := K) (mg := mg) (base := base) F__law_nodes (He.glo_ok X G (c.t.d.fact 58 (f := .glo "_law_nodes") rfl)) T D__law_pick
  obtain ⟨fd__law_way, F__law_way⟩ := c.t.d.def_ 23 (d := dD__law_way) rfl
  have D__law_way := walk__law_way (P := P) (w := w) (K := K) (mg := mg) (base := base) F__law_way (He.glo_ok X G (c.t.d.fact 59 (f := .glo "_law_way") rfl)) T
  obtain ⟨fd__law_ends, F__law_ends⟩ := c.t.d.def_ 24 (d := dD__law_ends) rfl
  have D__law_ends := walk__law_ends (P := P) (w := w) (K := K) (mg := mg) (base := base) F__law_ends (He.glo_ok X G (c.t.d.fact 60 (f := .glo "_law_ends") rfl)) T
  obtain ⟨fd__law_all_buttons, F__law_all_buttons⟩ := c.t.d.def_ 25 (d := dD__law_all_buttons) rfl
  have D__law_all_buttons := walk__law_all_buttons (P := P) (w := w) (K := K) (mg := mg) (base := base) F__law_all_buttons (He.glo_ok X G (c.t.d.fact 61 (f := .glo "_law_all_buttons") rfl)) T
  obtain ⟨fd__law_sounds, F__law_sounds⟩ := c.t.d.def_ 26 (d := dD__law_sounds) rfl
  have D__law_sounds := walk__law_sounds (P := P) (w := w) (K := K) (mg := mg) (base := base) F__law_sounds (He.glo_ok X G (c.t.d.fact 62 (f := .glo "_law_sounds") rfl)) T D__law_ends D__law_way
  obtain ⟨fd__law_lights, F__law_lights⟩ := c.t.d.def_ 27 (d := dD__law_lights) rfl
  have D__law_lights := walk__law_lights (P := P) (w := w) (K := K) (mg := mg) (base := base) F__law_lights (He.glo_ok X G (c.t.d.fact 63 (f := .glo "_law_lights") rfl)) T D__law_pick D__law_all_buttons
  obtain ⟨fd__law_turned, F__law_turned⟩ := c.t.d.def_ 28 (d := dD__law_turned) rfl
  have D__law_turned := walk__law_turned (P := P) (w := w) (K := K) (mg := mg) (base := base) F__law_turned (He.glo_ok X G (c.t.d.fact 64 (f := .glo "_law_turned") rfl)) T
  obtain ⟨fd__law_outcome, F__law_outcome⟩ := c.t.d.def_ 29 (d := dD__law_outcome) rfl
  have D__law_outcome := walk__law_outcome (P := P) (w := w) (K := K) (mg := mg) (base := base) F__law_outcome (He.glo_ok X G (c.t.d.fact 65 (f := .glo "_law_outcome") rfl)) T D__law_error_name Er D_pressed D_effect
  obtain ⟨fd_law, F_law⟩ := c.t.d.def_ 30 (d := dD_law) rfl
  have D_law := walk_law (P := P) (w := w) (K := K) (mg := mg) (base := base) F_law (He.glo_ok X G (c.t.d.fact 66 (f := .glo "law") rfl)) T D__law_source D__law_nodes D__law_lights D__law_sounds D__law_all_buttons D__law_turned D_pressed D_effect D_idle_buttons D__law_outcome
  exact D_law
end DL.K21
-- END
open PySem PySem.W PySem.Calls PyProof.Rows
theorem PySem.Challenge.cw_mutesolos_k21_presses_and_idle_buttons_holds : PySem.Challenge.rw_mutesolos_k21_presses_and_idle_buttons.Holds := by
  w_on
  o_law
  refine HandSHeadRun.head_any (r := OpenLaw.row PySem.Challenge.rw_mutesolos_k21_presses_and_idle_buttons) (q := view (OpenLaw.row PySem.Challenge.rw_mutesolos_k21_presses_and_idle_buttons).prog [49]) (H := DL.K21.hk) (ob := DL.K21.ob) (M := 6000) (loose := DL.K21.loose) (d := HandSHeadRun.topDef (OpenLaw.row PySem.Challenge.rw_mutesolos_k21_presses_and_idle_buttons).prog 49) (kwd := []) DL.K21.ob_eq
    (by kernel_rfl) (fun s => by kernel_rfl) DL.K21.run (by kernel_rfl) (by kernel_rfl) (by kernel_rfl) (by rfl) (by first | assumption | decide +kernel) (by decide +kernel) ⟨rfl, rfl, rfl, rfl, rfl, by decide +kernel⟩ ?hw ?hc
  case hw => w_witness2
  case hc =>
    refine L2.walk_ofE (l := PySem.Challenge.rw_mutesolos_k21_presses_and_idle_buttons) (n := 63) (k := 8) (x := "script") (CX := L2.CX0) rfl (by decide) (by kernel_rfl) ⟨rfl, by decide, by decide⟩ ?F (fun _ _ _ _ z => z)
    intro w mg fa h Y G hmg0
    obtain ⟨K, KX, c⟩ := Y
    have hmg : mg ("law" : PySem.Str) = some (.ref fa) := by
      have e : (HandSHeadRun.topDef (OpenLaw.row PySem.Challenge.rw_mutesolos_k21_presses_and_idle_buttons).prog 49).name = ("law" : PySem.Str) := by kernel_rfl
      rw [← e]
      exact hmg0
    obtain ⟨fd, hb, hF⟩ := DL.law_done (h := h) (fun base => DL.K21.facts (P := (PySem.Challenge.rw_mutesolos_k21_presses_and_idle_buttons).prog) (w := w) (base := base) KX G c) hmg
    exact ⟨K, fd, DL.spLaw (DL.spD K (He.ga K) 1 DL.K21.sem_law), KX, hb, fun H a ns hl _ hS => DL.law_in hl hS (DL.K21.law_true ns hl), fun base _ _ => hF base⟩
