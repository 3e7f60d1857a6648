import PyProof.Rows.All
import Wide.All
import OpenK.AllK
import Wide.FinOn
import HandS.ForMost
import HandS.Exc
import HandS.ExcOwn
import HandS.WordsExc
import HandS.Property
import HandS.TupAny
import HandS.Deep
import HandS.IsInst
import HandS.ReCall
import HandS.Lambda
import HandS.Flow
import HandS.Style
import KE.KSortTupG
import HandS.RaiseMore
import KE.KExcIs
import HandS.TryOnly
import HandS.EndBits
import HandS.Strs
import HandS.Defaults
import PyProof.Rows.ListMulArg
import HandS.TupMul
import KE.KRevSl
import HandS.More
import PyProof.InstNe
import HandS.SetFor
import PyProof.Rows.SortShellAny
import KE.KExcInit
import KE.KTryMore
import KE.KStateDown
import HandS.Head0
import HandS.Head1
import HandS.Head2
import HandS.HeadHook1
import HandS.HeadHook2
import HandS.EndTab
import PyProof.ListStr
import HandS.Conv
import PyProof.StrBlock2
import PyProof.NeKinds
import PyProof.Rows.CountFlat
import PyProof.EqKinds
import HandS.Text
import HandS.ClsMeth
import HandS.HeadNt
import KE.KCallOwn
import PyProof.Conv_bool
import HandS.OwnEq
import HandS.ExcValue
import PySem.Challenge.RW_switchhills_k45_whole_sure_ways
set_option Elab.async false
set_option linter.all false
set_option maxRecDepth 100000
set_option maxHeartbeats 4000000
/-! The data layer, part 0: new tuples whose object is known to have no dict of its own (so that their methods may be called). -/
namespace DL
open PySem L2 PyProof.Rows
/-- a tuple without a dict of its own: known, or of the module -/
def TpT (K : PySem.W.Frag) (H : Hp) (a : Addr) (xs : List V) : Prop := (∃ o, H a = some (.frz o (.tup xs)) ∧ o.dict = none) ∨
  ∃ (o : Obj) (its : Array Value) (n : Nat), K.lookup a = some o ∧ o.cls = .type "tuple" ∧ o.dict = none ∧ o.data = .seq its n ∧ its.size ≤ sizeLine ∧ Vals xs its.toList
theorem TpT.sqt {K : PySem.W.Frag} {H : Hp} {a : Addr} {xs : List V} (h : TpT K H a xs) : SqT K H a xs := by
  rcases h with ⟨o, e, _⟩ | ⟨o, its, n, e, c, _, d, z, r⟩
  · exact .inl (.inr ⟨o, e⟩)
  · exact .inr ⟨o, its, n, e, c, d, z, r⟩
theorem tpT_sub {K : PySem.W.Frag} {H H' : Hp} {a : Addr} {xs : List V} (k : ∀ a o, H a = some o → H' a = some o) (h : TpT K H a xs) : TpT K H' a xs := h.imp (fun ⟨o, e, d⟩ => ⟨o, k _ _ e, d⟩) id
section
variable {X : Cx} {es : List Expr} {t : TA} {pos : Pos}
/-- a new tuple at p -/
abbrev NewT (H : Hp) (xs : List V) (Q : VK) : Prop := ∀ p o, H p = none → o.dict = none → Q (.ref p) (upd H p (.frz o (.tup xs)))
theorem laidT {pins : List (Addr × Obj)} {σ : L2.St} {H : Hp} {s : Shared} {xs : List V} {its : List Value} {Q : VK} (I : Inv X pins σ H s) (r : Vals xs its) (hz : xs.length ≤ sizeLine) (q : NewT H xs Q) :
    EP X pins σ Q (.ref s.heap.objs.size) { s with heap := s.heap.push { cls := .type "tuple", data := .seq its.toArray } } :=
  ⟨.ref s.heap.objs.size, _, I.laid (t' := s.toks) (o := .frz { cls := .type "tuple", data := .seq its.toArray } (.tup xs)) (fun _ _ q => Heap.get?_push_of_some _ q) (Nat.le_refl _)
    ⟨Heap.get?_push_size _ rfl, hz, its, r, IsTup.new _ _⟩, rfl, q _ _ (I.hok.fresh (Nat.le_refl _)) rfl⟩
def tTupF (t : TA) : TE := fun σ H Q => t σ H fun xs H1 => xs.length ≤ sizeLine ∧ NewT H1 xs Q
theorem pe_tupF {x1} (h : PA X es t) : PE X (.Tuple es x1 pos) (tTupF t) := by
  refine ⟨fun pins s σ H Q I hq => ?_⟩
  exact wpAny_Tuple_spliced (thn (h.run pos pins s σ H _ I hq) fun us s1 ⟨xs, H1, I1, r, z, q⟩ => ⟨by rw [← r.length]; exact z, laidT I1 r z q⟩)
def rCatF (K : PySem.W.Frag) : R2 := fun x y H Q => ∃ a b xs ys, x = .ref a ∧ y = .ref b ∧ SqT K H a xs ∧ SqT K H b ys ∧ xs.length + ys.length ≤ sizeLine ∧
  (xs = [] → Q (.ref b) H) ∧ (xs ≠ [] → ys = [] → Q (.ref a) H) ∧ (xs ≠ [] → ys ≠ [] → NewT H (xs ++ ys) Q)
theorem op_catF : OpR X (binaryOp .Add) (rCatF X.K) := by
  intro pins s σ H x y v u Q I rx ry h
  obtain ⟨a, b, xs, ys, rfl, rfl, ha, hb, hz, q0, q1, q2⟩ := h
  by_cases hx : xs = []
  · subst hx
    exact op_catA pins s σ H _ _ v u Q I rx ry ⟨a, b, [], ys, rfl, rfl, ha, hb, hz, q0, fun z => absurd rfl z, fun z => absurd rfl z⟩
  · cases rx
    cases ry
    obtain ⟨its, r1, p1, _⟩ := I.tuple ha
    obtain ⟨its2, r2, p2, _⟩ := I.tuple hb
    refine HT.cat_tup p1 p2 (fun z => hx (r1.nil_iff.mp z)) (fun z => ⟨.ref a, H, I, rfl, q1 hx (r2.nil_iff.mp z)⟩) (fun z => ?_) (by rw [← r1.length, ← r2.length]; exact hz)
    exact laidT I (r1.append r2) (by rw [List.length_append]; exact hz) (q2 hx fun w => z (r2.nil_iff.mpr w))
def rSlF (K : PySem.W.Frag) : V → Option Int → Option Int → Hp → VK → Prop := fun x lo hi H Q => ∃ a xs, x = .ref a ∧ SqT K H a xs ∧
  (HT.sIx xs.length 0 lo = 0 ∧ HT.sIx xs.length xs.length hi = xs.length → Q (.ref a) H) ∧ (¬ (HT.sIx xs.length 0 lo = 0 ∧ HT.sIx xs.length xs.length hi = xs.length) → NewT H (cutV xs lo hi) Q)
theorem sl_tupF : SlR X (rSlF X.K) := by
  intro pins s σ H x v vl vu lo hi sl Q I rx hs pl pu h
  obtain ⟨a, xs, rfl, hx, q1, q2⟩ := h
  by_cases hw : HT.sIx xs.length 0 lo = 0 ∧ HT.sIx xs.length xs.length hi = xs.length
  · exact sl_tupA pins s σ H _ v vl vu lo hi sl Q I rx hs pl pu ⟨a, xs, rfl, hx, q1, fun z => absurd hw z⟩
  · cases rx
    obtain ⟨its, r, ht, hz⟩ := I.tuple hx
    have hlen : its.toArray.size = xs.length := by rw [List.size_toArray]; exact r.length.symm
    refine ⟨"tuple", _, PyProof.Rows.slot_tuple_getitem.lookup, ht.typeIs, ?_⟩
    refine HT.getItem_tuple_cut ht hs pl pu (by rw [hlen]; exact hw) ?_ (by rw [hlen]; exact hz)
    rw [hlen]
    exact laidT I ((r.drop (HT.sIx xs.length 0 lo)).take (HT.sIx xs.length xs.length hi - HT.sIx xs.length 0 lo)) (Nat.le_trans (cutV_length xs lo hi) hz) (q2 hw)
theorem call_tupleF : CallR X (.type "tuple") (fun xs H Q => ∃ p ys, xs = [.ref p] ∧ ((SqL X.K H p ys ∧ NewT H ys Q) ∨ (SqT X.K H p ys ∧ Q (.ref p) H))) := by
  intro pins s σ H xs us Q I r h
  obtain ⟨p, ys, rfl, h⟩ := h
  rcases h with ⟨hq, q⟩ | ⟨hq, q⟩
  · obtain ⟨u, rfl, rx⟩ := vals1 r
    cases rx
    obtain ⟨its, r', pl, hz⟩ := I.list hq
    have hlen := r'.length
    refine call_tuple_list pl.isList (fun h' kp => ?_) (by simp only [List.size_toArray] <;> omega)
    exact laidT (I.kept (t' := s.toks) kp) r' hz q
  · exact call_tuple_of pins s σ H _ us Q I r ⟨p, ys, rfl, .inr ⟨hq, q⟩⟩
end
end DL
/-! The data layer, part 1: data, worlds, frames, readings. -/
namespace DL
open PySem L2

/-- plain data, as a program that shares nothing sees it -/
inductive D where
  | non | bl (b : Bool) | int (i : Int) | str (s : Str)
  | tup (ds : List D) | lst (ds : List D)
  | dic (ks : List Key) (ds : List D)
  | obj (c : Nat) (ds : List D)
  | exc (c : Nat) (ds : List D)
  | jar
  | cel (i : Nat)

/-- what is fixed: the written part, the own classes' addresses and attributes -/
structure Gm where
  K : PySem.W.Frag
  pw : World
  cls : Nat → Addr
  fld : Nat → List Str
  tb : List (Addr × Str) := []
  /-- what a jar holds (its three ints), by the count of draws -/
  jp : Nat → Int → Int → Int → Prop := fun _ _ _ _ => True
  /-- there are no cells -/
  nc : Bool := true

/-- the state that a reading sees: a count of draws; what the cells (objects that change) hold: class, attributes -/
structure Sg where
  n : Nat
  cs : List (Nat × List D)
abbrev Pr := Sg → Prop

/-- a world: what of the heap is frozen; what changes outside of the frames (jr): the jars (ja), the tables of code objects (tb: the table, the name that its code objects bear) -/
structure Wd where
  hd : Hp
  jr : Addr → Prop
  ja : Addr → Prop
  tb : List (Addr × Str)
  gm : Gm
  sg : Sg
  dk : List (Addr × Addr)

/-- a dict of the written part -/
def KEnt (w : World) : List DictEntry → List (Key × V) → Prop
  | [], [] => True
  | e :: r, (k, v) :: t => keyIs k e.key = true ∧ e.hash = keyH w k ∧ RelV v e.val ∧ KEnt w r t
  | _, _ => False
def KDic (K : PySem.W.Frag) (w : World) (a : Addr) (kvs : List (Key × V)) : Prop :=
  ∃ es n, K.lookup a = some ⟨.type "dict", none, .dict es n, #[]⟩ ∧ (a == sysModules) = false ∧ KEnt w es.toList kvs

/-- a list that may be read: tracked, known, or the module's own -/
def LsT (K : PySem.W.Frag) (H : Hp) (a : Addr) (xs : List V) : Prop := Rd H a (.lst xs) ∨ ∃ its n, K.lookup a = some { cls := .type "list", data := .seq its n } ∧ its.size ≤ sizeLine ∧ Vals xs its.toList
theorem LsT.sql {K : PySem.W.Frag} {H : Hp} {a : Addr} {xs : List V} (h : LsT K H a xs) : SqL K H a xs := by
  rcases h with h | ⟨its, n, e, z, r⟩
  · exact .inl h
  · exact .inr ⟨_, its, n, e, rfl, rfl, rfl, z, r⟩
/-- what stands at a is an exception of the class at C; its dict -/
def XcAt (o : HO) (C : Addr) (od : Option Addr) (a : Addr) : Prop := ∀ (P : Program) (w : World) (H : Hp) (h : Heap), ObjOk P w H h a o → ∃ (oe : Obj) (vs : Array Value), h.get? a = some oe ∧ oe.cls = .ref C ∧ oe.dict = od ∧ oe.data = .fields vs
mutual
def Rep (G : Gm) (w : Wd) : D → V → Prop
  | .non, v => v = .non
  | .bl b, v => v = .bl b
  | .int i, v => v = .int i
  | .str s, v => v = .str s
  | .tup ds, v => ∃ a vs, v = .ref a ∧ TpT G.K w.hd a vs ∧ Reps G w ds vs
  | .lst ds, v => ∃ a vs, v = .ref a ∧ LsT G.K w.hd a vs ∧ Reps G w ds vs
  | .dic ks ds, v => ∃ a vs, v = .ref a ∧ (w.hd a = some (.dK (ks.zip vs)) ∨ KDic G.K G.pw a (ks.zip vs)) ∧ ks.length = vs.length ∧ Reps G w ds vs
  | .obj c ds, v => ∃ a dx fs, v = .ref a ∧ w.hd a = some (.ins (G.cls c) dx fs) ∧ fs.map (·.1) = G.fld c ∧ Reps G w ds (fs.map (·.2)) ∧ w.tb = G.tb ∧ w.gm = G
  | .exc c ds, v => ∃ a o od vs, v = .ref a ∧ w.hd a = some o ∧ XcAt o (G.cls c) od a ∧ Reps G w ds vs ∧ ((od = none ∧ vs = []) ∨ ∃ dx nm u, od = some dx ∧ vs = [u] ∧ G.fld c = [nm] ∧ w.hd dx = some (.xd [(nm, u)]))
  | .jar, v => ∃ a, v = .ref a ∧ w.ja a
  | .cel i, v => ∃ p : Addr × Addr, v = .ref p.1 ∧ w.dk[i]? = some p
def Reps (G : Gm) (w : Wd) : List D → List V → Prop
  | [], vs => vs = []
  | d :: ds, vs => ∃ v r, vs = v :: r ∧ Rep G w d v ∧ Reps G w ds r
end

/-- more is frozen -/
structure Sub (w w' : Wd) : Prop where
  hd : ∀ a o, w.hd a = some o → w'.hd a = some o
  jr : ∀ a, w.jr a → w'.jr a
  ja : ∀ a, w.ja a → w'.ja a
  tb : w'.tb = w.tb
  gm : w'.gm = w.gm
  dk : ∀ (i : Nat) p, w.dk[i]? = some p → w'.dk[i]? = some p
theorem Sub.refl (w : Wd) : Sub w w := ⟨fun _ _ h => h, fun _ h => h, fun _ h => h, rfl, rfl, fun _ _ h => h⟩
theorem Sub.trans {w1 w2 w3 : Wd} (a : Sub w1 w2) (b : Sub w2 w3) : Sub w1 w3 := ⟨fun x o h => b.hd x o (a.hd x o h), fun x h => b.jr x (a.jr x h), fun x h => b.ja x (a.ja x h), b.tb.trans a.tb, b.gm.trans a.gm, fun i p h => b.dk i p (a.dk i p h)⟩
theorem Sub.two {G : Gm} {w w' : Wd} (s : Sub w w') (h : w.tb = G.tb ∧ w.gm = G) : w'.tb = G.tb ∧ w'.gm = G := ⟨s.tb.trans h.1, s.gm.trans h.2⟩
theorem sqT_sub {K : PySem.W.Frag} {H H' : Hp} {a : Addr} {xs : List V} (k : ∀ a o, H a = some o → H' a = some o) (h : SqT K H a xs) : SqT K H' a xs := by
  rcases h with (h | ⟨o, h⟩) | h
  · exact .inl (.inl (k _ _ h))
  · exact .inl (.inr ⟨o, k _ _ h⟩)
  · exact .inr h
theorem rd_sub {H H' : Hp} {a : Addr} {u : HO} (k : ∀ a o, H a = some o → H' a = some o) (h : Rd H a u) : Rd H' a u := by
  rcases h with h | ⟨o, h⟩
  · exact .inl (k _ _ h)
  · exact .inr ⟨o, k _ _ h⟩
theorem lsT_sub {K : PySem.W.Frag} {H H' : Hp} {a : Addr} {xs : List V} (k : ∀ a o, H a = some o → H' a = some o) (h : LsT K H a xs) : LsT K H' a xs := h.imp (rd_sub k) id
mutual
theorem Rep.mono {G : Gm} {w w' : Wd} (k : Sub w w') : ∀ {d : D} {v : V}, Rep G w d v → Rep G w' d v
  | .non, v, h => by unfold Rep at h ⊢; exact h
  | .bl b, v, h => by unfold Rep at h ⊢; exact h
  | .int i, v, h => by unfold Rep at h ⊢; exact h
  | .str s, v, h => by unfold Rep at h ⊢; exact h
  | .tup ds, v, h => by
    unfold Rep at h ⊢
    obtain ⟨a, vs, e, hs, hr⟩ := h
    exact ⟨a, vs, e, tpT_sub k.hd hs, Reps.mono k hr⟩
  | .lst ds, v, h => by
    unfold Rep at h ⊢
    obtain ⟨a, vs, e, hs, hr⟩ := h
    exact ⟨a, vs, e, lsT_sub k.hd hs, Reps.mono k hr⟩
  | .dic ks ds, v, h => by
    unfold Rep at h ⊢
    obtain ⟨a, vs, e, hs, hl, hr⟩ := h
    exact ⟨a, vs, e, hs.imp (k.hd _ _) id, hl, Reps.mono k hr⟩
  | .obj c ds, v, h => by
    unfold Rep at h ⊢
    obtain ⟨a, dx, fs, e, hs, hl, hr, ht⟩ := h
    exact ⟨a, dx, fs, e, k.hd _ _ hs, hl, Reps.mono k hr, k.tb.trans ht.1, k.gm.trans ht.2⟩
  | .exc c ds, v, h => by
    unfold Rep at h ⊢
    obtain ⟨a, o, od, vs, e, ho, hx, hr, hd⟩ := h
    exact ⟨a, o, od, vs, e, k.hd _ _ ho, hx, Reps.mono k hr, hd.imp id fun ⟨dx, nm, u, h1, h2, h3, h4⟩ => ⟨dx, nm, u, h1, h2, h3, k.hd _ _ h4⟩⟩
  | .jar, v, h => by
    unfold Rep at h ⊢
    obtain ⟨a, e, hj⟩ := h
    exact ⟨a, e, k.ja a hj⟩
  | .cel i, v, h => by
    unfold Rep at h ⊢
    obtain ⟨p, e, hj⟩ := h
    exact ⟨p, e, k.dk i p hj⟩
theorem Reps.mono {G : Gm} {w w' : Wd} (k : Sub w w') : ∀ {ds : List D} {vs : List V}, Reps G w ds vs → Reps G w' ds vs
  | [], vs, h => by unfold Reps at h ⊢; exact h
  | d :: ds, vs, h => by
    unfold Reps at h ⊢
    obtain ⟨v, r, e, h1, h2⟩ := h
    exact ⟨v, r, e, Rep.mono k h1, Reps.mono k h2⟩
end

/-! ### Reps as a relation of lists -/
section
variable {G : Gm} {w : Wd}
theorem Reps.nil : Reps G w [] [] := by unfold Reps; rfl
theorem Reps.cons {d : D} {ds : List D} {v : V} {vs : List V} (h : Rep G w d v) (t : Reps G w ds vs) : Reps G w (d :: ds) (v :: vs) := by
  unfold Reps; exact ⟨v, vs, rfl, h, t⟩
theorem Reps.of_nil {vs : List V} (h : Reps G w [] vs) : vs = [] := by unfold Reps at h; exact h
theorem Reps.of_cons {d : D} {ds : List D} {vs : List V} (h : Reps G w (d :: ds) vs) : ∃ v r, vs = v :: r ∧ Rep G w d v ∧ Reps G w ds r := by
  unfold Reps at h; exact h
theorem Reps.length : ∀ {ds : List D} {vs : List V}, Reps G w ds vs → ds.length = vs.length
  | [], vs, h => by rw [h.of_nil]; rfl
  | d :: ds, vs, h => by
    obtain ⟨v, r, e, _, h2⟩ := h.of_cons
    rw [e, List.length_cons, List.length_cons, Reps.length h2]
theorem Reps.append : ∀ {ds es : List D} {vs us : List V}, Reps G w ds vs → Reps G w es us → Reps G w (ds ++ es) (vs ++ us)
  | [], es, vs, us, h, k => by rw [h.of_nil]; exact k
  | d :: ds, es, vs, us, h, k => by
    obtain ⟨v, r, e, h1, h2⟩ := h.of_cons
    rw [e]
    exact Reps.cons h1 (Reps.append h2 k)
theorem Reps.get : ∀ {ds : List D} {vs : List V} {i : Nat} {v : V}, Reps G w ds vs → vs[i]? = some v → ∃ d, ds[i]? = some d ∧ Rep G w d v
  | [], vs, i, v, h, e => by rw [h.of_nil] at e; simp at e
  | d :: ds, vs, i, v, h, e => by
    obtain ⟨x, r, q, h1, h2⟩ := h.of_cons
    subst q
    cases i with
    | zero => simp at e; subst e; exact ⟨d, by simp, h1⟩
    | succ i =>
      obtain ⟨d', a, b⟩ := Reps.get (i := i) (v := v) h2 (by simpa using e)
      exact ⟨d', by simpa using a, b⟩
theorem Reps.getD : ∀ {ds : List D} {vs : List V} {i : Nat} {d : D}, Reps G w ds vs → ds[i]? = some d → ∃ v, vs[i]? = some v ∧ Rep G w d v
  | [], vs, i, d, h, e => by simp at e
  | x :: ds, vs, i, d, h, e => by
    obtain ⟨v, r, q, h1, h2⟩ := h.of_cons
    subst q
    cases i with
    | zero => simp at e; subst e; exact ⟨v, by simp, h1⟩
    | succ i =>
      obtain ⟨d', a, b⟩ := Reps.getD (i := i) (d := d) h2 (by simpa using e)
      exact ⟨d', by simpa using a, b⟩
theorem Reps.take : ∀ {ds : List D} {vs : List V} (n : Nat), Reps G w ds vs → Reps G w (ds.take n) (vs.take n)
  | [], vs, n, h => by rw [h.of_nil]; simp; exact Reps.nil
  | d :: ds, vs, n, h => by
    obtain ⟨v, r, e, h1, h2⟩ := h.of_cons
    subst e
    cases n with
    | zero => exact Reps.nil
    | succ n => exact Reps.cons h1 (Reps.take n h2)
theorem Reps.drop : ∀ {ds : List D} {vs : List V} (n : Nat), Reps G w ds vs → Reps G w (ds.drop n) (vs.drop n)
  | [], vs, n, h => by rw [h.of_nil]; simp; exact Reps.nil
  | d :: ds, vs, n, h => by
    obtain ⟨v, r, e, h1, h2⟩ := h.of_cons
    subst e
    cases n with
    | zero => exact Reps.cons h1 h2
    | succ n => exact Reps.drop n h2
theorem Reps.reverse : ∀ {ds : List D} {vs : List V}, Reps G w ds vs → Reps G w ds.reverse vs.reverse
  | [], vs, h => by rw [h.of_nil]; exact Reps.nil
  | d :: ds, vs, h => by
    obtain ⟨v, r, e, h1, h2⟩ := h.of_cons
    subst e
    rw [List.reverse_cons, List.reverse_cons]
    exact Reps.append (Reps.reverse h2) (Reps.cons h1 Reps.nil)
theorem Rep.int_of {i : Int} {v : V} (h : Rep G w (.int i) v) : v = .int i := by unfold Rep at h; exact h
theorem Rep.str_of {i : Str} {v : V} (h : Rep G w (.str i) v) : v = .str i := by unfold Rep at h; exact h
theorem Rep.bl_of {i : Bool} {v : V} (h : Rep G w (.bl i) v) : v = .bl i := by unfold Rep at h; exact h
theorem Rep.non_of {v : V} (h : Rep G w .non v) : v = .non := by unfold Rep at h; exact h
theorem Rep.tup_of {ds : List D} {v : V} (h : Rep G w (.tup ds) v) : ∃ a vs, v = .ref a ∧ TpT G.K w.hd a vs ∧ Reps G w ds vs := by unfold Rep at h; exact h
theorem Rep.lst_of {ds : List D} {v : V} (h : Rep G w (.lst ds) v) : ∃ a vs, v = .ref a ∧ LsT G.K w.hd a vs ∧ Reps G w ds vs := by unfold Rep at h; exact h
theorem Rep.dic_of {ks : List Key} {ds : List D} {v : V} (h : Rep G w (.dic ks ds) v) : ∃ a vs, v = .ref a ∧ (w.hd a = some (.dK (ks.zip vs)) ∨ KDic G.K G.pw a (ks.zip vs)) ∧ ks.length = vs.length ∧ Reps G w ds vs := by unfold Rep at h; exact h
theorem Rep.obj_of {c : Nat} {ds : List D} {v : V} (h : Rep G w (.obj c ds) v) : ∃ a dx fs, v = .ref a ∧ w.hd a = some (.ins (G.cls c) dx fs) ∧ fs.map (·.1) = G.fld c ∧ Reps G w ds (fs.map (·.2)) ∧ w.tb = G.tb ∧ w.gm = G := by unfold Rep at h; exact h
theorem Rep.exc_of {c : Nat} {ds : List D} {v : V} (h : Rep G w (.exc c ds) v) : ∃ a o od vs, v = .ref a ∧ w.hd a = some o ∧ XcAt o (G.cls c) od a ∧ Reps G w ds vs ∧ ((od = none ∧ vs = []) ∨ ∃ dx nm u, od = some dx ∧ vs = [u] ∧ G.fld c = [nm] ∧ w.hd dx = some (.xd [(nm, u)])) := by unfold Rep at h; exact h
theorem Rep.jar_of {v : V} (h : Rep G w .jar v) : ∃ a, v = .ref a ∧ w.ja a := by unfold Rep at h; exact h
theorem Rep.cel_of {i : Nat} {v : V} (h : Rep G w (.cel i) v) : ∃ p : Addr × Addr, v = .ref p.1 ∧ w.dk[i]? = some p := by unfold Rep at h; exact h
theorem Rep.cel {i : Nat} {p : Addr × Addr} (h : w.dk[i]? = some p) : Rep G w (.cel i) (.ref p.1) := by unfold Rep; exact ⟨p, rfl, h⟩
theorem Rep.int {i : Int} : Rep G w (.int i) (.int i) := by unfold Rep; rfl
theorem Rep.str {i : Str} : Rep G w (.str i) (.str i) := by unfold Rep; rfl
theorem Rep.bl {i : Bool} : Rep G w (.bl i) (.bl i) := by unfold Rep; rfl
theorem Rep.non : Rep G w .non .non := by unfold Rep; rfl
theorem Rep.tup {ds : List D} {a : Addr} {vs : List V} (h : TpT G.K w.hd a vs) (r : Reps G w ds vs) : Rep G w (.tup ds) (.ref a) := by unfold Rep; exact ⟨a, vs, rfl, h, r⟩
theorem Rep.lst {ds : List D} {a : Addr} {vs : List V} (h : Rd w.hd a (.lst vs)) (r : Reps G w ds vs) : Rep G w (.lst ds) (.ref a) := by unfold Rep; exact ⟨a, vs, rfl, .inl h, r⟩
theorem Reps.ints : ∀ {ns : List Int} {vs : List V}, Reps G w (ns.map D.int) vs → vs = ns.map V.int
  | [], vs, h => h.of_nil
  | n :: ns, vs, h => by
    obtain ⟨v, r, e, h1, h2⟩ := Reps.of_cons (h : Reps G w (D.int n :: ns.map D.int) vs)
    rw [e, h1.int_of, Reps.ints h2]; rfl
theorem Reps.strs : ∀ {ns : List Str} {vs : List V}, Reps G w (ns.map D.str) vs → vs = ns.map V.str
  | [], vs, h => h.of_nil
  | n :: ns, vs, h => by
    obtain ⟨v, r, e, h1, h2⟩ := Reps.of_cons (h : Reps G w (D.str n :: ns.map D.str) vs)
    rw [e, h1.str_of, Reps.strs h2]; rfl
theorem Reps.bls : ∀ {ns : List Bool} {vs : List V}, Reps G w (ns.map D.bl) vs → vs = ns.map V.bl
  | [], vs, h => h.of_nil
  | n :: ns, vs, h => by
    obtain ⟨v, r, e, h1, h2⟩ := Reps.of_cons (h : Reps G w (D.bl n :: ns.map D.bl) vs)
    rw [e, h1.bl_of, Reps.bls h2]; rfl
theorem Reps.of_ints : ∀ {ns : List Int}, Reps G w (ns.map D.int) (ns.map V.int)
  | [] => Reps.nil
  | _ :: _ => Reps.cons Rep.int Reps.of_ints
theorem Reps.of_strs : ∀ {ns : List Str}, Reps G w (ns.map D.str) (ns.map V.str)
  | [] => Reps.nil
  | _ :: _ => Reps.cons Rep.str Reps.of_strs
end

/-! ### worlds and heaps -/
/-- the table at P tells code objects of the name q alone, which are frozen -/
def TabD (w : Wd) (H : Hp) (P : Addr) (q : Str) : Prop := ∃ ps : Array Value, H P = some (.tbl ps) ∧ TriplesOk ps.toList ∧ ∀ (pos : Pos) (cv : Value), codeAmong pos ps.toList = some cv → ∃ c, cv = .ref c ∧ w.hd c = some (LamX.CodeO c q)
/-- the cell i, at p: what the state says that it holds stands there -/
def CelOk (w : Wd) (H : Hp) (i : Nat) (p : Addr × Addr) : Prop := ∃ c ds fs, w.sg.cs[i]? = some (c, ds) ∧ H p.1 = some (.ins (w.gm.cls c) p.2 fs) ∧ fs.map (·.1) = w.gm.fld c ∧ Reps w.gm w ds (fs.map (·.2))
structure Ok (w : Wd) (H : Hp) : Prop where
  sub : ∀ a o, w.hd a = some o → H a = some o
  jn : ∀ a, w.jr a → w.hd a = none ∧ H a ≠ none
  jar : ∀ a, w.ja a → w.jr a ∧ ∃ d s c : Int, H a = some (.lst [.int d, .int s, .int c]) ∧ w.gm.jp w.sg.n d s c
  tab : ∀ p ∈ w.tb, w.jr p.1 ∧ TabD w H p.1 p.2
  cel : ∀ (i : Nat) p, w.dk[i]? = some p → w.jr p.1 ∧ CelOk w H i p
  cne : ∀ (i j : Nat) p q, w.dk[i]? = some p → w.dk[j]? = some q → p.1 = q.1 → i = j
  cln : w.dk.length = w.sg.cs.length
  cnc : w.gm.nc = true → w.dk = []
theorem TabD.go {w w' : Wd} {H H' : Hp} {P : Addr} {q : Str} (t : TabD w H P q) (hH : H' P = H P) (hw : ∀ a o, w.hd a = some o → w'.hd a = some o) : TabD w' H' P q := by
  obtain ⟨ps, h1, h2, h3⟩ := t
  refine ⟨ps, hH.trans h1, h2, fun pos cv e => ?_⟩
  obtain ⟨c, e1, e2⟩ := h3 pos cv e
  exact ⟨c, e1, hw _ _ e2⟩
theorem CelOk.at_ {w : Wd} {H : Hp} {i : Nat} {p : Addr × Addr} (h : CelOk w H i p) : ∃ C fs, H p.1 = some (.ins C p.2 fs) := by
  obtain ⟨c, ds, fs, _, e, _⟩ := h
  exact ⟨_, fs, e⟩
theorem CelOk.go {w : Wd} {H H' : Hp} {i : Nat} {p : Addr × Addr} (h : CelOk w H i p) (e : H' p.1 = H p.1) : CelOk w H' i p := by
  obtain ⟨c, ds, fs, e1, e2, e3⟩ := h
  exact ⟨c, ds, fs, e1, e.trans e2, e3⟩
structure Le (w : Wd) (H : Hp) (w' : Wd) (H' : Hp) : Prop where
  sub : Sub w w'
  keep : ∀ a o, H a = some o → ¬ w.jr a → H' a = some o
  old : ∀ a, H a ≠ none → w'.jr a → w.jr a
  oldh : ∀ a, H a ≠ none → w'.hd a ≠ none → w.hd a ≠ none
  dom : ∀ a, H a ≠ none → H' a ≠ none
theorem Le.refl (w : Wd) (H : Hp) : Le w H w H := ⟨.refl w, fun _ _ h _ => h, fun _ _ h => h, fun _ _ h => h, fun _ h => h⟩
theorem Le.trans {w w1 w2 : Wd} {H H1 H2 : Hp} (a : Le w H w1 H1) (b : Le w1 H1 w2 H2) : Le w H w2 H2 where
  sub := a.sub.trans b.sub
  keep := fun x o h nj => b.keep x o (a.keep x o h nj) fun j => nj (a.old x (by rw [h]; exact fun z => by cases z) j)
  old := fun x h j => a.old x h (b.old x (a.dom x h) j)
  oldh := fun x h j => a.oldh x h (b.oldh x (a.dom x h) j)
  dom := fun x h => b.dom x (a.dom x h)
/-- a new object, not frozen -/
theorem Le.new {w : Wd} {H : Hp} {p : Addr} {o : HO} (h : H p = none) : Le w H w (upd H p o) where
  sub := .refl w
  keep := fun a u e _ => by rw [upd_ne (ne_of_none e h)]; exact e
  old := fun _ _ j => j
  oldh := fun _ _ j => j
  dom := fun a e => by
    by_cases z : a = p
    · subst z; exact absurd h e
    · rw [upd_ne z]; exact e
theorem Ok.none_hd {w : Wd} {H : Hp} (ok : Ok w H) {a : Addr} (h : H a = none) : w.hd a = none := by
  cases e : w.hd a with
  | none => rfl
  | some o => rw [ok.sub a o e] at h; cases h
theorem Ok.none_jr {w : Wd} {H : Hp} (ok : Ok w H) {a : Addr} (h : H a = none) : ¬ w.jr a := fun j => (ok.jn a j).2 h
theorem Ok.new {w : Wd} {H : Hp} {p : Addr} {o : HO} (ok : Ok w H) (h : H p = none) : Ok w (upd H p o) where
  sub := fun a u e => by
    have z := ok.sub a u e
    rw [upd_ne (ne_of_none z h)]; exact z
  jn := fun a j => by
    obtain ⟨e, z⟩ := ok.jn a j
    exact ⟨e, by rw [upd_ne (fun y => z (by rw [y]; exact h))]; exact z⟩
  jar := fun a j => by
    obtain ⟨e, d, s, c, z, g⟩ := ok.jar a j
    exact ⟨e, d, s, c, by rw [upd_ne (ne_of_none z h)]; exact z, g⟩
  tab := fun q m => by
    obtain ⟨e, t⟩ := ok.tab q m
    exact ⟨e, t.go (upd_ne fun y => (ok.jn q.1 e).2 (by rw [y]; exact h)) fun _ _ z => z⟩
  cel := fun i q m => by
    obtain ⟨e, t⟩ := ok.cel i q m
    exact ⟨e, t.go (upd_ne fun y => (ok.jn q.1 e).2 (by rw [y]; exact h))⟩
  cne := ok.cne
  cln := ok.cln
  cnc := ok.cnc
/-- one object more is frozen, as it stands -/
def Wd.frz (w : Wd) (H : Hp) (p : Addr) : Wd := ⟨fun a => if a = p then H p else w.hd a, w.jr, w.ja, w.tb, w.gm, w.sg, w.dk⟩
theorem frz_at {w : Wd} {H : Hp} {p : Addr} : (w.frz H p).hd p = H p := by show (if p = p then H p else _) = _; rw [if_pos rfl]
theorem frz_ne {w : Wd} {H : Hp} {p a : Addr} (h : a ≠ p) : (w.frz H p).hd a = w.hd a := by show (if a = p then H p else _) = _; rw [if_neg h]
theorem Sub.frz {w : Wd} {H : Hp} {p : Addr} (h : w.hd p = none) : Sub w (w.frz H p) where
  hd := fun a o e => by
    rw [frz_ne (ne_of_none e h)]; exact e
  jr := fun _ j => j
  ja := fun _ j => j
  tb := rfl
  gm := rfl
  dk := fun _ _ h => h
theorem Sub.frz' {w : Wd} {H : Hp} {p : Addr} (ok : Ok w H) : Sub w (w.frz H p) where
  hd := fun a o e => by
    by_cases z : a = p
    · subst z; rw [frz_at]; exact ok.sub _ _ e
    · rw [frz_ne z]; exact e
  jr := fun _ j => j
  ja := fun _ j => j
  tb := rfl
  gm := rfl
  dk := fun _ _ h => h
theorem Ok.frz {w : Wd} {H : Hp} {p : Addr} (ok : Ok w H) (nj : ¬ w.jr p) : Ok (w.frz H p) H where
  sub := fun a o e => by
    by_cases z : a = p
    · subst z; rw [frz_at] at e; exact e
    · rw [frz_ne z] at e; exact ok.sub a o e
  jn := fun a j => by
    obtain ⟨e, r⟩ := ok.jn a j
    have na : a ≠ p := fun z => by
      subst z; exact nj j
    exact ⟨by rw [frz_ne na]; exact e, r⟩
  jar := ok.jar
  tab := fun q m => by
    obtain ⟨e, t⟩ := ok.tab q m
    refine ⟨e, t.go rfl fun a o z => ?_⟩
    by_cases y : a = p
    · subst y; rw [frz_at]; exact ok.sub _ _ z
    · rw [frz_ne y]; exact z
  cel := fun i q m => by
    obtain ⟨e, c, ds, fs, e1, e2, e3, r⟩ := ok.cel i q m
    exact ⟨e, c, ds, fs, e1, e2, e3, r.mono (.frz' ok)⟩
  cne := ok.cne
  cln := ok.cln
  cnc := ok.cnc
/-- what is new behind (w0, H0) may be frozen -/
theorem Le.frz {w0 w : Wd} {H0 H : Hp} {p : Addr} (l : Le w0 H0 w H) (hn : w.hd p = none) (h0 : H0 p = none) : Le w0 H0 (w.frz H p) H where
  sub := l.sub.trans (.frz hn)
  keep := l.keep
  old := l.old
  oldh := fun a h j => by
    by_cases z : a = p
    · subst z; exact absurd h0 h
    · rw [frz_ne z] at j; exact l.oldh a h j
  dom := l.dom
/-- an unfrozen object that is no jar and new behind (w0, H0) is changed -/
theorem Le.put {w0 w : Wd} {H0 H : Hp} {p : Addr} {o : HO} (l : Le w0 H0 w H) (h0 : H0 p = none) : Le w0 H0 w (upd H p o) where
  sub := l.sub
  keep := fun a u e nj => by rw [upd_ne (ne_of_none e h0)]; exact l.keep a u e nj
  old := l.old
  oldh := l.oldh
  dom := fun a e => by
    by_cases z : a = p
    · subst z; rw [upd_same]; exact fun q => by cases q
    · rw [upd_ne z]; exact l.dom a e
theorem Ok.put {w : Wd} {H : Hp} {p : Addr} {o : HO} (ok : Ok w H) (hn : w.hd p = none) (nj : ¬ w.jr p) : Ok w (upd H p o) where
  sub := fun a u e => by
    rw [upd_ne (ne_of_none e hn)]; exact ok.sub a u e
  jn := fun a j => by
    obtain ⟨e, z⟩ := ok.jn a j
    exact ⟨e, by rw [upd_ne (fun y => by rw [y] at j; exact nj j)]; exact z⟩
  jar := fun a j => by
    obtain ⟨e, d, s, c, z, g⟩ := ok.jar a j
    exact ⟨e, d, s, c, by rw [upd_ne (fun y => by rw [y] at e; exact nj e)]; exact z, g⟩
  tab := fun q m => by
    obtain ⟨e, t⟩ := ok.tab q m
    exact ⟨e, t.go (upd_ne fun y => nj (by rw [← y]; exact e)) fun _ _ z => z⟩
  cel := fun i q m => by
    obtain ⟨e, t⟩ := ok.cel i q m
    exact ⟨e, t.go (upd_ne fun y => nj (by rw [← y]; exact e))⟩
  cne := ok.cne
  cln := ok.cln
  cnc := ok.cnc

/-! ### slots, frames -/
inductive Sl where
  | un
  | val (d : D)
  | own (ds : List D)
  | ownd (ks : List Key) (ds : List D)
  | slf (x : Addr) (c : Nat) (ds : List D)
def Sl.isOwn : Sl → Bool
  | .own _ => true | .ownd _ _ => true | .slf _ _ _ => true
  | _ => false
/-- a slot's value is an object of the frame's own -/
def Mine (H0 : Hp) (w : Wd) (a : Addr) : Prop := w.hd a = none ∧ ¬ w.jr a ∧ H0 a = none
def SlotOk (G : Gm) (H0 : Hp) (w : Wd) (H : Hp) : Sl → Option (Option V) → Prop
  | .un, _ => True
  | .val d, o => ∃ v, o = some (some v) ∧ Rep G w d v
  | .own ds, o => ∃ a vs, o = some (some (.ref a)) ∧ Mine H0 w a ∧ H a = some (.lst vs) ∧ Reps G w ds vs
  | .ownd ks ds, o => ∃ a vs, o = some (some (.ref a)) ∧ Mine H0 w a ∧ H a = some (.dK (ks.zip vs)) ∧ ks.length = vs.length ∧ Reps G w ds vs
  | .slf x c ds, o => ∃ a dx fs, o = some (some (.ref a)) ∧ Mine H0 w a ∧ H a = some (.ins (G.cls c) dx fs) ∧ (∃ l, G.fld c = fs.map (·.1) ++ l) ∧ fs.length < 1000 ∧ Reps G w ds (fs.map (·.2)) ∧ a = x
abbrev Env := List Sl
structure Fr (G : Gm) (w0 : Wd) (H0 : Hp) (r : Env) (s : St) (w : Wd) (H : Hp) : Prop where
  gm : w.gm = G
  ok : Ok w H
  le : Le w0 H0 w H
  len : r.length = s.length
  slot : ∀ (i : Nat) x, r[i]? = some x → SlotOk G H0 w H x s[i]?
  dist : ∀ (i j : Nat) x y a, r[i]? = some x → r[j]? = some y → x.isOwn = true → y.isOwn = true → s[i]? = some (some (.ref a)) → s[j]? = some (some (.ref a)) → i = j
theorem Mine.le {H0 : Hp} {w w' : Wd} {H H' : Hp} {a : Addr} {o : HO} (m : Mine H0 w a) (h : H a = some o) (l : Le w H w' H') : Mine H0 w' a := by
  have hn : H a ≠ none := by rw [h]; exact fun z => by cases z
  refine ⟨?_, fun j => m.2.1 (l.old a hn j), m.2.2⟩
  cases e : w'.hd a with
  | none => rfl
  | some u => exact absurd m.1 (l.oldh a hn (by rw [e]; exact fun z => by cases z))
theorem SlotOk.le {G : Gm} {H0 : Hp} {w w' : Wd} {H H' : Hp} {x : Sl} {o : Option (Option V)} (l : Le w H w' H') (h : SlotOk G H0 w H x o) : SlotOk G H0 w' H' x o := by
  cases x with
  | un => trivial
  | val d => obtain ⟨v, e, r⟩ := h; exact ⟨v, e, r.mono l.sub⟩
  | own ds => obtain ⟨a, vs, e, m, h1, r⟩ := h; exact ⟨a, vs, e, m.le h1 l, l.keep _ _ h1 m.2.1, r.mono l.sub⟩
  | ownd ks ds => obtain ⟨a, vs, e, m, h1, hl, r⟩ := h; exact ⟨a, vs, e, m.le h1 l, l.keep _ _ h1 m.2.1, hl, r.mono l.sub⟩
  | slf x c ds => obtain ⟨a, dx, fs, e, m, h1, hl, hz, r, ax⟩ := h; exact ⟨a, dx, fs, e, m.le h1 l, l.keep _ _ h1 m.2.1, hl, hz, r.mono l.sub, ax⟩
theorem Fr.go {G : Gm} {w0 : Wd} {H0 : Hp} {r : Env} {s : St} {w w' : Wd} {H H' : Hp} (f : Fr G w0 H0 r s w H) (l : Le w H w' H') (ok : Ok w' H') : Fr G w0 H0 r s w' H' :=
  ⟨l.sub.gm.trans f.gm, ok, f.le.trans l, f.len, fun i x e => (f.slot i x e).le l, f.dist⟩
/-- a slot takes a value that is no own object -/
theorem Fr.set {G : Gm} {w0 : Wd} {H0 : Hp} {r : Env} {s : St} {w : Wd} {H : Hp} {i : Nat} {x : Sl} {v : V} (f : Fr G w0 H0 r s w H) (hx : x.isOwn = false) (h : SlotOk G H0 w H x (some (some v))) :
    Fr G w0 H0 (r.set i x) (s.set i (some v)) w H where
  gm := f.gm
  ok := f.ok
  le := f.le
  len := by simpa using f.len
  slot := fun j y e => by
    by_cases z : i = j
    · subst z
      have hi : i < r.length := by
        have q := (List.getElem?_eq_some_iff.mp e).1
        simpa using q
      rw [List.getElem?_set_self hi] at e
      rw [List.getElem?_set_self (f.len ▸ hi)]
      cases e
      exact h
    · rw [List.getElem?_set_ne z] at e
      rw [List.getElem?_set_ne z]
      exact f.slot j y e
  dist := fun j k y u a e1 e2 o1 o2 q1 q2 => by
    have hlt : ∀ {n : Nat} {y : Sl}, (r.set i x)[n]? = some y → y.isOwn = true → i ≠ n := fun {n y} e o z => by
      subst z
      have hi : i < r.length := by
        have q := (List.getElem?_eq_some_iff.mp e).1
        simpa using q
      rw [List.getElem?_set_self hi] at e
      cases e
      rw [hx] at o; cases o
    have n1 := hlt e1 o1
    have n2 := hlt e2 o2
    rw [List.getElem?_set_ne n1] at e1 q1
    rw [List.getElem?_set_ne n2] at e2 q2
    exact f.dist j k y u a e1 e2 o1 o2 q1 q2
/-- a slot takes a new own object -/
theorem Fr.setOwn {G : Gm} {w0 : Wd} {H0 : Hp} {r : Env} {s : St} {w : Wd} {H Hb : Hp} {i : Nat} {x : Sl} {p : Addr} (f : Fr G w0 H0 r s w H)
    (hb : ∀ (j : Nat) y a, r[j]? = some y → y.isOwn = true → s[j]? = some (some (.ref a)) → Hb a ≠ none) (hp : Hb p = none) (h : SlotOk G H0 w H x (some (some (.ref p)))) :
    Fr G w0 H0 (r.set i x) (s.set i (some (.ref p))) w H where
  gm := f.gm
  ok := f.ok
  le := f.le
  len := by simpa using f.len
  slot := fun j y e => by
    by_cases z : i = j
    · subst z
      have hi : i < r.length := by
        have q := (List.getElem?_eq_some_iff.mp e).1
        simpa using q
      rw [List.getElem?_set_self hi] at e
      rw [List.getElem?_set_self (f.len ▸ hi)]
      cases e
      exact h
    · rw [List.getElem?_set_ne z] at e
      rw [List.getElem?_set_ne z]
      exact f.slot j y e
  dist := fun j k y u a e1 e2 o1 o2 q1 q2 => by
    by_cases z1 : i = j
    · by_cases z2 : i = k
      · exact z1.symm.trans z2
      · subst z1
        have hi : i < s.length := by
          have q := (List.getElem?_eq_some_iff.mp q1).1
          simpa using q
        rw [List.getElem?_set_self hi] at q1
        cases q1
        rw [List.getElem?_set_ne z2] at e2 q2
        exact absurd hp (hb k u _ e2 o2 q2)
    · by_cases z2 : i = k
      · subst z2
        have hi : i < s.length := by
          have q := (List.getElem?_eq_some_iff.mp q2).1
          simpa using q
        rw [List.getElem?_set_self hi] at q2
        cases q2
        rw [List.getElem?_set_ne z1] at e1 q1
        exact absurd hp (hb j y _ e1 o1 q1)
      · rw [List.getElem?_set_ne z1] at e1 q1
        rw [List.getElem?_set_ne z2] at e2 q2
        exact f.dist j k y u a e1 e2 o1 o2 q1 q2
theorem Fr.ownAt {G : Gm} {w0 : Wd} {H0 : Hp} {r : Env} {s : St} {w : Wd} {H : Hp} (f : Fr G w0 H0 r s w H) (j : Nat) (y : Sl) (a : Addr) (e : r[j]? = some y) (o : y.isOwn = true) (q : s[j]? = some (some (.ref a))) : H a ≠ none := by
  have h := f.slot j y e
  rw [q] at h
  cases y with
  | un => cases o
  | val d => cases o
  | own ds => obtain ⟨b, vs, e, _, h1, _⟩ := h; cases e; rw [h1]; exact fun z => by cases z
  | ownd ks ds => obtain ⟨b, vs, e, _, h1, _⟩ := h; cases e; rw [h1]; exact fun z => by cases z
  | slf x c ds => obtain ⟨b, dx, fs, e, _, h1, _⟩ := h; cases e; rw [h1]; exact fun z => by cases z
/-- an own object (in slot i) is changed -/
theorem Fr.chg {G : Gm} {w0 : Wd} {H0 : Hp} {r : Env} {s : St} {w : Wd} {H : Hp} {i : Nat} {x y : Sl} {p : Addr} {o : HO} (f : Fr G w0 H0 r s w H) (e : r[i]? = some x) (ox : x.isOwn = true) (q : s[i]? = some (some (.ref p)))
    (m : Mine H0 w p) (h : SlotOk G H0 w (upd H p o) y (some (some (.ref p)))) : Fr G w0 H0 (r.set i y) s w (upd H p o) where
  gm := f.gm
  ok := f.ok.put m.1 m.2.1
  le := f.le.put m.2.2
  len := by simpa using f.len
  slot := fun j z e' => by
    by_cases zj : i = j
    · subst zj
      have hi : i < r.length := (List.getElem?_eq_some_iff.mp e).1
      rw [List.getElem?_set_self hi] at e'
      cases e'
      rw [q]
      exact h
    · rw [List.getElem?_set_ne zj] at e'
      have hz := f.slot j z e'
      have ne : ∀ a, z.isOwn = true → s[j]? = some (some (.ref a)) → a ≠ p := fun a oz qa za => by
        subst za
        exact zj (f.dist i j x z a e e' ox oz q qa)
      cases z with
      | un => trivial
      | val d => exact hz
      | own ds => obtain ⟨a, vs, e2, m2, h2, r2⟩ := hz; exact ⟨a, vs, e2, m2, by rw [upd_ne (ne a rfl e2)]; exact h2, r2⟩
      | ownd ks ds => obtain ⟨a, vs, e2, m2, h2, r2⟩ := hz; exact ⟨a, vs, e2, m2, by rw [upd_ne (ne a rfl e2)]; exact h2, r2⟩
      | slf x c ds => obtain ⟨a, dx, fs, e2, m2, h2, r2⟩ := hz; exact ⟨a, dx, fs, e2, m2, by rw [upd_ne (ne a rfl e2)]; exact h2, r2⟩
  dist := fun j k u v a e1 e2 o1 o2 q1 q2 => by
    have old : ∀ {n : Nat} {u : Sl}, (r.set i y)[n]? = some u → u.isOwn = true → ∃ u', r[n]? = some u' ∧ u'.isOwn = true := fun {n u} en on => by
      by_cases z : i = n
      · subst z; exact ⟨x, e, ox⟩
      · rw [List.getElem?_set_ne z] at en; exact ⟨u, en, on⟩
    obtain ⟨u', a1, b1⟩ := old e1 o1
    obtain ⟨v', a2, b2⟩ := old e2 o2
    exact f.dist j k u' v' a a1 a2 b1 b2 q1 q2
/-- an own list, dict becomes a value: nobody changes it from here on -/
def Sl.off : Sl → Sl
  | .own ds => .val (.lst ds)
  | .ownd ks ds => .val (.dic ks ds)
  | x => x
theorem Fr.off {G : Gm} {w0 : Wd} {H0 : Hp} {r : Env} {s : St} {w : Wd} {H : Hp} {i : Nat} {x : Sl} {p : Addr} {y : Sl} (f : Fr G w0 H0 r s w H) (e : r[i]? = some x) (ox : x.isOwn = true) (q : s[i]? = some (some (.ref p)))
    (m : Mine H0 w p) (oy : y.isOwn = false) (h : SlotOk G H0 (w.frz H p) H y (some (some (.ref p)))) : Fr G w0 H0 (r.set i y) s (w.frz H p) H where
  gm := f.gm
  ok := f.ok.frz m.2.1
  le := f.le.frz m.1 m.2.2
  len := by simpa using f.len
  slot := fun j z e' => by
    by_cases zj : i = j
    · subst zj
      have hi : i < r.length := (List.getElem?_eq_some_iff.mp e).1
      rw [List.getElem?_set_self hi] at e'
      cases e'
      rw [q]
      exact h
    · rw [List.getElem?_set_ne zj] at e'
      have hz := f.slot j z e'
      have sb : Sub w (w.frz H p) := .frz m.1
      have ne : ∀ a, z.isOwn = true → s[j]? = some (some (.ref a)) → a ≠ p := fun a oz qa za => by
        subst za
        exact zj (f.dist i j x z a e e' ox oz q qa)
      have mn : ∀ {a}, Mine H0 w a → a ≠ p → Mine H0 (w.frz H p) a := fun {a} k na => ⟨by rw [frz_ne na]; exact k.1, k.2.1, k.2.2⟩
      cases z with
      | un => trivial
      | val d => obtain ⟨v, e2, r2⟩ := hz; exact ⟨v, e2, r2.mono sb⟩
      | own ds => obtain ⟨a, vs, e2, m2, h2, r2⟩ := hz; exact ⟨a, vs, e2, mn m2 (ne a rfl e2), h2, r2.mono sb⟩
      | ownd ks ds => obtain ⟨a, vs, e2, m2, h2, hl, r2⟩ := hz; exact ⟨a, vs, e2, mn m2 (ne a rfl e2), h2, hl, r2.mono sb⟩
      | slf x c ds => obtain ⟨a, dx, fs, e2, m2, h2, hl, hz', r2, ax⟩ := hz; exact ⟨a, dx, fs, e2, mn m2 (ne a rfl e2), h2, hl, hz', r2.mono sb, ax⟩
  dist := fun j k u v a e1 e2 o1 o2 q1 q2 => by
    have nn : ∀ {n : Nat} {u : Sl}, (r.set i y)[n]? = some u → u.isOwn = true → i ≠ n := fun {n u} en on z => by
      subst z
      have hi : i < r.length := (List.getElem?_eq_some_iff.mp e).1
      rw [List.getElem?_set_self hi] at en
      cases en
      rw [oy] at on; cases on
    have n1 := nn e1 o1
    have n2 := nn e2 o2
    rw [List.getElem?_set_ne n1] at e1
    rw [List.getElem?_set_ne n2] at e2
    exact f.dist j k u v a e1 e2 o1 o2 q1 q2
end DL
/-! The data layer, part 2: the readings over data, names, constants, operators. -/
namespace DL
open PySem L2

/-- an exception: its class by number, its attribute -/
structure XD where
  c : Nat
  d : Option D
abbrev XP := XD → Pr
abbrev FE := Env → (D → Pr) → XP → Pr
abbrev FT := Env → (Bool → Pr) → XP → Pr
abbrev FA := Env → (List D → Pr) → XP → Pr
/-- what is wanted behind a statement -/
structure DE where
  nx : Env → Pr
  rt : D → Pr
  bk : Env → Pr := fun _ _ => False
  ct : Env → Pr := fun _ _ => False
  rn : List D → Pr := fun _ _ => False
abbrev FS := DE → XP → Env → Pr

def ExAt (G : Gm) (w : Wd) (H : Hp) (x : XD) (od : Option Addr) : Prop :=
  match x.d with
  | none => od = none
  | some d => ∃ a nm v, od = some a ∧ G.fld x.c = [nm] ∧ w.hd a = some (.xd [(nm, v)]) ∧ Rep G w d v
def LkE (G : Gm) (E : XK) (w0 : Wd) (H0 : Hp) (EX : XP) : Prop := (∀ x od w H, Le w0 H0 w H → Ok w H → ExAt G w H x od → EX x w.sg → E (.ref (G.cls x.c)) od H) ∧ w0.tb = G.tb ∧ w0.gm = G
theorem LkE.none {G : Gm} {E : XK} {w0 : Wd} {H0 : Hp} (ht : w0.tb = G.tb ∧ w0.gm = G) : LkE G E w0 H0 (fun _ _ => False) := ⟨fun _ _ _ _ _ _ _ h => h.elim, ht⟩
/-- a value that may be an own list or dict -/
def See (G : Gm) (H0 : Hp) (w : Wd) (H : Hp) (d : D) (v : V) : Prop :=
  Rep G w d v ∨ (∃ a vs ds, v = .ref a ∧ d = .lst ds ∧ Mine H0 w a ∧ H a = some (.lst vs) ∧ Reps G w ds vs) ∨
    ∃ a vs ks ds, v = .ref a ∧ d = .dic ks ds ∧ Mine H0 w a ∧ H a = some (.dK (ks.zip vs)) ∧ ks.length = vs.length ∧ Reps G w ds vs
theorem See.go {G : Gm} {H0 : Hp} {w w' : Wd} {H H' : Hp} {d : D} {v : V} (h : See G H0 w H d v) (l : Le w H w' H') : See G H0 w' H' d v := by
  rcases h with h | ⟨a, vs, ds, e1, e2, m, h1, r⟩ | ⟨a, vs, ks, ds, e1, e2, m, h1, hl, r⟩
  · exact .inl (h.mono l.sub)
  · exact .inr (.inl ⟨a, vs, ds, e1, e2, m.le h1 l, l.keep _ _ h1 m.2.1, r.mono l.sub⟩)
  · exact .inr (.inr ⟨a, vs, ks, ds, e1, e2, m.le h1 l, l.keep _ _ h1 m.2.1, hl, r.mono l.sub⟩)
inductive Sees (G : Gm) (H0 : Hp) (w : Wd) (H : Hp) : List D → List V → Prop where
  | nil : Sees G H0 w H [] []
  | cons {d ds v vs} : See G H0 w H d v → Sees G H0 w H ds vs → Sees G H0 w H (d :: ds) (v :: vs)
theorem Sees.go {G : Gm} {H0 : Hp} {w w' : Wd} {H H' : Hp} (l : Le w H w' H') : ∀ {ds : List D} {vs : List V}, Sees G H0 w H ds vs → Sees G H0 w' H' ds vs
  | _, _, .nil => .nil
  | _, _, .cons h t => .cons (h.go l) (Sees.go l t)

/-! ### the readings -/
section
variable (G : Gm) (E : XK)
def tD (F : FE) : TE := fun s H Q => ∃ w0 H0 r w QD EX, Fr G w0 H0 r s w H ∧ LkE G E w0 H0 EX ∧ F r QD EX w.sg ∧ ∀ d v w' H', Le w H w' H' → Ok w' H' → Rep G w' d v → QD d w'.sg → Q v H'
def bD (F : FE) : TE := fun s H Q => ∃ w0 H0 r w QD EX, Fr G w0 H0 r s w H ∧ LkE G E w0 H0 EX ∧ F r QD EX w.sg ∧ ∀ d v w' H', Le w H w' H' → Ok w' H' → See G H0 w' H' d v → QD d w'.sg → Q v H'
/-- a new list -/
def fD (F : FA) : TE := fun s H Q => ∃ w0 H0 r w QD EX, Fr G w0 H0 r s w H ∧ LkE G E w0 H0 EX ∧ F r QD EX w.sg ∧
  ∀ ds a vs w' H', Le w H w' H' → Ok w' H' → H a = none → Mine H0 w' a → H' a = some (.lst vs) → Reps G w' ds vs → QD ds w'.sg → Q (.ref a) H'
def ttD (F : FT) : TT := fun s H Q => ∃ w0 H0 r w QD EX, Fr G w0 H0 r s w H ∧ LkE G E w0 H0 EX ∧ F r QD EX w.sg ∧ ∀ b w' H', Le w H w' H' → Ok w' H' → QD b w'.sg → Q b H'
def taD (F : FA) : TA := fun s H Q => ∃ w0 H0 r w QD EX, Fr G w0 H0 r s w H ∧ LkE G E w0 H0 EX ∧ F r QD EX w.sg ∧ ∀ ds vs w' H', Le w H w' H' → Ok w' H' → Reps G w' ds vs → QD ds w'.sg → Q vs H'
def baD (F : FA) : TA := fun s H Q => ∃ w0 H0 r w QD EX, Fr G w0 H0 r s w H ∧ LkE G E w0 H0 EX ∧ F r QD EX w.sg ∧ ∀ ds vs w' H', Le w H w' H' → Ok w' H' → Sees G H0 w' H' ds vs → QD ds w'.sg → Q vs H'
structure Lk (w0 : Wd) (H0 : Hp) (wk : Wd) (A : DE) (B : Ends) : Prop where
  nx : ∀ r s w H, Fr G w0 H0 r s w H → Sub wk w → A.nx r w.sg → B.nx s H
  rt : ∀ d v w H, Le w0 H0 w H → Ok w H → Rep G w d v → A.rt d w.sg → B.rt v H
  bk : ∀ r s w H, Fr G w0 H0 r s w H → Sub wk w → A.bk r w.sg → B.bk s H
  ct : ∀ r s w H, Fr G w0 H0 r s w H → Sub wk w → A.ct r w.sg → B.ct s H
  rn : ∀ ds a vs w H, Le w0 H0 w H → Ok w H → Mine H0 w a → H a = some (.lst vs) → Reps G w ds vs → A.rn ds w.sg → B.rt (.ref a) H
def sD (F : FS) : TS := fun B s H => ∃ w0 H0 wk r w A EX, Fr G w0 H0 r s w H ∧ Sub wk w ∧ LkE G E w0 H0 EX ∧ Lk G w0 H0 wk A B ∧ F A EX r w.sg
end
section
variable {X : Cx} {G : Gm} {E : XK} {e a b : Expr} {es : List Expr} {t t' : TE} {pos : Pos}
theorem _root_.L2.PE.weak (h : PE X e t) (k : ∀ s H Q, t' s H Q → t s H Q) : PE X e t' := ⟨fun p s σ H Q I q => h.run p s σ H Q I (k σ H Q q)⟩
theorem _root_.L2.PT.weak {t t' : TT} (h : PT X e t) (k : ∀ s H Q, t' s H Q → t s H Q) : PT X e t' := ⟨fun p s σ H Q I q => h.run p s σ H Q I (k σ H Q q)⟩
theorem _root_.L2.PW.weak {t t' : TT} (h : PW X e t) (k : ∀ s H Q, t' s H Q → t s H Q) : PW X e t' := ⟨fun wh p s σ H Q I q => h.run wh p s σ H Q I (k σ H Q q)⟩
theorem _root_.L2.PA.weak {t t' : TA} (h : PA X es t) (k : ∀ s H Q, t' s H Q → t s H Q) : PA X es t' := ⟨fun ps p s σ H Q I q => h.run ps p s σ H Q I (k σ H Q q)⟩
theorem _root_.L2.PS.weak {st : Stmt} {t t' : TS} (h : PS X st t) (k : ∀ B s H, t' B s H → t B s H) : PS X st t' := ⟨fun p s σ H B I q => h.run p s σ H B I (k B σ H q)⟩
theorem _root_.L2.PSs.weak {st : List Stmt} {t t' : TS} (h : PSs X st t) (k : ∀ B s H, t' B s H → t B s H) : PSs X st t' := ⟨fun p s σ H B I q => h.run p s σ H B I (k B σ H q)⟩

theorem see (h : PE X e (tD G E F)) : PE X e (bD G E F) := h.weak fun s H Q ⟨w0, H0, r, w, QD, EX, fr, lk, f, k⟩ =>
  ⟨w0, H0, r, w, QD, EX, fr, lk, f, fun d v w' H' l ok rp q => k d v w' H' l ok (.inl rp) q⟩
/-- a new list as a value -/
def fL (F : FA) : FE := fun r Q EX σ => F r (fun ds σ => Q (.lst ds) σ) EX σ
theorem val (h : PE X e (fD G E F)) : PE X e (tD G E (fL F)) := h.weak fun s H Q ⟨w0, H0, r, w, QD, EX, fr, lk, f, k⟩ =>
  ⟨w0, H0, r, w, fun ds => QD (.lst ds), EX, fr, lk, f, fun ds a vs w' H' l ok hn m h1 rp q => by
    refine k (.lst ds) (.ref a) (w'.frz H' a) H' (l.frz m.1 hn) (ok.frz m.2.1) (Rep.lst (Rd.of (by rw [frz_at]; exact h1)) (rp.mono (.frz m.1))) q⟩

/-! ### names, constants -/
def fVar (i : Nat) : FE := fun r Q _ σ => match r[i]? with
  | some (.val d) => Q d σ
  | _ => False
def fSee (i : Nat) : FE := fun r Q _ σ => match r[i]? with
  | some (.val d) => Q d σ
  | some (.own ds) => Q (.lst ds) σ
  | some (.ownd ks ds) => Q (.dic ks ds) σ
  | _ => False
def fC (d : D) : FE := fun _ Q _ σ => Q d σ
theorem ce_var (i : Nat) {x : Str} {pos : Pos} (hN : X.N[i]? = some x := by rfl) (hv : Vis X.env.scope x := by first | exact Or.inl rfl | exact Or.inr (Or.inl rfl) | exact Or.inr (Or.inr rfl)) (hd : (x == ("__debug__" : Str)) = false := by decide)
    (hcd : (x == ("__classdict__" : Str)) = false := by decide) : PE X (.Name x pos) (tD G E (fVar i)) := (pe_var hN hv hd hcd).weak fun s H Q ⟨w0, H0, r, w, QD, EX, fr, lk, f, k⟩ => by
  unfold fVar at f
  cases e : r[i]? with
  | none => rw [e] at f; exact f.elim
  | some x =>
    rw [e] at f
    cases x with
    | val d =>
      obtain ⟨v, q, rp⟩ := fr.slot i _ e
      exact ⟨v, q, k d v w H (.refl w H) fr.ok rp f⟩
    | un => exact f.elim
    | own _ => exact f.elim
    | ownd _ _ => exact f.elim
    | slf _ _ _ => exact f.elim
theorem cb_var (i : Nat) {x : Str} {pos : Pos} (hN : X.N[i]? = some x := by rfl) (hv : Vis X.env.scope x := by first | exact Or.inl rfl | exact Or.inr (Or.inl rfl) | exact Or.inr (Or.inr rfl)) (hd : (x == ("__debug__" : Str)) = false := by decide)
    (hcd : (x == ("__classdict__" : Str)) = false := by decide) : PE X (.Name x pos) (bD G E (fSee i)) := (pe_var hN hv hd hcd).weak fun s H Q ⟨w0, H0, r, w, QD, EX, fr, lk, f, k⟩ => by
  unfold fSee at f
  cases e : r[i]? with
  | none => rw [e] at f; exact f.elim
  | some x =>
    rw [e] at f
    cases x with
    | val d =>
      obtain ⟨v, q, rp⟩ := fr.slot i _ e
      exact ⟨v, q, k d v w H (.refl w H) fr.ok (.inl rp) f⟩
    | own ds =>
      obtain ⟨a, vs, q, m, h1, rp⟩ := fr.slot i _ e
      exact ⟨_, q, k (.lst ds) _ w H (.refl w H) fr.ok (.inr (.inl ⟨a, vs, ds, rfl, rfl, m, h1, rp⟩)) f⟩
    | ownd ks ds =>
      obtain ⟨a, vs, q, m, h1, hl, rp⟩ := fr.slot i _ e
      exact ⟨_, q, k (.dic ks ds) _ w H (.refl w H) fr.ok (.inr (.inr ⟨a, vs, ks, ds, rfl, rfl, m, h1, hl, rp⟩)) f⟩
    | un => exact f.elim
    | slf _ _ _ => exact f.elim
theorem ce_const {v : V} {d : D} (h : PE X e (tC v)) (rp : ∀ w, Rep G w d v) : PE X e (tD G E (fC d)) := h.weak fun s H Q ⟨w0, H0, r, w, QD, EX, fr, lk, f, k⟩ =>
  k d v w H (.refl w H) fr.ok (rp w) f
theorem ce_int {i j pos} : PE X (.Constant (.int i) j pos) (tD G E (fC (.int i))) := ce_const pe_int fun _ => Rep.int
theorem ce_bl {i j pos} : PE X (.Constant (.bool i) j pos) (tD G E (fC (.bl i))) := ce_const pe_bl fun _ => Rep.bl
theorem ce_non {j pos} : PE X (.Constant .none j pos) (tD G E (fC .non)) := ce_const pe_non fun _ => Rep.non
theorem ce_str {i j pos} : PE X (.Constant (.str i) j pos) (tD G E (fC (.str i))) := ce_const pe_str fun _ => Rep.str
/-- a module's int -/
theorem ce_gint {x : Str} {i : Int} {u : Value} {pos : Pos} (hm : X.mg x = some u) (r : RelV (.int i) u) (hg : Gl X x := by rfl) (hd : (x == ("__debug__" : Str)) = false := by decide) : PE X (.Name x pos) (tD G E (fC (.int i))) := ce_const (pe_glob hg hm r hd) fun _ => Rep.int

/-! ### two-place operators -/
abbrev G2 := D → D → (D → Pr) → Pr
def f2 (g : G2) (A B : FE) : FE := fun r Q EX σ => A r (fun x σ => B r (fun y σ => g x y Q σ) EX σ) EX σ
/-- an operator's rule over data -/
structure OpL (G : Gm) (X : Cx) (op : Value → Value → Sem Value) (g : G2) : Prop where
  ex : ∃ r, OpR X op r ∧ ∀ H0 w H x y v u Q (QD : D → Pr), Ok w H → See G H0 w H x v → See G H0 w H y u → g x y QD w.sg →
    (∀ d z w' H', Le w H w' H' → Ok w' H' → Rep G w' d z → QD d w'.sg → Q z H') → r v u H Q
theorem OpL.link {op : Value → Value → Sem Value} {g : G2} {rr : R2} {A B : FE} (k0 : ∀ H0 w H x y v u Q (QD : D → Pr), Ok w H → See G H0 w H x v → See G H0 w H y u → g x y QD w.sg →
    (∀ d z w' H', Le w H w' H' → Ok w' H' → Rep G w' d z → QD d w'.sg → Q z H') → rr v u H Q) (s : St) (H : Hp) (Q : VK) (h : tD G E (f2 g A B) s H Q) : tOp rr (bD G E A) (bD G E B) s H Q := by
  obtain ⟨w0, H0, r, w, QD, EX, fr, lk, f, k⟩ := h
  refine ⟨w0, H0, r, w, _, EX, fr, lk, f, fun x v w1 H1 l1 ok1 s1 q1 => ?_⟩
  refine ⟨w0, H0, r, w1, _, EX, fr.go l1 ok1, lk, q1, fun y u w2 H2 l2 ok2 s2 q2 => ?_⟩
  exact k0 H0 w2 H2 x y v u Q QD ok2 (s1.go l2) s2 q2 fun d z w3 H3 l3 ok3 r3 q3 => k d z w3 H3 ((l1.trans l2).trans l3) ok3 r3 q3
theorem ce_bin {op : Operator} {g : G2} {A B : FE} (ho : OpL G X (binaryOp op) g) (ha : PE X a (bD G E A)) (hb : PE X b (bD G E B)) : PE X (.BinOp a op b pos) (tD G E (f2 g A B)) := by
  obtain ⟨rr, hr, k0⟩ := ho.ex
  exact (pe_op hr ha hb).weak (OpL.link (op := binaryOp op) k0)
theorem ce_cmp {op : CmpOp} {g : G2} {A B : FE} (ho : OpL G X (compareOp op) g) (ha : PE X a (bD G E A)) (hb : PE X b (bD G E B)) (hm : behindInMarks op b = false := by first | exact nomark _ (by decide) (by decide) | rfl) : PE X (.Compare a [op] [b] pos) (tD G E (f2 g A B)) := by
  obtain ⟨rr, hr, k0⟩ := ho.ex
  exact (pe_cmpR hr ha hb hm).weak (OpL.link (op := compareOp op) k0)
/-- a value as a test: it is a bool -/
def fTb (F : FE) : FT := fun r Q EX σ => F r (fun d σ => ∃ b, d = .bl b ∧ Q b σ) EX σ
theorem ct_of_tTest {t : TE} {F : FE} (h : PT X e (tTest t)) (k0 : ∀ s H Q, tD G E F s H Q → t s H Q) : PT X e (ttD G E (fTb F)) := h.weak fun s H Q ⟨w0, H0, r, w, QD, EX, fr, lk, f, k⟩ =>
  k0 s H _ ⟨w0, H0, r, w, _, EX, fr, lk, f, fun d v w' H' l ok rp ⟨b, ed, qb⟩ => ⟨b, by rw [ed] at rp; exact rp.bl_of, k b w' H' l ok qb⟩⟩
theorem ct_cmp {op : CmpOp} {g : G2} {A B : FE} (ho : OpL G X (compareOp op) g) (ha : PE X a (bD G E A)) (hb : PE X b (bD G E B)) (hm : behindInMarks op b = false := by first | exact nomark _ (by decide) (by decide) | rfl) : PT X (.Compare a [op] [b] pos) (ttD G E (fTb (f2 g A B))) := by
  obtain ⟨rr, hr, k0⟩ := ho.ex
  exact ct_of_tTest (pt_cmpR hr ha hb hm) (OpL.link (op := compareOp op) k0)
/-- an expression that gives a bool, as a test -/
theorem ct_val {F : FE} (h : PE X e (tD G E F)) (he : ∀ whole, isTrue e X.env whole = (do let v ← whole; standAt e.pos; holding [v] (truthy v)) := by intro _; rfl) : PT X e (ttD G E (fTb F)) := (pt_val h he).weak fun s H Q ⟨w0, H0, r, w, QD, EX, fr, lk, f, k⟩ =>
  ⟨w0, H0, r, w, _, EX, fr, lk, f, fun d v w' H' l ok rp ⟨b, ed, qb⟩ => ⟨b, by rw [ed] at rp; exact rp.bl_of, k b w' H' l ok qb⟩⟩
/-- two comparisons in a chain -/
def fChain (g g' : G2) (A B C : FE) : FE := fun r Q EX σ => A r (fun x σ => B r (fun y σ => g x y (fun z σ => ∃ b, z = .bl b ∧ if b = true then C r (fun u σ => g' y u Q σ) EX σ else Q (.bl false) σ) σ) EX σ) EX σ
theorem chain_link {op op' : CmpOp} {g g' : G2} {A B C : FE} {rr rr' : R2} (k0 : ∀ H0 w H x y v u Q (QD : D → Pr), Ok w H → See G H0 w H x v → See G H0 w H y u → g x y QD w.sg →
    (∀ d z w' H', Le w H w' H' → Ok w' H' → Rep G w' d z → QD d w'.sg → Q z H') → rr v u H Q)
    (k1 : ∀ H0 w H x y v u Q (QD : D → Pr), Ok w H → See G H0 w H x v → See G H0 w H y u → g' x y QD w.sg →
    (∀ d z w' H', Le w H w' H' → Ok w' H' → Rep G w' d z → QD d w'.sg → Q z H') → rr' v u H Q) (s : St) (H : Hp) (Q : VK) (h : tD G E (fChain g g' A B C) s H Q) : tChain rr rr' (bD G E A) (bD G E B) (bD G E C) s H Q := by
  obtain ⟨w0, H0, r, w, QD, EX, fr, lk, f, k⟩ := h
  refine ⟨w0, H0, r, w, _, EX, fr, lk, f, fun x v w1 H1 l1 ok1 s1 q1 => ?_⟩
  refine ⟨w0, H0, r, w1, _, EX, fr.go l1 ok1, lk, q1, fun y u w2 H2 l2 ok2 s2 q2 => ?_⟩
  refine k0 H0 w2 H2 x y v u _ _ ok2 (s1.go l2) s2 q2 fun d z w3 H3 l3 ok3 r3 ⟨b, ed, q3⟩ => ?_
  rw [ed] at r3
  refine ⟨b, r3.bl_of, ?_⟩
  cases b with
  | false =>
    rw [if_neg Bool.false_ne_true] at q3 ⊢
    exact k _ _ w3 H3 ((l1.trans l2).trans l3) ok3 Rep.bl q3
  | true =>
    rw [if_pos rfl] at q3 ⊢
    refine ⟨w0, H0, r, w3, _, EX, ((fr.go l1 ok1).go l2 ok2).go l3 ok3, lk, q3, fun u' v' w4 H4 l4 ok4 s4 q4 => ?_⟩
    exact k1 H0 w4 H4 y u' u v' Q QD ok4 ((s2.go l3).go l4) s4 q4 fun d' z' w5 H5 l5 ok5 r5 q5 => k d' z' w5 H5 (((l1.trans l2).trans l3).trans (l4.trans l5)) ok5 r5 q5
theorem ce_chain {c : Expr} {op op' : CmpOp} {g g' : G2} {A B C : FE} (ho : OpL G X (compareOp op) g) (ho' : OpL G X (compareOp op') g') (ha : PE X a (bD G E A)) (hb : PE X b (bD G E B)) (hc : PE X c (bD G E C))
    (hm : lastMarks [op, op'] [b, c] = false := by with_unfolding_all rfl) : PE X (.Compare a [op, op'] [b, c] pos) (tD G E (fChain g g' A B C)) := by
  obtain ⟨rr, hr, k0⟩ := ho.ex
  obtain ⟨rr', hr', k1⟩ := ho'.ex
  exact (pe_chain hr hr' ha hb hc hm).weak (chain_link (op := op) (op' := op') k0 k1)
/-! ### and, or, not, if else -/
def fAndT (A B : FT) : FT := fun r Q EX σ => A r (fun b σ => if b = true then B r Q EX σ else Q false σ) EX σ
def fOrT (A B : FT) : FT := fun r Q EX σ => A r (fun b σ => if b = true then Q true σ else B r Q EX σ) EX σ
def fNotT (A : FT) : FT := fun r Q EX σ => A r (fun b σ => Q (!b) σ) EX σ
def fAnd (A B : FE) : FE := fun r Q EX σ => A r (fun d σ => ∃ b, d = .bl b ∧ if b = true then B r Q EX σ else Q (.bl false) σ) EX σ
def fNot (A : FE) : FE := fun r Q EX σ => A r (fun d σ => ∃ b, d = .bl b ∧ Q (.bl (!b)) σ) EX σ
def fIf (T : FT) (A B : FE) : FE := fun r Q EX σ => T r (fun b σ => if b = true then A r Q EX σ else B r Q EX σ) EX σ
variable {rest : List Expr}
theorem cw_and1 {A : FT} (ha : PT X a (ttD G E A)) : PW X (.BoolOp .And [a] pos) (ttD G E A) := pw_and1 ha
theorem cw_or1 {A : FT} (ha : PT X a (ttD G E A)) : PW X (.BoolOp .Or [a] pos) (ttD G E A) := pw_or1 ha
theorem cw_and {A B : FT} (ha : PT X a (ttD G E A)) (hb : PW X (.BoolOp .And (b :: rest) pos) (ttD G E B)) : PW X (.BoolOp .And (a :: b :: rest) pos) (ttD G E (fAndT A B)) := (pw_and ha hb).weak fun s H Q ⟨w0, H0, r, w, QD, EX, fr, lk, f, k⟩ => by
  refine ⟨w0, H0, r, w, _, EX, fr, lk, f, fun c w1 H1 l1 ok1 q1 => ?_⟩
  cases c with
  | true =>
    rw [if_pos rfl] at q1 ⊢
    exact ⟨w0, H0, r, w1, QD, EX, fr.go l1 ok1, lk, q1, fun d w2 H2 l2 ok2 q2 => k d w2 H2 (l1.trans l2) ok2 q2⟩
  | false =>
    rw [if_neg Bool.false_ne_true] at q1 ⊢
    exact k false w1 H1 l1 ok1 q1
theorem cw_or {A B : FT} (ha : PT X a (ttD G E A)) (hb : PW X (.BoolOp .Or (b :: rest) pos) (ttD G E B)) : PW X (.BoolOp .Or (a :: b :: rest) pos) (ttD G E (fOrT A B)) := (pw_or ha hb).weak fun s H Q ⟨w0, H0, r, w, QD, EX, fr, lk, f, k⟩ => by
  refine ⟨w0, H0, r, w, _, EX, fr, lk, f, fun c w1 H1 l1 ok1 q1 => ?_⟩
  cases c with
  | true =>
    rw [if_pos rfl] at q1 ⊢
    exact k true w1 H1 l1 ok1 q1
  | false =>
    rw [if_neg Bool.false_ne_true] at q1 ⊢
    exact ⟨w0, H0, r, w1, QD, EX, fr.go l1 ok1, lk, q1, fun d w2 H2 l2 ok2 q2 => k d w2 H2 (l1.trans l2) ok2 q2⟩
theorem ct_not {A : FT} (ha : PT X a (ttD G E A)) : PT X (.UnaryOp .Not a pos) (ttD G E (fNotT A)) := (pt_not ha).weak fun s H Q ⟨w0, H0, r, w, QD, EX, fr, lk, f, k⟩ =>
  ⟨w0, H0, r, w, _, EX, fr, lk, f, fun c w1 H1 l1 ok1 q1 => k _ w1 H1 l1 ok1 q1⟩
theorem ce_one {op} {A : FE} (h : PE X a (tD G E A)) : PE X (.BoolOp op [a] pos) (tD G E A) := pe_one h
theorem ce_and {A B : FE} (ha : PE X a (tD G E A)) (hb : PE X (.BoolOp .And (b :: rest) pos) (tD G E B)) : PE X (.BoolOp .And (a :: b :: rest) pos) (tD G E (fAnd A B)) := (pe_and ha hb).weak fun s H Q ⟨w0, H0, r, w, QD, EX, fr, lk, f, k⟩ => by
  refine ⟨w0, H0, r, w, _, EX, fr, lk, f, fun x v w1 H1 l1 ok1 rp ⟨c, ex, q1⟩ => ?_⟩
  rw [ex] at rp
  refine ⟨c, rp.bl_of, ?_⟩
  cases c with
  | true =>
    rw [if_pos rfl] at q1 ⊢
    exact ⟨w0, H0, r, w1, QD, EX, fr.go l1 ok1, lk, q1, fun d u w2 H2 l2 ok2 r2 q2 => k d u w2 H2 (l1.trans l2) ok2 r2 q2⟩
  | false =>
    rw [if_neg Bool.false_ne_true] at q1 ⊢
    exact k _ _ w1 H1 l1 ok1 Rep.bl q1
theorem ce_not {A : FE} (ha : PE X a (tD G E A)) : PE X (.UnaryOp .Not a pos) (tD G E (fNot A)) := (pe_not ha).weak fun s H Q ⟨w0, H0, r, w, QD, EX, fr, lk, f, k⟩ =>
  ⟨w0, H0, r, w, _, EX, fr, lk, f, fun x v w1 H1 l1 ok1 rp ⟨c, ex, q1⟩ => ⟨c, by rw [ex] at rp; exact rp.bl_of, k _ _ w1 H1 l1 ok1 Rep.bl q1⟩⟩
theorem ce_if {c : Expr} {T : FT} {A B : FE} (hc : PT X c (ttD G E T)) (ha : PE X a (tD G E A)) (hb : PE X b (tD G E B)) : PE X (.IfExp c a b pos) (tD G E (fIf T A B)) := (pe_ifExp hc ha hb).weak fun s H Q ⟨w0, H0, r, w, QD, EX, fr, lk, f, k⟩ => by
  refine ⟨w0, H0, r, w, _, EX, fr, lk, f, fun c w1 H1 l1 ok1 q1 => ?_⟩
  cases c with
  | true =>
    rw [if_pos rfl] at q1 ⊢
    exact ⟨w0, H0, r, w1, QD, EX, fr.go l1 ok1, lk, q1, fun d u w2 H2 l2 ok2 r2 q2 => k d u w2 H2 (l1.trans l2) ok2 r2 q2⟩
  | false =>
    rw [if_neg Bool.false_ne_true] at q1 ⊢
    exact ⟨w0, H0, r, w1, QD, EX, fr.go l1 ok1, lk, q1, fun d u w2 H2 l2 ok2 r2 q2 => k d u w2 H2 (l1.trans l2) ok2 r2 q2⟩

/-! ### argument lists, displays -/
def fNil : FA := fun _ Q _ σ => Q [] σ
def fCons (A : FE) (B : FA) : FA := fun r Q EX σ => A r (fun d σ => B r (fun ds σ => Q (d :: ds) σ) EX σ) EX σ
theorem ca_nil : PA X [] (taD G E fNil) := PA.weak pa_nil fun s H Q ⟨w0, H0, r, w, QD, EX, fr, lk, f, k⟩ => k [] [] w H (.refl w H) fr.ok Reps.nil f
theorem ca_cons {A : FE} {B : FA} (ha : PE X e (tD G E A)) (hr : PA X es (taD G E B)) (hs : starEach (e :: es) X.env = (false, eval e X.env) :: starEach es X.env := by rfl) : PA X (e :: es) (taD G E (fCons A B)) := (pa_cons ha hr hs).weak fun s H Q ⟨w0, H0, r, w, QD, EX, fr, lk, f, k⟩ =>
  ⟨w0, H0, r, w, _, EX, fr, lk, f, fun d v w1 H1 l1 ok1 r1 q1 => ⟨w0, H0, r, w1, _, EX, fr.go l1 ok1, lk, q1, fun ds vs w2 H2 l2 ok2 r2 q2 => k (d :: ds) (v :: vs) w2 H2 (l1.trans l2) ok2 (Reps.cons (r1.mono l2.sub) r2) q2⟩⟩
theorem cab_nil : PA X [] (baD G E fNil) := PA.weak pa_nil fun s H Q ⟨w0, H0, r, w, QD, EX, fr, lk, f, k⟩ => k [] [] w H (.refl w H) fr.ok .nil f
theorem cab_cons {A : FE} {B : FA} (ha : PE X e (bD G E A)) (hr : PA X es (baD G E B)) (hs : starEach (e :: es) X.env = (false, eval e X.env) :: starEach es X.env := by rfl) : PA X (e :: es) (baD G E (fCons A B)) := (pa_cons ha hr hs).weak fun s H Q ⟨w0, H0, r, w, QD, EX, fr, lk, f, k⟩ =>
  ⟨w0, H0, r, w, _, EX, fr, lk, f, fun d v w1 H1 l1 ok1 r1 q1 => ⟨w0, H0, r, w1, _, EX, fr.go l1 ok1, lk, q1, fun ds vs w2 H2 l2 ok2 r2 q2 => k (d :: ds) (v :: vs) w2 H2 (l1.trans l2) ok2 (.cons (r1.go l2) r2) q2⟩⟩
def fTup (A : FA) : FE := fun r Q EX σ => A r (fun ds σ => ds.length ≤ sizeLine ∧ Q (.tup ds) σ) EX σ
def fLst (A : FA) : FA := fun r Q EX σ => A r (fun ds σ => ds.length ≤ sizeLine ∧ Q ds σ) EX σ
theorem Mine.new {w0 w w1 : Wd} {H0 H H1 : Hp} {p : Addr} (l0 : Le w0 H0 w1 H1) (ok : Ok w1 H1) (h : H1 p = none) : Mine H0 w1 p := by
  refine ⟨ok.none_hd h, ok.none_jr h, ?_⟩
  cases q : H0 p with
  | none => rfl
  | some o => exact absurd h (l0.dom p (by rw [q]; exact fun z => by cases z))
theorem Le.none_of {w w1 : Wd} {H H1 : Hp} {p : Addr} (l : Le w H w1 H1) (h : H1 p = none) : H p = none := by
  cases q : H p with
  | none => rfl
  | some o => exact absurd h (l.dom p (by rw [q]; exact fun z => by cases z))
/-- a new tuple, frozen at once -/
theorem newTup {w1 : Wd} {H1 : Hp} {p : Addr} {ds : List D} {vs : List V} {o : Obj} (ok : Ok w1 H1) (h : H1 p = none) (hd : o.dict = none) (r : Reps G w1 ds vs) :
    ∃ w2, Le w1 H1 w2 (upd H1 p (.frz o (.tup vs))) ∧ Ok w2 (upd H1 p (.frz o (.tup vs))) ∧ Rep G w2 (.tup ds) (.ref p) ∧ w2.sg = w1.sg := by
  have hn := ok.none_hd h
  have nj := ok.none_jr h
  refine ⟨w1.frz (upd H1 p (.frz o (.tup vs))) p, (Le.new h).frz hn h, (ok.new h).frz nj, Rep.tup (.inl ⟨o, by rw [frz_at, upd_same], hd⟩) (r.mono (.frz hn)), rfl⟩
theorem ce_tup {x1} {A : FA} (h : PA X es (taD G E A)) : PE X (.Tuple es x1 pos) (tD G E (fTup A)) := PE.weak (pe_tupF h) fun s H Q ⟨w0, H0, r, w, QD, EX, fr, lk, f, k⟩ =>
  ⟨w0, H0, r, w, _, EX, fr, lk, f, fun ds vs w1 H1 l1 ok1 r1 ⟨hz, q1⟩ => ⟨by rw [← r1.length]; exact hz, fun p o hp hd => by
    obtain ⟨w2, l2, ok2, r2, e2⟩ := newTup (p := p) ok1 hp hd r1
    exact k _ _ w2 _ (l1.trans l2) ok2 r2 (e2 ▸ q1)⟩⟩
theorem cf_lst {A : FA} (h : PA X es (taD G E A)) : PE X (.List es pos) (fD G E (fLst A)) := PE.weak (pe_lst h) fun s H Q ⟨w0, H0, r, w, QD, EX, fr, lk, f, k⟩ =>
  ⟨w0, H0, r, w, _, EX, fr, lk, f, fun ds vs w1 H1 l1 ok1 r1 ⟨hz, q1⟩ => ⟨by rw [← r1.length]; exact hz, fun p hp =>
    k ds p vs w1 _ (l1.trans (Le.new hp)) (ok1.new hp) (l1.none_of hp) (Mine.new (w := w) (H := H) (fr.le.trans l1) ok1 hp) upd_same r1 q1⟩⟩
end
end DL
/-! The data layer, part 3: what a seen value is; operators, comparisons, subscripts, slices. -/
namespace DL
open PySem L2

section
variable {G : Gm} {H0 : Hp} {w : Wd} {H : Hp} {v : V}
theorem See.int_of {i : Int} (h : See G H0 w H (.int i) v) : v = .int i := by
  rcases h with h | ⟨_, _, _, _, e, _⟩ | ⟨_, _, _, _, _, e, _⟩
  · exact h.int_of
  · cases e
  · cases e
theorem See.str_of {i : Str} (h : See G H0 w H (.str i) v) : v = .str i := by
  rcases h with h | ⟨_, _, _, _, e, _⟩ | ⟨_, _, _, _, _, e, _⟩
  · exact h.str_of
  · cases e
  · cases e
theorem See.bl_of {i : Bool} (h : See G H0 w H (.bl i) v) : v = .bl i := by
  rcases h with h | ⟨_, _, _, _, e, _⟩ | ⟨_, _, _, _, _, e, _⟩
  · exact h.bl_of
  · cases e
  · cases e
theorem See.non_of (h : See G H0 w H .non v) : v = .non := by
  rcases h with h | ⟨_, _, _, _, e, _⟩ | ⟨_, _, _, _, _, e, _⟩
  · exact h.non_of
  · cases e
  · cases e
theorem See.tup_of {ds : List D} (ok : Ok w H) (h : See G H0 w H (.tup ds) v) : ∃ a vs, v = .ref a ∧ SqT G.K H a vs ∧ Reps G w ds vs := by
  rcases h with h | ⟨_, _, _, _, e, _⟩ | ⟨_, _, _, _, _, e, _⟩
  · obtain ⟨a, vs, e, s, r⟩ := h.tup_of
    exact ⟨a, vs, e, sqT_sub ok.sub s.sqt, r⟩
  · cases e
  · cases e
theorem See.tup_rep {ds : List D} (h : See G H0 w H (.tup ds) v) : Rep G w (.tup ds) v := by
  rcases h with h | ⟨_, _, _, _, e, _⟩ | ⟨_, _, _, _, _, e, _⟩
  · exact h
  · cases e
  · cases e
theorem See.lst_of {ds : List D} (ok : Ok w H) (h : See G H0 w H (.lst ds) v) : ∃ a vs, v = .ref a ∧ LsT G.K H a vs ∧ Reps G w ds vs := by
  rcases h with h | ⟨a, vs, es, e1, e, m, h1, r⟩ | ⟨_, _, _, _, _, e, _⟩
  · obtain ⟨a, vs, e, s, r⟩ := h.lst_of
    exact ⟨a, vs, e, lsT_sub ok.sub s, r⟩
  · cases e
    exact ⟨a, vs, e1, .inl (.of h1), r⟩
  · cases e
theorem See.dic_of {ks : List Key} {ds : List D} (ok : Ok w H) (h : See G H0 w H (.dic ks ds) v) : ∃ a vs, v = .ref a ∧ (H a = some (.dK (ks.zip vs)) ∨ KDic G.K G.pw a (ks.zip vs)) ∧ ks.length = vs.length ∧ Reps G w ds vs := by
  rcases h with h | ⟨_, _, _, _, e, _⟩ | ⟨a, vs, k2, d2, e1, e, m, h1, hl, r⟩
  · obtain ⟨a, vs, e, s, hl, r⟩ := h.dic_of
    exact ⟨a, vs, e, s.imp (ok.sub _ _) id, hl, r⟩
  · cases e
  · cases e
    exact ⟨a, vs, e1, .inl h1, hl, r⟩
/-- a flat value, or a tuple: no own object -/
theorem See.rep {d : D} (h : See G H0 w H d v) (n1 : ∀ ds, d ≠ .lst ds) (n2 : ∀ ks ds, d ≠ .dic ks ds) : Rep G w d v := by
  rcases h with h | ⟨_, _, ds, _, e, _⟩ | ⟨_, _, ks, ds, _, e, _⟩
  · exact h
  · exact absurd e (n1 ds)
  · exact absurd e (n2 ks ds)
theorem SqL.rd {K : PySem.W.Frag} {a : Addr} {vs : List V} (h : Rd H a (.lst vs)) : SqL K H a vs := .inl h
/-- a new list, frozen at once -/
theorem newLst {w1 : Wd} {H1 : Hp} {p : Addr} {ds : List D} {vs : List V} (ok : Ok w1 H1) (h : H1 p = none) (r : Reps G w1 ds vs) :
    ∃ w2, Le w1 H1 w2 (upd H1 p (.lst vs)) ∧ Ok w2 (upd H1 p (.lst vs)) ∧ Rep G w2 (.lst ds) (.ref p) ∧ w2.sg = w1.sg := by
  have hn := ok.none_hd h
  have nj := ok.none_jr h
  exact ⟨w1.frz (upd H1 p (.lst vs)) p, (Le.new h).frz hn h, (ok.new h).frz nj, Rep.lst (Rd.of (by rw [frz_at, upd_same])) (r.mono (.frz hn)), rfl⟩
end

/-! ### + - * // % ** -/
/-- lists: any that may be read -/
theorem LsT.at {X : Cx} {pins : List (Addr × Obj)} {σ : L2.St} {H : Hp} {s : Shared} {a : Addr} {xs : List V} (I : Inv X pins σ H s) (h : LsT X.K H a xs) : ∃ (its : List Value) (n : Nat), Vals xs its ∧ s.heap.get? a = some { cls := .type "list", data := .seq its.toArray n } := by
  rcases h with h | ⟨its, n, e, z, r⟩
  · obtain ⟨_, its, n, r, e⟩ := h.ok I.hok
    exact ⟨its, n, r, e⟩
  · exact ⟨its.toList, n, r, I.kIn _ _ e⟩
def rCatR (K : PySem.W.Frag) : R2 := fun x y H Q => ∃ l b xs zs, x = .ref l ∧ y = .ref b ∧ LsT K H l xs ∧ LsT K H b zs ∧ xs.length + zs.length ≤ sizeLine ∧ ∀ p, H p = none → Q (.ref p) (upd H p (.lst (xs ++ zs)))
theorem op_catR {X : Cx} : OpR X (binaryOp .Add) (rCatR X.K) := by
  intro pins s σ H x y v u Q I rx ry hyp
  obtain ⟨l, b, xs, zs, rfl, rfl, h1, h2, hz, q⟩ := hyp
  cases rx
  cases ry
  obtain ⟨its, n, r, e⟩ := h1.at I
  obtain ⟨its2, n2, r2, e2⟩ := h2.at I
  have l1 := r.length
  have l2 := r2.length
  refine PySem.P.add_list e e2 ?_ (by simp only [List.size_toArray]; omega)
  have glue : its.toArray ++ its2.toArray = (its ++ its2).toArray := by simp
  have len : (xs ++ zs).length ≤ sizeLine := by rw [List.length_append]; omega
  rw [glue]
  exact ⟨V.ref s.heap.objs.size, upd H s.heap.objs.size (.lst (xs ++ zs)), I.lnew (t' := s.toks) (Vals.append r r2) len, rfl, q _ I.fresh⟩
def addD : G2 := fun x y Q σ => match x, y with
  | .int i, .int j => Q (.int (i + j)) σ
  | .str i, .str j => i.length + j.length ≤ sizeLine ∧ Q (.str (i ++ j)) σ
  | .tup a, .tup b => a.length + b.length ≤ sizeLine ∧ Q (.tup (a ++ b)) σ
  | .lst a, .lst b => a.length + b.length ≤ sizeLine ∧ Q (.lst (a ++ b)) σ
  | _, _ => False
variable {G : Gm} {X : Cx}
theorem opl_add (hK : X.K = G.K := by rfl) : OpL G X (binaryOp .Add) addD := by
  refine ⟨_, op_add.or (op_add_str.or (op_catF.or op_catR)), fun H0 w H x y v u Q QD ok sx sy g k => ?_⟩
  cases x with
  | int i => cases y with
    | int j => exact .inl ⟨i, j, sx.int_of, sy.int_of, k _ _ w H (.refl w H) ok Rep.int g⟩
    | _ => exact g.elim
  | str i => cases y with
    | str j => exact .inr (.inl ⟨i, j, sx.str_of, sy.str_of, g.1, k _ _ w H (.refl w H) ok Rep.str g.2⟩)
    | _ => exact g.elim
  | tup a => cases y with
    | tup b =>
      obtain ⟨p, vs, rfl, s1, r1⟩ := sx.tup_of ok
      obtain ⟨q, us, rfl, s2, r2⟩ := sy.tup_of ok
      refine .inr (.inr (.inl ⟨p, q, vs, us, rfl, rfl, hK ▸ s1, hK ▸ s2, by rw [← r1.length, ← r2.length]; exact g.1, fun e => ?_, fun _ e => ?_, fun _ _ p o hp hd => ?_⟩))
      · subst e
        have ea : a = [] := List.length_eq_zero_iff.mp r1.length
        subst ea
        exact k _ _ w H (.refl w H) ok sy.tup_rep g.2
      · subst e
        have eb : b = [] := List.length_eq_zero_iff.mp r2.length
        subst eb
        refine k _ _ w H (.refl w H) ok sx.tup_rep ?_
        have := g.2
        rwa [List.append_nil] at this
      · obtain ⟨w2, l2, ok2, rp, e2⟩ := newTup (p := p) ok hp hd (r1.append r2)
        exact k _ _ w2 _ l2 ok2 rp (e2 ▸ g.2)
    | _ => exact g.elim
  | lst a => cases y with
    | lst b =>
      obtain ⟨p, vs, rfl, s1, r1⟩ := sx.lst_of ok
      obtain ⟨q, us, rfl, s2, r2⟩ := sy.lst_of ok
      refine .inr (.inr (.inr ⟨p, q, vs, us, rfl, rfl, hK ▸ s1, hK ▸ s2, by rw [← r1.length, ← r2.length]; exact g.1, fun p hp => ?_⟩))
      obtain ⟨w2, l2, ok2, rp, e2⟩ := newLst (p := p) ok hp (r1.append r2)
      exact k _ _ w2 _ l2 ok2 rp (e2 ▸ g.2)
    | _ => exact g.elim
  | _ => exact g.elim
/-- two ints under a condition -/
def intD (C : Int → Int → Prop) (f : Int → Int → D) : G2 := fun x y Q σ => match x, y with
  | .int i, .int j => C i j ∧ Q (f i j) σ
  | _, _ => False
theorem opl_int {op : Value → Value → Sem Value} {C : Int → Int → Prop} {f : Int → Int → Int} (h : OpR X op (rI C fun i j => .int (f i j))) : OpL G X op (intD C fun i j => .int (f i j)) := by
  refine ⟨_, h, fun H0 w H x y v u Q QD ok sx sy g k => ?_⟩
  cases x with
  | int i => cases y with
    | int j => exact ⟨i, j, sx.int_of, sy.int_of, g.1, k _ _ w H (.refl w H) ok Rep.int g.2⟩
    | _ => exact g.elim
  | _ => exact g.elim
abbrev divD : G2 := intD CDivN fun i j => .int (i.fdiv j)
abbrev modD : G2 := intD (fun _ j => j ≠ 0) fun i j => .int (i.fmod j)
abbrev powD : G2 := intD CPow fun i j => .int (i ^ j.toNat)
theorem opl_div : OpL G X (binaryOp .FloorDiv) divD := opl_int op_fdivN
theorem opl_mod : OpL G X (binaryOp .Mod) modD := opl_int op_modN
theorem opl_pow : OpL G X (binaryOp .Pow) powD := opl_int op_pow

/-! ### comparisons -/
/-- order: ints, texts -/
def ordD (p : Int → Int → Bool) (q : Str → Str → Bool) : G2 := fun x y Q σ => match x, y with
  | .int i, .int j => Q (.bl (p i j)) σ
  | .str i, .str j => Q (.bl (q i j)) σ
  | _, _ => False
theorem opl_ord {op : Value → Value → Sem Value} {p : Int → Int → Bool} {q : Str → Str → Bool} (h1 : OpR X op (rI0 fun i j => .bl (p i j))) (h2 : OpR X op (fun x y H Q => ∃ i j, x = .str i ∧ y = .str j ∧ Q (.bl (q i j)) H)) : OpL G X op (ordD p q) := by
  refine ⟨_, h1.or h2, fun H0 w H x y v u Q QD ok sx sy g k => ?_⟩
  cases x with
  | int i => cases y with
    | int j => exact .inl ⟨i, j, sx.int_of, sy.int_of, k _ _ w H (.refl w H) ok Rep.bl g⟩
    | _ => exact g.elim
  | str i => cases y with
    | str j => exact .inr ⟨i, j, sx.str_of, sy.str_of, k _ _ w H (.refl w H) ok Rep.bl g⟩
    | _ => exact g.elim
  | _ => exact g.elim
/-- texts: by code points -/
def ltS (i j : Str) : Bool := decide (i.cps.toList < j.cps.toList)
abbrev ltD : G2 := ordD (fun i j => decide (i < j)) ltS
abbrev leD : G2 := ordD (fun i j => decide (i ≤ j)) fun i j => !ltS j i
abbrev gtD : G2 := ordD (fun i j => decide (j < i)) fun i j => ltS j i
abbrev geD : G2 := ordD (fun i j => decide (j ≤ i)) fun i j => !ltS i j
theorem opl_lt : OpL G X (compareOp .Lt) ltD := opl_ord op_lt op_lt_str
theorem opl_le : OpL G X (compareOp .LtE) leD := opl_ord op_le op_le_str
theorem opl_gt : OpL G X (compareOp .Gt) gtD := opl_ord op_gt op_gt_str
theorem opl_ge : OpL G X (compareOp .GtE) geD := opl_ord op_ge op_ge_str

/-! ### data as the library sees it -/
mutual
def pd : D → PyData
  | .non => .none
  | .bl b => .bool b
  | .int i => .int i
  | .str s => .str s
  | .tup ds => .tuple (pds ds)
  | .lst ds => .list (pds ds)
  | .dic _ _ => .dict []
  | .obj _ _ => .dict []
  | .exc _ _ => .dict []
  | .jar => .dict []
  | .cel _ => .dict []
def pds : List D → List PyData
  | [] => []
  | d :: ds => pd d :: pds ds
end
mutual
/-- nothing but None, bools, ints, texts, tuples, lists -/
def plain : D → Bool
  | .tup ds => plains ds
  | .lst ds => plains ds
  | .dic _ _ => false
  | .obj _ _ => false
  | .exc _ _ => false
  | .jar => false
  | .cel _ => false
  | .non => true
  | .bl _ => true
  | .int _ => true
  | .str _ => true
def plains : List D → Bool
  | [] => true
  | d :: ds => plain d && plains ds
end
mutual
theorem Rep.dp {w : Wd} {H : Hp} (k : ∀ a o, w.hd a = some o → H a = some o) : ∀ (d : D) {v : V}, plain d = true → Rep G w d v → Dp G.K H v (pd d)
  | .non, v, _, h => by rw [h.non_of]; unfold pd; exact .non
  | .bl b, v, _, h => by rw [h.bl_of]; unfold pd; exact .bl b
  | .int i, v, _, h => by rw [h.int_of]; unfold pd; exact .int i
  | .str s, v, _, h => by rw [h.str_of]; unfold pd; exact .str s
  | .tup ds, v, p, h => by
    obtain ⟨a, vs, e, s, r⟩ := h.tup_of
    unfold plain at p
    unfold pd
    rw [e]
    exact .tup (sqT_sub k s.sqt) (Reps.dp k ds p r)
  | .lst ds, v, p, h => by
    obtain ⟨a, vs, e, s, r⟩ := h.lst_of
    unfold plain at p
    unfold pd
    rw [e]
    exact .lst (lsT_sub k s).sql (Reps.dp k ds p r)
  | .dic _ _, v, p, h => by unfold plain at p; cases p
  | .obj _ _, v, p, h => by unfold plain at p; cases p
  | .exc _ _, v, p, h => by unfold plain at p; cases p
  | .jar, v, p, h => by unfold plain at p; cases p
  | .cel _, v, p, h => by unfold plain at p; cases p
theorem Reps.dp {w : Wd} {H : Hp} (k : ∀ a o, w.hd a = some o → H a = some o) : ∀ (ds : List D) {vs : List V}, plains ds = true → Reps G w ds vs → DpAll G.K H vs (pds ds)
  | [], vs, _, h => by rw [h.of_nil]; unfold pds; exact .nil
  | d :: ds, vs, p, h => by
    obtain ⟨v, r, e, h1, h2⟩ := h.of_cons
    unfold plains at p
    rw [Bool.and_eq_true] at p
    unfold pds
    rw [e]
    exact .cons (Rep.dp k d p.1 h1) (Reps.dp k ds p.2 h2)
end
theorem See.dp {H0 : Hp} {w : Wd} {H : Hp} {d : D} {v : V} (ok : Ok w H) (p : plain d = true) (h : See G H0 w H d v) : Dp G.K H v (pd d) := by
  rcases h with h | ⟨a, vs, ds, e1, e2, m, h1, r⟩ | ⟨_, _, _, _, _, e, _⟩
  · exact h.dp ok.sub d p
  · subst e2
    unfold plain at p
    unfold pd
    rw [e1]
    exact .lst (SqL.of h1) (Reps.dp ok.sub ds p r)
  · subst e; unfold plain at p; cases p
/-- == of data -/
def shp (d : D) : Prop := plain d = true ∧ SeqAt.shaped (pd d) = true
def eqb (x y : D) : Bool := PyData.eqv (pd x) (pd y)
def bothS (x y : D) : Option Bool := match x, y with
  | .str a, .str b => some (decide (a.cps.toList = b.cps.toList))
  | _, _ => none
theorem bothS_some {x y : D} {b : Bool} (h : bothS x y = some b) : ∃ s t, x = .str s ∧ y = .str t ∧ b = decide (s.cps.toList = t.cps.toList) := by
  unfold bothS at h
  split at h
  · rename_i s t
    exact ⟨s, t, rfl, rfl, (Option.some.inj h).symm⟩
  · cases h
theorem dec_strs {s t : Str} : decide (V.str s = V.str t) = decide (s.cps.toList = t.cps.toList) := by
  refine decide_eq_decide.mpr ⟨fun h => ?_, fun h => ?_⟩
  · cases h; rfl
  · cases s; cases t
    exact congrArg (fun z => V.str ⟨z⟩) (Array.toList_inj.mp h)
def eqD : G2 := fun x y Q σ => match bothS x y with
  | some b => Q (.bl b) σ
  | none => shp x ∧ shp y ∧ Q (.bl (eqb x y)) σ
def neD : G2 := fun x y Q σ => match bothS x y with
  | some b => Q (.bl (!b)) σ
  | none => shp x ∧ shp y ∧ Q (.bl (!eqb x y)) σ
theorem opl_eq (hu : X.A.units + 64 < cLine) (hK : X.K = G.K := by rfl) : OpL G X (compareOp .Eq) eqD := by
  refine ⟨_, op_eq.or (op_eqD hu), fun H0 w H x y v u Q QD ok sx sy g k => ?_⟩
  unfold eqD at g
  cases e : bothS x y with
  | some b =>
    rw [e] at g
    obtain ⟨s, t, rfl, rfl, rfl⟩ := bothS_some e
    refine .inl ?_
    rw [sx.str_of, sy.str_of]
    refine ⟨rfl, ?_⟩
    rw [dec_strs]
    exact k _ _ w H (.refl w H) ok Rep.bl g
  | none =>
    rw [e] at g
    obtain ⟨⟨p1, q1⟩, ⟨p2, q2⟩, g⟩ := g
    exact .inr ⟨pd x, pd y, hK ▸ sx.dp ok p1, hK ▸ sy.dp ok p2, q1, q2, k _ _ w H (.refl w H) ok Rep.bl g⟩
theorem opl_ne (hu : X.A.units + 64 < cLine) (hK : X.K = G.K := by rfl) : OpL G X (compareOp .NotEq) neD := by
  refine ⟨_, op_ne.or (op_neD hu), fun H0 w H x y v u Q QD ok sx sy g k => ?_⟩
  unfold neD at g
  cases e : bothS x y with
  | some b =>
    rw [e] at g
    obtain ⟨s, t, rfl, rfl, rfl⟩ := bothS_some e
    refine .inl ?_
    rw [sx.str_of, sy.str_of]
    refine ⟨rfl, ?_⟩
    rw [dec_strs]
    exact k _ _ w H (.refl w H) ok Rep.bl g
  | none =>
    rw [e] at g
    obtain ⟨⟨p1, q1⟩, ⟨p2, q2⟩, g⟩ := g
    exact .inr ⟨pd x, pd y, hK ▸ sx.dp ok p1, hK ▸ sy.dp ok p2, q1, q2, k _ _ w H (.refl w H) ok Rep.bl g⟩
/-- is None, is not None -/
def isNon : D → Bool
  | .non => true
  | _ => false
def isD : G2 := fun x y Q σ => match y with
  | .non => (∀ ds, x ≠ .lst ds) ∧ (∀ ks ds, x ≠ .dic ks ds) ∧ Q (.bl (isNon x)) σ
  | _ => False
theorem Rep.non_iff {w : Wd} {x : D} {v : V} (h : Rep G w x v) : decide (v = .non) = isNon x := by
  cases x with
  | non => rw [h.non_of]; rfl
  | bl b => rw [h.bl_of]; rfl
  | int b => rw [h.int_of]; rfl
  | str b => rw [h.str_of]; rfl
  | tup ds => obtain ⟨a, vs, e, _⟩ := h.tup_of; rw [e]; rfl
  | lst ds => obtain ⟨a, vs, e, _⟩ := h.lst_of; rw [e]; rfl
  | dic ks ds => obtain ⟨a, vs, e, _⟩ := h.dic_of; rw [e]; rfl
  | obj c ds => obtain ⟨a, dx, fs, e, _⟩ := h.obj_of; rw [e]; rfl
  | exc c ds => obtain ⟨a, _, _, _, e, _⟩ := h.exc_of; rw [e]; rfl
  | jar => obtain ⟨a, e, _⟩ := h.jar_of; rw [e]; rfl
  | cel i => obtain ⟨a, e, _⟩ := h.cel_of; rw [e]; rfl
def isnD : G2 := fun x y Q σ => match y with
  | .non => (∀ ds, x ≠ .lst ds) ∧ (∀ ks ds, x ≠ .dic ks ds) ∧ Q (.bl (!isNon x)) σ
  | _ => False
/-! ### in, not in -/
def flatD : D → Bool
  | .non => true | .bl _ => true | .int _ => true | .str _ => true
  | _ => false
theorem Rep.flat {w : Wd} {x : D} {v : V} (f : flatD x = true) (h : Rep G w x v) : flatV v = true := by
  cases x with
  | non => rw [h.non_of]; rfl
  | bl b => rw [h.bl_of]; rfl
  | int b => rw [h.int_of]; rfl
  | str b => rw [h.str_of]; rfl
  | _ => cases f
theorem Reps.flat {w : Wd} : ∀ {ds : List D} {vs : List V}, ds.all flatD = true → Reps G w ds vs → vs.all flatV = true
  | [], vs, _, h => by rw [h.of_nil]; rfl
  | d :: ds, vs, f, h => by
    obtain ⟨v, r, e, h1, h2⟩ := h.of_cons
    rw [List.all_cons, Bool.and_eq_true] at f
    rw [e, List.all_cons, h1.flat f.1, Reps.flat f.2 h2]; rfl
theorem eqV_eqb {w : Wd} {x y : D} {v u : V} (f : flatD x = true) (f2 : flatD y = true) (h : Rep G w x v) (h2 : Rep G w y u) : eqV v u = eqb x y := by
  cases x with
  | non => rw [h.non_of]; cases y with
    | non => rw [h2.non_of]; rfl
    | bl b => rw [h2.bl_of]; rfl
    | int b => rw [h2.int_of]; rfl
    | str b => rw [h2.str_of]; rfl
    | _ => cases f2
  | bl b => rw [h.bl_of]; cases y with
    | non => rw [h2.non_of]; rfl
    | bl b => rw [h2.bl_of]; rfl
    | int b => rw [h2.int_of]; rfl
    | str b => rw [h2.str_of]; rfl
    | _ => cases f2
  | int b => rw [h.int_of]; cases y with
    | non => rw [h2.non_of]; rfl
    | bl b => rw [h2.bl_of]; rfl
    | int b => rw [h2.int_of]; rfl
    | str b => rw [h2.str_of]; rfl
    | _ => cases f2
  | str b => rw [h.str_of]; cases y with
    | non => rw [h2.non_of]; rfl
    | bl b => rw [h2.bl_of]; rfl
    | int b => rw [h2.int_of]; rfl
    | str b => rw [h2.str_of]; rfl
    | _ => cases f2
  | _ => cases f
theorem inV_any {w : Wd} {x : D} {v : V} (f : flatD x = true) (h : Rep G w x v) : ∀ {ds : List D} {vs : List V}, ds.all flatD = true → Reps G w ds vs → inV v vs = ds.any fun z => eqb z x
  | [], vs, _, r => by rw [r.of_nil]; rfl
  | d :: ds, vs, fs, r => by
    obtain ⟨u, t, e, h1, h2⟩ := r.of_cons
    rw [List.all_cons, Bool.and_eq_true] at fs
    have ih := inV_any f h fs.2 h2
    unfold inV at ih ⊢
    rw [e, List.any_cons, List.any_cons, eqV_eqb fs.1 f h1 h, ih]
theorem flat_n1 {x : D} (f : flatD x = true) : ∀ ds, x ≠ .lst ds := fun ds e => by rw [e] at f; cases f
theorem flat_n2 {x : D} (f : flatD x = true) : ∀ ks ds, x ≠ .dic ks ds := fun ks ds e => by rw [e] at f; cases f
/-- x in y: flat in a tuple or a list of flat ones; data in a list of data; a sign in a text -/
def inD (neg : Bool) : G2 := fun x y Q σ => match y with
  | .tup ds => flatD x = true ∧ ds.all flatD = true ∧ Q (.bl (neg != ds.any fun z => eqb z x)) σ
  | .lst ds => (shp x ∧ shp (.lst ds) ∧ Q (.bl (neg != ds.any fun z => eqb z x)) σ)
  | .str z => match x with
    | .str c => ∃ n, c = ⟨#[n]⟩ ∧ Q (.bl (neg != decide (n ∈ z.cps.toList))) σ
    | _ => False
  | .dic ks _ => match x with
    | .str c => Q (.bl (neg != ks.any fun k => decide (k = Sum.inr c))) σ
    | .int c => Q (.bl (neg != ks.any fun k => decide (k = Sum.inl c))) σ
    | _ => False
  | _ => False
theorem pds_map : ∀ ds : List D, pds ds = ds.map pd
  | [] => rfl
  | d :: ds => by unfold pds; rw [pds_map ds]; rfl
end DL
/-! The data layer, part 4: in; subscripts, slices; dicts. -/
namespace DL
open PySem L2 PyProof.Rows
variable {G : Gm} {X : Cx}

/-! ### a written dict -/
theorem KEnt.keys {w : World} : ∀ {es : List DictEntry} {kvs : List (Key × V)}, KEnt w es kvs → ∀ e ∈ es, ∃ k, keyIs k e.key = true ∧ e.hash = keyH w k
  | [], [], _, e, he => by simp at he
  | e0 :: r, (k, v) :: t, h, e, he => by
    unfold KEnt at h
    obtain ⟨h1, h2, _, h4⟩ := h
    rcases List.mem_cons.mp he with q | q
    · rw [q]; exact ⟨k, h1, h2⟩
    · exact KEnt.keys h4 e q
  | [], _ :: _, h, _, _ => by unfold KEnt at h; exact h.elim
  | _ :: _, [], h, _, _ => by unfold KEnt at h; exact h.elim
theorem keyIs_iff {k k' : Key} {v : Value} (h : keyIs k v = true) : keyIs k' v = decide (k = k') := by
  by_cases e : k = k'
  · subst e; rw [h, decide_eq_true rfl]
  · rw [decide_eq_false e]
    cases q : keyIs k' v with
    | false => rfl
    | true =>
      rcases keyIs_shape h with ⟨i, t, r1, r2⟩ | ⟨x, t, r1, r2⟩ <;> rcases keyIs_shape q with ⟨j, u, r3, r4⟩ | ⟨y, u, r3, r4⟩
      · rw [r2] at r4; injection r4 with z _; exact absurd (by rw [r1, r3, z]) e
      · rw [r2] at r4; cases r4
      · rw [r2] at r4; cases r4
      · rw [r2] at r4; injection r4 with z _; exact absurd (by rw [r1, r3, z]) e
theorem KEnt.find {w : World} (k : Key) : ∀ {es : List DictEntry} {kvs : List (Key × V)}, KEnt w es kvs → RelO (valV kvs k) ((es.find? fun d => keyIs k d.key).map (·.val))
  | [], [], _ => True.intro
  | e0 :: r, (k0, v) :: t, h => by
    unfold KEnt at h
    obtain ⟨h1, h2, h3, h4⟩ := h
    rw [List.find?_cons, keyIs_iff h1]
    by_cases e : k0 = k
    · rw [decide_eq_true e, valV_pos (show (k0, v).1 = k from e)]
      exact h3
    · rw [decide_eq_false e, valV_neg (show ¬ (k0, v).1 = k from e)]
      exact KEnt.find k h4
  | [], _ :: _, h => by unfold KEnt at h; exact h.elim
  | _ :: _, [], h => by unfold KEnt at h; exact h.elim
theorem KDic.map {K : PySem.W.Frag} {P : Program} {w : World} {a : Addr} {kvs : List (Key × V)} {h : Heap} (d : KDic K w a kvs) (X : K.In h) : (a == sysModules) = false ∧ ∃ f, h.MapOf (mixKind P w) a f ∧ ∀ k, RelO (valV kvs k) (f k) := by
  obtain ⟨es, n, hl, hs, he⟩ := d
  refine ⟨hs, fun k => findBy (mixKind P w).is es k, ⟨_, es, n, X _ _ hl, ⟨rfl, rfl, rfl⟩, rfl, fun e m => he.keys e (Array.mem_toList_iff.mpr m), fun _ => rfl⟩, fun k => ?_⟩
  have q := he.find k
  obtain ⟨l⟩ := es
  show RelO (valV kvs k) (findBy (mixKind P w).is l.toArray k)
  unfold findBy
  rw [List.find?_toArray]
  exact q
/-- the value at a key over data -/
def dget (ks : List Key) (ds : List D) (k : Key) : Option D := ((ks.zip ds).find? fun p => decide (p.1 = k)).map (·.2)
theorem dget_rel {w : Wd} (k : Key) : ∀ {ks : List Key} {ds : List D} {vs : List V}, ks.length = vs.length → Reps G w ds vs →
    (∀ d, dget ks ds k = some d → ∃ v, valV (ks.zip vs) k = some v ∧ Rep G w d v) ∧ (dget ks ds k = none → valV (ks.zip vs) k = none)
  | [], ds, vs, hl, r => ⟨fun d h => by simp [dget] at h, fun _ => by simp [valV]⟩
  | k0 :: ks, [], vs, hl, r => by
    rw [r.of_nil] at hl
    simp at hl
  | k0 :: ks, d :: ds, vs, hl, r => by
    obtain ⟨v, t, e, h1, h2⟩ := r.of_cons
    subst e
    rw [List.length_cons, List.length_cons] at hl
    have ih := dget_rel (w := w) k (ks := ks) (ds := ds) (vs := t) (by omega) h2
    by_cases e : k0 = k
    · have z1 : dget (k0 :: ks) (d :: ds) k = some d := by simp [dget, e]
      have z2 : valV ((k0 :: ks).zip (v :: t)) k = some v := valV_pos (show (k0, v).1 = k from e)
      rw [z1, z2]
      exact ⟨fun d' q => ⟨v, rfl, by cases q; exact h1⟩, fun q => by cases q⟩
    · have z1 : dget (k0 :: ks) (d :: ds) k = dget ks ds k := by simp [dget, e]
      have z2 : valV ((k0 :: ks).zip (v :: t)) k = valV (ks.zip t) k := valV_neg (show ¬ (k0, v).1 = k from e)
      rw [z1, z2]
      exact ih
/-- a key as data -/
def keyD : D → Option Key
  | .int i => some (.inl i)
  | .str s => some (.inr s)
  | _ => none
theorem keyD_see {H0 : Hp} {w : Wd} {H : Hp} {d : D} {v : V} {k : Key} (h : See G H0 w H d v) (e : keyD d = some k) : v = kV k := by
  cases d with
  | int i => cases e; exact h.int_of
  | str i => cases e; exact h.str_of
  | _ => cases e
/-- reading of d[k] by values: a tracked or a written dict -/
def rDic (K : PySem.W.Frag) (w : World) : R2 := fun x y H Q => ∃ a kvs k v, x = .ref a ∧ y = kV k ∧ (H a = some (.dK kvs) ∨ KDic K w a kvs) ∧ valV kvs k = some v ∧ Q v H
theorem mixIs {P : Program} {w : World} {k : Key} {u : Value} (r : RelV (kV k) u) : (mixKind P w).is k u = true := by
  cases k with
  | inl i => obtain ⟨t, e⟩ := (show ∃ t, u = Value.int i t from r); rw [e]; exact mixKind_int P w i t
  | inr x => obtain ⟨t, e⟩ := (show ∃ t, u = Value.str x t from r); rw [e]; exact mixKind_str P w x t
theorem ix_dic (hu : X.A.units + 1 < cLine) : IxR X (rDic X.K X.w) := by
  intro value slice pins s σ H x y v u Q I rx ry hyp hs
  obtain ⟨a, kvs, k, z, rfl, rfl, hd, hv, q⟩ := hyp
  cases rx
  rcases hd with hd | hd
  · have g : DGet H a (kV k) (some z) := hv ▸ DGet.k hd
    exact tail_any (dict_typeIs I g) PySem.F.slot_dict_getitem.lookup (d_getItem hu I g ry fun w' s' I' r' => ⟨z, H, I', r', q⟩) hs
  · obtain ⟨_, f, hm, hf⟩ := hd.map (P := X.prog) I.kIn
    obtain ⟨w', hw, rw'⟩ := RelO.some_of (v := z) (o := f k) (by rw [← hv]; exact hf k)
    exact tail_any hm.typeIs PySem.F.slot_dict_getitem.lookup (wpAny_getItem_of (mixIs ry) hm hw ⟨z, H, I.tok _, rw', q⟩) hs
def rDicIn (K : PySem.W.Frag) (w : World) (neg : Bool) : R2 := fun y x H Q => ∃ a kvs k, x = .ref a ∧ y = kV k ∧ (H a = some (.dK kvs) ∨ KDic K w a kvs) ∧ Q (.bl (neg != (valV kvs k).isSome)) H
theorem op_dicIn (hu : X.A.units + 1 < cLine) : OpR X (compareOp .In) (rDicIn X.K X.w false) := by
  intro pins s σ H y x u v Q I ry rx hyp
  obtain ⟨a, kvs, k, rfl, rfl, hd, q⟩ := hyp
  cases rx
  rw [Bool.false_bne] at q
  rcases hd with hd | hd
  · exact d_in hu I (DGet.k hd) ry fun s' I' => ⟨.bl _, H, I', rfl, q⟩
  · obtain ⟨hs, f, hm, hf⟩ := hd.map (P := X.prog) I.kIn
    have e : (f k).isSome = (valV kvs k).isSome := by
      have := hf k
      revert this
      cases valV kvs k <;> cases f k <;> intro z <;> first | rfl | exact z.elim
    refine wpAny_in_of (mixIs ry) hs hm ?_
    rw [e]
    exact ⟨.bl _, H, I.tok _, rfl, q⟩
theorem op_dicNotIn (hu : X.A.units + 1 < cLine) : OpR X (compareOp .NotIn) (rDicIn X.K X.w true) := by
  intro pins s σ H y x u v Q I ry rx hyp
  obtain ⟨a, kvs, k, rfl, rfl, hd, q⟩ := hyp
  cases rx
  rw [Bool.true_bne] at q
  rcases hd with hd | hd
  · exact d_notIn hu I (DGet.k hd) ry fun s' I' => ⟨.bl _, H, I', rfl, q⟩
  · obtain ⟨hs, f, hm, hf⟩ := hd.map (P := X.prog) I.kIn
    have e : (f k).isSome = (valV kvs k).isSome := by
      have := hf k
      revert this
      cases valV kvs k <;> cases f k <;> intro z <;> first | rfl | exact z.elim
    refine wpAny_notIn_of (mixIs ry) hs hm ?_
    rw [e]
    exact ⟨.bl _, H, I.tok _, rfl, q⟩

/-! ### in, not in -/
theorem valV_ks {k : Key} : ∀ {ks : List Key} {vs : List V}, ks.length = vs.length → (valV (ks.zip vs) k).isSome = ks.any fun k0 => decide (k0 = k)
  | [], vs, _ => by simp [valV]
  | k0 :: ks, [], h => by simp at h
  | k0 :: ks, v :: vs, h => by
    have ih := valV_ks (k := k) (ks := ks) (vs := vs) (by simpa using h)
    by_cases e : k0 = k
    · rw [List.zip_cons_cons, valV_pos (show (k0, v).1 = k from e)]; simp [e]
    · rw [List.zip_cons_cons, valV_neg (show ¬ (k0, v).1 = k from e), ih]; simp [e]
/-- the readings that serve in, by the operator -/
structure InRules (X : Cx) (op : CmpOp) (neg : Bool) : Prop where
  seq : OpR X (compareOp op) (rIn X.K neg)
  deep : ∃ r, OpR X (compareOp op) r ∧ ∀ x y H Q d ds, Dp X.K H x d → Dp X.K H y (.list ds) → SeqAt.shaped d = true → SeqAt.shaped (.list ds) = true → Q (.bl (neg != ds.any fun z => PyData.eqv z d)) H → r x y H Q
  sign : OpR X (compareOp op) (fun x y H Q => ∃ (c : Nat) (z : Str), x = .str ⟨#[c]⟩ ∧ y = .str z ∧ Q (.bl (neg != decide (c ∈ z.cps.toList))) H)
  dic : OpR X (compareOp op) (rDicIn X.K X.w neg)
theorem inRules (hu : X.A.units + 65 < cLine) : InRules X .In false where
  seq := op_in_seq
  deep := ⟨_, op_inD hu, fun x y H Q d ds h1 h2 h3 h4 q => ⟨d, ds, h1, h2, h3, h4, by rw [Bool.false_bne] at q; exact q⟩⟩
  sign := fun pins s σ H x y v u Q I rx ry ⟨c, z, e1, e2, q⟩ => op_in_sign pins s σ H x y v u Q I rx ry ⟨c, z, e1, e2, by rw [Bool.false_bne] at q; exact q⟩
  dic := op_dicIn (by omega)
theorem notInRules (hu : X.A.units + 65 < cLine) : InRules X .NotIn true where
  seq := op_notIn_seq
  deep := ⟨_, op_notInD hu, fun x y H Q d ds h1 h2 h3 h4 q => ⟨d, ds, h1, h2, h3, h4, by rw [Bool.true_bne] at q; exact q⟩⟩
  sign := fun pins s σ H x y v u Q I rx ry ⟨c, z, e1, e2, q⟩ => op_notIn_sign pins s σ H x y v u Q I rx ry ⟨c, z, e1, e2, by rw [Bool.true_bne] at q; exact q⟩
  dic := op_dicNotIn (by omega)
theorem bneIf (neg b : Bool) : (if neg = true then !b else b) = (neg != b) := by cases neg <;> cases b <;> rfl
theorem opl_inG {op : CmpOp} {neg : Bool} (R : InRules X op neg) (hK : X.K = G.K := by rfl) (hW : X.w = G.pw := by rfl) : OpL G X (compareOp op) (inD neg) := by
  obtain ⟨rd, hrd, kd⟩ := R.deep
  refine ⟨_, R.seq.or (hrd.or (R.sign.or R.dic)), fun H0 w H x y v u Q QD ok sx sy g k => ?_⟩
  cases y with
  | tup ds =>
    obtain ⟨p, vs, rfl, s1, r1⟩ := sy.tup_of ok
    obtain ⟨f1, f2, g⟩ := g
    have rx := sx.rep (flat_n1 f1) (flat_n2 f1)
    refine .inl ⟨p, vs, rfl, .inr (hK ▸ s1), rx.flat f1, Reps.flat f2 r1, ?_⟩
    rw [inV_any f1 rx f2 r1, bneIf]
    exact k _ _ w H (.refl w H) ok Rep.bl g
  | lst ds =>
    obtain ⟨⟨p1, p2⟩, ⟨p3, p4⟩, g⟩ := g
    have e : pd (.lst ds) = .list (ds.map pd) := by rw [← pds_map]; conv => lhs; unfold pd
    have d1 := sx.dp ok p1
    have d2 := sy.dp ok p3
    rw [e] at d2 p4
    refine .inr (.inl (kd v u H Q (pd x) (ds.map pd) (hK ▸ d1) (hK ▸ d2) p2 p4 ?_))
    rw [List.any_map]
    exact k _ _ w H (.refl w H) ok Rep.bl g
  | str z =>
    cases x with
    | str c =>
      obtain ⟨n, rfl, g⟩ := g
      exact .inr (.inr (.inl ⟨n, z, sx.str_of, sy.str_of, k _ _ w H (.refl w H) ok Rep.bl g⟩))
    | _ => exact g.elim
  | dic ks ds =>
    obtain ⟨a, vs, rfl, hd, hl, r⟩ := sy.dic_of ok
    have fin : ∀ key : Key, v = kV key → QD (.bl (neg != ks.any fun k0 => decide (k0 = key))) w.sg → rDicIn X.K X.w neg v (.ref a) H Q := fun key e q =>
      ⟨a, ks.zip vs, key, rfl, e, hK ▸ hW ▸ hd, by
        rw [valV_ks hl]
        exact k _ _ w H (.refl w H) ok Rep.bl q⟩
    cases x with
    | str c => exact .inr (.inr (.inr (fin (.inr c) sx.str_of g)))
    | int c => exact .inr (.inr (.inr (fin (.inl c) sx.int_of g)))
    | _ => exact g.elim
  | _ => exact g.elim
theorem opl_in (hu : X.A.units + 65 < cLine) (hK : X.K = G.K := by rfl) (hW : X.w = G.pw := by rfl) : OpL G X (compareOp .In) (inD false) := opl_inG (inRules hu) hK hW
theorem opl_notin (hu : X.A.units + 65 < cLine) (hK : X.K = G.K := by rfl) (hW : X.w = G.pw := by rfl) : OpL G X (compareOp .NotIn) (inD true) := opl_inG (notInRules hu) hK hW

/-! ### x[i] -/
def ixD : G2 := fun x y Q σ => match x with
  | .tup ds => ∃ i d, y = .int i ∧ atI ds i = some d ∧ Q d σ
  | .lst ds => ∃ i d, y = .int i ∧ atI ds i = some d ∧ Q d σ
  | .str z => ∃ i c, y = .int i ∧ z.length ≤ sizeLine ∧ atI z.cps.toList i = some c ∧ Q (.str ⟨#[c]⟩) σ
  | .dic ks ds => ∃ k d, keyD y = some k ∧ dget ks ds k = some d ∧ Q d σ
  | _ => False
theorem atI_rep {w : Wd} {ds : List D} {vs : List V} {i : Int} {d : D} (r : Reps G w ds vs) (h : atI ds i = some d) : ∃ v, atI vs i = some v ∧ Rep G w d v := by
  unfold atI at h ⊢
  rw [← r.length]
  cases e : ixN ds.length i with
  | none => rw [e] at h; cases h
  | some j =>
    rw [e] at h
    exact r.getD h
theorem ce_ix {a b : Expr} {pos : Pos} {E : XK} {A B : FE} (hu : X.A.units + 1 < cLine) (ha : PE X a (bD G E A)) (hb : PE X b (bD G E B)) (hs : PlainIx b := by exact fun _ _ => rfl) (hK : X.K = G.K := by rfl) (hW : X.w = G.pw := by rfl) :
    PE X (.Subscript a b pos) (tD G E (f2 ixD A B)) := by
  refine (pe_ix (ix_list.or (ix_tup.or (ix_str.or (ix_dic hu)))) ha hb hs).weak (OpL.link (op := binaryOp .Add) fun H0 w H x y v u Q QD ok sx sy g k => ?_)
  cases x with
  | tup ds =>
    obtain ⟨i, d, rfl, e, g⟩ := g
    obtain ⟨p, vs, rfl, s1, r1⟩ := sx.tup_of ok
    obtain ⟨z, e2, r2⟩ := atI_rep r1 e
    exact .inr (.inl ⟨p, vs, i, z, rfl, sy.int_of, hK ▸ s1, e2, k _ _ w H (.refl w H) ok r2 g⟩)
  | lst ds =>
    obtain ⟨i, d, rfl, e, g⟩ := g
    obtain ⟨p, vs, rfl, s1, r1⟩ := sx.lst_of ok
    obtain ⟨z, e2, r2⟩ := atI_rep r1 e
    exact .inl ⟨p, vs, i, z, rfl, sy.int_of, hK ▸ s1.sql, e2, k _ _ w H (.refl w H) ok r2 g⟩
  | str z =>
    obtain ⟨i, c, rfl, hz, e, g⟩ := g
    exact .inr (.inr (.inl ⟨z, i, c, sx.str_of, sy.int_of, hz, e, k _ _ w H (.refl w H) ok Rep.str g⟩))
  | dic ks ds =>
    obtain ⟨key, d, e1, e2, g⟩ := g
    obtain ⟨a, vs, rfl, hd, hl, r⟩ := sx.dic_of ok
    obtain ⟨z, e3, r3⟩ := (dget_rel (w := w) key hl r).1 d e2
    exact .inr (.inr (.inr ⟨a, ks.zip vs, key, z, rfl, keyD_see sy e1, hK ▸ hW ▸ hd, e3, k _ _ w H (.refl w H) ok r3 g⟩))
  | _ => exact g.elim

/-! ### x[a:b] -/
def cutD (ds : List D) (lo hi : Option Int) : List D := (ds.drop (HT.sIx ds.length 0 lo)).take (HT.sIx ds.length ds.length hi - HT.sIx ds.length 0 lo)
abbrev FO := Env → (Option Int → Pr) → XP → Pr
def fNone : FO := fun _ Q _ σ => Q none σ
def fSome (A : FE) : FO := fun r Q EX σ => A r (fun d σ => ∃ i, d = .int i ∧ Q (some i) σ) EX σ
def toD (G : Gm) (E : XK) (F : FO) : TO := fun s H Q => ∃ w0 H0 r w QD EX, Fr G w0 H0 r s w H ∧ LkE G E w0 H0 EX ∧ F r QD EX w.sg ∧ ∀ o w' H', Le w H w' H' → Ok w' H' → QD o w'.sg → Q o H'
theorem co_none {E : XK} : PO X none (toD G E fNone) := ⟨fun p s σ H Q I ⟨w0, H0, r, w, QD, EX, fr, lk, f, k⟩ => po_none.run p s σ H Q I (k none w H (.refl w H) fr.ok f)⟩
theorem co_some {E : XK} {e : Expr} {A : FE} (h : PE X e (tD G E A)) : PO X (some e) (toD G E (fSome A)) := ⟨fun p s σ H Q I ⟨w0, H0, r, w, QD, EX, fr, lk, f, k⟩ =>
  (po_some h).run p s σ H Q I ⟨w0, H0, r, w, _, EX, fr, lk, f, fun d v w1 H1 l1 ok1 r1 ⟨i, ed, q⟩ => ⟨i, by rw [ed] at r1; exact r1.int_of, k _ w1 H1 l1 ok1 q⟩⟩⟩
def fSlice (A : FE) (L U : FO) : FE := fun r Q EX σ => A r (fun x σ => L r (fun lo σ => U r (fun hi σ => match x with
  | .tup ds => Q (.tup (cutD ds lo hi)) σ
  | .lst ds => Q (.lst (cutD ds lo hi)) σ
  | .str z => z.length ≤ sizeLine ∧ Q (.str (cutS z lo hi)) σ
  | _ => False) EX σ) EX σ) EX σ
theorem cut_rep {w : Wd} {ds : List D} {vs : List V} {lo hi : Option Int} (r : Reps G w ds vs) : Reps G w (cutD ds lo hi) (cutV vs lo hi) := by
  unfold cutD cutV
  rw [r.length]
  exact (r.drop _).take _
theorem cut_whole {ds : List D} {lo hi : Option Int} (h : HT.sIx ds.length 0 lo = 0 ∧ HT.sIx ds.length ds.length hi = ds.length) : cutD ds lo hi = ds := by
  unfold cutD
  rw [h.1, h.2]
  simp
theorem ce_slice {a : Expr} {lo hi : Option Expr} {p2 pos : Pos} {E : XK} {A : FE} {L U : FO} (ha : PE X a (bD G E A)) (hl : PO X lo (toD G E L)) (hh : PO X hi (toD G E U)) (hK : X.K = G.K := by rfl) :
    PE X (.Subscript a (.Slice lo hi none p2) pos) (tD G E (fSlice A L U)) := PE.weak (pe_slice (sl_str.or (sl_tupF.or sl_list)) ha hl hh) fun s H Q ⟨w0, H0, r, w, QD, EX, fr, lk, f, k⟩ => by
  refine ⟨w0, H0, r, w, _, EX, fr, lk, f, fun x v w1 H1 l1 ok1 s1 q1 => ?_⟩
  refine ⟨w0, H0, r, w1, _, EX, fr.go l1 ok1, lk, q1, fun lo w2 H2 l2 ok2 q2 => ?_⟩
  refine ⟨w0, H0, r, w2, _, EX, (fr.go l1 ok1).go l2 ok2, lk, q2, fun hi w3 H3 l3 ok3 q3 => ?_⟩
  have s3 := (s1.go l2).go l3
  have l := (l1.trans l2).trans l3
  cases x with
  | str z => exact .inl ⟨z, s3.str_of, q3.1, k _ _ w3 H3 l ok3 Rep.str q3.2⟩
  | tup ds =>
    obtain ⟨p, vs, e, t1, r1⟩ := s3.tup_of ok3
    refine .inr (.inl ⟨p, vs, e, hK ▸ t1, fun hw => ?_, fun _ p' o hp hd => ?_⟩)
    · rw [← r1.length] at hw
      have q4 : QD (.tup (cutD ds lo hi)) w3.sg := q3
      rw [cut_whole hw] at q4
      have rp := s3.tup_rep
      rw [e] at rp
      exact k _ _ w3 H3 l ok3 rp q4
    · obtain ⟨w4, l4, ok4, rp, e2⟩ := newTup (p := p') ok3 hp hd (cut_rep (lo := lo) (hi := hi) r1)
      exact k _ _ w4 _ (l.trans l4) ok4 rp (e2 ▸ q3)
  | lst ds =>
    obtain ⟨p, vs, e, t1, r1⟩ := s3.lst_of ok3
    refine .inr (.inr ⟨p, vs, e, hK ▸ t1.sql, fun p' hp => ?_⟩)
    obtain ⟨w4, l4, ok4, rp, e2⟩ := newLst (p := p') ok3 hp (cut_rep (lo := lo) (hi := hi) r1)
    exact k _ _ w4 _ (l.trans l4) ok4 rp (e2 ▸ q3)
  | _ => exact q3.elim
end DL
/-! The data layer, part 5: statements, loops, comprehensions. -/
namespace DL
open PySem L2
section
variable {X : Cx} {G : Gm} {E : XK} {e : Expr} {st : Stmt} {rest : List Stmt} {pos : Pos}

theorem Fr.setV {w0 : Wd} {H0 : Hp} {r : Env} {s : L2.St} {w : Wd} {H : Hp} {i : Nat} {d : D} {v : V} (f : Fr G w0 H0 r s w H) (rp : Rep G w d v) : Fr G w0 H0 (r.set i (.val d)) (s.set i (some v)) w H :=
  Fr.set (x := .val d) f rfl ⟨v, rfl, rp⟩
theorem SlotOk.own {H0 : Hp} {w : Wd} {H : Hp} {a : Addr} {vs : List V} {ds : List D} (m : Mine H0 w a) (h : H a = some (.lst vs)) (r : Reps G w ds vs) : SlotOk G H0 w H (.own ds) (some (some (.ref a))) := ⟨a, vs, rfl, m, h, r⟩

/-! ### blocks -/
def sNext : FS := fun A _ r σ => A.nx r σ
def sSeq (F F' : FS) : FS := fun A EX r σ => F { A with nx := fun r' σ => F' A EX r' σ } EX r σ
theorem css_nil : PSs X [] (sD G E sNext) := PSs.weak pss_nil fun B s H ⟨w0, H0, wk, r, w, A, EX, fr, sb, lk, ll, f⟩ => ll.nx r s w H fr sb f
theorem css_cons {F F' : FS} (h1 : PS X st (sD G E F)) (h2 : PSs X rest (sD G E F')) : PSs X (st :: rest) (sD G E (sSeq F F')) := PSs.weak (pss_cons h1 h2) fun B s H ⟨w0, H0, wk, r, w, A, EX, fr, sb, lk, ll, f⟩ =>
  ⟨w0, H0, wk, r, w, { A with nx := fun r' => F' A EX r' }, EX, fr, sb, lk, ⟨fun r' s' w' H' fr' sb' f' => ⟨w0, H0, wk, r', w', A, EX, fr', sb', lk, ll, f'⟩, ll.rt, ll.bk, ll.ct, ll.rn⟩, f⟩
theorem css_one {F : FS} (h1 : PS X st (sD G E F)) : PSs X [st] (sD G E F) := pss_one h1
/-- a statement that is never reached -/
def sNever : FS := fun _ _ _ σ => False
theorem cs_never : PS X st (sD G E sNever) := PS.weak ps_never fun B s H ⟨_, _, _, _, _, _, _, _, _, _, _, f⟩ => f.elim
def sIf (T : FT) (F F' : FS) : FS := fun A EX r σ => T r (fun b σ => if b = true then F A EX r σ else F' A EX r σ) EX σ
theorem cs_if {c : Expr} {a b : List Stmt} {T : FT} {F F' : FS} (hc : PT X c (ttD G E T)) (ha : PSs X a (sD G E F)) (hb : PSs X b (sD G E F')) : PS X (.If c a b pos) (sD G E (sIf T F F')) := (ps_if hc ha hb).weak fun B s H ⟨w0, H0, wk, r, w, A, EX, fr, sb, lk, ll, f⟩ =>
  ⟨w0, H0, r, w, _, EX, fr, lk, f, fun b w1 H1 l1 ok1 q1 => by
    cases b with
    | true =>
      rw [if_pos rfl] at q1 ⊢
      exact ⟨w0, H0, wk, r, w1, A, EX, fr.go l1 ok1, sb.trans l1.sub, lk, ll, q1⟩
    | false =>
      rw [if_neg Bool.false_ne_true] at q1 ⊢
      exact ⟨w0, H0, wk, r, w1, A, EX, fr.go l1 ok1, sb.trans l1.sub, lk, ll, q1⟩⟩
def sExpr (F : FE) : FS := fun A EX r σ => F r (fun _ σ => A.nx r σ) EX σ
theorem cs_expr {F : FE} (he : PE X e (tD G E F)) (hs : swapsWith e none pos.line X.env = pure false := by rfl) : PS X (.Expr e pos) (sD G E (sExpr F)) := (ps_expr he hs).weak fun B s H ⟨w0, H0, wk, r, w, A, EX, fr, sb, lk, ll, f⟩ =>
  ⟨w0, H0, r, w, _, EX, fr, lk, f, fun d v w1 H1 l1 ok1 _ q1 => ll.nx r s w1 H1 (fr.go l1 ok1) (sb.trans l1.sub) q1⟩
/-- what is seen may be kept as a value, frozen -/
theorem See.keep {H0 : Hp} {w : Wd} {H : Hp} {d : D} {v : V} {w0 : Wd} (ok : Ok w H) (l : Le w0 H0 w H) (h : See G H0 w H d v) : ∃ w', Le w0 H0 w' H ∧ Ok w' H ∧ Sub w w' ∧ Rep G w' d v ∧ w'.sg = w.sg := by
  rcases h with h | ⟨a, vs, ds, rfl, rfl, m, h1, r⟩ | ⟨a, vs, ks, ds, rfl, rfl, m, h1, hl, r⟩
  · exact ⟨w, l, ok, .refl w, h, rfl⟩
  · refine ⟨w.frz H a, l.frz m.1 m.2.2, ok.frz m.2.1, .frz m.1, Rep.lst (.of (by rw [frz_at]; exact h1)) (r.mono (.frz m.1)), rfl⟩
  · refine ⟨w.frz H a, l.frz m.1 m.2.2, ok.frz m.2.1, .frz m.1, ?_, rfl⟩
    unfold Rep
    exact ⟨a, vs, rfl, .inl (by rw [frz_at]; exact h1), hl, r.mono (.frz m.1)⟩
def sRet (F : FE) : FS := fun A EX r σ => F r A.rt EX σ
/-- return: an own list, dict may be handed out -/
theorem cs_ret {F : FE} (he : PE X e (bD G E F)) : PS X (.Return (some e) pos) (sD G E (sRet F)) := (ps_ret he).weak fun B s H ⟨w0, H0, wk, r, w, A, EX, fr, sb, lk, ll, f⟩ =>
  ⟨w0, H0, r, w, _, EX, fr, lk, f, fun d v w1 H1 l1 ok1 s1 q1 => by
    obtain ⟨w2, l2, ok2, _, rp, e2⟩ := s1.keep ok1 (fr.le.trans l1)
    exact ll.rt d v w2 H1 l2 ok2 rp (e2 ▸ q1)⟩
/-- return of a list that is the frame's own, or new -/
def sRetNew (i : Nat) : FS := fun A _ r σ => match r[i]? with
  | some (.own ds) => A.rn ds σ
  | _ => False
theorem cs_retNew (i : Nat) {x : Str} {p : Pos} (hN : X.N[i]? = some x := by rfl) (hv : Vis X.env.scope x := by first | exact Or.inl rfl | exact Or.inr (Or.inl rfl) | exact Or.inr (Or.inr rfl)) (hd : (x == ("__debug__" : Str)) = false := by decide)
    (hcd : (x == ("__classdict__" : Str)) = false := by decide) : PS X (.Return (some (.Name x p)) pos) (sD G E (sRetNew i)) := (ps_ret (pe_var hN hv hd hcd)).weak fun B s H ⟨w0, H0, wk, r, w, A, EX, fr, sb, lk, ll, f⟩ => by
  unfold sRetNew at f
  cases e : r[i]? with
  | none => rw [e] at f; exact f.elim
  | some y =>
    rw [e] at f
    cases y <;> try exact f.elim
    rename_i ds
    obtain ⟨a, vs, q, m, h1, rp⟩ := fr.slot i _ e
    exact ⟨_, q, ll.rn ds a vs w H fr.le fr.ok m h1 rp f⟩
def sSet (i : Nat) (F : FE) : FS := fun A EX r σ => F r (fun d σ => A.nx (r.set i (.val d)) σ) EX σ
theorem cs_set {i : Nat} {x : Str} {F : FE} {pos' : Pos} (he : PE X e (tD G E F)) (hN : X.N.Nodup) (hi : X.N[i]? = some x := by rfl) (hx : Loc X.env.scope x := by first | exact Or.inl rfl | exact Or.inr rfl) (hs : swapsWith e (some (.Name x pos')) pos.line X.env = pure false := by rfl)
    (hf : X.fn x = true ∨ X.env.scope.names.lookup x = some .local := by first | exact .inl rfl | exact .inr rfl | assumption) : PS X (.Assign [.Name x pos'] e pos) (sD G E (sSet i F)) := (ps_set hN hi hx he hs hf).weak fun B s H ⟨w0, H0, wk, r, w, A, EX, fr, sb, lk, ll, f⟩ =>
  ⟨w0, H0, r, w, _, EX, fr, lk, f, fun d v w1 H1 l1 ok1 r1 q1 => ll.nx _ _ w1 H1 ((fr.go l1 ok1).setV r1) (sb.trans l1.sub) q1⟩
/-- a new list, the frame's own -/
def sSetOwn (i : Nat) (F : FA) : FS := fun A EX r σ => F r (fun ds σ => A.nx (r.set i (.own ds)) σ) EX σ
theorem cs_setOwn {i : Nat} {x : Str} {F : FA} {pos' : Pos} (he : PE X e (fD G E F)) (hN : X.N.Nodup) (hi : X.N[i]? = some x := by rfl) (hx : Loc X.env.scope x := by first | exact Or.inl rfl | exact Or.inr rfl) (hs : swapsWith e (some (.Name x pos')) pos.line X.env = pure false := by rfl)
    (hf : X.fn x = true ∨ X.env.scope.names.lookup x = some .local := by first | exact .inl rfl | exact .inr rfl | assumption) : PS X (.Assign [.Name x pos'] e pos) (sD G E (sSetOwn i F)) := (ps_set hN hi hx he hs hf).weak fun B s H ⟨w0, H0, wk, r, w, A, EX, fr, sb, lk, ll, f⟩ =>
  ⟨w0, H0, r, w, _, EX, fr, lk, f, fun ds a vs w1 H1 l1 ok1 hn m h1 r1 q1 => ll.nx _ _ w1 H1 ((fr.go l1 ok1).setOwn (fun j y b e1 e2 e3 => fr.ownAt j y b e1 e2 e3) hn (SlotOk.own m h1 r1)) (sb.trans l1.sub) q1⟩
/-- own lists, dicts become values ahead of a statement -/
def offs (r : Env) : List Nat → Env
  | [] => r
  | i :: is => offs (match r[i]? with
    | some x => r.set i x.off
    | none => r) is
theorem Fr.offAt {w0 : Wd} {H0 : Hp} {r : Env} {s : St} {w : Wd} {H : Hp} (fr : Fr G w0 H0 r s w H) (i : Nat) : ∃ w', Fr G w0 H0 (match r[i]? with | some x => r.set i x.off | none => r) s w' H ∧ Sub w w' ∧ w'.sg = w.sg := by
  cases e : r[i]? with
  | none => exact ⟨w, fr, .refl w, rfl⟩
  | some x =>
    have hi : i < r.length := (List.getElem?_eq_some_iff.mp e).1
    have same : r.set i x = r := by
      refine List.ext_getElem? fun j => ?_
      by_cases z : i = j
      · subst z; rw [List.getElem?_set_self hi, e]
      · rw [List.getElem?_set_ne z]
    have hs := fr.slot i x e
    cases x with
    | own ds =>
      obtain ⟨a, vs, e1, m, h1, rp⟩ := hs
      exact ⟨w.frz H a, fr.off e rfl e1 m rfl ⟨_, rfl, Rep.lst (.of (by rw [frz_at]; exact h1)) (rp.mono (.frz m.1))⟩, .frz m.1, rfl⟩
    | ownd ks ds =>
      obtain ⟨a, vs, e1, m, h1, hl, rp⟩ := hs
      refine ⟨w.frz H a, fr.off e rfl e1 m rfl ⟨_, rfl, ?_⟩, .frz m.1, rfl⟩
      unfold Rep
      exact ⟨a, vs, rfl, .inl (by rw [frz_at]; exact h1), hl, rp.mono (.frz m.1)⟩
    | un => exact ⟨w, by show Fr G w0 H0 (r.set i .un) s w H; rw [same]; exact fr, .refl w, rfl⟩
    | val d => exact ⟨w, by show Fr G w0 H0 (r.set i (.val d)) s w H; rw [same]; exact fr, .refl w, rfl⟩
    | slf x c ds => exact ⟨w, by show Fr G w0 H0 (r.set i (.slf x c ds)) s w H; rw [same]; exact fr, .refl w, rfl⟩
theorem Fr.offs {w0 : Wd} {H0 : Hp} {s : St} {H : Hp} : ∀ (is : List Nat) {r : Env} {w : Wd}, Fr G w0 H0 r s w H → ∃ w', Fr G w0 H0 (offs r is) s w' H ∧ Sub w w' ∧ w'.sg = w.sg
  | [], r, w, fr => ⟨w, fr, .refl w, rfl⟩
  | i :: is, r, w, fr => by
    obtain ⟨w1, f1, s1, e1⟩ := fr.offAt i
    obtain ⟨w2, f2, s2, e2⟩ := Fr.offs is f1
    exact ⟨w2, f2, s1.trans s2, e2.trans e1⟩
def sOff (is : List Nat) (F : FS) : FS := fun A EX r σ => F A EX (offs r is) σ
theorem cs_off (is : List Nat) {F : FS} (h : PS X st (sD G E F)) : PS X st (sD G E (sOff is F)) := h.weak fun B s H ⟨w0, H0, wk, r, w, A, EX, fr, sb, lk, ll, f⟩ => by
  obtain ⟨w1, f1, s1, e1⟩ := fr.offs is
  exact ⟨w0, H0, wk, _, w1, A, EX, f1, sb.trans s1, lk, ll, (e1 ▸ f : F A EX (offs r is) w1.sg)⟩

/-! ### targets -/
abbrev TGd := D → Env → (Env → Pr) → Pr
/-- a store that only puts values which stand in w -/
def Cm (G : Gm) (w0 : Wd) (H0 : Hp) (w : Wd) (r : Env) (s : L2.St) (r' : Env) (s' : L2.St) : Prop := ∀ w' H', Sub w w' → Fr G w0 H0 r s w' H' → Fr G w0 H0 r' s' w' H'
structure TgL (G : Gm) (vs : List Nat) (tg : TG) (g : TGd) : Prop where
  go : ∀ w0 H0 r s w H d v K Q, Fr G w0 H0 r s w H → Rep G w d v → g d r K w.sg → (∀ r' s', Fr G w0 H0 r' s' w H → Cm G w0 H0 w r s r' s' → wipe s' vs = wipe s vs → K r' w.sg → Q s' H) → tg v s H Q
def gVar (i : Nat) : TGd := fun d r K σ => K (r.set i (.val d)) σ
theorem wipe_set {s : St} {i : Nat} {x : Option V} : ∀ {vs : List Nat}, i ∈ vs → wipe (s.set i x) vs = wipe s vs
  | [], h => by simp at h
  | v :: vs, h => by
    unfold wipe
    by_cases e : v = i
    · subst e
      by_cases h2 : v ∈ vs
      · rw [wipe_set h2]
      · refine List.ext_getElem? fun j => ?_
        by_cases z : v = j
        · subst z
          have hl : (wipe (s.set v x) vs).length = (wipe s vs).length := by rw [wipe_length, wipe_length]; simp
          by_cases hv : v < (wipe s vs).length
          · rw [List.getElem?_set_self hv, List.getElem?_set_self (hl ▸ hv)]
          · rw [List.getElem?_eq_none (by rw [List.length_set, hl]; exact Nat.le_of_not_lt hv), List.getElem?_eq_none (by rw [List.length_set]; exact Nat.le_of_not_lt hv)]
        · rw [List.getElem?_set_ne z, List.getElem?_set_ne z]
          by_cases hj : j ∈ vs
          · have wj : ∀ {t : St} {us : List Nat}, j ∈ us → t.length = s.length → (wipe t us)[j]? = if j < s.length then some none else none := fun {t us} m hl => by
              induction us with
              | nil => simp at m
              | cons u us ih =>
                unfold wipe
                by_cases q : u = j
                · subst q
                  by_cases hu : u < s.length
                  · rw [List.getElem?_set_self (by rw [wipe_length, hl]; exact hu), if_pos hu]
                  · rw [List.getElem?_eq_none (by rw [List.length_set, wipe_length, hl]; exact Nat.le_of_not_lt hu), if_neg hu]
                · rw [List.getElem?_set_ne q]
                  exact ih ((List.mem_cons.mp m).resolve_left fun z => q z.symm)
            rw [wj hj (by simp), wj hj rfl]
          · rw [wipe_out hj, wipe_out hj, List.getElem?_set_ne z]
    · have h2 : i ∈ vs := (List.mem_cons.mp h).resolve_left fun z => e z.symm
      rw [wipe_set h2]
theorem tg_var {i : Nat} {vs : List Nat} (h : i ∈ vs := by decide) : TgL G vs (gName i) (gVar i) where
  go := fun w0 H0 r s w H d v K Q fr rp k q => q _ _ (fr.setV rp) (fun w' H' sb fr' => fr'.setV (rp.mono sb)) (wipe_set h) k
/-- a, b, .. = a tuple -/
abbrev TGds := List D → Env → (Env → Pr) → Pr
structure TgsL (G : Gm) (vs : List Nat) (tg : TGs) (g : TGds) : Prop where
  go : ∀ w0 H0 r s w H ds us K Q, Fr G w0 H0 r s w H → Reps G w ds us → g ds r K w.sg → (∀ r' s', Fr G w0 H0 r' s' w H → Cm G w0 H0 w r s r' s' → wipe s' vs = wipe s vs → K r' w.sg → Q s' H) → tg us s H Q
def gsNil : TGds := fun ds r K σ => ds = [] ∧ K r σ
def gsCons (g : TGd) (gs : TGds) : TGds := fun ds r K σ => ∃ d t, ds = d :: t ∧ g d r (fun r' σ => gs t r' K σ) σ
theorem tgs_nil {vs : List Nat} : TgsL G vs gNil gsNil where
  go := fun w0 H0 r s w H ds us K Q fr rp ⟨e, k⟩ q => by
    subst e
    exact ⟨rp.of_nil, q r s fr (fun _ _ _ f => f) rfl k⟩
theorem tgs_cons {vs : List Nat} {tg : TG} {tgs : TGs} {g : TGd} {gs : TGds} (h : TgL G vs tg g) (h2 : TgsL G vs tgs gs) : TgsL G vs (gCons tg tgs) (gsCons g gs) where
  go := fun w0 H0 r s w H ds us K Q fr rp ⟨d, t, e, k⟩ q => by
    subst e
    obtain ⟨v, us', e2, r1, r2⟩ := rp.of_cons
    exact ⟨v, us', e2, h.go w0 H0 r s w H d v _ _ fr r1 k fun r' s' fr' c' e' k' => h2.go w0 H0 r' s' w H t us' K Q fr' r2 k' fun r2' s2' fr2 c2 e2' k2 => q r2' s2' fr2 (fun w' H' sb f => c2 w' H' sb (c' w' H' sb f)) (e2'.trans e') k2⟩
def gTupD (n : Nat) (gs : TGds) : TGd := fun d r K σ => ∃ ds, d = .tup ds ∧ ds.length = n ∧ gs ds r K σ
theorem tg_tup {K : PySem.W.Frag} {n : Nat} {vs : List Nat} {tgs : TGs} {gs : TGds} (h : TgsL G vs tgs gs) (hK : K = G.K := by rfl) : TgL G vs (gTup K n tgs) (gTupD n gs) where
  go := fun w0 H0 r s w H d v K' Q fr rp ⟨ds, e, hn, k⟩ q => by
    subst e
    obtain ⟨a, us, e2, h1, r1⟩ := rp.tup_of
    exact ⟨a, us, e2, hK ▸ sqT_sub fr.ok.sub h1.sqt, by rw [← r1.length]; exact hn, h.go w0 H0 r s w H ds us K' Q fr r1 k q⟩
/-- a, b = e -/
def sAsg (g : TGd) (F : FE) : FS := fun A EX r σ => F r (fun d σ => g d r A.nx σ) EX σ
theorem cs_asg {tg : Expr} {t : TG} {g : TGd} {vs : List Nat} {F : FE} (he : PE X e (tD G E F)) (hg : PG X tg t) (hl : TgL G vs t g) (hs : swapsWithSole [tg] e pos.line X.env = pure false := by rfl) (hw : swappedStores [tg] e X.env = pure none := by rfl)
    (h1 : (assignEach [tg] X.env).map (·.2) = [assign tg X.env] := by rfl) : PS X (.Assign [tg] e pos) (sD G E (sAsg g F)) := (ps_asg he hg hs hw h1).weak fun B s H ⟨w0, H0, wk, r, w, A, EX, fr, sb, lk, ll, f⟩ =>
  ⟨w0, H0, r, w, _, EX, fr, lk, f, fun d v w1 H1 l1 ok1 r1 q1 => hl.go w0 H0 r s w1 H1 d v A.nx _ (fr.go l1 ok1) r1 q1 fun r' s' fr' _ _ k' => ll.nx r' s' w1 H1 fr' (sb.trans l1.sub) k'⟩
/-- a, b = e1, e2, plain local names: both are reckoned, then both stored -/
def sPar (i j : Nat) (F : FA) : FS := fun A EX r σ => F r (fun ds σ => ∃ d d', ds = [d, d'] ∧ A.nx ((r.set i (.val d)).set j (.val d')) σ) EX σ
theorem cs_par {i j : Nat} {x y : Str} {a b : Expr} {F : FA} {px py pt : Pos} {kt k2 pt2} (ha : PA X [a, b] (taD G E F)) (hN : X.N.Nodup) (hc : X.calm = true := by rfl) (hi : X.N[i]? = some x := by rfl) (hj : X.N[j]? = some y := by rfl) (hij : i ≠ j := by decide)
    (hx : X.env.scope.names.lookup x = some .local := by rfl) (hy : X.env.scope.names.lookup y = some .local := by rfl) 
    (hw : swappedStores [.Tuple [.Name x px, .Name y py] kt pt] (.Tuple [a, b] k2 pt2) X.env = pure (some [x, y]) := by rfl)
    (hs : swapsWithSole [.Tuple [.Name x px, .Name y py] kt pt] (.Tuple [a, b] k2 pt2) pos.line X.env = pure false := by rfl) :
    PS X (.Assign [.Tuple [.Name x px, .Name y py] kt pt] (.Tuple [a, b] k2 pt2) pos) (sD G E (sPar i j F)) := (ps_par hc hN hi hj hij hx hy ha hw hs).weak fun B s H ⟨w0, H0, wk, r, w, A, EX, fr, sb, lk, ll, f⟩ =>
  ⟨w0, H0, r, w, _, EX, fr, lk, f, fun ds vs w1 H1 l1 ok1 r1 ⟨d, d', e, q1⟩ => by
    subst e
    obtain ⟨v, t, e1, r2, r3⟩ := r1.of_cons
    obtain ⟨v', t', e2, r4, r5⟩ := r3.of_cons
    have e3 := r5.of_nil
    subst e1
    subst e2
    subst e3
    exact ⟨v, v', rfl, ll.nx _ _ w1 H1 (((fr.go l1 ok1).setV r2).setV r4) (sb.trans l1.sub) q1⟩⟩

/-! ### what is walked -/
/-- at turn i the i-th of ds comes, whatever else has become frozen -/
structure SrcS (G : Gm) (J : It) (w1 : Wd) (ds : List D) : Prop where
  stop : ∀ w H, Ok w H → Sub w1 w → J.stop ds.length H
  go : ∀ i d w H, Ok w H → Sub w1 w → ds[i]? = some d → J.go i H ∧ ∀ x H', J.yld i H x H' → ∃ w', Le w H w' H' ∧ Ok w' H' ∧ Rep G w' d x ∧ w'.sg = w.sg
/-- .. while nothing is changed -/
structure SrcE (G : Gm) (J : It) (w1 : Wd) (H1 : Hp) (ds : List D) : Prop where
  stop : ∀ w H, Ok w H → Le w1 H1 w H → J.stop ds.length H
  go : ∀ i d w H, Ok w H → Le w1 H1 w H → ds[i]? = some d → J.go i H ∧ ∀ x H', J.yld i H x H' → ∃ w', Le w H w' H' ∧ Ok w' H' ∧ Rep G w' d x ∧ w'.sg = w.sg
theorem SrcS.toE {J : It} {w1 : Wd} {H1 : Hp} {ds : List D} (h : SrcS G J w1 ds) : SrcE G J w1 H1 ds := ⟨fun w H ok l => h.stop w H ok l.sub, fun i d w H ok l e => h.go i d w H ok l.sub e⟩
abbrev FI := Env → (List D → Pr) → XP → Pr
def iS (G : Gm) (E : XK) (S : FI) : TI := fun s H R => ∃ w0 H0 r w QD EX, Fr G w0 H0 r s w H ∧ LkE G E w0 H0 EX ∧ S r QD EX w.sg ∧ ∀ ds J w' H', Le w H w' H' → Ok w' H' → SrcS G J w' ds → QD ds w'.sg → R J H'
def iE (G : Gm) (E : XK) (S : FI) : TI := fun s H R => ∃ w0 H0 r w QD EX, Fr G w0 H0 r s w H ∧ LkE G E w0 H0 EX ∧ S r QD EX w.sg ∧ ∀ ds J w' H', Le w H w' H' → Ok w' H' → SrcE G J w' H' ds → QD ds w'.sg → R J H'
theorem _root_.L2.PI.weak {tg iter : Expr} {t t' : TI} (h : PI X tg iter t) (k : ∀ s H R, t' s H R → t s H R) : PI X tg iter t' := ⟨fun p s σ H R I q => h.run p s σ H R I (k σ H R q)⟩
theorem iE_of {tg iter : Expr} {S : FI} (h : PI X tg iter (iS G E S)) : PI X tg iter (iE G E S) := h.weak fun s H R ⟨w0, H0, r, w, QD, EX, fr, lk, f, k⟩ =>
  ⟨w0, H0, r, w, QD, EX, fr, lk, f, fun ds J w' H' l ok sr q => k ds J w' H' l ok sr.toE q⟩
def signs (z : Str) : List D := z.cps.toList.map fun c => .str ⟨#[c]⟩
def rangeD (lo hi : Int) : List D := (List.range (hi - lo).toNat).map fun i => .int (lo + ((i : Nat) : Int))
def fRng1 (A : FA) : FI := fun r Q EX σ => A r (fun ds σ => ∃ n, ds = [.int n] ∧ (-(2 ^ 62) ≤ n ∧ n < 2 ^ 62) ∧ Q (rangeD 0 n) σ) EX σ
theorem src_list {K : PySem.W.Frag} {a : Addr} {vs : List V} {ds : List D} {w1 : Wd} (h : LsT K w1.hd a vs) (r : Reps G w1 ds vs) : SrcS G (Itl K a) w1 ds where
  stop := fun w H ok sb => ⟨vs, (lsT_sub (fun b o e => ok.sub b o (sb.hd b o e)) h).sql, by rw [r.length]; exact Nat.le_refl _⟩
  go := fun i d w H ok sb e => by
    obtain ⟨v, e1, r1⟩ := r.getD e
    have sq : SqL K H a vs := (lsT_sub (fun b o e => ok.sub b o (sb.hd b o e)) h).sql
    refine ⟨⟨vs, v, sq, e1⟩, fun x H' ⟨eH, y⟩ => ?_⟩
    subst eH
    have q := y vs sq
    rw [e1] at q
    cases q
    exact ⟨w, .refl w _, ok, r1.mono sb, rfl⟩
theorem src_listE {K : PySem.W.Frag} {a : Addr} {vs : List V} {ds : List D} {w1 : Wd} {H1 : Hp} (nj : ¬ w1.jr a) (h : H1 a = some (.lst vs)) (r : Reps G w1 ds vs) : SrcE G (Itl K a) w1 H1 ds where
  stop := fun w H ok l => ⟨vs, .inl (.of (l.keep _ _ h nj)), by rw [r.length]; exact Nat.le_refl _⟩
  go := fun i d w H ok l e => by
    obtain ⟨v, e1, r1⟩ := r.getD e
    have sq : SqL K H a vs := .inl (.of (l.keep _ _ h nj))
    refine ⟨⟨vs, v, sq, e1⟩, fun x H' ⟨eH, y⟩ => ?_⟩
    subst eH
    have q := y vs sq
    rw [e1] at q
    cases q
    exact ⟨w, .refl w _, ok, r1.mono l.sub, rfl⟩
theorem src_tup {K : PySem.W.Frag} {a : Addr} {vs : List V} {ds : List D} {w1 : Wd} (h : SqT K w1.hd a vs) (r : Reps G w1 ds vs) : SrcS G (Itt K a) w1 ds where
  stop := fun w H ok sb => ⟨vs, sqT_sub (fun b o e => ok.sub b o (sb.hd b o e)) h, by rw [r.length]; exact Nat.le_refl _⟩
  go := fun i d w H ok sb e => by
    obtain ⟨v, e1, r1⟩ := r.getD e
    have sq : SqT K H a vs := sqT_sub (fun b o e => ok.sub b o (sb.hd b o e)) h
    refine ⟨⟨vs, v, sq, e1⟩, fun x H' ⟨eH, y⟩ => ?_⟩
    subst eH
    have q := y vs sq
    rw [e1] at q
    cases q
    exact ⟨w, .refl w _, ok, r1.mono sb, rfl⟩
theorem src_str {z : Str} {w1 : Wd} : SrcS G (Its z) w1 (signs z) where
  stop := fun w H ok sb => by show z.cps.size ≤ (signs z).length; unfold signs; simp
  go := fun i d w H ok sb e => by
    unfold signs at e
    rw [List.getElem?_map] at e
    cases q : z.cps.toList[i]? with
    | none => rw [q] at e; cases e
    | some c =>
      rw [q] at e
      cases e
      have hi : i < z.cps.size := by
        have := (List.getElem?_eq_some_iff.mp q).1
        simpa using this
      refine ⟨hi, fun x H' ⟨eH, c', y, ex⟩ => ?_⟩
      subst eH
      subst ex
      rw [← Array.getElem?_toList, q] at y
      cases y
      exact ⟨w, .refl w _, ok, Rep.str, rfl⟩
theorem src_rng {lo hi : Int} {w1 : Wd} : SrcS G (Itr lo (hi - lo).toNat) w1 (rangeD lo hi) where
  stop := fun w H ok sb => by show (hi - lo).toNat ≤ (rangeD lo hi).length; unfold rangeD; simp
  go := fun i d w H ok sb e => by
    unfold rangeD at e
    rw [List.getElem?_map] at e
    cases q : (List.range (hi - lo).toNat)[i]? with
    | none => rw [q] at e; cases e
    | some c =>
      rw [q] at e
      cases e
      obtain ⟨h1, h2⟩ := List.getElem?_eq_some_iff.mp q
      rw [List.getElem_range] at h2
      subst h2
      refine ⟨by show i < (hi - lo).toNat; simpa using h1, fun x H' ⟨eH, ex⟩ => ?_⟩
      subst eH
      subst ex
      exact ⟨w, .refl w _, ok, Rep.int, rfl⟩
end
end DL
/-! The data layer, part 6: for, while, comprehensions. -/
namespace DL
open PySem L2
section
variable {X : Cx} {G : Gm} {E : XK} {e : Expr} {st : Stmt} {rest : List Stmt} {pos : Pos} {tg l : Expr} {A : FE}
theorem cis_rng1 {a : Expr} {F : FA} {p pos : Pos} (hm : X.mg "range" = none) (ha : PA X [a] (taD G E F)) (hg : Gl X "range" := by rfl) (hs : starEach [a] X.env = [(false, eval a X.env)] := by rfl) : PI X tg (.Call (.Name "range" p) [a] [] pos) (iS G E (fRng1 F)) := (pi_range1 hg hm ha hs).weak fun s H R ⟨w0, H0, r, w, QD, EX, fr, lk, f, k⟩ =>
  ⟨w0, H0, r, w, _, EX, fr, lk, f, fun ds vs w1 H1 l1 ok1 r1 ⟨n, ed, ⟨b1, b2⟩, q⟩ => by
    subst ed
    have ev := Reps.ints (ns := [n]) r1
    subst ev
    refine ⟨n, rfl, b1, b2, k (rangeD 0 n) (Itr 0 n.toNat) w1 H1 l1 ok1 ?_ q⟩
    have := src_rng (G := G) (lo := 0) (hi := n) (w1 := w1)
    rwa [show (n - 0).toNat = n.toNat by omega] at this⟩
/-! ### for -/
def forD (g : TGd) (B : FS) : List D → DE → XP → Env → Pr
  | [], A, _, r => A.nx r
  | d :: ds, A, EX, r => g d r fun r1 => B { A with nx := fun r2 => forD g B ds A EX r2, ct := fun r2 => forD g B ds A EX r2, bk := A.nx } EX r1
def sFor (S : FI) (g : TGd) (B : FS) : FS := fun A EX r σ => S r (fun ds σ => forD g B ds A EX r σ) EX σ
theorem drop_get {α : Type} {ds : List α} {i : Nat} {d : α} (h : ds[i]? = some d) : ds.drop i = d :: ds.drop (i + 1) := by
  obtain ⟨h1, h2⟩ := List.getElem?_eq_some_iff.mp h
  rw [List.drop_eq_getElem_cons h1, h2]
theorem cs_for {iter : Expr} {body : List Stmt} {S : FI} {t : TG} {g : TGd} {vs : List Nat} {B : FS} (hp : PassesOwn (model X.prog X.w) X.A X.env X.xe) (hi : PI X tg iter (iS G E S)) (hg : PG X tg t) (hl : TgL G vs t g) (hb : PSs X body (sD G E B)) (hc : X.calm = true := by rfl)
    (hs : ∀ x, foldedSetIterable iter X.env x = pure x := by intro _; rfl) : PS X (.For tg iter body [] pos) (sD G E (sFor S g B)) := PS.weak (ps_for hp hc hi hg hb hs) fun C s H ⟨w0, H0, wk, r, w, A, EX, fr, sb, lk, ll, f⟩ =>
  ⟨w0, H0, r, w, _, EX, fr, lk, f, fun ds J w1 H1 l1 ok1 src q => by
    let Pv : Nat → L2.St → Hp → Prop := fun i s H => ∃ r w, Fr G w0 H0 r s w H ∧ Sub w1 w ∧ forD g B (ds.drop i) A EX r w.sg
    refine ⟨fun i m s H => m = ds.length - i ∧ i ≤ ds.length ∧ Pv i s H, ⟨ds.length, by simp, Nat.zero_le _, r, w1, fr.go l1 ok1, .refl w1, q⟩, ?_⟩
    rintro i m s2 H2 ⟨rfl, hi, r2, w2, fr2, sb2, q2⟩
    have sbk : ∀ {w3 : Wd}, Sub w1 w3 → Sub wk w3 := fun z => (sb.trans l1.sub).trans z
    by_cases hlt : i < ds.length
    · have e : ds[i]? = some ds[i] := by simp [hlt]
      obtain ⟨g1, g2⟩ := src.go i _ w2 H2 fr2.ok sb2 e
      refine .inr ⟨g1, Pv (i + 1), fun s' H' p' => ⟨ds.length - (i + 1), by omega, rfl, hlt, p'⟩, fun x H' y => ?_⟩
      obtain ⟨w3, l3, ok3, r3, e3⟩ := g2 x H' y
      rw [drop_get e, ← e3] at q2
      refine hl.go w0 H0 r2 s2 w3 H' _ x _ _ (fr2.go l3 ok3) r3 q2 fun r' s' fr' _ _ k' => ?_
      have sb3 : Sub w1 w3 := sb2.trans l3.sub
      exact ⟨w0, H0, w1, r', w3, { A with nx := fun r2 => forD g B (ds.drop (i + 1)) A EX r2, ct := fun r2 => forD g B (ds.drop (i + 1)) A EX r2, bk := A.nx }, EX, fr', sb3, lk, ⟨fun r4 s4 w4 H4 f4 sb4 k4 => ⟨r4, w4, f4, sb4, k4⟩, ll.rt, fun r4 s4 w4 H4 f4 sb4 k4 => ll.nx r4 s4 w4 H4 f4 (sbk sb4) k4, fun r4 s4 w4 H4 f4 sb4 k4 => ⟨r4, w4, f4, sb4, k4⟩, ll.rn⟩, k'⟩
    · have e : i = ds.length := by omega
      subst e
      rw [List.drop_length] at q2
      exact .inl ⟨src.stop w2 H2 fr2.ok sb2, ll.nx r2 s2 w2 H2 fr2 (sbk sb2) q2⟩⟩

/-! ### while -/
def sWhile (T : FT) (B : FS) : FS := fun A EX r σ => ∃ W : Nat → Env → Pr, (∃ m, W m r σ) ∧ ∀ m r σ, W m r σ →
  T r (fun b σ => if b = true then B { A with nx := fun r' σ => ∃ m', m' < m ∧ W m' r' σ, ct := fun r' σ => ∃ m', m' < m ∧ W m' r' σ, bk := A.nx } EX r σ else A.nx r σ) EX σ
theorem cs_while {c : Expr} {body : List Stmt} {T : FT} {B : FS} (hp : PassesOwn (model X.prog X.w) X.A X.env X.xe) (hc : PT X c (ttD G E T)) (hb : PSs X body (sD G E B)) : PS X (.While c body [] pos) (sD G E (sWhile T B)) := PS.weak (ps_while hp hc hb) fun C s H ⟨w0, H0, wk, r, w, A, EX, fr, sb, lk, ll, W, ⟨m0, h0⟩, step⟩ => by
  refine ⟨fun m s H => ∃ r w, Fr G w0 H0 r s w H ∧ Sub wk w ∧ W m r w.sg, ⟨m0, r, w, fr, sb, h0⟩, ?_⟩
  rintro m s2 H2 ⟨r2, w2, fr2, sb2, q2⟩
  refine ⟨w0, H0, r2, w2, _, EX, fr2, lk, step m r2 _ q2, fun b w3 H3 l3 ok3 q3 => ?_⟩
  cases b with
  | true =>
    rw [if_pos rfl] at q3 ⊢
    refine ⟨fun s' H' => ∃ m', m' < m ∧ ∃ r w, Fr G w0 H0 r s' w H' ∧ Sub wk w ∧ W m' r w.sg, fun s' H' p => p, ?_⟩
    have nx : ∀ r s w H, Fr G w0 H0 r s w H → Sub wk w → (∃ m', m' < m ∧ W m' r w.sg) → ∃ m', m' < m ∧ ∃ r w, Fr G w0 H0 r s w H ∧ Sub wk w ∧ W m' r w.sg := fun r s w H f sb ⟨m', h1, h2⟩ => ⟨m', h1, r, w, f, sb, h2⟩
    exact ⟨w0, H0, wk, r2, w3, { A with nx := fun r' σ => ∃ m', m' < m ∧ W m' r' σ, ct := fun r' σ => ∃ m', m' < m ∧ W m' r' σ, bk := A.nx }, EX, fr2.go l3 ok3, sb2.trans l3.sub, lk, ⟨nx, ll.rt, ll.nx, nx, ll.rn⟩, q3⟩
  | false =>
    rw [if_neg Bool.false_ne_true] at q3 ⊢
    exact ll.nx r2 s2 w3 H3 (fr2.go l3 ok3) (sb2.trans l3.sub) q3

/-! ### comprehensions -/
theorem wipe_get {s : L2.St} {j : Nat} : ∀ vs : List Nat, (L2.wipe s vs)[j]? = if j ∈ vs then (if j < s.length then some none else none) else s[j]?
  | [] => by simp [L2.wipe]
  | v :: vs => by
    have ih := wipe_get (s := s) (j := j) vs
    unfold L2.wipe
    by_cases q : v = j
    · subst q
      rw [if_pos List.mem_cons_self]
      by_cases hv : v < s.length
      · rw [List.getElem?_set_self (by rw [wipe_length]; exact hv), if_pos hv]
      · rw [List.getElem?_eq_none (by rw [List.length_set, wipe_length]; exact Nat.le_of_not_lt hv), if_neg hv]
    · rw [List.getElem?_set_ne q, ih]
      by_cases m : j ∈ vs
      · rw [if_pos m, if_pos (List.mem_cons_of_mem _ m)]
      · rw [if_neg m, if_neg (fun z => m ((List.mem_cons.mp z).resolve_left fun y => q y.symm))]
theorem wipe_idem {s : L2.St} {vs : List Nat} : L2.wipe (L2.wipe s vs) vs = L2.wipe s vs := by
  refine List.ext_getElem? fun j => ?_
  rw [wipe_get, wipe_get, wipe_length]
  by_cases m : j ∈ vs
  · rw [if_pos m, if_pos m]
  · rw [if_neg m, if_neg m]
def wipeD (r : Env) : List Nat → Env
  | [] => r
  | v :: vs => (wipeD r vs).set v .un
theorem Fr.wipe {w0 : Wd} {H0 : Hp} {r : Env} {s : L2.St} {w : Wd} {H : Hp} (fr : Fr G w0 H0 r s w H) : ∀ vs : List Nat, Fr G w0 H0 (wipeD r vs) (wipe s vs) w H
  | [] => fr
  | v :: vs => by
    have ih := Fr.wipe fr vs
    unfold wipeD L2.wipe
    refine ⟨ih.gm, ih.ok, ih.le, by simpa using ih.len, fun j y e => ?_, fun j k y u a e1 e2 o1 o2 q1 q2 => ?_⟩
    · by_cases z : v = j
      · subst z
        have hv : v < (wipeD r vs).length := by
          have q := (List.getElem?_eq_some_iff.mp e).1
          simpa using q
        rw [List.getElem?_set_self hv] at e
        cases e
        trivial
      · rw [List.getElem?_set_ne z] at e
        rw [List.getElem?_set_ne z]
        exact ih.slot j y e
    · have nn : ∀ {n : Nat} {u : Sl}, ((wipeD r vs).set v .un)[n]? = some u → u.isOwn = true → v ≠ n := fun {n u} en on z => by
        subst z
        have hv : v < (wipeD r vs).length := by
          have q := (List.getElem?_eq_some_iff.mp en).1
          simpa using q
        rw [List.getElem?_set_self hv] at en
        cases en
        cases on
      have n1 := nn e1 o1
      have n2 := nn e2 o2
      rw [List.getElem?_set_ne n1] at e1 q1
      rw [List.getElem?_set_ne n2] at e2 q2
      exact ih.dist j k y u a e1 e2 o1 o2 q1 q2
abbrev NoX : XP := fun _ σ => False
def fYes : FT := fun _ Q _ σ => Q true σ
theorem cts_nil {X : Cx} : PTs X [] (ttD G E fYes) := ⟨fun p s σ H Q I ⟨w0, H0, r, w, QD, EX, fr, lk, f, k⟩ => pts_nil.run p s σ H Q I (k true w H (.refl w H) fr.ok f)⟩
theorem cts_one {X : Cx} {c : Expr} {T : FT} (h : PT X c (ttD G E T)) : PTs X [c] (ttD G E T) := pts_one h
def lcD (g : TGd) (T : FT) (F : FE) (r : Env) : List D → List D → (List D → Pr) → Pr
  | [], acc, Q => Q acc
  | d :: ds, acc, Q => g d r fun r1 => T r1 (fun b => if b = true then F r1 (fun y σ => acc.length < sizeLine ∧ lcD g T F r ds (acc ++ [y]) Q σ) NoX else lcD g T F r ds acc Q) NoX
def fLc (S : FI) (vs : List Nat) (g : TGd) (T : FT) (F : FE) : FA := fun r Q EX σ => S r (fun ds σ => lcD g T F (wipeD r vs) ds [] Q σ) EX σ
/-- behind a part of a comprehension: the list so far stands -/
theorem acc_keep {w w' : Wd} {H H' : Hp} {p : Addr} {o : HO} (l : Le w H w' H') (h : H p = some o) (hn : w.hd p = none) (nj : ¬ w.jr p) : H' p = some o ∧ w'.hd p = none ∧ ¬ w'.jr p := by
  have ne : H p ≠ none := by rw [h]; exact fun z => by cases z
  refine ⟨l.keep _ _ h nj, ?_, fun j => nj (l.old p ne j)⟩
  cases e : w'.hd p with
  | none => rfl
  | some u => exact absurd hn (l.oldh p ne (by rw [e]; exact fun z => by cases z))
structure SrcX (G : Gm) (J : It) (P : Wd → Hp → Prop) (ds : List D) : Prop where
  stop : ∀ w H, Ok w H → P w H → J.stop ds.length H
  go : ∀ i d w H, Ok w H → P w H → ds[i]? = some d → J.go i H ∧ ∀ x H', J.yld i H x H' → ∃ w', Le w H w' H' ∧ Ok w' H' ∧ Rep G w' d x ∧ w'.sg = w.sg
/-- the list so far stands at Dd -/
structure Acc (G : Gm) (w1 : Wd) (H1 : Hp) (w2 : Wd) (Dd : Addr) (w : Wd) (H : Hp) (acc : List D) (us : List V) : Prop where
  le : Le w1 H1 w H
  sub : Sub w2 w
  ok : Ok w H
  at_ : H Dd = some (.lst us)
  hn : w.hd Dd = none
  nj : ¬ w.jr Dd
  rep : Reps G w acc us
theorem Acc.go {w1 w2 w w' : Wd} {H1 H H' : Hp} {Dd : Addr} {acc : List D} {us : List V} (a : Acc G w1 H1 w2 Dd w H acc us) (l : Le w H w' H') (ok : Ok w' H') : Acc G w1 H1 w2 Dd w' H' acc us := by
  obtain ⟨h1, h2, h3⟩ := acc_keep l a.at_ a.hn a.nj
  exact ⟨a.le.trans l, a.sub.trans l.sub, ok, h1, h2, h3, a.rep.mono l.sub⟩
theorem Acc.add {w1 w2 w : Wd} {H1 H : Hp} {Dd : Addr} {acc : List D} {us : List V} {d : D} {v : V} (a : Acc G w1 H1 w2 Dd w H acc us) (hD : H1 Dd = none) (r : Rep G w d v) : Acc G w1 H1 w2 Dd w (upd H Dd (.lst (us ++ [v]))) (acc ++ [d]) (us ++ [v]) :=
  ⟨a.le.put hD, a.sub, a.ok.put a.hn a.nj, upd_same, a.hn, a.nj, a.rep.append (Reps.cons r Reps.nil)⟩
theorem lcX {w0 : Wd} {H0 : Hp} {r : Env} {s : L2.St} {w1 w2 : Wd} {H1 H2 : Hp} {ds : List D} {J : It} {Dd : Addr} {vs : List Nat} {t : TG} {g : TGd} {T : FT} {F : FE} {Q : List D → Pr} {Qd : Hp → Prop} {acc0 : List D} {us0 : List V}
    (htb : w0.tb = G.tb ∧ w0.gm = G)
    (frw : ∀ w H, Ok w H → Le w1 H1 w H → Sub w2 w → Fr G w0 H0 (wipeD r vs) (L2.wipe s vs) w H) (src : SrcX G J (fun w H => Le w1 H1 w H ∧ Sub w2 w) ds) (hl : TgL G vs t g) (hD : H1 Dd = none) (a0 : Acc G w1 H1 w2 Dd w2 H2 acc0 us0) (q : lcD g T F (wipeD r vs) ds acc0 Q w2.sg)
    (k : ∀ acc us w H, Acc G w1 H1 w2 Dd w H acc us → Q acc w.sg → Qd H) :
    ∃ W : Nat → Nat → Hp → Prop, (∃ m, W 0 m H2) ∧ ∀ i m H, W i m H →
      (J.stop i H ∧ Qd H) ∨ (J.go i H ∧ ∃ Nx : Hp → Prop, (∀ H', Nx H' → ∃ m', m' < m ∧ W (i + 1) m' H') ∧ ∀ x H', J.yld i H x H' → t x (L2.wipe s vs) H' fun s2 H2 => L2.wipe s2 vs = L2.wipe s vs ∧ ttD G E0 T s2 H2 fun b H3 =>
        if b = true then tD G E0 F s2 H3 fun y H4 => ∃ acc, H4 Dd = some (.lst acc) ∧ acc.length < sizeLine ∧ Nx (upd H4 Dd (.lst (acc ++ [y]))) else Nx H3) := by
  let Pv : Nat → Hp → Prop := fun i H => ∃ w acc us, Acc G w1 H1 w2 Dd w H acc us ∧ lcD g T F (wipeD r vs) (ds.drop i) acc Q w.sg
  refine ⟨fun i m H => m = ds.length - i ∧ i ≤ ds.length ∧ Pv i H, ⟨ds.length, by simp, Nat.zero_le _, w2, acc0, us0, a0, q⟩, ?_⟩
  rintro i m H ⟨rfl, hi, w, acc, us, a, q2⟩
  by_cases hlt : i < ds.length
  · have e : ds[i]? = some ds[i] := by simp [hlt]
    obtain ⟨g1, g2⟩ := src.go i _ w H a.ok ⟨a.le, a.sub⟩ e
    refine .inr ⟨g1, Pv (i + 1), fun H' p' => ⟨ds.length - (i + 1), by omega, rfl, hlt, p'⟩, fun x H' y => ?_⟩
    obtain ⟨w3, l3, ok3, r3, e3⟩ := g2 x H' y
    have a3 := a.go l3 ok3
    rw [drop_get e, ← e3] at q2
    refine hl.go w0 H0 _ _ w3 H' _ x _ _ (frw w3 H' ok3 a3.le a3.sub) r3 q2 fun r' s' fr' _ ew k' => ⟨?_, ?_⟩
    · rw [ew, wipe_idem]
    · refine ⟨w0, H0, r', w3, _, NoX, fr', (LkE.none htb), k', fun b w4 H4 l4 ok4 q4 => ?_⟩
      have a4 := a3.go l4 ok4
      cases b with
      | true =>
        rw [if_pos rfl] at q4
        refine iteT ?_
        refine ⟨w0, H0, r', w4, _, NoX, fr'.go l4 ok4, (LkE.none htb), q4, fun d v w5 H5 l5 ok5 r5 ⟨hz, q5⟩ => ?_⟩
        have a5 := a4.go l5 ok5
        exact ⟨us, a5.at_, by rw [← a5.rep.length]; exact hz, w5, acc ++ [d], us ++ [v], a5.add hD r5, q5⟩
      | false =>
        rw [if_neg Bool.false_ne_true] at q4
        refine iteF ?_
        exact ⟨w4, acc, us, a4, q4⟩
  · have e : i = ds.length := by omega
    subst e
    rw [List.drop_length] at q2
    exact .inl ⟨src.stop w H a.ok ⟨a.le, a.sub⟩, k acc us w H a q2⟩
theorem Acc.start {w1 : Wd} {H1 : Hp} {Dd : Addr} (ok : Ok w1 H1) (hD : H1 Dd = none) : Acc G w1 H1 w1 Dd w1 (upd H1 Dd (.lst [])) [] [] :=
  ⟨Le.new hD, .refl w1, ok.new hD, upd_same, ok.none_hd hD, ok.none_jr hD, Reps.nil⟩
theorem lc_link {S : FI} {t : TG} {g : TGd} {T : FT} {F : FE} {vs : List Nat} (hl : TgL G vs t g) (s : L2.St) (H : Hp) (Q : VK) (h : fD G E (fLc S vs g T F) s H Q) : tLc (iE G E S) t (ttD G E0 T) (tD G E0 F) vs s H Q := by
  obtain ⟨w0, H0, r, w, QD, EX, fr, lk, f, k⟩ := h
  refine ⟨w0, H0, r, w, _, EX, fr, lk, f, fun ds J w1 H1 l1 ok1 src q Dd hD => ?_⟩
  refine lcX lk.2 (fun w H ok l _ => ((fr.go l1 ok1).go l ok).wipe vs) ⟨fun w H ok p => src.stop w H ok p.1, fun i d w H ok p => src.go i d w H ok p.1⟩ hl hD (Acc.start ok1 hD) q fun acc us w2 H2 a qa => ?_
  refine k acc Dd us w2 H2 (l1.trans a.le) a.ok (l1.none_of hD) ⟨a.hn, a.nj, ?_⟩ a.at_ a.rep qa
  cases z : H0 Dd with
  | none => rfl
  | some o => exact absurd hD ((fr.le.trans l1).dom Dd (by rw [z]; exact fun y => by cases y))
theorem cf_lc {elt iter : Expr} {ifs : List Expr} {scope : Scope} {own : List (Str × Nat)} {S : FI} {t : TG} {g : TGd} {T : FT} {F : FE} (hN : X.N.Nodup) (hi : PI X tg iter (iE G E S)) (ok : BlkOk X.N X.env.scope scope own)
    (hg : ∀ (s : Shared) (H : Hp) (C : Addr) (cl : List (Str × Addr)) (fp : List Addr), PG (X.blk s H scope (compEnvC scope cl C X.env) fp) tg t) (hl : TgL G (own.map (·.2)) t g)
    (ht : ∀ (s : Shared) (H : Hp) (C : Addr) (cl : List (Str × Addr)) (fp : List Addr), PTs (X.blk s H scope (compEnvC scope cl C X.env) fp) ifs (ttD G E0 T))
    (he : ∀ (s : Shared) (H : Hp) (C : Addr) (cl : List (Str × Addr)) (fp : List Addr), PE (X.blk s H scope (compEnvC scope cl C X.env) fp) elt (tD G E0 F)) (hc : X.calm = true := by rfl) (hs : ∀ x, foldedSetIterable iter X.env x = pure x := by intro _; rfl) :
    PE X (.ListComp elt [⟨tg, iter, ifs, 0⟩] scope pos) (fD G E (fLc S (own.map (·.2)) g T F)) := PE.weak (pe_lc hc hN hi ok hg ht he hs) (lc_link hl)

/-! ### y = [..], y a plain local -/
theorem cs_ofF {i : Nat} {F : FA} {te : TE} (h : PS X st (tAsg te (gName i))) (k0 : ∀ s H Q, fD G E F s H Q → te s H Q) : PS X st (sD G E (sSet i (fL F))) := h.weak fun B s H ⟨w0, H0, wk, r, w, A, EX, fr, sb, lk, ll, f⟩ =>
  k0 s H _ ⟨w0, H0, r, w, _, EX, fr, lk, f, fun ds a vs w1 H1 l1 ok1 hn m h1 r1 q1 => ll.nx _ _ (w1.frz H1 a) H1 (((fr.go (l1.frz m.1 hn) (ok1.frz m.2.1))).setV (d := .lst ds) (Rep.lst (.of (by rw [frz_at]; exact h1)) (r1.mono (.frz m.1)))) (sb.trans (l1.sub.trans (.frz m.1))) q1⟩
/-! ### two fors -/
def lc2D (g : TGd) (T : FT) (S1 : FI) (vs1 : List Nat) (g1 : TGd) (T1 : FT) (F : FE) (r : Env) : List D → List D → (List D → Pr) → Pr
  | [], acc, Q => Q acc
  | d :: ds, acc, Q => g d r fun r1 => T r1 (fun b => if b = true then S1 r1 (fun es => lcD g1 T1 F (wipeD r1 vs1) es acc fun acc' => lc2D g T S1 vs1 g1 T1 F r ds acc' Q) NoX else lc2D g T S1 vs1 g1 T1 F r ds acc Q) NoX
def fLc2 (S : FI) (vs : List Nat) (g : TGd) (T : FT) (S1 : FI) (vs1 : List Nat) (g1 : TGd) (T1 : FT) (F : FE) : FA := fun r Q EX σ => S r (fun ds σ => lc2D g T S1 vs1 g1 T1 F (wipeD r vs) ds [] Q σ) EX σ
theorem lc2_link {S S1 : FI} {t t1 : TG} {g g1 : TGd} {T T1 : FT} {F : FE} {vs vs1 : List Nat} (hl : TgL G vs t g) (hl1 : TgL G vs1 t1 g1) (s : L2.St) (H : Hp) (Q : VK) (h : fD G E (fLc2 S vs g T S1 vs1 g1 T1 F) s H Q) :
    tLc2 (iE G E S) t (ttD G E0 T) (iS G E0 S1) t1 (ttD G E0 T1) (tD G E0 F) vs vs1 s H Q := by
  obtain ⟨w0, H0, r, w, QD, EX, fr, lk, f, k⟩ := h
  refine ⟨w0, H0, r, w, _, EX, fr, lk, f, fun ds J w1 H1 l1 ok1 src q Dd hD => ?_⟩
  have frw : ∀ w H, Ok w H → Le w1 H1 w H → Fr G w0 H0 (wipeD r vs) (L2.wipe s vs) w H := fun w H ok l => ((fr.go l1 ok1).go l ok).wipe vs
  let Pv : Nat → Hp → Prop := fun i H => ∃ w acc us, Acc G w1 H1 w1 Dd w H acc us ∧ lc2D g T S1 vs1 g1 T1 F (wipeD r vs) (ds.drop i) acc QD w.sg
  refine ⟨fun i m H => m = ds.length - i ∧ i ≤ ds.length ∧ Pv i H, ⟨ds.length, by simp, Nat.zero_le _, w1, [], [], Acc.start ok1 hD, q⟩, ?_⟩
  rintro i m H ⟨rfl, hi, w, acc, us, a, q2⟩
  by_cases hlt : i < ds.length
  · have e : ds[i]? = some ds[i] := by simp [hlt]
    obtain ⟨x1, x2⟩ := src.go i _ w H a.ok a.le e
    refine .inr ⟨x1, Pv (i + 1), fun H' p' => ⟨ds.length - (i + 1), by omega, rfl, hlt, p'⟩, fun x H' y => ?_⟩
    obtain ⟨w3, l3, ok3, r3, e3⟩ := x2 x H' y
    have a3 := a.go l3 ok3
    rw [drop_get e, ← e3] at q2
    refine hl.go w0 H0 _ _ w3 H' _ x _ _ (frw w3 H' ok3 a3.le) r3 q2 fun r' s' fr' cm ew k' => ⟨?_, ?_⟩
    · rw [ew, wipe_idem]
    · refine ⟨w0, H0, r', w3, _, NoX, fr', (LkE.none lk.2), k', fun b w4 H4 l4 ok4 q4 => ?_⟩
      have a4 := a3.go l4 ok4
      cases b with
      | true =>
        rw [if_pos rfl] at q4
        refine iteT ?_
        refine ⟨w0, H0, r', w4, _, NoX, fr'.go l4 ok4, (LkE.none lk.2), q4, fun es J1 w5 H5 l5 ok5 src5 q5 => ?_⟩
        have a5 := a4.go l5 ok5
        have fr5 := (fr'.go l4 ok4).go l5 ok5
        have a5' : Acc G w1 H1 w5 Dd w5 H5 acc us := ⟨a5.le, .refl _, a5.ok, a5.at_, a5.hn, a5.nj, a5.rep⟩
        have sb35 : Sub w3 w5 := l4.sub.trans l5.sub
        exact lcX lk.2 (fun w H ok l sb => (cm w H (sb35.trans sb) (frw w H ok l)).wipe vs1) ⟨fun w H ok p => src5.stop w H ok p.2, fun i d w H ok p => src5.go i d w H ok p.2⟩ hl1 hD a5' q5
          fun acc2 us2 w6 H6 a6 q6 => ⟨w6, acc2, us2, ⟨a6.le, a6.le.sub, a6.ok, a6.at_, a6.hn, a6.nj, a6.rep⟩, q6⟩
      | false =>
        rw [if_neg Bool.false_ne_true] at q4
        refine iteF ?_
        exact ⟨w4, acc, us, a4, q4⟩
  · have e : i = ds.length := by omega
    subst e
    rw [List.drop_length] at q2
    exact .inl ⟨src.stop w H a.ok a.le, by
      refine k acc Dd us w H (l1.trans a.le) a.ok (l1.none_of hD) ⟨a.hn, a.nj, ?_⟩ a.at_ a.rep q2
      cases z : H0 Dd with
      | none => rfl
      | some o => exact absurd hD ((fr.le.trans l1).dom Dd (by rw [z]; exact fun y => by cases y))⟩
end
end DL
/-! The data layer, part 7: defs and their promises over data; calls; objects; the law's call. -/
namespace DL
open PySem L2 PyProof.Rows

/-! ### a def's promise, where no text of an object is under way -/
structure FnG (P : Program) (w : World) (K : PySem.W.Frag) (mg : Str → Option Value) (base : Heap) (k : Nat) (f : Addr) (fd : FuncData) (ps : List Str) (sp : Sp) : Prop where
  len : ∀ vs H Q E, sp vs H Q E → vs.length = ps.length
  run : ∀ (A : Around) (outer : List PySem.Env) (s : Shared) (H : Hp) (args : Args) (us : List Value) (vs : List V) (Q : VK) (E : XK), A.guards = some [] → Room k A → Env0 P w K mg base A outer s H → BindsTo s fd args (ps.zip us) → Vals vs us → sp vs H Q E →
    codeAny (model P w) A (.call (.ref f) args) (CR (L2.CX P w) outer P w H s Q E) s
theorem FnG.mono {P : Program} {w : World} {K : PySem.W.Frag} {mg : Str → Option Value} {base : Heap} {j k : Nat} {f : Addr} {fd : FuncData} {ps : List Str} {sp : Sp} (F : FnG P w K mg base j f fd ps sp) (h : j ≤ k) : FnG P w K mg base k f fd ps sp :=
  ⟨F.len, fun A outer s H args us vs Q E hg hr => F.run A outer s H args us vs Q E hg (hr.mono h)⟩
theorem FnG.imp {P : Program} {w : World} {K : PySem.W.Frag} {mg : Str → Option Value} {base : Heap} {k : Nat} {f : Addr} {fd : FuncData} {ps : List Str} {sp sp' : Sp} (F : FnG P w K mg base k f fd ps sp)
    (h : ∀ vs H Q E, sp' vs H Q E → sp vs H Q E) : FnG P w K mg base k f fd ps sp' :=
  ⟨fun vs H Q E q => F.len vs H Q E (h _ _ _ _ q), fun A outer s H args us vs Q E hg hr he hb hv hs => F.run A outer s H args us vs Q E hg hr he hb hv (h _ _ _ _ hs)⟩

section
variable {P : Program} {w : World} {K : PySem.W.Frag} {mg : Str → Option Value} {base : Heap} {k : Nat} {f : Addr} {N ps : List Str} {sp : Sp}
/-- a def of the text keeps its promise, by its body -/
theorem Fun.okG {x qual : Str} {st : Stmt} {fd : FuncData} (F : Fun K x qual st f fd) (S : FnScope N ps (defScope st)) (len : ∀ vs H Q E, sp vs H Q E → vs.length = ps.length)
    (body : ∀ (cdv : Value) (A : Around) (outer : List PySem.Env) (s : Shared) (H : Hp) (vs : List V) (Q : VK) (E : XK), A.guards = some [] → Room k (A.deeper (envOfC qual (defScope st) s.heap.objs.size f cdv)) → sp vs H Q E →
      ∃ t, PSs (cxOf (L2.CX P w) P w K mg base N qual (defScope st) f cdv A outer s H E) (defBody st) t ∧ t { nx := fun _ H' => Q .non H', rt := Q } (L2.start N vs) H) : FnG P w K mg base (k + 1) f fd ps sp := by
  obtain ⟨oc, od, kV, doc, pm, an, cdv, ct, osl, rfl, lk, hcd⟩ := F.ex
  refine ⟨len, fun A outer s H args us vs Q E hg hr e0 hb rv hsp => ?_⟩
  have nl := len _ _ _ _ hsp
  have inK : K.In s.heap := e0.mod.kin.keeps fun b o e => (e0.bs b o e).1
  have lim : s.heap.NoLimit := e0.mod.nolimit.keeps fun b o e => (e0.bs b o e).1
  have kinds : ∀ y ∈ ps.zip us, (defScope st).names.lookup y.1 = some .local ∨ ((defScope st).names.lookup y.1 = some .cell ∧ ((cellsFrom (s.heap.objs.size + 1) (defScope st).names []).lookup y.1).isSome = true) := by
    rintro ⟨n, v⟩ hy
    exact (S.par n (List.of_mem_zip hy).1).imp id fun q => ⟨q, PySem.W.cellsFrom_some _ _ _ (.inl q)⟩
  refine codeAny_call_function hr.depth (inK _ _ lk) rfl S.co S.gen rfl (PySem.W.codeRec_of inK hcd) (hb _ _ _ _ ?_)
  refine wpAny_newFunctionEnv_cells S.kind kinds fun env he s1 x1 => ?_
  subst he
  refine ⟨lim.keeps x1.toInCall.keep, codeAny_func ?_⟩
  obtain ⟨t, ht, hq⟩ := body cdv A outer s H vs Q E hg (hr.deeper _) hsp
  have I := inv_start (CX := L2.CX P w) (E := E) (qual := qual) (f := f) (cd := cdv) S hr.hd e0 nl rv x1
  refine wpAny_mono (ht.run [] s1 (L2.start N vs) H _ I hq) (fun fl s' hs => ?_) (fun e s' hs => hs)
  cases fl with
  | ret u =>
    obtain ⟨v, _, H', J, r, q⟩ := hs
    exact ⟨v, H', J.os, J.bare, J.base, J.hok, r, q⟩
  | next =>
    obtain ⟨_, H', J, q⟩ := hs
    exact ⟨V.non, H', J.os, J.bare, J.base, J.hok, rfl, q⟩
  | brk => exact (hs.elim fun _ z => z.elim fun _ y => (show False from y.2).elim)
  | cont => exact (hs.elim fun _ z => z.elim fun _ y => (show False from y.2).elim)
end

section
variable {X : Cx} {k : Nat} {f C : Addr} {fd : FuncData} {ps : List Str} {sp : Sp} {dvs : List V} {ds : List Value} {E : XK} {x m : Str} {p pos apos : Pos} {e o : Expr} {es : List Expr} {ta : TE} {t : TA}
abbrev PassX (X : Cx) (E : XK) : Prop := Passes (L2.CX X.prog X.w) X E
theorem run_g {pins : List (Addr × Obj)} {σ : L2.St} {H : Hp} {s : Shared} {Q : VK} {us : List Value} {vs : List V} (F : FnG X.prog X.w X.K X.mg X.base k f fd ps sp) (hg : X.A.guards = some []) (hr : Room k X.A) (hb : Binds X.K fd ps ds) (hd : Vals dvs ds) (hx : PassX X E)
    (I : Inv X pins σ H s) (r : Vals vs us) (h : sp (vs ++ dvs) H Q E) : wpAny (model X.prog X.w) X.A (call (.ref f) us) (EP X pins σ Q) X.xe s := by
  have both := r.append hd
  have nl : (us ++ ds).length = ps.length := both.length.symm.trans (F.len _ _ _ _ h)
  refine wpAny_call (codeAny_mono (F.run X.A X.stack s H ⟨us, []⟩ (us ++ ds) (vs ++ dvs) Q E hg hr I.env0 (hb s us I.kIn nl) both h) ?_)
  rintro (er | fl) s' hq
  · exact hx pins σ H s er s' I hq
  · cases fl <;> first
      | exact I.after hq
      | exact hq.elim
theorem pe_g (F : FnG X.prog X.w X.K X.mg X.base k f fd ps sp) (hgd : X.A.guards = some []) (hr : Room k X.A) (hg : Gl X x) (hm : X.mg x = some (.ref f)) (hk : PySem.W.keepIn X.K (.ref f) = true) (hb : Binds X.K fd ps ds) (hd : Vals dvs ds) (hx : PassX X E)
    (ha : PA X (e :: es) t) (hdb : (x == ("__debug__" : Str)) = false) (he : starEach (e :: es) X.env = (false, eval e X.env) :: starEach es X.env) (hpl : (backTo pos (starEach es X.env)).any (·.1) = false) :
    PE X (.Call (.Name x p) (e :: es) [] pos) (tCall sp dvs E t) := ⟨fun pins s σ H Q I h => by
  refine wpAny_Call_Name_kw (ld_glob I hg hm (PySem.W.callWith_K (h₀ := X.base) I.ok.mod.kin hk (thn (ha.run pos pins s σ H _ I h) ?_) he hpl) hdb)
  rintro us s1 ⟨vs, H1, I1, r, q⟩
  exact ⟨I1.kIn, run_g F hgd hr hb hd hx I1 r q⟩⟩
theorem pe_gm {pl : Sem Bool} (he : PE X o ta) (c : Cls X.K C) (hm : Meth X.K C m f) (F : FnG X.prog X.w X.K X.mg X.base k f fd ps sp) (hgd : X.A.guards = some []) (hr : Room k X.A) (hb : Binds X.K fd ps ds) (hd : Vals dvs ds) (hx : PassX X E) (ha : PA X (e :: es) t)
    (hst : starEach (e :: es) X.env = (false, eval e X.env) :: starEach es X.env) (hpl : (backTo pos (starEach es X.env)).any (·.1) = false)
    (ht : eval (.Call (.Attribute o m apos) (e :: es) [] pos) X.env = (do
      let ov ← eval o X.env
      standAt apos.atName
      let (f, first) ← holding [ov] (getMethod ov m pl)
      callWith pos f first (backTo pos (starEach (e :: es) X.env)) (backToKw pos (keywordEach [] X.env)))) :
    PE X (.Call (.Attribute o m apos) (e :: es) [] pos) (tMeth C m sp dvs E ta t) := ⟨fun pins s σ H Q I h => by
  refine PySem.W.methodCall_KW (pl := pl) (thn (he.run pins s σ H _ I h) ?_) ht
  rintro u s1 ⟨x, H1, I1, rx, a, dx, fs, ex, ea, l, q⟩
  subst ex
  cases (show u = Value.ref a from rx)
  refine getmeth_ok I1 ea c hm l (PySem.W.callWith_K (first := [.ref a]) (h₀ := X.base) I.ok.mod.kin hm.kp (thn (ha.run pos pins s1 σ H1 _ I1 q) ?_) hst hpl)
  rintro us s2 ⟨vs, H2, I2, r, q2⟩
  exact ⟨I2.kIn, run_g (us := .ref a :: us) (vs := .ref a :: vs) F hgd hr hb hd hx I2 (.cons rfl r) q2⟩⟩
theorem guards_make {A : Around} {C : Addr} {us : List Value} {kw : List (Str × Value)} (h : A.guards = some []) : (A.under (.builtin "type.__call__" ⟨.ref C :: us, kw⟩)).guards = some [] := by
  first
    | exact h
    | (simp [Around.under, pushGuards, Code.guards, Code.isGuard, guardIds, h])
theorem run_gmake {pins : List (Addr × Obj)} {σ : L2.St} {H : Hp} {s : Shared} {Q : VK} {us : List Value} {vs : List V} (M : Mk X.K C f) (F : FnG X.prog X.w X.K X.mg X.base k f fd ps sp) (hgd : X.A.guards = some []) (hr : Room (k + 1) X.A) (hb : Binds X.K fd ps ds) (hd : Vals dvs ds)
    (hx : PassX X E) (I : Inv X pins σ H s) (r : Vals vs us)
    (h : ∀ x dx, H x = none → H dx = none → dx ≠ x → sp (.ref x :: (vs ++ dvs)) (upd (upd H dx (.own x)) x (.ins C dx [])) (fun v H2 => v = .non ∧ Q (.ref x) H2) E) :
    wpAny (model X.prog X.w) X.A (call (.ref C) us) (EP X pins σ Q) X.xe s := by
  have hq := h (s.heap.objs.size + 1) s.heap.objs.size (I.hok.fresh (Nat.le_succ _)) I.fresh (Nat.ne_of_lt (Nat.lt_succ_self _))
  have J := Inv.made (C := C) I
  have both : Vals (V.ref (s.heap.objs.size + 1) :: (vs ++ dvs)) (Value.ref (s.heap.objs.size + 1) :: (us ++ ds)) := .cons rfl (r.append hd)
  have nl : (Value.ref (s.heap.objs.size + 1) :: us ++ ds).length = ps.length := both.length.symm.trans (F.len _ _ _ _ hq)
  refine wpAny_call (make_map (f := f) I.kIn M.makes M.init (beq_iff_eq.mp M.fn) (codeAny_mono (F.run _ X.stack _ _ ⟨Value.ref (s.heap.objs.size + 1) :: us, []⟩ (Value.ref (s.heap.objs.size + 1) :: (us ++ ds)) _ _ E (guards_make hgd) (hr.make C us [])
    (J.env0.make C us []) (hb _ (Value.ref (s.heap.objs.size + 1) :: us) J.kIn nl) both hq) ?_))
  rintro (er | fl) s' hq'
  · exact hx pins σ _ _ er s' J hq'
  · cases fl with
    | ret u =>
      obtain ⟨v, H', I3, rv, ev, q3⟩ := J.after hq'
      subst ev
      exact ⟨rv, V.ref (s.heap.objs.size + 1), H', I3, rfl, q3⟩
    | next => exact hq'.elim
    | brk => exact hq'.elim
    | cont => exact hq'.elim
theorem pe_gmake (M : Mk X.K C f) (F : FnG X.prog X.w X.K X.mg X.base k f fd ps sp) (hgd : X.A.guards = some []) (hr : Room (k + 1) X.A) (hg : Gl X x) (hm : X.mg x = some (.ref C)) (hb : Binds X.K fd ps ds) (hd : Vals dvs ds) (hx : PassX X E)
    (ha : PA X (e :: es) t) (hdb : (x == ("__debug__" : Str)) = false) (he : starEach (e :: es) X.env = (false, eval e X.env) :: starEach es X.env) (hpl : (backTo pos (starEach es X.env)).any (·.1) = false) :
    PE X (.Call (.Name x p) (e :: es) [] pos) (tMake C sp dvs E t) := ⟨fun pins s σ H Q I h => by
  refine wpAny_Call_Name_kw (ld_glob I hg hm (PySem.W.callWith_K (h₀ := X.base) I.ok.mod.kin M.kp (thn (ha.run pos pins s σ H _ I h) ?_) he hpl) hdb)
  rintro us s1 ⟨vs, H1, I1, r, q⟩
  exact ⟨I1.kIn, run_gmake M F hgd hr hb hd hx I1 r q⟩⟩
theorem getprop_g {p g a dx : Addr} {fs : List (Str × V)} {pins : List (Addr × Obj)} {σ : L2.St} {H : Hp} {s : Shared} {Q : VK} {b : Bool} {E' : Value → Shared → Prop} {fx : Str} (I : Inv X pins σ H s) (ea : H a = some (.ins C dx fs)) (c : Cls X.K C) (hp : PropOf X.K C fx p g)
    (F : FnG X.prog X.w X.K X.mg X.base k g fd ps sp) (hgd : X.A.guards = some []) (hr : Room (k + 1) X.A) (hb : Binds X.K fd ps []) (hx : Passes (L2.CX X.prog X.w) X.nox E) (h : sp [.ref a] H Q E) :
    wpAny (model X.prog X.w) X.A (getAttr (.ref a) fx b) (EP X pins σ Q) E' s := by
  obtain ⟨mA, O, _⟩ := ins_get I.hok ea
  obtain ⟨od, J, _⟩ := O.look
  obtain ⟨rest, hrec⟩ := hp.rec_
  have I1 := I.tok (s.toks + 1)
  have nl : ([Value.ref a] ++ []).length = ps.length := F.len _ _ _ _ h
  have hc : (PySem.W.clsIn X.K C).isSome = true := by
    obtain ⟨cd, q, _⟩ := PySem.W.any_some c.hd
    rw [q]; rfl
  refine PySem.W.get_bind I.kIn J (PySem.W.plainGet_of (c.get fx)).1 (PySem.W.findObj_data hc hp.at_ hp.get hp.tak) (PySem.W.plainGet_of (c.get fx)).2 (wpAny_call (PySem.W.prop_get (s := { s with toks := s.toks + 1 }) I.kIn hrec ?_))
  refine codeAny_mono (F.run X.A.in1 X.stack { s with toks := s.toks + 1 } H ⟨[.ref a], []⟩ [.ref a] [.ref a] Q E hgd hr.in1 I1.env0.in1 (hb _ [.ref a] I1.kIn nl) (.cons rfl .nil) h) ?_
  rintro (er | fl) s' hq
  · exact (hx pins σ H { s with toks := s.toks + 1 } er s' (I1.wish _) hq).elim
  · cases fl with
    | ret u =>
      obtain ⟨v, H', I3, rv, q3⟩ := I1.after hq
      show wpAny _ _ (handedOut u) _ _ _
      rw [PySem.W.handedOut_of (handed_of rv)]
      exact wpAny_pure ⟨v, H', I3, rv, q3⟩
    | next => exact hq.elim
    | brk => exact hq.elim
    | cont => exact hq.elim
theorem pe_gprop {p g : Addr} {fx : Str} (he : PE X e ta) (c : Cls X.K C) (hp : PropOf X.K C fx p g) (F : FnG X.prog X.w X.K X.mg X.base k g fd ps sp) (hgd : X.A.guards = some []) (hr : Room (k + 1) X.A) (hb : Binds X.K fd ps []) (hx : Passes (L2.CX X.prog X.w) X.nox E)
    (hab : attributeBase e fx X.env (eval e X.env) = eval e X.env) : PE X (.Attribute e fx pos) (tProp C sp [] E ta) := ⟨fun pins s σ H Q I h => by
  refine attr_of hab (thn (he.run pins s σ H _ I h) ?_)
  rintro u s1 ⟨x, H1, I1, rx, a, dx, fs, ex, ea, q⟩
  subst ex
  cases (show u = Value.ref a from rx)
  exact getprop_g I1 ea c hp F hgd hr hb hx q⟩
end

/-! ### promises over data -/
abbrev DSp := List D → (D → Pr) → XP → Pr
variable {G : Gm}
def lift (G : Gm) (sp : DSp) : Sp := fun vs H Q E => ∃ w ds QD EX, Ok w H ∧ Reps G w ds vs ∧ sp ds QD EX w.sg ∧ (∀ d v w' H', Le w H w' H' → Ok w' H' → Rep G w' d v → QD d w'.sg → Q v H') ∧ LkE G E w H EX
/-- an __init__: the new object's attributes -/
def liftI (G : Gm) (c : Nat) (sp : List D → (List D → Pr) → XP → Pr) : Sp := fun vs H Q E => ∃ w H1 x dx vr ds QD EX, vs = .ref x :: vr ∧ H1 x = none ∧ H1 dx = none ∧ dx ≠ x ∧ H = upd (upd H1 dx (.own x)) x (.ins (G.cls c) dx []) ∧ Ok w H1 ∧ Reps G w ds vr ∧ sp ds QD EX w.sg ∧
  (∀ es fs w' H' dy, Le w H1 w' H' → Ok w' H' → Mine H1 w' x → H' x = some (.ins (G.cls c) dy fs) → fs.map (·.1) = G.fld c → Reps G w' es (fs.map (·.2)) → QD es w'.sg → Q .non H') ∧ LkE G E w H1 EX
section
variable {X : Cx} {E : XK} {k : Nat} {f C : Addr} {fd : FuncData} {ps : List Str} {x m : Str} {p pos apos : Pos} {e o : Expr} {es : List Expr} {A : FE} {B : FA} {sp : DSp}
def fCall (sp : DSp) (B : FA) : FE := fun r Q EX σ => B r (fun ds σ => sp ds Q EX σ) EX σ
theorem LkE.go {w0 w : Wd} {H0 H : Hp} {EX : XP} (l : Le w0 H0 w H) (h : LkE G E w0 H0 EX) : LkE G E w H EX := ⟨fun x od w' H' l' ok' a q => h.1 x od w' H' (l.trans l') ok' a q, l.sub.two h.2⟩
theorem ce_call (F : FnG X.prog X.w X.K X.mg X.base k f fd ps (lift G sp)) (hm : X.mg x = some (.ref f)) (hk : PySem.W.keepIn X.K (.ref f) = true) (hb : Binds X.K fd ps []) (hgd : X.A.guards = some []) (hr : Room k X.A) (hx : PassX X E)
    (ha : PA X (e :: es) (taD G E B)) (hg : Gl X x := by rfl) (hdb : (x == ("__debug__" : Str)) = false := by decide) (he : starEach (e :: es) X.env = (false, eval e X.env) :: starEach es X.env := by rfl) (hpl : (backTo pos (starEach es X.env)).any (·.1) = false := by rfl) :
    PE X (.Call (.Name x p) (e :: es) [] pos) (tD G E (fCall sp B)) := (pe_g F hgd hr hg hm hk hb .nil hx ha hdb he hpl).weak fun s H Q ⟨w0, H0, r, w, QD, EX, fr, lk, f, k⟩ =>
  ⟨w0, H0, r, w, _, EX, fr, lk, f, fun ds vs w1 H1 l1 ok1 r1 q1 => ⟨w1, ds, QD, EX, ok1, by rw [List.append_nil]; exact r1, q1, fun d v w2 H2 l2 ok2 r2 q2 => k d v w2 H2 (l1.trans l2) ok2 r2 q2, lk.go (fr.le.trans l1)⟩⟩
/-- o.m(..), o an object of the class c -/
def fMeth (c : Nat) (sp : DSp) (A : FE) (B : FA) : FE := fun r Q EX σ => A r (fun d σ => ∃ fs, d = .obj c fs ∧ B r (fun ds σ => sp (d :: ds) Q EX σ) EX σ) EX σ
theorem lookup_off : ∀ (gs : List (Str × V)), m ∉ gs.map (·.1) → gs.lookup m = none
  | [], _ => rfl
  | (a, b) :: gs, hn => by
    rw [List.map_cons, List.mem_cons, not_or] at hn
    have hb : (m == a) = false := beq_eq_false_iff_ne.mpr hn.1
    rw [List.lookup_cons, hb]
    exact lookup_off gs hn.2
theorem obj_ins {w : Wd} {H : Hp} {c : Nat} {fs : List D} {v : V} (ok : Ok w H) (h : Rep G w (.obj c fs) v) (hn : m ∉ G.fld c) : ∃ a dx gs, v = .ref a ∧ H a = some (.ins (G.cls c) dx gs) ∧ gs.lookup m = none := by
  obtain ⟨a, dx, gs, e, h1, h2, _⟩ := h.obj_of
  refine ⟨a, dx, gs, e, ok.sub _ _ h1, ?_⟩
  rw [← h2] at hn
  exact lookup_off gs hn
theorem ce_meth {c : Nat} {pl : Sem Bool} (ho : PE X o (tD G E A)) (cl : Cls X.K (G.cls c)) (hm : Meth X.K (G.cls c) m f) (F : FnG X.prog X.w X.K X.mg X.base k f fd ps (lift G sp)) (hb : Binds X.K fd ps []) (hgd : X.A.guards = some []) (hr : Room k X.A) (hx : PassX X E) (hn : m ∉ G.fld c)
    (ha : PA X (e :: es) (taD G E B)) (hst : starEach (e :: es) X.env = (false, eval e X.env) :: starEach es X.env := by rfl) (hpl : (backTo pos (starEach es X.env)).any (·.1) = false := by rfl)
    (ht : eval (.Call (.Attribute o m apos) (e :: es) [] pos) X.env = (do
      let ov ← eval o X.env
      standAt apos.atName
      let (f, first) ← holding [ov] (getMethod ov m pl)
      callWith pos f first (backTo pos (starEach (e :: es) X.env)) (backToKw pos (keywordEach [] X.env))) := by rfl) :
    PE X (.Call (.Attribute o m apos) (e :: es) [] pos) (tD G E (fMeth c sp A B)) := (pe_gm ho cl hm F hgd hr hb .nil hx ha hst hpl ht).weak fun s H Q ⟨w0, H0, r, w, QD, EX, fr, lk, f, k⟩ =>
  ⟨w0, H0, r, w, _, EX, fr, lk, f, fun d v w1 H1 l1 ok1 r1 ⟨fs, ed, q1⟩ => by
    have r0 := r1
    rw [ed] at r0
    obtain ⟨a, dx, gs, ev, h1, h2⟩ := obj_ins (m := m) ok1 r0 hn
    exact ⟨a, dx, gs, ev, h1, h2, w0, H0, r, w1, _, EX, fr.go l1 ok1, lk, q1, fun ds vs w2 H2 l2 ok2 r2 q2 => ⟨w2, d :: ds, QD, EX, ok2, by rw [List.append_nil]; exact Reps.cons (r1.mono l2.sub) r2, q2, fun d v w3 H3 l3 ok3 r3 q3 => k d v w3 H3 ((l1.trans l2).trans l3) ok3 r3 q3, lk.go ((fr.le.trans l1).trans l2)⟩⟩⟩
/-- o.f, a property of the class c that raises nothing -/
def fProp (c : Nat) (sp : DSp) (A : FE) : FE := fun r Q EX σ => A r (fun d σ => ∃ fs, d = .obj c fs ∧ sp [d] Q NoX σ) EX σ
theorem ce_prop {c : Nat} {p g : Addr} {fx : Str} (ho : PE X e (tD G E A)) (cl : Cls X.K (G.cls c)) (hp : PropOf X.K (G.cls c) fx p g) (F : FnG X.prog X.w X.K X.mg X.base k g fd ps (lift G sp)) (hb : Binds X.K fd ps []) (hgd : X.A.guards = some []) (hr : Room (k + 1) X.A)
    (hab : attributeBase e fx X.env (eval e X.env) = eval e X.env := by rfl) : PE X (.Attribute e fx pos) (tD G E (fProp c sp A)) := (pe_gprop (E := E0) ho cl hp F hgd hr hb passL hab).weak fun s H Q ⟨w0, H0, r, w, QD, EX, fr, lk, f, k⟩ =>
  ⟨w0, H0, r, w, _, EX, fr, lk, f, fun d v w1 H1 l1 ok1 r1 ⟨fs, ed, q1⟩ => by
    have r0 := r1
    rw [ed] at r0
    obtain ⟨a, dx, gs, ev, h1, _, _, htb⟩ := r0.obj_of
    subst ev
    exact ⟨a, dx, gs, rfl, ok1.sub _ _ h1, w1, [d], QD, NoX, ok1, Reps.cons r1 Reps.nil, q1, fun d v w3 H3 l3 ok3 r3 q3 => k d v w3 H3 (l1.trans l3) ok3 r3 q3, LkE.none htb⟩⟩
/-- C(..) -/
def fMake (c : Nat) (sp : List D → (List D → Pr) → XP → Pr) (B : FA) : FE := fun r Q EX σ => B r (fun ds σ => sp ds (fun es σ => Q (.obj c es) σ) EX σ) EX σ
theorem ce_make {c : Nat} {spI : List D → (List D → Pr) → XP → Pr} (M : Mk X.K (G.cls c) f) (F : FnG X.prog X.w X.K X.mg X.base k f fd ps (liftI G c spI)) (hm : X.mg x = some (.ref (G.cls c))) (hb : Binds X.K fd ps []) (hgd : X.A.guards = some []) (hr : Room (k + 1) X.A) (hx : PassX X E)
    (ha : PA X (e :: es) (taD G E B)) (hg : Gl X x := by rfl) (hdb : (x == ("__debug__" : Str)) = false := by decide) (he : starEach (e :: es) X.env = (false, eval e X.env) :: starEach es X.env := by rfl) (hpl : (backTo pos (starEach es X.env)).any (·.1) = false := by rfl) :
    PE X (.Call (.Name x p) (e :: es) [] pos) (tD G E (fMake c spI B)) := (pe_gmake M F hgd hr hg hm hb .nil hx ha hdb he hpl).weak fun s H Q ⟨w0, H0, r, w, QD, EX, fr, lk, f, k⟩ =>
  ⟨w0, H0, r, w, _, EX, fr, lk, f, fun ds vs w1 H1 l1 ok1 r1 q1 y dy ny ndy ne =>
    ⟨w1, H1, y, dy, vs, ds, _, EX, by rw [List.append_nil], ny, ndy, ne, rfl, ok1, r1, q1, fun es fs w2 H2 dz l2 ok2 mi h2 hf r2 q2 => ⟨rfl, by
      refine k (.obj c es) (.ref y) (w2.frz H2 y) H2 (l1.trans (l2.frz mi.1 ny)) (ok2.frz mi.2.1) ?_ q2
      unfold Rep
      exact ⟨y, dz, fs, rfl, by rw [frz_at]; exact h2, hf, r2.mono (.frz mi.1), l2.sub.two (l1.sub.two (fr.le.sub.two lk.2))⟩⟩, lk.go (fr.le.trans l1)⟩⟩
end

/-! ### a def's body -/
/-- the slots at the entry -/
def startD (N : List Str) (ds : List D) : Env := ds.map Sl.val ++ List.replicate (N.length - ds.length) Sl.un
theorem fr_start {w : Wd} {H : Hp} {N : List Str} {ds : List D} {vs : List V} (hg : w.gm = G) (ok : Ok w H) (r : Reps G w ds vs) : Fr G w H (startD N ds) (L2.start N vs) w H where
  gm := hg
  ok := ok
  le := .refl w H
  len := by unfold startD L2.start; simp [r.length]
  slot := fun i x e => by
    unfold startD at e
    unfold L2.start
    by_cases hi : i < ds.length
    · rw [List.getElem?_append_left (by simpa using hi), List.getElem?_map] at e
      rw [List.getElem?_append_left (by rw [List.length_map, ← r.length]; exact hi), List.getElem?_map]
      have hd : ds[i]? = some ds[i] := by simp [hi]
      rw [hd] at e
      cases e
      obtain ⟨v, e2, r2⟩ := r.getD hd
      rw [e2]
      exact ⟨v, rfl, r2⟩
    · rw [List.getElem?_append_right (by simpa using hi), List.getElem?_replicate] at e
      split at e
      · cases e; trivial
      · cases e
  dist := fun i j x y a e1 e2 o1 o2 _ _ => by
    have no : ∀ {n : Nat} {x : Sl}, (startD N ds)[n]? = some x → x.isOwn = false := fun {n x} e => by
      unfold startD at e
      by_cases hn : n < ds.length
      · rw [List.getElem?_append_left (by simpa using hn), List.getElem?_map] at e
        have hd : ds[n]? = some ds[n] := by simp [hn]
        rw [hd] at e
        cases e
        rfl
      · rw [List.getElem?_append_right (by simpa using hn), List.getElem?_replicate] at e
        split at e
        · cases e; rfl
        · cases e
    rw [no e1] at o1
    cases o1
section
variable {P : Program} {w : World} {mg : Str → Option Value} {base : Heap} {k : Nat} {f : Addr} {N ps : List Str}
theorem okD {x qual : Str} {st : Stmt} {fd : FuncData} {sp : DSp} {B : FS} (F : Fun G.K x qual st f fd) (S : FnScope N ps (defScope st)) (len : ∀ ds Q EX σ, sp ds Q EX σ → ds.length = ps.length)
    (body : ∀ (cdv : Value) (A : Around) (outer : List PySem.Env) (s : Shared) (H : Hp) (E : XK), A.guards = some [] → Room k (A.deeper (envOfC qual (defScope st) s.heap.objs.size f cdv)) →
      PSs (cxOf (L2.CX P w) P w G.K mg base N qual (defScope st) f cdv A outer s H E) (defBody st) (sD G E B))
    (pure : ∀ ds Q EX σ, sp ds Q EX σ → B { nx := fun _ => Q .non, rt := Q } EX (startD N ds) σ) : FnG P w G.K mg base (k + 1) f fd ps (lift G sp) := by
  refine Fun.okG F S (fun vs H Q E ⟨w, ds, QD, EX, _, r, h, _⟩ => by rw [← r.length]; exact len _ _ _ _ h) fun cdv A outer s H vs Q E hg hr ⟨w, ds, QD, EX, ok, r, h, k, lk⟩ => ⟨_, body cdv A outer s H E hg hr, ?_⟩
  exact ⟨w, H, w, startD N ds, w, { nx := fun _ => QD .non, rt := QD }, EX, fr_start lk.2.2 ok r, .refl w, lk, ⟨fun r s w' H' fr _ q => k .non .non w' H' fr.le fr.ok Rep.non q, fun d v w' H' l ok' rp q => k d v w' H' l ok' rp q, fun _ _ _ _ _ _ q => q.elim, fun _ _ _ _ _ _ q => q.elim, fun _ _ _ _ _ _ _ _ _ _ q => q.elim⟩, pure ds QD EX _ h⟩
/-- a promise whose answer is a new list -/
def liftN (G : Gm) (sp : List D → (List D → Pr) → XP → Pr) : Sp := fun vs H Q E => ∃ w ds QD EX, Ok w H ∧ Reps G w ds vs ∧ sp ds QD EX w.sg ∧
  (∀ es a us w' H', Le w H w' H' → Ok w' H' → Mine H w' a → H' a = some (.lst us) → Reps G w' es us → QD es w'.sg → Q (.ref a) H') ∧ LkE G E w H EX
theorem okN {x qual : Str} {st : Stmt} {fd : FuncData} {sp : List D → (List D → Pr) → XP → Pr} {B : FS} (F : Fun G.K x qual st f fd) (S : FnScope N ps (defScope st)) (len : ∀ ds Q EX σ, sp ds Q EX σ → ds.length = ps.length)
    (body : ∀ (cdv : Value) (A : Around) (outer : List PySem.Env) (s : Shared) (H : Hp) (E : XK), A.guards = some [] → Room k (A.deeper (envOfC qual (defScope st) s.heap.objs.size f cdv)) →
      PSs (cxOf (L2.CX P w) P w G.K mg base N qual (defScope st) f cdv A outer s H E) (defBody st) (sD G E B))
    (pure : ∀ ds Q EX σ, sp ds Q EX σ → B { nx := fun _ _ => False, rt := fun _ _ => False, rn := Q } EX (startD N ds) σ) : FnG P w G.K mg base (k + 1) f fd ps (liftN G sp) := by
  refine Fun.okG F S (fun vs H Q E ⟨w, ds, QD, EX, _, r, h, _⟩ => by rw [← r.length]; exact len _ _ _ _ h) fun cdv A outer s H vs Q E hg hr ⟨w, ds, QD, EX, ok, r, h, k, lk⟩ => ⟨_, body cdv A outer s H E hg hr, ?_⟩
  exact ⟨w, H, w, startD N ds, w, { nx := fun _ _ => False, rt := fun _ _ => False, rn := QD }, EX, fr_start lk.2.2 ok r, .refl w, lk, ⟨fun _ _ _ _ _ _ q => q.elim, fun _ _ _ _ _ _ _ q => q.elim, fun _ _ _ _ _ _ q => q.elim, fun _ _ _ _ _ _ q => q.elim, fun es a us w' H' l ok' m h1 rp q => k es a us w' H' l ok' m h1 rp q⟩, pure ds QD EX _ h⟩
end
section
variable {X : Cx} {E : XK} {k : Nat} {f C : Addr} {fd : FuncData} {ps : List Str} {x : Str} {p pos : Pos} {e : Expr} {es : List Expr} {B : FA} {sp : List D → (List D → Pr) → XP → Pr}
/-- f(..) that gives a new list -/
def fCallN (sp : List D → (List D → Pr) → XP → Pr) (B : FA) : FA := fun r Q EX σ => B r (fun ds σ => sp ds Q EX σ) EX σ
theorem cf_call (F : FnG X.prog X.w X.K X.mg X.base k f fd ps (liftN G sp)) (hm : X.mg x = some (.ref f)) (hk : PySem.W.keepIn X.K (.ref f) = true) (hb : Binds X.K fd ps []) (hgd : X.A.guards = some []) (hr : Room k X.A) (hx : PassX X E)
    (ha : PA X (e :: es) (taD G E B)) (hg : Gl X x := by rfl) (hdb : (x == ("__debug__" : Str)) = false := by decide) (he : starEach (e :: es) X.env = (false, eval e X.env) :: starEach es X.env := by rfl) (hpl : (backTo pos (starEach es X.env)).any (·.1) = false := by rfl) :
    PE X (.Call (.Name x p) (e :: es) [] pos) (fD G E (fCallN sp B)) := (pe_g F hgd hr hg hm hk hb .nil hx ha hdb he hpl).weak fun s H Q ⟨w0, H0, r, w, QD, EX, fr, lk, f, k⟩ =>
  ⟨w0, H0, r, w, _, EX, fr, lk, f, fun ds vs w1 H1 l1 ok1 r1 q1 => ⟨w1, ds, QD, EX, ok1, by rw [List.append_nil]; exact r1, q1, fun es a us w2 H2 l2 ok2 m h1 r2 q2 =>
    k es a us w2 H2 (l1.trans l2) ok2 (l1.none_of m.2.2) ⟨m.1, m.2.1, by
      cases z : H0 a with
      | none => rfl
      | some o => exact absurd m.2.2 ((fr.le.trans l1).dom a (by rw [z]; exact fun y => by cases y))⟩ h1 r2 q2, lk.go (fr.le.trans l1)⟩⟩
end
end DL
/-! The data layer, part 8: calls of builtins. -/
namespace DL
open PySem L2 PyProof.Rows

/-! ### sorting, as plain law -/
section
variable {α : Type} (lt : α → α → Bool)
def ins1 (x : α) : List α → List α
  | [] => [x]
  | y :: l => if lt y x = true then y :: ins1 x l else x :: y :: l
def isort : List α → List α
  | [] => []
  | x :: l => ins1 lt x (isort l)
structure Ord : Prop where
  irr : ∀ x, lt x x = false
  asym : ∀ x y, lt x y = true → lt y x = false
  tr : ∀ x y z, lt y x = false → lt z y = false → lt z x = false
variable {lt}
abbrev Sd (lt : α → α → Bool) (l : List α) : Prop := l.Pairwise fun x y => lt y x = false
theorem ins1_perm {x : α} : ∀ {l : List α}, (ins1 lt x l).Perm (x :: l)
  | [] => .refl _
  | y :: l => by
    unfold ins1
    split
    · exact (List.Perm.cons y ins1_perm).trans (List.Perm.swap x y l)
    · exact .refl _
theorem isort_perm : ∀ {l : List α}, (isort lt l).Perm l
  | [] => .refl _
  | x :: l => ins1_perm.trans (List.Perm.cons x isort_perm)
theorem ins1_sd (O : Ord lt) {x : α} : ∀ {l : List α}, Sd lt l → Sd lt (ins1 lt x l)
  | [], _ => List.pairwise_singleton _ _
  | y :: l, h => by
    obtain ⟨h1, h2⟩ := List.pairwise_cons.mp h
    unfold ins1
    split
    · rename_i hy
      refine List.pairwise_cons.mpr ⟨fun z hz => ?_, ins1_sd O h2⟩
      rcases List.mem_cons.mp (ins1_perm.mem_iff.mp hz) with q | q
      · rw [q]; exact O.asym _ _ hy
      · exact h1 z q
    · rename_i hy
      have hy' : lt y x = false := by simpa using hy
      refine List.pairwise_cons.mpr ⟨fun z hz => ?_, h⟩
      rcases List.mem_cons.mp hz with q | q
      · rw [q]; exact hy'
      · exact O.tr _ _ _ hy' (h1 z q)
theorem isort_sd (O : Ord lt) : ∀ {l : List α}, Sd lt (isort lt l)
  | [] => List.Pairwise.nil
  | x :: l => ins1_sd O (isort_sd O)
theorem sd_unique : ∀ {l m : List α}, l.Perm m → Sd lt l → Sd lt m → (∀ x ∈ l, ∀ y ∈ l, lt x y = false → lt y x = false → x = y) → l = m
  | [], m, p, _, _, _ => (List.Perm.nil_eq p)
  | x :: l, [], p, _, _, _ => by simpa using p.length_eq
  | x :: l, y :: m, p, h, k, a => by
    obtain ⟨h1, h2⟩ := List.pairwise_cons.mp h
    obtain ⟨k1, k2⟩ := List.pairwise_cons.mp k
    have e : x = y := by
      have my : y ∈ x :: l := p.mem_iff.mpr List.mem_cons_self
      have mx : x ∈ y :: m := p.mem_iff.mp List.mem_cons_self
      rcases List.mem_cons.mp my with q | q
      · exact q.symm
      · rcases List.mem_cons.mp mx with r | r
        · exact r
        · exact a x List.mem_cons_self y my (k1 x r) (h1 y q)
    subst e
    rw [sd_unique (p.cons_inv) h2 k2 fun u hu v hv => a u (List.mem_cons_of_mem _ hu) v (List.mem_cons_of_mem _ hv)]
end
/-- data as a sort key -/
def k1D : D → Int ⊕ List Nat
  | .int i => .inl i
  | .str s => .inr s.cps.toList
  | _ => .inl 0
def kyD : D → List (Int ⊕ List Nat)
  | .tup ds => ds.map k1D
  | d => [k1D d]
def ltK (x y : D) : Bool := lexLt itemOrd (kyD x) (kyD y)
theorem ltK_def (x y : D) : ltK x y = (listOrd itemOrd).blt (kyD x) (kyD y) := rfl
theorem ordK : Ord ltK where
  irr := fun x => (listOrd itemOrd).irrefl _
  asym := fun x y h => by
    cases q : ltK y x with
    | false => rfl
    | true =>
      have := (listOrd itemOrd).trans _ _ _ (show (listOrd itemOrd).blt (kyD x) (kyD y) = true from h) q
      rw [(listOrd itemOrd).irrefl] at this
      cases this
  tr := fun x y z h1 h2 => by
    cases q : ltK z x with
    | false => rfl
    | true =>
      rcases (listOrd itemOrd).negTrans _ (kyD y) _ (show (listOrd itemOrd).blt (kyD z) (kyD x) = true from q) with z | z
      · rw [ltK_def, z] at h2; cases h2
      · rw [ltK_def, z] at h1; cases h1
theorem ltK_eq {x y : D} (h1 : ltK x y = false) (h2 : ltK y x = false) : kyD x = kyD y := (listOrd itemOrd).total _ _ h1 h2
/-- what may be sorted: ints, texts, tuples of these by one shape -/
def oneD (t : Bool) : D → Bool
  | .int _ => !t
  | .str _ => t
  | _ => false
def shape0 : List D → Nat → Bool
  | .tup es :: _, i => match es[i]? with
    | some (.str _) => true
    | _ => false
  | _, _ => false
def fitsAt (sh : Nat → Bool) : Nat → List D → Bool
  | _, [] => true
  | i, d :: ds => oneD (sh i) d && fitsAt sh (i + 1) ds
def tupD (sh : Nat → Bool) : D → Bool
  | .tup (e :: es) => fitsAt sh 0 (e :: es)
  | _ => false
def srtOK (ds : List D) : Bool := ds.all (oneD false) || ds.all (oneD true) || ds.all (tupD (shape0 ds))
theorem k1_inj {t : Bool} {x y : D} (h1 : oneD t x = true) (h2 : oneD t y = true) (e : k1D x = k1D y) : x = y := by
  cases x <;> cases y <;> simp_all [oneD, k1D]
  next a b =>
    cases a; cases b
    simp at e
    subst e; rfl
theorem fits_inj {sh : Nat → Bool} : ∀ {i : Nat} {xs ys : List D}, fitsAt sh i xs = true → fitsAt sh i ys = true → xs.map k1D = ys.map k1D → xs = ys
  | _, [], [], _, _, _ => rfl
  | _, [], _ :: _, _, _, e => by simp at e
  | _, _ :: _, [], _, _, e => by simp at e
  | i, x :: xs, y :: ys, h1, h2, e => by
    unfold fitsAt at h1 h2
    rw [Bool.and_eq_true] at h1 h2
    rw [List.map_cons, List.map_cons, List.cons.injEq] at e
    rw [k1_inj h1.1 h2.1 e.1, fits_inj h1.2 h2.2 e.2]
theorem srt_inj {ds : List D} (h : srtOK ds = true) : ∀ x ∈ ds, ∀ y ∈ ds, ltK x y = false → ltK y x = false → x = y := fun x hx y hy a b => by
  have e := ltK_eq a b
  unfold srtOK at h
  rw [Bool.or_eq_true, Bool.or_eq_true] at h
  have one : ∀ t : Bool, ds.all (oneD t) = true → x = y := fun t h => by
    have h1 := List.all_eq_true.mp h x hx
    have h2 := List.all_eq_true.mp h y hy
    refine k1_inj h1 h2 ?_
    cases x <;> cases y <;> simp_all [oneD, kyD]
  rcases h with (h | h) | h
  · exact one _ h
  · exact one _ h
  · have h1 := List.all_eq_true.mp h x hx
    have h2 := List.all_eq_true.mp h y hy
    cases x <;> first | (unfold tupD at h1; cases h1; done) | skip
    cases y <;> first | (unfold tupD at h2; cases h2; done) | skip
    rename_i xs ys
    cases xs <;> first | (unfold tupD at h1; cases h1; done) | skip
    cases ys <;> first | (unfold tupD at h2; cases h2; done) | skip
    exact congrArg D.tup (fits_inj h1 h2 e)
/-- the sorted list is the one of isort -/
theorem srt_is {ds out : List D} (h : srtOK ds = true) (p : out.Perm ds) (s : Sd ltK out) : out = isort ltK ds := by
  refine sd_unique (p.trans isort_perm.symm) s (isort_sd ordK) fun x hx y hy => srt_inj h x (p.mem_iff.mp hx) y (p.mem_iff.mp hy)
end DL
/-! The data layer, part 9: sorted, calls of builtins over data. -/
namespace DL
open PySem L2 PyProof.Rows

/-! ### sorted, by values -/
section
variable {X : Cx}
def rSrtI (K : PySem.W.Frag) : List V → Hp → VK → Prop := fun vs H Q => ∃ (a : Addr) (ns : List Int), vs = [V.ref a] ∧ SqL K H a (ns.map V.int) ∧ ns.length ≤ sizeLine ∧
  ∀ (ns' : List Int) (p : Addr), ns'.Perm ns → ns'.Pairwise (· ≤ ·) → H p = none → Q (.ref p) (upd H p (.lst (ns'.map V.int)))
def rSrtS (K : PySem.W.Frag) : List V → Hp → VK → Prop := fun vs H Q => ∃ (a : Addr) (xs : List Str), vs = [V.ref a] ∧ SqL K H a (xs.map V.str) ∧ xs.length ≤ sizeLine ∧
  ∀ (ys : List Str) (p : Addr), ys.Perm xs → sortedS ys = true → H p = none → Q (.ref p) (upd H p (.lst (ys.map V.str)))
theorem cr_srtI : CallR X (.builtin "sorted") (rSrtI X.K) := by
  intro pins s σ H vs us Q I r h
  obtain ⟨a, ns, rfl, hs, hz, q⟩ := h
  obtain ⟨its, rv, hl, _⟩ := I.list hs
  rw [Vals.ref1 r]
  have hi := rv.ints
  refine sorted_intsAny hl.isList hi (by rw [hi.length]; exact hz) fun out ns' h1 h2 h3 => ?_
  obtain ⟨ep, he'⟩ := PyProof.Rows.sortedAll_at s.heap its out
  have hlen : (ns'.map V.int).length ≤ sizeLine := by rw [List.length_map, h2.length_eq]; exact hz
  exact ⟨.ref _, upd H (s.heap.objs.size + 1) (.lst (ns'.map V.int)), I.laid (t' := s.toks) (fun _ _ => PyProof.Rows.sortedAll_old) (Nat.le_succ _) ⟨hlen, out.toList, ep, vals_of_ints h1, he'⟩, rfl, q ns' _ h2 h3 (I.hok.fresh (Nat.le_succ _))⟩
theorem cr_srtS : CallR X (.builtin "sorted") (rSrtS X.K) := by
  intro pins s σ H vs us Q I r h
  obtain ⟨a, xs, rfl, hs, hz, q⟩ := h
  obtain ⟨its, rv, hl, _⟩ := I.list hs
  rw [Vals.ref1 r]
  have hlen0 := rv.length
  rw [List.length_map] at hlen0
  refine sorted_strsAny hl.isList rv.strs (by rw [← hlen0]; exact hz) fun out ys h1 h2 h3 => ?_
  obtain ⟨ep, he'⟩ := PyProof.Rows.sortedAll_at s.heap its out
  have hlen : (ys.map V.str).length ≤ sizeLine := by rw [List.length_map, h2.length_eq]; exact hz
  exact ⟨.ref _, upd H (s.heap.objs.size + 1) (.lst (ys.map V.str)), I.laid (t' := s.toks) (fun _ _ => PyProof.Rows.sortedAll_old) (Nat.le_succ _) ⟨hlen, out.toList, ep, vals_of_strs h1, he'⟩, rfl, q ys _ h2 h3 (I.hok.fresh (Nat.le_succ _))⟩
/-- a tuple's key by values -/
def keyV (sh : Nat → Bool) : Nat → List V → Option (List (Int ⊕ List Nat))
  | _, [] => some []
  | i, .int n :: r => if sh i = true then none else (keyV sh (i + 1) r).map (Sum.inl n :: ·)
  | i, .str x :: r => if sh i = true then (keyV sh (i + 1) r).map (Sum.inr x.cps.toList :: ·) else none
  | _, _ :: _ => none
theorem keyV_items {sh : Nat → Bool} : ∀ {i : Nat} {xs : List V} {us : List Value} {l : List (Int ⊕ List Nat)}, keyV sh i xs = some l → Vals xs us → tupItems sh i us = some l
  | _, _, _, l, h, .nil => by unfold keyV at h; unfold tupItems; exact h
  | i, x :: xs, u :: us, l, h, .cons r t => by
    cases x with
    | int n =>
      obtain ⟨tk, rfl⟩ := (show ∃ t, u = Value.int n t from r)
      unfold keyV at h
      unfold tupItems
      split at h
      · cases h
      · rename_i hs
        rw [if_neg hs]
        cases e : keyV sh (i + 1) xs with
        | none => rw [e] at h; cases h
        | some l' => rw [e] at h; rw [keyV_items e t]; exact h
    | str n =>
      obtain ⟨tk, rfl⟩ := (show ∃ t, u = Value.str n t from r)
      unfold keyV at h
      unfold tupItems
      split at h
      · rename_i hs
        rw [if_pos hs]
        cases e : keyV sh (i + 1) xs with
        | none => rw [e] at h; cases h
        | some l' => rw [e] at h; rw [keyV_items e t]; exact h
      · cases h
    | _ => unfold keyV at h; cases h
def rSrtT (K : PySem.W.Frag) : List V → Hp → VK → Prop := fun vs H Q => ∃ (a : Addr) (as : List Addr) (sh : Nat → Bool), vs = [V.ref a] ∧ SqL K H a (as.map V.ref) ∧
  (∀ b ∈ as, ∃ x xs l, SqT K H b (x :: xs) ∧ keyV sh 0 (x :: xs) = some l) ∧ as.length ≤ sizeLine ∧
  ∀ (g : Addr → List (Int ⊕ List Nat)) (bs : List Addr) (p : Addr), (∀ b ∈ as, ∀ x xs l, SqT K H b (x :: xs) → keyV sh 0 (x :: xs) = some l → g b = l) →
    bs.Perm as → bs.Pairwise (fun x y => lexLt itemOrd (g y) (g x) = false) → H p = none → Q (.ref p) (upd H p (.lst (bs.map V.ref)))
theorem vals_refs : ∀ {as : List Addr} {us : List Value}, Vals (as.map V.ref) us → us = as.map Value.ref
  | [], _, .nil => rfl
  | a :: as, _, .cons r t => by
    rw [vals_refs t]
    cases r
    rfl
theorem refs_vals : ∀ {as : List Addr}, Vals (as.map V.ref) (as.map Value.ref)
  | [] => .nil
  | _ :: _ => .cons rfl refs_vals
theorem zip_addr : ∀ as : List Addr, ((as.map Value.ref).zip (as.map Value.ref)).map (fun p : Keyed => match p.1 with | .ref a => a | _ => 0) = as
  | [] => rfl
  | a :: as => by rw [List.map_cons, List.zip_cons_cons, List.map_cons, zip_addr as]
theorem cr_srtT : CallR X (.builtin "sorted") (rSrtT X.K) := by
  intro pins s σ H vs us Q I r h
  obtain ⟨a, as, sh, rfl, hs, hb, hz, q⟩ := h
  obtain ⟨its, rv, hl, _⟩ := I.list hs
  rw [Vals.ref1 r]
  have ei := vals_refs rv
  subst ei
  let g : Addr → List (Int ⊕ List Nat) := fun b => (G.tupKeyC s.heap sh (.ref b)).getD []
  have two : ∀ b x xs l, SqT X.K H b (x :: xs) → keyV sh 0 (x :: xs) = some l → G.tupKeyC s.heap sh (.ref b) = some l ∧ ∃ f, TupOf s.heap sh (.ref b) f := fun b x xs l sq ke => by
    obtain ⟨its', r', ⟨o, ho, hc, n, hd⟩, hz'⟩ := I.tuple sq
    cases r' with
    | @cons _ f _ us' rf rt =>
      refine ⟨?_, f, b, o, _, n, rfl, ho, hc, hd, by simp, ?_, ?_⟩
      · unfold G.tupKeyC
        have e1 : G.isTupObj s.heap (.ref b) = true := by simp [G.isTupObj, ho, hc]
        rw [if_pos e1]
        simp only [tupKey, ho, hd]
        exact keyV_items ke (.cons rf rt)
      · intro e
        cases x with
        | int i => exact ⟨i, rf⟩
        | str z => unfold keyV at ke; rw [e] at ke; simp at ke
        | _ => unfold keyV at ke; cases ke
      · intro e
        cases x with
        | str i => exact ⟨i, rf⟩
        | int z => unfold keyV at ke; rw [e] at ke; simp at ke
        | _ => unfold keyV at ke; cases ke
  have one : ∀ b ∈ as, G.tupKeyC s.heap sh (.ref b) = some (g b) ∧ ∃ f, TupOf s.heap sh (.ref b) f := fun b m => by
    obtain ⟨x, xs, l, sq, ke⟩ := hb b m
    obtain ⟨h1, h2⟩ := two b x xs l sq ke
    refine ⟨?_, h2⟩
    show _ = some ((G.tupKeyC s.heap sh (.ref b)).getD [])
    rw [h1]; rfl
  have keys : ∀ b ∈ as, ∀ x xs l, SqT X.K H b (x :: xs) → keyV sh 0 (x :: xs) = some l → g b = l := fun b _ x xs l sq ke => by
    show (G.tupKeyC s.heap sh (.ref b)).getD [] = l
    rw [(two b x xs l sq ke).1]; rfl
  have tups : ∀ l : List Addr, (∀ b ∈ l, ∃ f, TupOf s.heap sh (.ref b) f) → ∃ fs, TupsOf s.heap sh (l.map Value.ref) fs := fun l => by
    induction l with
    | nil => exact fun _ => ⟨[], .nil⟩
    | cons b l ih =>
      intro h
      obtain ⟨fs, t⟩ := ih fun c hc => h c (List.mem_cons_of_mem _ hc)
      obtain ⟨f, tf⟩ := h b List.mem_cons_self
      exact ⟨f :: fs, .cons tf t⟩
  obtain ⟨fs, ht⟩ := tups as fun b m => (one b m).2
  refine G.sorted_tups (shape := sh) hl.isList ht (fun v hv => ?_) (by rw [List.length_map]; exact hz) fun st' hp hso _ => ?_
  · obtain ⟨b, m, rfl⟩ := List.mem_map.mp hv
    exact ⟨_, (one b m).1⟩
  · have hpl := Array.perm_iff_toList_perm.mp hp
    rw [pairsOf_toList] at hpl
    have same : ∀ e ∈ (arrOf st').toList, ∃ b ∈ as, e = (Value.ref b, Value.ref b) := fun e he => by
      have := hpl.mem_iff.mp he
      obtain ⟨x, hx, ex⟩ : ∃ x ∈ as.map Value.ref, e = (x, x) := by
        revert this
        generalize as.map Value.ref = L
        induction L with
        | nil => intro h; simp at h
        | cons y L ih =>
          intro h
          rw [List.zip_cons_cons, List.mem_cons] at h
          rcases h with h | h
          · exact ⟨y, List.mem_cons_self, h⟩
          · obtain ⟨x, hx, ex⟩ := ih h
            exact ⟨x, List.mem_cons_of_mem _ hx, ex⟩
      obtain ⟨b, m, rfl⟩ := List.mem_map.mp hx
      exact ⟨b, m, ex⟩
    obtain ⟨bs, eb⟩ : ∃ bs : List Addr, (arrOf st').toList = bs.map fun b => (Value.ref b, Value.ref b) := by
      revert same
      generalize (arrOf st').toList = L
      induction L with
      | nil => exact fun _ => ⟨[], rfl⟩
      | cons e L ih =>
        intro h
        obtain ⟨bs, eb⟩ := ih fun x hx => h x (List.mem_cons_of_mem _ hx)
        obtain ⟨b, _, ex⟩ := h e List.mem_cons_self
        exact ⟨b :: bs, by rw [ex, eb]; rfl⟩
    have hperm : bs.Perm as := by
      rw [eb] at hpl
      have h2 := hpl.map (fun p : Keyed => match p.1 with | .ref a => a | _ => 0)
      have e1 : (bs.map fun b => ((Value.ref b, Value.ref b) : Keyed)).map (fun p : Keyed => match p.1 with | .ref a => a | _ => 0) = bs := by
        rw [List.map_map]; exact List.map_id _
      have e2 : ((as.map Value.ref).zip (as.map Value.ref)).map (fun p : Keyed => match p.1 with | .ref a => a | _ => 0) = as := by
        exact zip_addr as
      rw [e1, e2] at h2
      exact h2
    have hsz : bs.length = as.length := hperm.length_eq
    have hmap : ((arrOf st').map (·.2)) = (bs.map Value.ref).toArray := by
      refine Array.toList_inj.mp ?_
      rw [Array.toList_map, eb, List.map_map]
      rfl
    have hsorted : bs.Pairwise fun x y => lexLt itemOrd (g y) (g x) = false := by
      rw [List.pairwise_iff_getElem]
      intro i j hi hj hij
      have hn : j < (pairsOf (as.map Value.ref)).size := by rw [pairsOf_size, List.length_map, ← hsz]; exact hj
      have e := hso i j (Nat.le_of_lt hij) hn
      have at_ : ∀ (n : Nat) (hn : n < bs.length), KK (G.tupKindC s.heap sh) (arrOf st') n = g bs[n] := fun n hn => by
        unfold KK
        have : (arrOf st')[n]? = some (Value.ref bs[n], Value.ref bs[n]) := by
          rw [← Array.getElem?_toList, eb, List.getElem?_map]
          simp [hn]
        rw [this]
      rw [at_ i hi, at_ j hj] at e
      exact e
    rw [hmap]
    obtain ⟨ep, he'⟩ := PyProof.Rows.sortedAll_at s.heap (as.map Value.ref) (bs.map Value.ref).toArray
    have hlen : (bs.map V.ref).length ≤ sizeLine := by rw [List.length_map, hsz]; exact hz
    exact ⟨.ref _, upd H (s.heap.objs.size + 1) (.lst (bs.map V.ref)), I.laid (t' := s.toks) (fun _ _ => PyProof.Rows.sortedAll_old) (Nat.le_succ _) ⟨hlen, bs.map Value.ref, ep, refs_vals, by simpa using he'⟩, rfl, q g bs _ keys hperm hsorted (I.hok.fresh (Nat.le_succ _))⟩
end
end DL
/-! The data layer, part 10: calls of builtins over data. -/
namespace DL
open PySem L2 PyProof.Rows
variable {G : Gm} {X : Cx} {E : XK}
abbrev CG := List D → (D → Pr) → Pr
/-- a builtin whose answer is a value -/
def CaL (G : Gm) (X : Cx) (f : Value) (g : CG) : Prop := ∃ r, CallR X f r ∧ ∀ H0 w H ds vs Q (QD : D → Pr), Ok w H → Sees G H0 w H ds vs → g ds QD w.sg →
  (∀ d z w' H', Le w H w' H' → Ok w' H' → Rep G w' d z → QD d w'.sg → Q z H') → r vs H Q
/-- .. whose answer is a new list -/
def CaF (G : Gm) (X : Cx) (f : Value) (g : List D → (List D → Pr) → Pr) : Prop := ∃ r, CallR X f r ∧ ∀ H0 w H ds vs Q (QD : List D → Pr), Ok w H → Sees G H0 w H ds vs → g ds QD w.sg →
  (∀ es p us, H p = none → Reps G w es us → QD es w.sg → Q (.ref p) (upd H p (.lst us))) → r vs H Q
theorem Sees.one {H0 : Hp} {w : Wd} {H : Hp} {d : D} {vs : List V} (h : Sees G H0 w H [d] vs) : ∃ v, vs = [v] ∧ See G H0 w H d v := by
  cases h with
  | cons h t => cases t; exact ⟨_, rfl, h⟩
theorem Sees.two {H0 : Hp} {w : Wd} {H : Hp} {d d' : D} {vs : List V} (h : Sees G H0 w H [d, d'] vs) : ∃ v v', vs = [v, v'] ∧ See G H0 w H d v ∧ See G H0 w H d' v' := by
  cases h with
  | cons h t =>
    cases t with
    | cons h2 t2 => cases t2; exact ⟨_, _, rfl, h, h2⟩
def fCa (g : CG) (A : FA) : FE := fun r Q EX σ => A r (fun ds σ => g ds Q σ) EX σ
def fCaF (g : List D → (List D → Pr) → Pr) (A : FA) : FA := fun r Q EX σ => A r (fun ds σ => g ds Q σ) EX σ
section
variable {x : Str} {id T : String} {e : Expr} {es : List Expr} {p pos : Pos} {g : CG} {A : FA}
theorem ca_link {r : List V → Hp → VK → Prop} (k0 : ∀ H0 w H ds vs Q (QD : D → Pr), Ok w H → Sees G H0 w H ds vs → g ds QD w.sg → (∀ d z w' H', Le w H w' H' → Ok w' H' → Rep G w' d z → QD d w'.sg → Q z H') → r vs H Q)
    (s : L2.St) (H : Hp) (Q : VK) (h : tD G E (fCa g A) s H Q) : tCB r (baD G E A) s H Q := by
  obtain ⟨w0, H0, r, w, QD, EX, fr, lk, f, k⟩ := h
  exact ⟨w0, H0, r, w, _, EX, fr, lk, f, fun ds vs w1 H1 l1 ok1 s1 q1 => k0 H0 w1 H1 ds vs Q QD ok1 s1 q1 fun d z w2 H2 l2 ok2 r2 q2 => k d z w2 H2 (l1.trans l2) ok2 r2 q2⟩
theorem ce_callB (hc : CaL G X (.builtin id) g) (hm : X.mg x = none) (ha : PA X (e :: es) (baD G E A)) (hg : Gl X x := by rfl) (hv : bootBuiltins x = some (.builtin id) := by decide +kernel) (hn : x ≠ "__name__" := by decide) (hdb : (x == ("__debug__" : Str)) = false := by decide)
    (he : starEach (e :: es) X.env = (false, eval e X.env) :: starEach es X.env := by rfl) (hpl : (backTo pos (starEach es X.env)).any (·.1) = false := by rfl) : PE X (.Call (.Name x p) (e :: es) [] pos) (tD G E (fCa g A)) := by
  obtain ⟨r, hr, k0⟩ := hc
  exact (pe_callB hr hg hm hv ha hn hdb he hpl).weak (ca_link k0)
theorem ce_callTy (hc : CaL G X (.type T) g) (hm : X.mg x = none) (ha : PA X (e :: es) (baD G E A)) (hg : Gl X x := by rfl) (hv : bootBuiltins x = some (.type T) := by decide +kernel) (hn : x ≠ "__name__" := by decide) (hdb : (x == ("__debug__" : Str)) = false := by decide)
    (he : starEach (e :: es) X.env = (false, eval e X.env) :: starEach es X.env := by rfl) (hpl : (backTo pos (starEach es X.env)).any (·.1) = false := by rfl) : PE X (.Call (.Name x p) (e :: es) [] pos) (tD G E (fCa g A)) := by
  obtain ⟨r, hr, k0⟩ := hc
  exact (pe_callTy hr hg hm hv ha hn hdb he hpl).weak (ca_link k0)
theorem caf_link {g : List D → (List D → Pr) → Pr} {r : List V → Hp → VK → Prop} (k0 : ∀ H0 w H ds vs Q (QD : List D → Pr), Ok w H → Sees G H0 w H ds vs → g ds QD w.sg → (∀ es p us, H p = none → Reps G w es us → QD es w.sg → Q (.ref p) (upd H p (.lst us))) → r vs H Q)
    (s : L2.St) (H : Hp) (Q : VK) (h : fD G E (fCaF g A) s H Q) : tCB r (baD G E A) s H Q := by
  obtain ⟨w0, H0, r, w, QD, EX, fr, lk, f, k⟩ := h
  exact ⟨w0, H0, r, w, _, EX, fr, lk, f, fun ds vs w1 H1 l1 ok1 s1 q1 => k0 H0 w1 H1 ds vs Q QD ok1 s1 q1 fun es p us hp r2 q2 =>
    k es p us w1 _ (l1.trans (Le.new hp)) (ok1.new hp) (l1.none_of hp) (Mine.new (w := w) (H := H) (fr.le.trans l1) ok1 hp) upd_same r2 q2⟩
theorem cf_callB {g : List D → (List D → Pr) → Pr} (hc : CaF G X (.builtin id) g) (hm : X.mg x = none) (ha : PA X (e :: es) (baD G E A)) (hg : Gl X x := by rfl) (hv : bootBuiltins x = some (.builtin id) := by decide +kernel) (hn : x ≠ "__name__" := by decide) (hdb : (x == ("__debug__" : Str)) = false := by decide)
    (he : starEach (e :: es) X.env = (false, eval e X.env) :: starEach es X.env := by rfl) (hpl : (backTo pos (starEach es X.env)).any (·.1) = false := by rfl) : PE X (.Call (.Name x p) (e :: es) [] pos) (fD G E (fCaF g A)) := by
  obtain ⟨r, hr, k0⟩ := hc
  exact (pe_callB hr hg hm hv ha hn hdb he hpl).weak (caf_link k0)
end

/-! ### the builtins -/
def lenD : CG := fun ds Q σ => match ds with
  | [.tup xs] => Q (.int xs.length) σ
  | [.lst xs] => Q (.int xs.length) σ
  | [.str z] => z.length ≤ sizeLine ∧ Q (.int z.length) σ
  | _ => False
theorem cal_len (hK : X.K = G.K := by rfl) : CaL G X (.builtin "len") lenD := by
  refine ⟨_, call_len, fun H0 w H ds vs Q QD ok sx g k => ?_⟩
  match ds, g with
  | [.tup xs], g =>
    obtain ⟨v, rfl, s1⟩ := sx.one
    obtain ⟨a, us, rfl, sq, r⟩ := s1.tup_of ok
    exact ⟨_, _, rfl, .inr ⟨us, hK ▸ sq, rfl⟩, k _ _ w H (.refl w H) ok Rep.int (by rw [← r.length]; exact g)⟩
  | [.lst xs], g =>
    obtain ⟨v, rfl, s1⟩ := sx.one
    obtain ⟨a, us, rfl, sq, r⟩ := s1.lst_of ok
    exact ⟨_, _, rfl, .inl ⟨us, hK ▸ sq.sql, rfl⟩, k _ _ w H (.refl w H) ok Rep.int (by rw [← r.length]; exact g)⟩
  | [.str z], g =>
    obtain ⟨v, rfl, s1⟩ := sx.one
    rw [s1.str_of]
    exact ⟨_, z.length, rfl, ⟨g.1, rfl⟩, k _ _ w H (.refl w H) ok Rep.int g.2⟩
def i1D (f : Int → D) : CG := fun ds Q σ => match ds with
  | [.int i] => Q (f i) σ
  | _ => False
def i2D (f : Int → Int → D) : CG := fun ds Q σ => match ds with
  | [.int i, .int j] => Q (f i j) σ
  | _ => False
theorem cal_i1 {f : Value} {u : Int → Int} (h : CallR X f (fun xs H Q => ∃ i, xs = [.int i] ∧ Q (.int (u i)) H)) : CaL G X f (i1D fun i => .int (u i)) := by
  refine ⟨_, h, fun H0 w H ds vs Q QD ok sx g k => ?_⟩
  match ds, g with
  | [.int i], g =>
    obtain ⟨v, rfl, s1⟩ := sx.one
    rw [s1.int_of]
    exact ⟨i, rfl, k _ _ w H (.refl w H) ok Rep.int g⟩
theorem cal_i2 {f : Value} {u : Int → Int → Int} (h : CallR X f (fun xs H Q => ∃ i j, xs = [.int i, .int j] ∧ Q (.int (u i j)) H)) : CaL G X f (i2D fun i j => .int (u i j)) := by
  refine ⟨_, h, fun H0 w H ds vs Q QD ok sx g k => ?_⟩
  match ds, g with
  | [.int i, .int j], g =>
    obtain ⟨v, v', rfl, s1, s2⟩ := sx.two
    rw [s1.int_of, s2.int_of]
    exact ⟨i, j, rfl, k _ _ w H (.refl w H) ok Rep.int g⟩
theorem cal_abs : CaL G X (.builtin "abs") (i1D fun i => .int (if i < 0 then -i else i)) := cal_i1 call_abs
theorem cal_max2 (hc : X.calm = true := by rfl) : CaL G X (.builtin "max") (i2D fun i j => .int (if j > i then j else i)) := cal_i2 (call_max2 hc)
theorem cal_min2 (hc : X.calm = true := by rfl) : CaL G X (.builtin "min") (i2D fun i j => .int (if j < i then j else i)) := cal_i2 (call_min2 hc)
def intC : CG := fun ds Q σ => match ds with
  | [.int i] => Q (.int i) σ
  | [.bl b] => Q (.int (if b then 1 else 0)) σ
  | _ => False
theorem cal_int : CaL G X (.type "int") intC := by
  refine ⟨_, call_int1, fun H0 w H ds vs Q QD ok sx g k => ?_⟩
  match ds, g with
  | [.int i], g =>
    obtain ⟨v, rfl, s1⟩ := sx.one
    rw [s1.int_of]
    exact .inl ⟨i, rfl, k _ _ w H (.refl w H) ok Rep.int g⟩
  | [.bl b], g =>
    obtain ⟨v, rfl, s1⟩ := sx.one
    rw [s1.bl_of]
    exact .inr ⟨b, rfl, k _ _ w H (.refl w H) ok Rep.int g⟩
def tupC : CG := fun ds Q σ => match ds with
  | [.lst xs] => Q (.tup xs) σ
  | [.tup xs] => Q (.tup xs) σ
  | _ => False
theorem cal_tuple (hK : X.K = G.K := by rfl) : CaL G X (.type "tuple") tupC := by
  refine ⟨_, call_tupleF, fun H0 w H ds vs Q QD ok sx g k => ?_⟩
  match ds, g with
  | [.lst xs], g =>
    obtain ⟨v, rfl, s1⟩ := sx.one
    obtain ⟨a, us, rfl, sq, r⟩ := s1.lst_of ok
    refine ⟨a, us, rfl, .inl ⟨hK ▸ sq.sql, fun l o hl hd => ?_⟩⟩
    obtain ⟨w2, l2, ok2, r2, e2⟩ := newTup (p := l) ok hl hd r
    exact k _ _ w2 _ l2 ok2 r2 (e2 ▸ g)
  | [.tup xs], g =>
    obtain ⟨v, rfl, s1⟩ := sx.one
    have rp := s1.tup_rep
    obtain ⟨a, us, rfl, sq, r⟩ := s1.tup_of ok
    exact ⟨a, us, rfl, .inr ⟨hK ▸ sq, k _ _ w H (.refl w H) ok rp g⟩⟩
def blsOf : List D → Option (List Bool)
  | [] => some []
  | .bl b :: ds => (blsOf ds).map (b :: ·)
  | _ => none
def strsOf : List D → Option (List Str)
  | [] => some []
  | .str b :: ds => (strsOf ds).map (b :: ·)
  | _ => none
theorem blsOf_eq : ∀ {ds : List D} {bs : List Bool}, blsOf ds = some bs → ds = bs.map D.bl
  | [], bs, h => by cases h; rfl
  | d :: ds, bs, h => by
    cases d <;> first | (unfold blsOf at h; cases h; done) | skip
    unfold blsOf at h
    cases e : blsOf ds with
    | none => rw [e] at h; cases h
    | some l => rw [e] at h; cases h; rw [blsOf_eq e]; rfl
theorem strsOf_eq : ∀ {ds : List D} {bs : List Str}, strsOf ds = some bs → ds = bs.map D.str
  | [], bs, h => by cases h; rfl
  | d :: ds, bs, h => by
    cases d <;> first | (unfold strsOf at h; cases h; done) | skip
    unfold strsOf at h
    cases e : strsOf ds with
    | none => rw [e] at h; cases h
    | some l => rw [e] at h; cases h; rw [strsOf_eq e]; rfl
def blsD (f : List Bool → D) : CG := fun ds Q σ => match ds with
  | [.lst xs] => match blsOf xs with
    | some bs => Q (f bs) σ
    | none => False
  | _ => False
theorem cal_bls {f : Value} {u : List Bool → Bool} (h : CallR X f (fun vs H Q => ∃ (a : Addr) (bs : List Bool), vs = [V.ref a] ∧ SqL X.K H a (bs.map V.bl) ∧ Q (.bl (u bs)) H)) (hK : X.K = G.K) : CaL G X f (blsD fun bs => .bl (u bs)) := by
  refine ⟨_, h, fun H0 w H ds vs Q QD ok sx g k => ?_⟩
  match ds, g with
  | [.lst xs], g =>
    obtain ⟨v, rfl, s1⟩ := sx.one
    obtain ⟨a, us, rfl, sq, r⟩ := s1.lst_of ok
    cases e : blsOf xs with
    | none => simp only [blsD, e] at g
    | some bs =>
      simp only [blsD, e] at g
      rw [blsOf_eq e] at r
      rw [r.bls] at sq
      exact ⟨a, bs, rfl, hK ▸ sq.sql, k _ _ w H (.refl w H) ok Rep.bl g⟩
theorem cal_all (hc : X.calm = true := by rfl) (hK : X.K = G.K := by rfl) : CaL G X (.builtin "all") (blsD fun bs => .bl (bs.all id)) := cal_bls (cr_all hc) hK
/-- the greatest, the least of a list of ints -/
def maxI : List Int → Int
  | [] => 0
  | [x] => x
  | x :: l => if x < maxI l then maxI l else x
end DL
/-! The data layer, part 11: repr, isinstance, sorted, list, fields, methods of lists and texts. -/
namespace DL
open PySem L2 PyProof.Rows
variable {G : Gm} {X : Cx} {E : XK}
/-- what may be shown -/
def shownOK (d : D) : Prop := plain d = true ∧ (pd d).showable = true ∧ (pd d).depth ≤ 60 ∧ (pd d).shown.length ≤ sizeLine
/-! ### isinstance -/
inductive Tag where
  | non | bl | int | str | tup | lst | dic | obj (c : Nat) | exc (c : Nat)
def tagD : D → Option Tag
  | .non => some .non | .bl _ => some .bl | .int _ => some .int | .str _ => some .str | .tup _ => some .tup | .lst _ => some .lst
  | .dic _ _ => some .dic | .obj c _ => some (.obj c) | .exc c _ => some (.exc c) | .jar => none | .cel _ => none
def tagV (G : Gm) : Tag → Value
  | .non => .type "NoneType" | .bl => .type "bool" | .int => .type "int" | .str => .type "str" | .tup => .type "tuple" | .lst => .type "list" | .dic => .type "dict"
  | .obj c => .ref (G.cls c)
  | .exc c => .ref (G.cls c)
/-- facts of an own class -/
structure ClsG (K : PySem.W.Frag) (C : Addr) : Prop where
  cl : Cls K C
  ca : PySem.W.findIn K (.ref C) "__class__" = some (some (.builtin "object.__class__"))
  cg : PySem.W.specialIn K (.builtin "object.__class__") "__get__" = some (some (.builtin "getset_descriptor.__get__"))
  ct : PySem.W.takesIn K (.builtin "object.__class__") = some true
  cm : PySem.W.mroIn K C (.type "object") = some true
def isiD (tbl : Tag → Option Bool) (A : FE) : FE := fun r Q EX σ => A r (fun d σ => match tagD d with
  | some t => match tbl t with
    | some b => Q (.bl b) σ
    | none => False
  | none => False) EX σ
/-- facts of an own class of exceptions -/
structure ExF (K : PySem.W.Frag) (C : Addr) : Prop where
  cl : (PySem.W.clsIn K C).isSome = true
  ga : PySem.W.findIn K (.ref C) "__getattribute__" = some (some (.builtin "BaseException.__getattribute__"))
  gt : PySem.W.findIn K (.ref C) "__getattr__" = some none
  sb : PySem.W.subIn K (.ref C) (.type "BaseException") = some true
  hd : PySem.W.hasDictIn K C = true
  ca : PySem.W.findIn K (.ref C) "__class__" = some (some (.builtin "object.__class__"))
  cg : PySem.W.specialIn K (.builtin "object.__class__") "__get__" = some (some (.builtin "getset_descriptor.__get__"))
  ct : PySem.W.takesIn K (.builtin "object.__class__") = some true
  cm : PySem.W.mroIn K C (.type "object") = some true
/-- what isinstance may be asked of -/
def KtV (K : PySem.W.Frag) (H : Hp) (v : V) (t : Value) : Prop := TyX K H v t ∨ ∃ a o C od, v = .ref a ∧ t = .ref C ∧ H a = some o ∧ XcAt o C od a ∧ (od = none ∨ ∃ dx fs, od = some dx ∧ H dx = some (.xd fs)) ∧ ExF K C
theorem exc_at {X : Cx} {pins : List (Addr × Obj)} {σ : L2.St} {H : Hp} {s : Shared} {a C : Addr} {o : HO} {od : Option Addr} (I : Inv X pins σ H s) (ho : H a = some o) (hx : XcAt o C od a) (hd : od = none ∨ ∃ dx fs, od = some dx ∧ H dx = some (.xd fs)) :
    ∃ (oe : Obj) (ob : Option Obj), PySem.W.InstAt s.heap a oe C ob ∧ ∀ dx fs, od = some dx → H dx = some (.xd fs) → ∃ (oD : Obj) (mA : Str → Option Value), ob = some oD ∧ s.heap.Ns1 dx mA ∧ s.heap.get? dx = some oD ∧ ∀ f, RelO (fs.lookup f) (mA f) := by
  obtain ⟨oe, vs, h1, h2, h3, h4⟩ := hx X.prog X.w H s.heap (I.hok a o ho)
  have nc : PySem.W.notCls oe = true := by
    unfold PySem.W.notCls
    rw [h4] <;> rfl
  rcases hd with rfl | ⟨dx, fs, rfl, hdx⟩
  · exact ⟨oe, none, ⟨h1, h2, nc, by rw [h3]; trivial⟩, fun dx fs z => by cases z⟩
  · obtain ⟨mA, hns, hr⟩ := (show ObjOk X.prog X.w H s.heap dx (.xd fs) from I.hok dx _ hdx)
    obtain ⟨oD, es, ep, hoD, hq⟩ := id hns
    refine ⟨oe, some oD, ⟨h1, h2, nc, by rw [h3]; exact hoD⟩, fun dx' fs' z hz => ?_⟩
    cases z
    rw [hdx] at hz
    cases hz
    exact ⟨oD, mA, rfl, hns, hoD, hr⟩
theorem kit_ofE {X : Cx} {pins : List (Addr × Obj)} {σ : L2.St} {H : Hp} {s : Shared} {x : V} {u t : Value} (I : Inv X pins σ H s) (rx : RelV x u) (ty : KtV X.K H x t) : ∃ P : Heap → Prop, PySem.W.KitX X.K u t P ∧ P s.heap ∧ u ≠ .builtin "__main__.__loader__#opaque" := by
  rcases ty with ty | ⟨a, o, C, od, rfl, rfl, ho, hx, hd, F⟩
  · exact kit_of I rx ty
  · cases (show u = Value.ref a from rx)
    obtain ⟨oe, ob, J, _⟩ := exc_at I ho hx hd
    exact ⟨_, PySem.W.kitx_exc F.cl F.ga F.gt F.sb F.ca F.cg F.ct F.cm, J, fun z => nomatch z⟩
/-- isinstance(x, c), x an exception, too -/
def rIsiE (K : PySem.W.Frag) : List V → Hp → VK → Prop := fun xs H Q => ∃ (x c : V) (t u : Value) (b : Bool), xs = [x, c] ∧ ClsV c u ∧ KtV K H x t ∧ PySem.W.kitOne K t u = some b ∧ Q (.bl b) H
theorem call_isiE {X : Cx} : CallR X (.builtin "isinstance") (rIsiE X.K) := by
  intro pins s σ H xs us Q I r ⟨x, c, t, u, b, ex, k, ty, e, q⟩
  subst ex
  obtain ⟨u1, u2, rfl, r1, r2⟩ := vals2 r
  obtain ⟨P, Z, p, hx⟩ := kit_ofE I r1 ty
  rw [k.eq r2]
  exact PySem.W.kia_one Z I.kIn p e hx fun tk => ⟨.bl b, H, I.tok tk, rfl, q⟩
theorem tyx_rep {w : Wd} {H : Hp} {d : D} {v : V} {t : Tag} (ok : Ok w H) (hc : ∀ c, t = .obj c → ClsG G.K (G.cls c)) (hx : ∀ c, t = .exc c → ExF G.K (G.cls c)) (ht : tagD d = some t) (h : Rep G w d v) : KtV G.K H v (tagV G t) := by
  cases d <;> cases ht
  · rw [h.non_of]; exact .inl (.base .non)
  · rw [h.bl_of]; exact .inl (.base (.bl _))
  · rw [h.int_of]; exact .inl (.base (.int _))
  · rw [h.str_of]; exact .inl (.base (.str _))
  · obtain ⟨a, vs, rfl, sq, _⟩ := h.tup_of
    rcases sqT_sub ok.sub sq.sqt with (e | ⟨o, e⟩) | ⟨o, its, n, e, c, _⟩
    · exact .inl (.base (.tup e))
    · exact .inl (.fTuple e)
    · exact .inl (.kTuple e c)
  · obtain ⟨a, vs, rfl, sq, _⟩ := h.lst_of
    rcases lsT_sub ok.sub sq with (e | ⟨o, e⟩) | ⟨its, n, e, _⟩
    · exact .inl (.base (.lst e))
    · exact .inl (.base (.frz e))
    · exact .inl (.kList e rfl)
  · obtain ⟨a, vs, rfl, sq, _⟩ := h.dic_of
    rcases sq with e | ⟨es, n, e, _⟩
    · exact .inl (.base (.dK (ok.sub _ _ e)))
    · exact .inl (.kDict e rfl)
  · obtain ⟨a, dx, fs, rfl, e, _⟩ := h.obj_of
    have c := hc _ rfl
    exact .inl (.base (.ins (ok.sub _ _ e) c.cl c.ca c.cg c.ct c.cm))
  · obtain ⟨a, o, od, vs, rfl, ho, hxa, _, hd⟩ := h.exc_of
    exact .inr ⟨a, o, _, od, rfl, rfl, ok.sub _ _ ho, hxa, hd.imp And.left fun ⟨dx, nm, u, e1, _, _, e4⟩ => ⟨dx, _, e1, ok.sub _ _ e4⟩, hx _ rfl⟩
theorem tyx_see {H0 : Hp} {w : Wd} {H : Hp} {d : D} {v : V} {t : Tag} (ok : Ok w H) (hc : ∀ c, t = .obj c → ClsG G.K (G.cls c)) (hx : ∀ c, t = .exc c → ExF G.K (G.cls c)) (ht : tagD d = some t) (h : See G H0 w H d v) : KtV G.K H v (tagV G t) := by
  rcases h with h | ⟨a, vs, ds, e1, e2, m, h1, r⟩ | ⟨a, vs, ks, ds, e1, e2, m, h1, hl, r⟩
  · exact tyx_rep ok hc hx ht h
  · subst e1; subst e2; cases ht; exact .inl (.base (.lst h1))
  · subst e1; subst e2; cases ht; exact .inl (.base (.dK h1))
theorem ce_isi {tbl : Tag → Option Bool} {o ce : Expr} {A : FE} {c : V} {u : Value} {p pos : Pos} (ho : PE X o (bD G E A)) (hce : PE X ce (tC c)) (hm : X.mg "isinstance" = none) (k : ClsV c u) (hc : ∀ c b, tbl (.obj c) = some b → ClsG G.K (G.cls c)) (ht : ∀ t b, tbl t = some b → PySem.W.kitOne X.K (tagV G t) u = some b)
    (hx : ∀ c b, tbl (.exc c) = some b → ExF G.K (G.cls c) := by first | assumption | (intro c b h; cases h; done))
    (hg : Gl X "isinstance" := by rfl) (hK : X.K = G.K := by rfl) (he : starEach [o, ce] X.env = (false, eval o X.env) :: starEach [ce] X.env := by rfl) (he2 : starEach [ce] X.env = (false, eval ce X.env) :: starEach [] X.env := by rfl) (hpl : (backTo pos (starEach [ce] X.env)).any (·.1) = false := by rfl) :
    PE X (.Call (.Name "isinstance" p) [o, ce] [] pos) (tD G E (isiD tbl A)) := PE.weak (pe_callB call_isiE hg hm (by decide +kernel) (pa_cons ho (pa_cons hce pa_nil he2) he) (by decide) (by decide) he hpl) fun s H Q ⟨w0, H0, r, w, QD, EX, fr, lk, f, k2⟩ =>
  ⟨w0, H0, r, w, _, EX, fr, lk, f, fun d v w1 H1 l1 ok1 s1 q1 => by
    show ∃ x c t u b, [v, _] = [x, c] ∧ ClsV c u ∧ KtV X.K H1 x t ∧ PySem.W.kitOne X.K t u = some b ∧ Q (.bl b) H1
    cases e1 : tagD d with
    | none => simp only [e1] at q1
    | some t =>
      simp only [e1] at q1
      cases e2 : tbl t with
      | none => simp only [e2] at q1
      | some b =>
        simp only [e2] at q1
        exact ⟨v, c, _, u, b, rfl, k, hK ▸ tyx_see ok1 (fun c hc' => hc c b (hc' ▸ e2)) (fun c hc' => hx c b (hc' ▸ e2)) e1 s1, ht t b e2, k2 _ _ w1 H1 l1 ok1 Rep.bl q1⟩⟩

/-! ### list(..), sorted(..) -/
theorem reps_map {w : Wd} {f : Addr → D} : ∀ {bs : List Addr}, (∀ b ∈ bs, Rep G w (f b) (.ref b)) → Reps G w (bs.map f) (bs.map V.ref)
  | [], _ => Reps.nil
  | b :: bs, h => Reps.cons (h b List.mem_cons_self) (reps_map fun c hc => h c (List.mem_cons_of_mem _ hc))
def sortC : List D → (List D → Pr) → Pr := fun ds Q σ => match ds with
  | [.lst xs] => srtOK xs = true ∧ xs.length ≤ sizeLine ∧ Q (isort ltK xs) σ
  | _ => False
theorem oneF {ds : List D} (h : ds.all (oneD false) = true) : ∃ ns : List Int, ds = ns.map D.int := by
  induction ds with
  | nil => exact ⟨[], rfl⟩
  | cons d ds ih =>
    rw [List.all_cons, Bool.and_eq_true] at h
    obtain ⟨ns, e⟩ := ih h.2
    cases d <;> first | (cases h.1; done) | skip
    rename_i i
    exact ⟨i :: ns, by rw [e]; rfl⟩
theorem oneT {ds : List D} (h : ds.all (oneD true) = true) : ∃ ns : List Str, ds = ns.map D.str := by
  induction ds with
  | nil => exact ⟨[], rfl⟩
  | cons d ds ih =>
    rw [List.all_cons, Bool.and_eq_true] at h
    obtain ⟨ns, e⟩ := ih h.2
    cases d <;> first | (cases h.1; done) | skip
    rename_i i
    exact ⟨i :: ns, by rw [e]; rfl⟩
theorem ltK_int {a b : Int} : ltK (.int a) (.int b) = decide (a < b) := by
  show (decide (a < b) || (!decide (b < a) && false)) = decide (a < b)
  simp
theorem ltK_str {a b : Str} : ltK (.str a) (.str b) = decide (a.cps.toList < b.cps.toList) := by
  show (strKind.blt a.cps.toList b.cps.toList || (!strKind.blt b.cps.toList a.cps.toList && false)) = _
  simp
theorem sd_ints {ns : List Int} (h : ns.Pairwise (· ≤ ·)) : Sd ltK (ns.map D.int) := List.pairwise_map.mpr (h.imp fun {a b} hab => by
  rw [ltK_int]
  exact decide_eq_false (by omega))
theorem rising_all : ∀ {l : List Str} {p : Str}, risingS p l = true → ∀ x ∈ l, strKind.blt x.cps.toList p.cps.toList = false
  | [], _, _, x, hx => by simp at hx
  | y :: l, p, h, x, hx => by
    unfold risingS at h
    rw [Bool.and_eq_true] at h
    have h1 : strKind.blt y.cps.toList p.cps.toList = false := by
      have := h.1
      rw [Bool.not_eq_true', ltCps_eq] at this
      exact this
    rcases List.mem_cons.mp hx with e | e
    · rw [e]; exact h1
    · have ih := rising_all h.2 x e
      cases q : strKind.blt x.cps.toList p.cps.toList with
      | false => rfl
      | true =>
        rcases strKind.negTrans _ y.cps.toList _ q with z | z
        · rw [ih] at z; cases z
        · rw [h1] at z; cases z
theorem sd_strs : ∀ {ys : List Str}, sortedS ys = true → Sd ltK (ys.map D.str)
  | [], _ => List.Pairwise.nil
  | y :: l, h => by
    have h' : risingS y l = true := h
    refine List.pairwise_cons.mpr ⟨fun d hd => ?_, ?_⟩
    · obtain ⟨x, hx, rfl⟩ := List.mem_map.mp hd
      rw [ltK_str]
      exact rising_all h' x hx
    · refine sd_strs (ys := l) ?_
      cases l with
      | nil => rfl
      | cons z l =>
        unfold risingS at h'
        rw [Bool.and_eq_true] at h'
        exact h'.2
theorem fits_key {sh : Nat → Bool} {w : Wd} : ∀ {i : Nat} {ds : List D} {vs : List V}, fitsAt sh i ds = true → Reps G w ds vs → keyV sh i vs = some (ds.map k1D)
  | i, [], vs, _, r => by rw [r.of_nil]; rfl
  | i, d :: ds, vs, h, r => by
    unfold fitsAt at h
    rw [Bool.and_eq_true] at h
    obtain ⟨v, t, rfl, h1, h2⟩ := r.of_cons
    have ih := fits_key h.2 h2
    cases d <;> first | (cases h.1; done) | skip
    · rename_i n
      have hn : sh i = false := by have := h.1; simpa [oneD] using this
      rw [h1.int_of]
      unfold keyV
      rw [if_neg (by simp [hn]), ih]
      rfl
    · rename_i n
      have hn : sh i = true := by have := h.1; simpa [oneD] using this
      rw [h1.str_of]
      unfold keyV
      rw [if_pos hn, ih]
      rfl
/-- tuples behind their addresses -/
theorem tup_addrs {w : Wd} {H : Hp} (ok : Ok w H) {sh : Nat → Bool} : ∀ {ds : List D} {vs : List V}, ds.all (tupD sh) = true → Reps G w ds vs →
    ∃ as : List Addr, vs = as.map V.ref ∧ as.length = ds.length ∧ ∀ p ∈ as.zip ds, Rep G w p.2 (.ref p.1) ∧ ∃ x xs, SqT G.K H p.1 (x :: xs) ∧ keyV sh 0 (x :: xs) = some (kyD p.2)
  | [], vs, _, r => ⟨[], by rw [r.of_nil]; rfl, rfl, fun p hp => by simp at hp⟩
  | d :: ds, vs, h, r => by
    rw [List.all_cons, Bool.and_eq_true] at h
    obtain ⟨v, t, rfl, h1, h2⟩ := r.of_cons
    obtain ⟨as, e, el, k⟩ := tup_addrs ok h.2 h2
    cases d <;> first | (cases h.1; done) | skip
    rename_i es
    cases es <;> first | (cases h.1; done) | skip
    rename_i x0 xs0
    have rp := h1
    obtain ⟨a, us, rfl, sq, ru⟩ := h1.tup_of
    refine ⟨a :: as, by rw [e]; rfl, by simp [el], fun p hp => ?_⟩
    rw [List.zip_cons_cons] at hp
    rcases List.mem_cons.mp hp with q | q
    · subst q
      have key := fits_key (i := 0) h.1 ru
      obtain ⟨u, t', rfl, _, _⟩ := ru.of_cons
      exact ⟨rp, u, t', sqT_sub ok.sub sq.sqt, key⟩
    · exact k p q
theorem caf_sorted (hK : X.K = G.K := by rfl) : CaF G X (.builtin "sorted") sortC := by
  refine ⟨_, cr_srtI.or (cr_srtS.or cr_srtT), fun H0 w H ds vs Q QD ok sx g k => ?_⟩
  match ds, g with
  | [.lst xs], g =>
    obtain ⟨v, rfl, s1⟩ := sx.one
    obtain ⟨a, us, rfl, sq, r⟩ := s1.lst_of ok
    obtain ⟨hs, hz, g⟩ := g
    have hso := hs
    unfold srtOK at hs
    rw [Bool.or_eq_true, Bool.or_eq_true] at hs
    rcases hs with (h | h) | h
    · obtain ⟨ns, rfl⟩ := oneF h
      rw [r.ints] at sq
      refine .inl ⟨a, ns, rfl, hK ▸ sq.sql, by simpa using hz, fun ns' p hp h2 hn => ?_⟩
      have e := srt_is hso (hp.map D.int) (sd_ints h2)
      exact k _ p _ hn (by rw [← e]; exact Reps.of_ints) g
    · obtain ⟨ns, rfl⟩ := oneT h
      rw [r.strs] at sq
      refine .inr (.inl ⟨a, ns, rfl, hK ▸ sq.sql, by simpa using hz, fun ns' p hp h2 hn => ?_⟩)
      have e := srt_is hso (hp.map D.str) (sd_strs h2)
      exact k _ p _ hn (by rw [← e]; exact Reps.of_strs) g
    · obtain ⟨as, e, el, ka⟩ := tup_addrs ok h r
      subst e
      refine .inr (.inr ⟨a, as, shape0 xs, rfl, hK ▸ sq.sql, fun b hb => ?_, by rw [el]; exact hz, fun g' bs p gk hp hs2 hn => ?_⟩)
      · obtain ⟨i, hi, eb⟩ := List.getElem_of_mem hb
        have hm : (b, xs[i]'(el ▸ hi)) ∈ as.zip xs := by
          rw [List.mem_iff_getElem]
          exact ⟨i, by rw [List.length_zip, el, Nat.min_self, ← el]; exact hi, by rw [List.getElem_zip, eb]⟩
        obtain ⟨_, x1, t1, q1, k1⟩ := ka _ hm
        exact ⟨x1, t1, _, hK ▸ q1, k1⟩
      · have gd : ∀ b d, (b, d) ∈ as.zip xs → kyD d = g' b := fun b d hd => by
          obtain ⟨_, x1, t1, q1, k1⟩ := ka _ hd
          exact (gk b (List.of_mem_zip hd).1 x1 t1 _ (hK ▸ q1) k1).symm
        let f : Addr → D := fun b => (xs.find? fun d => decide (kyD d = g' b)).getD .non
        have fx : ∀ b d, (b, d) ∈ as.zip xs → d = f b := fun b d hd => by
          have md := (List.of_mem_zip hd).2
          have ek := gd b d hd
          cases z : xs.find? fun d => decide (kyD d = g' b) with
          | none => exact absurd (List.find?_eq_none.mp z d md) (by simp [ek])
          | some d' =>
            have h1 : kyD d' = g' b := by simpa using List.find?_some z
            have h2 := List.mem_of_find?_eq_some z
            show d = (xs.find? fun d => decide (kyD d = g' b)).getD .non
            rw [z]
            have o1 : ltK d d' = false := by unfold ltK; rw [ek, ← h1]; exact ordK.irr d'
            have o2 : ltK d' d = false := by unfold ltK; rw [ek, ← h1]; exact ordK.irr d'
            exact srt_inj hso d md d' h2 o1 o2
        have exs : xs = as.map f := by
          refine List.ext_getElem (by simp [el]) fun i h1 h2 => ?_
          rw [List.getElem_map]
          have hi : i < as.length := by simpa using h2
          refine fx as[i] xs[i] ?_
          rw [List.mem_iff_getElem]
          exact ⟨i, by rw [List.length_zip, el, Nat.min_self]; exact h1, List.getElem_zip⟩
        have repf : ∀ b ∈ as, Rep G w (f b) (.ref b) ∧ kyD (f b) = g' b := fun b hb => by
          obtain ⟨i, hi, eb⟩ := List.getElem_of_mem hb
          have hm : (b, xs[i]'(el ▸ hi)) ∈ as.zip xs := by
            rw [List.mem_iff_getElem]
            exact ⟨i, by rw [List.length_zip, el, Nat.min_self, ← el]; exact hi, by rw [List.getElem_zip, eb]⟩
          rw [← fx _ _ hm]
          exact ⟨(ka _ hm).1, gd _ _ hm⟩
        have hsd : Sd ltK (bs.map f) := by
          refine List.pairwise_map.mpr (hs2.imp_of_mem fun {x y} hx hy hxy => ?_)
          unfold ltK
          rw [(repf x (hp.mem_iff.mp hx)).2, (repf y (hp.mem_iff.mp hy)).2]
          exact hxy
        have e := srt_is hso (by rw [exs]; exact hp.map f) hsd
        refine k _ p _ hn ?_ g
        rw [← e]
        exact reps_map fun b hb => (repf b (hp.mem_iff.mp hb)).1
end DL
/-! The data layer, part 12: the law's call. -/
namespace DL
open PySem L2 PyProof.Rows

/-- the law's def is called with the script, by its promise over data -/
theorem law_callD {P : Program} {w : World} {G : Gm} {mg mb : Str → Option Value} {k : Nat} {fa a : Addr} {fd : FuncData} {x : Str} {sp : DSp} {s₁ : Shared} {vs : List Value} {ns : List Int}
    (KX : G.K.In s₁.heap) (hG : G.tb = []) (hns : s₁.heap.Ns mainGlobals mg) (hb : s₁.heap.Ns builtinsNs mb) (hbb : ∀ x : Str, x ≠ "__name__" → mb x = bootBuiltins x) (hlim : s₁.heap.NoLimit) (hg : s₁.gens = #[])
    (ha : s₁.heap.get? a = some { cls := .type "list", data := .seq vs.toArray }) (hi : IntsAre vs ns) (hl : ns.length ≤ sizeLine) (hr : Room k callerA)
    (F : ∀ base : Heap, G.K.In base → base.Ns mainGlobals mg → FnG P w G.K mg base k fa fd [x] (lift G sp)) (hbind : ∀ (s : Shared) (u : Value), BindsTo s fd ⟨[u], []⟩ [(x, u)])
    (hsp : sp [.lst (ns.map D.int)] (fun d _ => d = .bl true) NoX ⟨0, []⟩) :
    codeAny (model P w) callerA (.call (.ref fa) ⟨[.ref a], []⟩) (fun r s' => r = .ok (.ret (.bool true)) ∧ OldK s₁.heap s'.heap ∧ s'.os = s₁.os ∧ AllBare s'.gens) s₁ := by
  have rv := vals_ints hi
  have lenV := hi.length
  have core : ∀ H : Hp, Only H → LsT G.K H a (ns.map V.int) → HOk P w H s₁.heap → (∀ b, H b ≠ none → b = a) → (H a ≠ none → G.K.lookup a = none) →
      codeAny (model P w) callerA (.call (.ref fa) ⟨[.ref a], []⟩) (fun r s' => r = .ok (.ret (.bool true)) ∧ OldK s₁.heap s'.heap ∧ s'.os = s₁.os ∧ AllBare s'.gens) s₁ := by
    intro H hO hS hok hA hK
    have base_of : ∀ {b : Addr} {o : Obj}, s₁.heap.get? b = some o → H b = none → (hidT s₁.heap H).get? b = some o := fun e n => hidT_get e n
    have noA : ∀ {b : Addr} {o : Obj} {es : Array DictEntry} {ep : Nat}, s₁.heap.get? b = some o → o.data = .dict es ep → H b = none := fun {b o es ep} e d => by
      cases q : H b with
      | none => rfl
      | some u =>
        have e' : b = a := hA b (by rw [q]; simp)
        subst e'
        rw [ha] at e; cases e
        have d' : Data.seq vs.toArray _ = Data.dict es ep := d
        cases d'
    have nsK : ∀ {b : Addr} {m : Str → Option Value}, s₁.heap.Ns b m → (hidT s₁.heap H).Ns b m := fun {b m} ⟨o, es, ep, e, d, r⟩ => ⟨o, es, ep, base_of e (noA e d), d, r⟩
    have hKb : G.K.In (hidT s₁.heap H) := fun b o e => base_of (KX b o e) (by
      cases q : H b with
      | none => rfl
      | some u =>
        have e' : b = a := hA b (by rw [q]; simp)
        subst e'
        rw [hK (by rw [q]; simp)] at e; cases e)
    have hM : Mod G.K mg (hidT s₁.heap H) := ⟨hKb, nsK hns, ⟨mb, nsK hb, hbb⟩, let ⟨mc, h1, h2⟩ := hlim; ⟨mc, nsK h1, h2⟩⟩
    have e0 : Env0 P w G.K mg (hidT s₁.heap H) callerA [] s₁ H := ⟨rfl, hM, fun b o e => of_hidT e, Nat.le_of_eq (hidT_size _ _), trivial, fun b hb => absurd (show b ∈ ([] : List Addr) from hb) (by simp), hok, .of_eq hg⟩
    have w0ok : Ok ⟨H, fun _ => False, fun _ => False, [], G, ⟨0, []⟩, []⟩ H := ⟨fun _ _ h => h, fun _ h => h.elim, fun _ h => h.elim, (fun _ h => by cases h), (fun i p h => by simp at h), (fun i j p q h => by simp at h), rfl, fun _ => rfl⟩
    have hlift : lift G sp [.ref a] H (fun v _ => v = .bl true) (fun _ _ _ => False) :=
      ⟨⟨H, fun _ => False, fun _ => False, [], G, ⟨0, []⟩, []⟩, [.lst (ns.map D.int)], _, NoX, w0ok, Reps.cons (by unfold Rep; exact ⟨a, _, rfl, hS, Reps.of_ints⟩) Reps.nil, hsp, fun d v w' H' _ _ rp q => by
        subst q
        exact rp.bl_of, LkE.none ⟨hG.symm, rfl⟩⟩
    refine codeAny_mono ((F _ hKb (nsK hns)).run callerA [] s₁ H ⟨[.ref a], []⟩ [.ref a] [.ref a] _ _ rfl hr e0 (hbind s₁ (.ref a)) (.cons rfl .nil) hlift) fun r s' h => ?_
    cases r with
    | error e =>
      obtain ⟨_, _, _, _, _, _, _, _, _, _, _, _, z⟩ := h
      exact z.elim
    | ok fl =>
      cases fl with
      | next => exact False.elim h
      | brk => exact False.elim h
      | cont => exact False.elim h
      | ret u =>
        obtain ⟨v, H', os, bare, un, hok', r', q⟩ := h
        have q' : v = .bl true := q
        subst q'
        obtain rfl : u = Value.bool true := r'
        refine ⟨rfl, OldK.of_keep fun b o e => ?_, os, bare⟩
        cases q : H b with
        | none => exact un.keep b o e q (by intro z; exact absurd (show b ∈ ([] : List Addr) from z) (by simp)) (by simp)
        | some u =>
          rcases hO b with z | ⟨ob, xs, z⟩
          · rw [q] at z; cases z
          · have z2 := un.frzs b ob _ z
            obtain ⟨e1, _⟩ := hok b _ z
            obtain ⟨e2, _⟩ := hok' b _ z2
            rw [e] at e1; cases e1
            exact e2
  cases hk : G.K.lookup a with
  | some o =>
    have e := KX a o hk
    rw [ha] at e
    cases e
    refine core (fun _ => none) (fun _ => .inl rfl) (.inr ⟨vs.toArray, _, hk, by rw [List.size_toArray, lenV]; exact hl, by simpa using rv⟩) (fun b u z => by have z' : (none : Option HO) = some u := z; cases z') (fun b z => absurd rfl z) fun z => absurd rfl z
  | none =>
    refine core (fun b => if b = a then some (.frz { cls := .type "list", data := .seq vs.toArray } (.lst (ns.map V.int))) else none) (fun b => ?_) (.inl (.inr ⟨{ cls := .type "list", data := .seq vs.toArray }, if_pos rfl⟩)) (fun b u z => ?_) (fun b z => ?_) fun _ => hk
    · by_cases hb : b = a
      · exact .inr ⟨_, _, if_pos hb⟩
      · exact .inl (if_neg hb)
    · by_cases hb : b = a
      · have z' := (if_pos hb).symm.trans z
        cases z'
        subst hb
        exact ⟨ha, by rw [List.length_map]; exact hl, vs, _, rv, ha⟩
      · have z' := (if_neg hb).symm.trans z
        cases z'
    · by_cases hb : b = a
      · exact hb
      · exact absurd (if_neg hb) z
end DL
/-! The data layer, part 13: attributes, own lists, jars, methods. -/
namespace DL
open PySem L2 PyProof.Rows
variable {G : Gm} {X : Cx} {E : XK}

/-! ### o.f -/
def ixOf (names : List Str) (f : Str) : Option Nat := names.findIdx? (· == f)
theorem lookup_ix {f : Str} : ∀ {gs : List (Str × V)} {i : Nat}, ixOf (gs.map (·.1)) f = some i → gs.lookup f = (gs.map (·.2))[i]?
  | [], i, h => by simp [ixOf] at h
  | (g, v) :: gs, i, h => by
    unfold ixOf at h
    rw [List.map_cons, List.findIdx?_cons] at h
    by_cases e : g = f
    · subst e
      simp at h
      subst h
      simp
    · have e1 : (g == f) = false := beq_eq_false_iff_ne.mpr e
      have e2 : (f == g) = false := beq_eq_false_iff_ne.mpr fun z => e z.symm
      simp only [e1] at h
      cases q : ixOf (gs.map (·.1)) f with
      | none =>
        unfold ixOf at q
        rw [q] at h
        cases h
      | some j =>
        have ih := lookup_ix q
        unfold ixOf at q
        rw [q] at h
        cases h
        rw [List.lookup_cons, e2, ih]
        simp
def fFld (c i : Nat) (A : FE) : FE := fun r Q EX σ => A r (fun d σ => match d with
  | .obj c' fs => if c' = c then (match fs[i]? with
    | some d => Q d σ
    | none => False) else False
  | _ => False) EX σ
theorem ce_fld {e : Expr} {f : Str} {pos : Pos} {A : FE} {c i : Nat} (he : PE X e (tD G E A)) (cl : Cls X.K (G.cls c)) (na : NoAttr X.K (G.cls c) f) (hi : ixOf (G.fld c) f = some i) (hb : attributeBase e f X.env (eval e X.env) = eval e X.env := by rfl) :
    PE X (.Attribute e f pos) (tD G E (fFld c i A)) := (pe_fld he hb).weak fun s H Q ⟨w0, H0, r, w, QD, EX, fr, lk, f0, k⟩ =>
  ⟨w0, H0, r, w, _, EX, fr, lk, f0, fun d v w1 H1 l1 ok1 r1 q1 => by
    cases d <;> try exact q1.elim
    rename_i c' fs
    by_cases hc : c' = c
    · subst hc
      simp only [if_pos] at q1
      obtain ⟨a, dx, gs, ev, h1, h2, h3, _⟩ := r1.obj_of
      subst ev
      cases e1 : fs[i]? with
      | none => rw [e1] at q1; exact q1.elim
      | some d =>
        rw [e1] at q1
        obtain ⟨u, e2, r2⟩ := h3.getD e1
        refine ⟨a, G.cls c', dx, gs, u, rfl, ok1.sub _ _ h1, cl, na, ?_, k d u w1 H1 l1 ok1 r2 q1⟩
        rw [lookup_ix (i := i) (by rw [h2]; exact hi), e2]
    · simp only [if_neg hc] at q1⟩

/-! ### self.f = e in an __init__ -/
def sFldI (i c : Nat) (fl : List Str) (f : Str) (A : FE) : FS := fun B EX r σ => A r (fun d σ => match r[i]? with
  | some (.slf x c' ds) => if c' = c ∧ fl[ds.length]? = some f then B.nx (r.set i (.slf x c (ds ++ [d]))) σ else False
  | _ => False) EX σ
theorem putF_new {f : Str} {v : V} : ∀ {fs : List (Str × V)}, f ∉ fs.map (·.1) → putF f v fs = fs ++ [(f, v)]
  | [], _ => rfl
  | (g, x) :: fs, h => by
    rw [List.map_cons, List.mem_cons, not_or] at h
    unfold putF
    rw [if_neg fun e => h.1 e.symm, putF_new h.2]
    rfl
theorem cs_fldI {i c : Nat} {fl : List Str} {x f : Str} {e : Expr} {p p2 pos : Pos} {A : FE} (he : PE X e (tD G E A)) (cl : Cls X.K (G.cls c)) (na : NoAttr X.K (G.cls c) f) (hfl : G.fld c = fl) (nd : fl.Nodup) (hN : X.N[i]? = some x := by rfl) (hv : Vis X.env.scope x := by first | exact Or.inl rfl | exact Or.inr (Or.inl rfl) | exact Or.inr (Or.inr rfl))
    (hs : swapsWith e (some (.Attribute (.Name x p) f p2)) pos.line X.env = pure false := by rfl) (hz : fl.length < 1000 := by decide) (hd : (x == ("__debug__" : Str)) = false := by decide) (hcd : (x == ("__classdict__" : Str)) = false := by decide) :
    PS X (.Assign [.Attribute (.Name x p) f p2] e pos) (sD G E (sFldI i c fl f A)) := (ps_fld (pe_var hN hv hd hcd) he hs).weak fun B s H ⟨w0, H0, wk, r, w, A', EX, fr, sb, lk, ll, f0⟩ =>
  ⟨w0, H0, r, w, _, EX, fr, lk, f0, fun d v w1 H1 l1 ok1 r1 q1 => by
    have fr1 := fr.go l1 ok1
    cases e1 : r[i]? with
    | none => rw [e1] at q1; exact q1.elim
    | some sl =>
      rw [e1] at q1
      cases sl <;> try exact q1.elim
      rename_i x' c' ds
      by_cases hc : c' = c ∧ fl[ds.length]? = some f
      · simp only [if_pos hc] at q1
        obtain ⟨hc, hn⟩ := hc
        subst hc
        obtain ⟨a, dx, fs, e2, m, h1, ⟨l, hl⟩, hz', rp, ax⟩ := fr1.slot i _ e1
        have e3 : ds.length = (fs.map (·.1)).length := by rw [rp.length, List.length_map, List.length_map]
        have e4 : ∃ l', l = f :: l' := by
          rw [hfl] at hl
          rw [hl, List.getElem?_append_right (by omega), e3, Nat.sub_self] at hn
          cases l with
          | nil => simp at hn
          | cons g l' => simp at hn; exact ⟨l', by rw [hn]⟩
        obtain ⟨l', e5⟩ := e4
        subst e5
        have nin : f ∉ fs.map (·.1) := fun hm => by
          rw [hfl] at hl
          rw [hl] at nd
          exact (List.nodup_append.mp nd).2.2 f hm f List.mem_cons_self rfl
        have hlen : fs.length + 1 + l'.length = fl.length := by
          rw [hfl] at hl
          rw [hl]; simp; omega
        refine ⟨_, e2, a, G.cls c', dx, fs, rfl, h1, cl, na, hz', ?_⟩
        rw [putF_new nin]
        have fr2 := fr1.chg (y := .slf x' c' (ds ++ [d])) (o := .ins (G.cls c') dx (fs ++ [(f, v)])) e1 rfl e2 m
          ⟨a, dx, fs ++ [(f, v)], rfl, m, upd_same, ⟨l', by rw [hl]; simp⟩, by simp; omega, by simpa using rp.append (Reps.cons r1 Reps.nil), ax⟩
        exact ll.nx _ _ w1 _ fr2 (sb.trans l1.sub) q1
      · simp only [if_neg hc] at q1⟩
/-- the slots at the entry of an __init__ -/
def startI (N : List Str) (x : Addr) (c : Nat) (ds : List D) : Env := .slf x c [] :: (ds.map Sl.val ++ List.replicate (N.length - (ds.length + 1)) Sl.un)
/-- behind an __init__: all attributes are set -/
def endI (fl : List Str) (x : Addr) (c : Nat) (Q : D → Pr) (r : List Sl) : Pr := fun σ => match r with
  | Sl.slf y c' es :: _ => y = x ∧ c' = c ∧ es.length = fl.length ∧ Q (.tup es) σ
  | _ => False
theorem okI {P : Program} {w : World} {mg : Str → Option Value} {base : Heap} {k : Nat} {f : Addr} {N ps : List Str} {x qual : Str} {st : Stmt} {fd : FuncData} {sp : DSp} {B : FS} {c : Nat} (F : Fun G.K x qual st f fd) (S : FnScope N ps (defScope st)) (len : ∀ ds Q EX σ, sp ds Q EX σ → ds.length + 1 = ps.length)
    (body : ∀ (cdv : Value) (A : Around) (outer : List PySem.Env) (s : Shared) (H : Hp) (E : XK), A.guards = some [] → Room k (A.deeper (envOfC qual (defScope st) s.heap.objs.size f cdv)) →
      PSs (cxOf (L2.CX P w) P w G.K mg base N qual (defScope st) f cdv A outer s H E) (defBody st) (sD G E B))
    (pure : ∀ ds Q EX x σ, sp ds Q EX σ → B (DE.mk (endI (G.fld c) x c Q) (fun _ _ => False) (fun _ _ => False) (fun _ _ => False) (fun _ _ => False)) EX (startI N x c ds) σ) : FnG P w G.K mg base (k + 1) f fd ps (liftI G c fun ds Q EX => sp ds (fun d σ => match d with
        | .tup es => Q es σ
        | _ => False) EX) := by
  refine Fun.okG F S (fun vs H Q E ⟨w, H1, x, dx, vr, ds, QD, EX, e, _, _, _, _, _, r, h, _⟩ => by rw [e, List.length_cons, ← r.length]; exact len _ _ _ _ h) fun cdv A outer s H vs Q E hg hr ⟨w, H1, x, dx, vr, ds, QD, EX, ev, nx, ndx, ne, eH, ok, r, h, k, lk⟩ => ⟨_, body cdv A outer s H E hg hr, ?_⟩
  subst ev
  have l1 : Le w H1 w H := by
    rw [eH]
    exact (Le.new ndx).trans (Le.new (by rw [upd_ne fun e => ne e.symm]; exact nx))
  have ok1 : Ok w H := by
    rw [eH]
    exact (ok.new ndx).new (by rw [upd_ne fun e => ne e.symm]; exact nx)
  have mx : Mine H1 w x := ⟨ok.none_hd nx, ok.none_jr nx, nx⟩
  have fr : Fr G w H1 (startI N x c ds) (L2.start N (.ref x :: vr)) w H := by
    have base := fr_start (N := N.drop 1) lk.2.2 ok1 r
    refine ⟨lk.2.2, ok1, l1, ?_, fun i y e => ?_, fun i j y z a e1 e2 o1 o2 _ _ => ?_⟩
    · unfold startI L2.start
      simp [r.length]
    · cases i with
      | zero =>
        unfold startI at e
        simp at e
        subst e
        unfold L2.start
        exact ⟨x, dx, [], by simp, mx, by rw [eH, upd_same], ⟨G.fld c, by simp⟩, by simp, Reps.nil, rfl⟩
      | succ i =>
        have e' : (startD (N.drop 1) ds)[i]? = some y := by
          unfold startI at e
          unfold startD
          simpa [Nat.sub_sub, Nat.add_comm] using e
        have := base.slot i y e'
        have e2 : (L2.start N (.ref x :: vr))[i + 1]? = (L2.start (N.drop 1) vr)[i]? := by
          unfold L2.start
          simp [Nat.sub_sub, Nat.add_comm]
        rw [e2]
        have noO : y.isOwn = false := by
          unfold startD at e'
          by_cases hn : i < ds.length
          · rw [List.getElem?_append_left (by simpa using hn), List.getElem?_map] at e'
            have hd : ds[i]? = some ds[i] := by simp [hn]
            rw [hd] at e'
            cases e'
            rfl
          · rw [List.getElem?_append_right (by simpa using hn), List.getElem?_replicate] at e'
            split at e'
            · cases e'; rfl
            · cases e'
        cases y with
        | un => trivial
        | val d => exact this
        | own _ => cases noO
        | ownd _ _ => cases noO
        | slf _ _ _ => cases noO
    · have zero : ∀ {n : Nat} {u : Sl}, (startI N x c ds)[n]? = some u → u.isOwn = true → n = 0 := fun {n u} en on => by
        cases n with
        | zero => rfl
        | succ n =>
          exfalso
          unfold startI at en
          rw [List.getElem?_cons_succ] at en
          by_cases hn : n < ds.length
          · rw [List.getElem?_append_left (by simpa using hn), List.getElem?_map] at en
            have hd : ds[n]? = some ds[n] := by simp [hn]
            rw [hd] at en
            cases en
            cases on
          · rw [List.getElem?_append_right (by simpa using hn), List.getElem?_replicate] at en
            split at en
            · cases en; cases on
            · cases en
      rw [zero e1 o1, zero e2 o2]
  refine ⟨w, H1, w, startI N x c ds, w, _, EX, fr, .refl w, lk, ?_, pure ds _ EX x _ h⟩
  refine ⟨fun r s w' H' fr5 _ q => ?_, fun d v w' H' l ok' rp q => q.elim, fun _ _ _ _ _ _ q => q.elim, fun _ _ _ _ _ _ q => q.elim, fun _ _ _ _ _ _ _ _ _ _ q => q.elim⟩
  match r, q, fr5 with
  | Sl.slf x' c' es :: rr, q, fr6 =>
    obtain ⟨rfl, rfl, hl, hq⟩ := q
    obtain ⟨a, dy, fs, e2, m, h1, ⟨l, hl2⟩, hz', rp, rfl⟩ := fr6.slot 0 _ rfl
    have el : l = [] := by
      have h3 := congrArg List.length hl2
      rw [List.length_append, List.length_map, ← hl, rp.length, List.length_map] at h3
      exact List.eq_nil_of_length_eq_zero (by omega)
    subst el
    rw [List.append_nil] at hl2
    exact k es fs w' H' dy fr6.le fr6.ok m h1 hl2.symm rp hq
end DL
/-! The data layer, part 14: own lists changed, jars, methods of texts and lists, a list taken apart. -/
namespace DL
open PySem L2 PyProof.Rows
variable {G : Gm} {X : Cx} {E : XK}

/-! ### x.append(e) -/
def sAppC (i : Nat) (A : FE) : FS := fun B EX r σ => match r[i]? with
  | some (.own ds) => ds.length < sizeLine ∧ A r (fun d σ => B.nx (r.set i (.own (ds ++ [d]))) σ) EX σ
  | _ => False
theorem cs_app {i : Nat} {x : Str} {e : Expr} {p apos cpos pos : Pos} {A : FE} (he : PE X e (tD G E A)) (hN : X.N[i]? = some x := by rfl) (hv : Vis X.env.scope x := by first | exact Or.inl rfl | exact Or.inr (Or.inl rfl) | exact Or.inr (Or.inr rfl))
    (hs : starEach [e] X.env = (false, eval e X.env) :: starEach [] X.env := by rfl) (hplain : (backTo cpos (starEach [] X.env)).any (·.1) = false := by rfl)
    (hfew : ((backTo cpos (starEach [e] X.env)).all (fun x => !x.1) && (backToKw cpos (keywordEach [] X.env)).all (fun x => x.1.isSome)
      && decide ([e].length + ([] : List Keyword).length + (if ([] : List Keyword).isEmpty then 0 else 1) < 30)) = true := by rfl)
    (hbase : attributeBase (.Name x p) "append" X.env (eval (.Name x p) X.env) = eval (.Name x p) X.env := by rfl) (hline : (apos.endLine == cpos.line) = true := by rfl) (hd : (x == ("__debug__" : Str)) = false := by decide) (hcd : (x == ("__classdict__" : Str)) = false := by decide)
    (hsw : swapsWith (.Call (.Attribute (.Name x p) "append" apos) [e] [] cpos) none pos.line X.env = pure false := by rfl) :
    PS X (.Expr (.Call (.Attribute (.Name x p) "append" apos) [e] [] cpos) pos) (sD G E (sAppC i A)) :=
  PS.weak (ps_expr (pe_bm PySem.F.plainAttrs_list PySem.F.slot_list_append PySem.F.type_list_append mt_append (pe_var hN hv hd hcd) (pa_cons he pa_nil hs) hbase hfew hline hs hplain) hsw) fun B s H ⟨w0, H0, wk, r, w, A', EX, fr, sb, lk, ll, f0⟩ => by
  unfold sAppC at f0
  cases e1 : r[i]? with
  | none => rw [e1] at f0; exact f0.elim
  | some sl =>
    rw [e1] at f0
    cases sl <;> try exact f0.elim
    rename_i ds
    obtain ⟨hz, f0⟩ := f0
    obtain ⟨a, vs, q, m, h1, rp⟩ := fr.slot i _ e1
    refine ⟨_, q, ⟨.inl ⟨rfl, vs, .inl (.of h1)⟩, w0, H0, r, w, _, EX, fr, lk, f0, fun d v w1 H1 l1 ok1 r1 q1 => ?_⟩⟩
    have fr1 := fr.go l1 ok1
    obtain ⟨a', vs', q', m', h1', rp'⟩ := fr1.slot i _ e1
    rw [q] at q'
    cases q'
    refine ⟨a, vs', v, rfl, rfl, h1', by rw [← rp'.length]; exact hz, ?_⟩
    have fr2 := fr1.chg (y := .own (ds ++ [d])) (o := .lst (vs' ++ [v])) e1 rfl q m' (SlotOk.own m' upd_same (rp'.append (Reps.cons r1 Reps.nil)))
    exact ll.nx _ _ w1 _ fr2 (sb.trans l1.sub) q1

/-! ### jars -/
abbrev JP := Nat → Int → Int → Int → Prop
def at3 (n a b c : Int) : Int := if n = 0 then a else if n = 1 then b else c
/-- what a jar's int may be is told by what all jars keep -/
def fJar (jp : JP) (n : Int) (A : FE) : FE := fun r Q EX σ => A r (fun d σ => match d with
  | .jar => ∀ a b c : Int, jp σ.n a b c → Q (.int (at3 n a b c)) σ
  | _ => False) EX σ
theorem ce_jar {a : Expr} {jp : JP} {n : Int} {ip pos : Pos} {A : FE} {kk} (ha : PE X a (tD G E A)) (hn : n = 0 ∨ n = 1 ∨ n = 2) (hj : G.jp = jp := by rfl) (hs : PlainIx (.Constant (.int n) kk ip) := by exact fun _ _ => rfl) : PE X (.Subscript a (.Constant (.int n) kk ip) pos) (tD G E (fJar jp n A)) :=
  (pe_ix ix_list ha pe_int hs).weak fun s H Q ⟨w0, H0, r, w, QD, EX, fr, lk, f0, k⟩ => ⟨w0, H0, r, w, _, EX, fr, lk, f0, fun d v w1 H1 l1 ok1 r1 q1 => by
    cases d <;> try exact q1.elim
    obtain ⟨a, rfl, j⟩ := r1.jar_of
    obtain ⟨_, x, y, z, h, g⟩ := ok1.jar a j
    rw [(fr.go l1 ok1).gm, hj] at g
    have fin : ∀ (v : Int), atI [V.int x, .int y, .int z] n = some (.int v) → QD (.int v) w1.sg → ∃ p vs i u, V.ref a = .ref p ∧ V.int n = .int i ∧ SqL X.K H1 p vs ∧ atI vs i = some u ∧ Q u H1 := fun v e q =>
      ⟨a, _, n, _, rfl, rfl, .inl (.of h), e, k _ _ w1 H1 l1 ok1 Rep.int q⟩
    rcases hn with rfl | rfl | rfl
    · exact fin x rfl (q1 x y z g)
    · exact fin y rfl (q1 x y z g)
    · exact fin z rfl (q1 x y z g)⟩
/-- the count goes on -/
def Wd.cnt (w : Wd) (k : Nat) : Wd := ⟨w.hd, w.jr, w.ja, w.tb, w.gm, ⟨k, w.sg.cs⟩, w.dk⟩
theorem Sub.cnt {w : Wd} {k : Nat} : Sub w (w.cnt k) := ⟨fun _ _ h => h, fun _ h => h, fun _ h => h, rfl, rfl, fun _ _ h => h⟩
theorem Fr.jar {w0 : Wd} {H0 : Hp} {r : Env} {s : L2.St} {w : Wd} {H : Hp} {a : Addr} {o : HO} {k : Nat} (f : Fr G w0 H0 r s w H) (j : w.ja a) (mono : ∀ d t c : Int, G.jp w.sg.n d t c → G.jp k d t c) (ho : ∃ d t c : Int, o = .lst [.int d, .int t, .int c] ∧ G.jp k d t c) : Fr G w0 H0 r s (w.cnt k) (upd H a o) where
  gm := f.gm
  ok := by
    have jr := (f.ok.jar a j).1
    obtain ⟨hn, _⟩ := f.ok.jn a jr
    refine ⟨fun b u e => ?_, fun b jb => ?_, fun b jb => ?_, fun q m => ?_, fun i p m => ?_, f.ok.cne, f.ok.cln, f.ok.cnc⟩
    · rw [upd_ne (ne_of_none e hn)]; exact f.ok.sub b u e
    · obtain ⟨e, z⟩ := f.ok.jn b jb
      refine ⟨e, ?_⟩
      by_cases q : b = a
      · subst q; rw [upd_same]; exact fun y => by cases y
      · rw [upd_ne q]; exact z
    · obtain ⟨e, d, t, c, z, g⟩ := f.ok.jar b jb
      show w.jr b ∧ ∃ d t c : Int, upd H a o b = some (.lst [.int d, .int t, .int c]) ∧ w.gm.jp k d t c
      rw [f.gm] at g ⊢
      by_cases q : b = a
      · subst q
        obtain ⟨d, t, c, eo, g⟩ := ho
        exact ⟨e, d, t, c, by rw [upd_same, eo], g⟩
      · exact ⟨e, d, t, c, by rw [upd_ne q]; exact z, mono d t c g⟩
    · obtain ⟨e, t⟩ := f.ok.tab q m
      refine ⟨e, t.go (upd_ne fun y => ?_) fun _ _ z => z⟩
      obtain ⟨ps, z, _⟩ := t
      obtain ⟨_, _, _, _, z2, _⟩ := f.ok.jar a j
      rw [y, z2] at z; cases z
    · obtain ⟨e, c, ds, fs, e1, e2, e3, e4⟩ := f.ok.cel i p m
      have ne : p.1 ≠ a := fun y => by
        obtain ⟨_, _, _, _, z2, _⟩ := f.ok.jar a j
        rw [y, z2] at e2; cases e2
      exact ⟨e, c, ds, fs, e1, by rw [upd_ne ne]; exact e2, e3, e4.mono Sub.cnt⟩
  le := by
    refine ⟨f.le.sub.trans .cnt, fun b u e nj => ?_, f.le.old, f.le.oldh, fun b e => ?_⟩
    · by_cases q : b = a
      · subst q
        exact absurd (f.le.old b (by rw [e]; exact fun z => by cases z) (f.ok.jar b j).1) nj
      · rw [upd_ne q]; exact f.le.keep b u e nj
    · by_cases q : b = a
      · subst q; rw [upd_same]; exact fun z => by cases z
      · rw [upd_ne q]; exact f.le.dom b e
  len := f.len
  slot := fun i x e => by
    have h := f.slot i x e
    have ne : ∀ b, Mine H0 w b → b ≠ a := fun b m e => m.2.1 (by rw [e]; exact (f.ok.jar a j).1)
    cases x with
    | un => trivial
    | val d => obtain ⟨v, e2, r1⟩ := h; exact ⟨v, e2, r1.mono .cnt⟩
    | own ds => obtain ⟨b, vs, e2, m, h1, r1⟩ := h; exact ⟨b, vs, e2, m, by rw [upd_ne (ne b m)]; exact h1, r1.mono .cnt⟩
    | ownd ks ds => obtain ⟨b, vs, e2, m, h1, hl, r1⟩ := h; exact ⟨b, vs, e2, m, by rw [upd_ne (ne b m)]; exact h1, hl, r1.mono .cnt⟩
    | slf x c ds => obtain ⟨b, dx, fs, e2, m, h1, hl, hz, r1, ax⟩ := h; exact ⟨b, dx, fs, e2, m, by rw [upd_ne (ne b m)]; exact h1, hl, hz, r1.mono .cnt, ax⟩
  dist := f.dist
/-- J[n] = e: a count k is chosen by which all jars keep what they keep -/
def JpSet (jp : JP) (n m : Int) (n0 k : Nat) : Prop := (∀ a b c : Int, jp n0 a b c → jp k a b c) ∧ ∀ a b c : Int, jp n0 a b c → jp k (if n = 0 then m else a) (if n = 1 then m else b) (if n = 2 then m else c)
def sJar (jp : JP) (n : Int) (i : Nat) (A : FE) : FS := fun B EX r σ => A r (fun d σ => match d with
  | .int m => (match r[i]? with
    | some (.val .jar) => ∃ k, JpSet jp n m σ.n k ∧ B.nx r ⟨k, σ.cs⟩
    | _ => False)
  | _ => False) EX σ
theorem cs_jar {jp : JP} {i : Nat} {x : Str} {e : Expr} {n : Int} {p ip spos pos : Pos} {kk} {A : FE} (he : PE X e (tD G E A)) (hn : n = 0 ∨ n = 1 ∨ n = 2) (hj : G.jp = jp := by rfl) (hN : X.N[i]? = some x := by rfl) (hv : Vis X.env.scope x := by first | exact Or.inl rfl | exact Or.inr (Or.inl rfl) | exact Or.inr (Or.inr rfl))
    (hd : (x == ("__debug__" : Str)) = false := by decide) (hcd : (x == ("__classdict__" : Str)) = false := by decide)
    (ha : ∀ v, assign (.Subscript (.Name x p) (.Constant (.int n) kk ip) spos) X.env v = (do
      let ov ← holding [v] (eval (.Name x p) X.env)
      let iv ← holding [v, ov] (eval (.Constant (.int n) kk ip) X.env)
      standAt spos
      holding [v, ov, iv] (setItem ov iv v)
      release [v, ov, iv] []) := by intro _; rfl)
    (hs : swapsWithSole [.Subscript (.Name x p) (.Constant (.int n) kk ip) spos] e pos.line X.env = pure false := by rfl) (hw : swappedStores [.Subscript (.Name x p) (.Constant (.int n) kk ip) spos] e X.env = pure none := by rfl)
    (h1 : (assignEach [.Subscript (.Name x p) (.Constant (.int n) kk ip) spos] X.env).map (·.2) = [assign (.Subscript (.Name x p) (.Constant (.int n) kk ip) spos) X.env] := by rfl) :
    PS X (.Assign [.Subscript (.Name x p) (.Constant (.int n) kk ip) spos] e pos) (sD G E (sJar jp n i A)) :=
  (ps_asg he (pg_sub (pe_var hN hv hd hcd) pe_int set_list ha) hs hw h1).weak fun B s H ⟨w0, H0, wk, r, w, A', EX, fr, sb, lk, ll, f0⟩ => ⟨w0, H0, r, w, _, EX, fr, lk, f0, fun d v w1 H1 l1 ok1 r1 q1 => by
    cases d <;> try exact q1.elim
    rename_i m
    dsimp only at q1
    have fr1 := fr.go l1 ok1
    cases e1 : r[i]? with
    | none => rw [e1] at q1; exact q1.elim
    | some sl =>
      rw [e1] at q1
      cases sl <;> try exact q1.elim
      rename_i d
      cases d <;> try exact q1.elim
      obtain ⟨k, ⟨mo, st⟩, q1⟩ := q1
      obtain ⟨u, e2, ru⟩ := fr1.slot i _ e1
      obtain ⟨a, rfl, j⟩ := ru.jar_of
      obtain ⟨_, x0, y0, z0, h, g⟩ := ok1.jar a j
      rw [fr1.gm, hj] at g
      have ev := r1.int_of
      subst ev
      have fin : ∀ jn, ixN 3 n = some jn → (∃ d t c : Int, (HO.lst ([V.int x0, .int y0, .int z0].set jn (.int m))) = .lst [.int d, .int t, .int c] ∧ G.jp k d t c) → _ := fun jn e3 e4 =>
        (⟨.ref a, e2, ⟨a, [V.int x0, .int y0, .int z0], n, jn, rfl, rfl, h, e3, ll.nx _ _ (w1.cnt k) _ (fr1.jar j (by rw [hj]; exact mo) e4) ((sb.trans l1.sub).trans .cnt) q1⟩⟩ : gSub (tVar i) (tC (.int n)) rSetL (.int m) s H1 fun s' H' => B.nx s' H')
      have st := st x0 y0 z0 g
      rw [← hj] at st
      rcases hn with rfl | rfl | rfl
      · exact fin 0 rfl ⟨_, _, _, rfl, st⟩
      · exact fin 1 rfl ⟨_, _, _, rfl, st⟩
      · exact fin 2 rfl ⟨_, _, _, rfl, st⟩⟩
/-- return [d, s, c]: a new jar -/
def sRetJar (jp : JP) (F : FA) : FS := fun A EX r σ => F r (fun ds σ => match ds with
  | [.int x, .int y, .int z] => jp σ.n x y z ∧ A.rt .jar σ
  | _ => False) EX σ
theorem cs_retJar {jp : JP} {e : Expr} {pos : Pos} {F : FA} (he : PE X e (fD G E F)) (hj : G.jp = jp := by rfl) : PS X (.Return (some e) pos) (sD G E (sRetJar jp F)) := (ps_ret he).weak fun B s H ⟨w0, H0, wk, r, w, A, EX, fr, sb, lk, ll, f⟩ =>
  ⟨w0, H0, r, w, _, EX, fr, lk, f, fun ds a vs w1 H1 l1 ok1 hn m h1 r1 q1 => by
    match ds, q1 with
    | [.int x, .int y, .int z], ⟨qj, q1⟩ =>
      have ev := Reps.ints (ns := [x, y, z]) r1
      subst ev
      have l := fr.le.trans l1
      have gm1 := (fr.go l1 ok1).gm
      have sb1 : Sub w1 ⟨w1.hd, fun b => b = a ∨ w1.jr b, fun b => b = a ∨ w1.ja b, w1.tb, w1.gm, w1.sg, w1.dk⟩ := ⟨fun _ _ h => h, fun b j => .inr j, fun b j => .inr j, rfl, rfl, fun _ _ h => h⟩
      refine ll.rt .jar _ ⟨w1.hd, fun b => b = a ∨ w1.jr b, fun b => b = a ∨ w1.ja b, w1.tb, w1.gm, w1.sg, w1.dk⟩ H1 ⟨l.sub.trans sb1, l.keep, fun b h j => ?_, l.oldh, l.dom⟩ ⟨ok1.sub, fun b j => ?_, fun b j => ?_, fun q m => ?_, fun i p m => ?_, ok1.cne, ok1.cln, ok1.cnc⟩ ?_ q1
      · rcases j with rfl | j
        · exact absurd m.2.2 h
        · exact l.old b h j
      · rcases j with rfl | j
        · exact ⟨m.1, by rw [h1]; exact fun z => by cases z⟩
        · exact ok1.jn b j
      · rcases j with rfl | j
        · exact ⟨.inl rfl, x, y, z, h1, by rw [gm1, hj]; exact qj⟩
        · obtain ⟨e, r⟩ := ok1.jar b j
          exact ⟨.inr e, r⟩
      · obtain ⟨e, t⟩ := ok1.tab q m
        exact ⟨.inr e, t.go rfl fun _ _ z => z⟩
      · obtain ⟨e, c, ds, fs, e1, e2, e3, e4⟩ := ok1.cel i p m
        exact ⟨.inr e, c, ds, fs, e1, e2, e3, e4.mono sb1⟩
      · unfold Rep
        exact ⟨a, rfl, .inl rfl⟩⟩

end DL
/-! What the readings compute: a run over data, part 1. -/
namespace DL
open PySem L2 PyProof.Rows

inductive R (α : Type) where
  | ok (a : α)
  | ex (x : XD)
  | no
/-- predicates at one state -/
abbrev XQ := XD → Prop
structure DP where
  nx : Env → Prop
  rt : D → Prop
  bk : Env → Prop := fun _ => False
  ct : Env → Prop := fun _ => False
  rn : List D → Prop := fun _ => False
abbrev NoQ : XQ := fun _ => False
@[reducible] def DE.at_ (A : DE) (σ : Sg) : DP := ⟨fun r => A.nx r σ, fun d => A.rt d σ, fun r => A.bk r σ, fun r => A.ct r σ, fun ds => A.rn ds σ⟩
@[reducible] def XP.at_ (EX : XP) (σ : Sg) : XQ := fun x => EX x σ
def R.hold {α : Type} : R α → (α → Prop) → XQ → Prop
  | .ok a, Q, _ => Q a
  | .ex x, _, EX => EX x
  | .no, _, _ => False
def R.bind {α β : Type} : R α → (α → R β) → R β
  | .ok a, f => f a
  | .ex x, _ => .ex x
  | .no, _ => .no
theorem hold_bind {α β : Type} {m : R α} {f : α → R β} {Q : β → Prop} {EX : XQ} (h : (m.bind f).hold Q EX) : m.hold (fun a => (f a).hold Q EX) EX := by
  cases m <;> exact h
theorem R.hold.imp {α : Type} {m : R α} {Q Q' : α → Prop} {EX : XQ} (h : m.hold Q EX) (k : ∀ a, Q a → Q' a) : m.hold Q' EX := by
  cases m with
  | ok a => exact k a h
  | ex x => exact h
  | no => exact h
def R.ofO {α : Type} : Option α → R α
  | some a => .ok a
  | none => .no
theorem hold_ofO {α : Type} {o : Option α} {Q : α → Prop} {EX : XQ} (h : (R.ofO o).hold Q EX) : ∃ a, o = some a ∧ Q a := by
  cases o with
  | none => exact h.elim
  | some a => exact ⟨a, rfl, h⟩
/-! ### values made plain ahead of their use (no law is changed by it: it is how the kernel reckons) -/
section
variable {β : Type}
def frcN : List Nat → (List Nat → β) → β
  | [], k => k []
  | x :: xs, k => frcN xs fun ys => k (x :: ys)
theorem frcN_eq : ∀ (l : List Nat) (k : List Nat → β), frcN l k = k l
  | [], k => rfl
  | x :: xs, k => by unfold frcN; rw [frcN_eq xs]
def frcS : Str → (Str → β) → β
  | ⟨⟨l⟩⟩, k => frcN l fun l' => k ⟨⟨l'⟩⟩
theorem frcS_eq : ∀ (l : Str) (k : Str → β), frcS l k = k l
  | ⟨⟨l⟩⟩, k => by show (frcN l fun l' => k ⟨⟨l'⟩⟩) = _; rw [frcN_eq]
mutual
def frc : D → (D → β) → β
  | .non, k => k .non
  | .bl true, k => k (.bl true)
  | .bl false, k => k (.bl false)
  | .int (.ofNat n), k => k (.int (.ofNat n))
  | .int (.negSucc n), k => k (.int (.negSucc n))
  | .str s, k => frcS s fun t => k (.str t)
  | .tup ds, k => frcs ds fun es => k (.tup es)
  | .lst ds, k => frcs ds fun es => k (.lst es)
  | .dic ks ds, k => frcs ds fun es => k (.dic ks es)
  | .obj c ds, k => frcs ds fun es => k (.obj c es)
  | .exc c ds, k => frcs ds fun es => k (.exc c es)
  | .jar, k => k .jar
  | .cel i, k => k (.cel i)
def frcs : List D → (List D → β) → β
  | [], k => k []
  | d :: ds, k => frc d fun e => frcs ds fun es => k (e :: es)
end
mutual
theorem frc_eq : ∀ (d : D) (k : D → β), frc d k = k d
  | .non, k => by unfold frc; rfl
  | .bl true, k => by unfold frc; rfl
  | .bl false, k => by unfold frc; rfl
  | .int (.ofNat n), k => by unfold frc; rfl
  | .int (.negSucc n), k => by unfold frc; rfl
  | .str s, k => by unfold frc; rw [frcS_eq]
  | .tup ds, k => by unfold frc; rw [frcs_eq]
  | .lst ds, k => by unfold frc; rw [frcs_eq]
  | .dic ks ds, k => by unfold frc; rw [frcs_eq]
  | .obj c ds, k => by unfold frc; rw [frcs_eq]
  | .exc c ds, k => by unfold frc; rw [frcs_eq]
  | .jar, k => by unfold frc; rfl
  | .cel _, k => by unfold frc; rfl
theorem frcs_eq : ∀ (d : List D) (k : List D → β), frcs d k = k d
  | [], k => by unfold frcs; rfl
  | d :: ds, k => by unfold frcs; rw [frc_eq, frcs_eq]
end
end
/-- order of code points, quick -/
def ltN : List Nat → List Nat → Bool
  | [], [] => false
  | [], _ :: _ => true
  | _ :: _, [] => false
  | a :: r, b :: t => match Nat.blt a b with
    | true => true
    | false => match Nat.beq a b with
      | true => ltN r t
      | false => false
theorem ltN_eq : ∀ a b : List Nat, ltN a b = decide (a < b)
  | [], [] => by simp [ltN]
  | [], _ :: _ => by simp [ltN]
  | _ :: _, [] => by simp [ltN]
  | a :: r, b :: t => by
    have ih := ltN_eq r t
    unfold ltN
    have e : decide (a :: r < b :: t) = (decide (a < b) || (decide (a = b) && decide (r < t))) := by
      rw [Bool.eq_iff_iff]
      simp [List.cons_lt_cons_iff]
    rw [e, ← ih]
    have h1 : Nat.blt a b = decide (a < b) := by
      rw [Bool.eq_iff_iff]; simp [Nat.blt_eq]
    have h2 : Nat.beq a b = decide (a = b) := by
      rw [Bool.eq_iff_iff]; simp
    rw [h1, h2]
    cases decide (a < b) <;> cases decide (a = b) <;> rfl
def ltF (i j : Str) : Bool := ltN i.cps.toList j.cps.toList
theorem ltF_eq : ltF = ltS := by
  funext i j
  exact ltN_eq _ _
/-- a place, quick -/
def atF {α : Type} (xs : List α) : Int → Option α
  | .ofNat n => xs[n]?
  | .negSucc n => if n < xs.length then xs[xs.length - 1 - n]? else none
theorem atF_eq {α : Type} (xs : List α) (i : Int) : atF xs i = atI xs i := by
  cases i with
  | ofNat n =>
    show xs[n]? = (ixN xs.length ((n : Nat) : Int)).bind fun j => xs[j]?
    unfold ixN
    rw [if_pos (Int.natCast_nonneg n)]
    by_cases h : n < xs.length
    · rw [if_pos (by omega)]
      simp
    · rw [if_neg (by omega), List.getElem?_eq_none (by omega)]
      rfl
  | negSucc n =>
    show (if n < xs.length then xs[xs.length - 1 - n]? else none) = (ixN xs.length (Int.negSucc n)).bind fun j => xs[j]?
    unfold ixN
    have e : (Int.negSucc n : Int) = -((n : Int) + 1) := by omega
    have neg : ¬ (0 ≤ Int.negSucc n) := by omega
    by_cases h : n < xs.length
    · rw [if_pos h, if_neg neg, if_pos (by omega)]
      show xs[xs.length - 1 - n]? = xs[(Int.negSucc n + (xs.length : Int)).toNat]?
      congr 1
      omega
    · rw [if_neg h, if_neg neg, if_neg (by omega)]
      rfl

/-- the same envs, the object that is being made at x -/
def adr (x : Addr) : Sl → Sl
  | .slf _ c ds => .slf x c ds
  | y => y
def Sim (x : Addr) (r r' : Env) : Prop := r' = r.map (adr x)
section
variable {x : Addr} {r r' : Env}
theorem Sim.at (h : Sim x r r') (i : Nat) : r'[i]? = (r[i]?).map (adr x) := by
  rw [show r' = r.map (adr x) from h, List.getElem?_map]
theorem Sim.set (h : Sim x r r') (i : Nat) (y : Sl) (hy : adr x y = y := by rfl) : Sim x (r.set i y) (r'.set i y) := by
  unfold Sim
  rw [List.map_set, hy, show r' = r.map (adr x) from h]
theorem Sim.val (h : Sim x r r') {i : Nat} {d : D} (e : r[i]? = some (.val d)) : r'[i]? = some (.val d) := by rw [h.at i, e]; rfl
theorem Sim.own (h : Sim x r r') {i : Nat} {ds : List D} (e : r[i]? = some (.own ds)) : r'[i]? = some (.own ds) := by rw [h.at i, e]; rfl
theorem Sim.ownd (h : Sim x r r') {i : Nat} {ks : List Key} {ds : List D} (e : r[i]? = some (.ownd ks ds)) : r'[i]? = some (.ownd ks ds) := by rw [h.at i, e]; rfl
theorem Sim.slf (h : Sim x r r') {i : Nat} {y : Addr} {c : Nat} {ds : List D} (e : r[i]? = some (.slf y c ds)) : r'[i]? = some (.slf x c ds) := by rw [h.at i, e]; rfl
theorem Sim.setSlf (h : Sim x r r') (i : Nat) (y : Addr) (c : Nat) (ds : List D) : Sim x (r.set i (.slf y c ds)) (r'.set i (.slf x c ds)) := by
  unfold Sim
  rw [List.map_set, show r' = r.map (adr x) from h]
  rfl
theorem Sim.wipe (h : Sim x r r') : ∀ vs : List Nat, Sim x (wipeD r vs) (wipeD r' vs)
  | [] => h
  | v :: vs => (Sim.wipe h vs).set v .un
theorem map_adr_vals {ds : List D} {n : Nat} : (ds.map Sl.val ++ List.replicate n Sl.un).map (adr x) = ds.map Sl.val ++ List.replicate n Sl.un := by
  rw [List.map_append, List.map_map, List.map_replicate]
  rfl
theorem Sim.startD {N : List Str} {ds : List D} : Sim x (startD N ds) (startD N ds) := by
  unfold Sim DL.startD
  rw [map_adr_vals]
theorem Sim.startI {N : List Str} {c : Nat} {ds : List D} {y : Addr} : Sim x (startI N y c ds) (startI N x c ds) := by
  unfold Sim DL.startI
  rw [List.map_cons, map_adr_vals]
  rfl
end
def CF {α : Type} (F : Env → (α → Pr) → XP → Pr) (c : Env → R α) : Prop := ∀ {x : Addr} r r' Q EX σ, Sim x r r' → (c r).hold (fun a => Q a σ) (fun x => EX x σ) → F r' Q EX σ

/-! ### names, constants -/
def xVar (i : Nat) (r : Env) : R D := match r[i]? with
  | some (.val d) => .ok d
  | _ => .no
def xSee (i : Nat) (r : Env) : R D := match r[i]? with
  | some (.val d) => .ok d
  | some (.own ds) => .ok (.lst ds)
  | some (.ownd ks ds) => .ok (.dic ks ds)
  | _ => .no
def xC (d : D) (_ : Env) : R D := .ok d
theorem f_var {i : Nat} : CF (fVar i) (xVar i) := fun r r' Q EX σ s h => by
  unfold xVar at h
  unfold fVar
  cases e : r[i]? with
  | none => rw [e] at h; exact h.elim
  | some x =>
    rw [e] at h
    cases x <;> try exact h.elim
    rw [s.val e]
    exact h
theorem f_see {i : Nat} : CF (fSee i) (xSee i) := fun r r' Q EX σ s h => by
  unfold xSee at h
  unfold fSee
  cases e : r[i]? with
  | none => rw [e] at h; exact h.elim
  | some x =>
    rw [e] at h
    cases x <;> try exact h.elim
    · rw [s.val e]; exact h
    · rw [s.own e]; exact h
    · rw [s.ownd e]; exact h
theorem f_c {d : D} : CF (fC d) (xC d) := fun r r' Q EX σ s h => h

/-! ### operators -/
def gd (p : Prop) [Decidable p] (a : D) : Option D := if p then some a else none
theorem gd_some {p : Prop} [Decidable p] {a d : D} (h : gd p a = some d) : p ∧ a = d := by
  unfold gd at h
  by_cases q : p
  · rw [if_pos q] at h; exact ⟨q, Option.some.inj h⟩
  · rw [if_neg q] at h; cases h
abbrev O2 := D → D → Option D
def CG2 (g : G2) (c : O2) : Prop := ∀ x y d Q σ, c x y = some d → Q d σ → g x y Q σ
def x2 (c : O2) (a b : Env → R D) (r : Env) : R D := (a r).bind fun x => (b r).bind fun y => R.ofO (c x y)
theorem f_2 {g : G2} {c : O2} {A B : FE} {a b : Env → R D} (hg : CG2 g c) (ha : CF A a) (hb : CF B b) : CF (f2 g A B) (x2 c a b) := fun r r' Q EX σ s h =>
  ha r r' _ EX σ s ((hold_bind h).imp fun x h1 => hb r r' _ EX σ s ((hold_bind h1).imp fun y h2 => by
    obtain ⟨d, e, q⟩ := hold_ofO h2
    exact hg x y d Q σ e q))
def addX : O2
  | .int i, .int j => some (.int (i + j))
  | .str i, .str j => gd (i.length + j.length ≤ sizeLine) (.str (i ++ j))
  | .tup a, .tup b => gd (a.length + b.length ≤ sizeLine) (.tup (a ++ b))
  | .lst a, .lst b => gd (a.length + b.length ≤ sizeLine) (.lst (a ++ b))
  | _, _ => none
theorem g_add : CG2 addD addX := fun x y d Q σ e q => by
  cases x <;> cases y <;> first | (cases e; done) | skip
  · cases e; exact q
  all_goals
    obtain ⟨h, rfl⟩ := gd_some e
    exact ⟨h, q⟩
instance decMul (i j : Int) : Decidable (CMul i j) := by unfold CMul; exact inferInstance
instance decDivN (i j : Int) : Decidable (CDivN i j) := by unfold CDivN; exact inferInstance
instance decPow (i j : Int) : Decidable (CPow i j) := by unfold CPow; exact inferInstance
def ordX (p : Int → Int → Bool) (q : Str → Str → Bool) : O2
  | .int i, .int j => some (.bl (p i j))
  | .str i, .str j => some (.bl (q i j))
  | _, _ => none
theorem g_ord {p : Int → Int → Bool} {q : Str → Str → Bool} : CG2 (ordD p q) (ordX p q) := fun x y d Q σ e h => by
  cases x <;> cases y <;> first | (cases e; done) | (cases e; exact h)
abbrev ltX : O2 := ordX (fun i j => decide (i < j)) ltF
abbrev leX : O2 := ordX (fun i j => decide (i ≤ j)) fun i j => !ltF j i
abbrev gtX : O2 := ordX (fun i j => decide (j < i)) fun i j => ltF j i
abbrev geX : O2 := ordX (fun i j => decide (j ≤ i)) fun i j => !ltF i j
theorem g_lt : CG2 ltD ltX := by
  unfold ltX
  rw [ltF_eq]
  exact g_ord
theorem g_le : CG2 leD leX := by
  unfold leX
  rw [ltF_eq]
  exact g_ord
theorem g_gt : CG2 gtD gtX := by
  unfold gtX
  rw [ltF_eq]
  exact g_ord
def shpB (d : D) : Bool := plain d && SeqAt.shaped (pd d)
theorem shpB_iff {d : D} (h : shpB d = true) : shp d := by
  unfold shpB at h
  rw [Bool.and_eq_true] at h
  exact h
def eqX : O2 := fun x y => match bothS x y with
  | some b => some (.bl b)
  | none => gd ((shpB x && shpB y) = true) (.bl (eqb x y))
def neX : O2 := fun x y => match bothS x y with
  | some b => some (.bl (!b))
  | none => gd ((shpB x && shpB y) = true) (.bl (!eqb x y))
theorem g_eq : CG2 eqD eqX := fun x y d Q σ e q => by
  unfold eqX at e
  unfold eqD
  cases z : bothS x y with
  | some b => rw [z] at e; cases e; exact q
  | none =>
    rw [z] at e
    obtain ⟨h, rfl⟩ := gd_some e
    rw [Bool.and_eq_true] at h
    exact ⟨shpB_iff h.1, shpB_iff h.2, q⟩
theorem g_ne : CG2 neD neX := fun x y d Q σ e q => by
  unfold neX at e
  unfold neD
  cases z : bothS x y with
  | some b => rw [z] at e; cases e; exact q
  | none =>
    rw [z] at e
    obtain ⟨h, rfl⟩ := gd_some e
    rw [Bool.and_eq_true] at h
    exact ⟨shpB_iff h.1, shpB_iff h.2, q⟩
def isX : O2
  | .lst _, .non => none
  | .dic _ _, .non => none
  | x, .non => some (.bl (isNon x))
  | _, _ => none
def isnX : O2
  | .lst _, .non => none
  | .dic _ _, .non => none
  | x, .non => some (.bl (!isNon x))
  | _, _ => none
theorem g_is : CG2 isD isX := fun x y d Q σ e q => by
  cases y <;> cases x <;> first | (cases e; done) | (cases e; exact ⟨fun _ z => (nomatch z), fun _ _ z => (nomatch z), q⟩)
theorem g_isn : CG2 isnD isnX := fun x y d Q σ e q => by
  cases y <;> cases x <;> first | (cases e; done) | (cases e; exact ⟨fun _ z => (nomatch z), fun _ _ z => (nomatch z), q⟩)
def inX (neg : Bool) : O2 := fun x y => match y with
  | .tup ds => gd ((flatD x && ds.all flatD) = true) (.bl (neg != ds.any fun z => eqb z x))
  | .lst ds => gd ((shpB x && shpB (.lst ds)) = true) (.bl (neg != ds.any fun z => eqb z x))
  | .str z => match x with
    | .str c => match c.cps.toList with
      | [n] => some (.bl (neg != decide (n ∈ z.cps.toList)))
      | _ => none
    | _ => none
  | .dic ks _ => match x with
    | .str c => some (.bl (neg != ks.any fun k => decide (k = Sum.inr c)))
    | .int c => some (.bl (neg != ks.any fun k => decide (k = Sum.inl c)))
    | _ => none
  | _ => none
theorem str_one {c : Str} {n : Nat} (h : c.cps.toList = [n]) : c = ⟨#[n]⟩ := by
  cases c with
  | mk a =>
    have : a = #[n] := Array.toList_inj.mp h
    rw [this]
theorem g_in {neg : Bool} : CG2 (inD neg) (inX neg) := fun x y d Q σ e q => by
  cases y <;> first | (cases e; done) | skip
  · rename_i z
    cases x <;> first | (cases e; done) | skip
    rename_i c
    unfold inX at e
    dsimp only at e
    match h : c.cps.toList, e with
    | [n], e => cases e; exact ⟨n, str_one h, q⟩
  · obtain ⟨h, rfl⟩ := gd_some e
    rw [Bool.and_eq_true] at h
    exact ⟨h.1, h.2, q⟩
  · obtain ⟨h, rfl⟩ := gd_some e
    rw [Bool.and_eq_true] at h
    exact ⟨shpB_iff h.1, shpB_iff h.2, q⟩
  · cases x <;> first | (cases e; done) | (cases e; exact q)
def ixX : O2 := fun x y => match x, y with
  | .tup ds, .int i => atF ds i
  | .lst ds, .int i => atF ds i
  | .str z, .int i => (atF z.cps.toList i).bind fun c => if Nat.ble z.length 16777216 = true then some (.str ⟨#[c]⟩) else none
  | .dic ks ds, y => (keyD y).bind fun k => dget ks ds k
  | _, _ => none
theorem g_ix : CG2 ixD ixX := fun x y d Q σ e q => by
  cases x <;> first | (cases e; done) | (cases y <;> (cases e; done)) | skip
  · rename_i z
    cases y <;> first | (cases e; done) | skip
    rename_i i
    obtain ⟨c, h1, h2⟩ := Option.bind_eq_some_iff.mp (show (atF z.cps.toList i).bind (fun c => if Nat.ble z.length 16777216 = true then some (D.str ⟨#[c]⟩) else none) = some d from e)
    by_cases hz : Nat.ble z.length 16777216 = true
    · rw [if_pos hz] at h2
      cases h2
      rw [atF_eq] at h1
      exact ⟨i, c, rfl, by rw [sizeLine_eq]; exact Nat.le_of_ble_eq_true hz, h1, q⟩
    · rw [if_neg hz] at h2; cases h2
  · cases y <;> first | (cases e; done) | skip
    exact ⟨_, d, rfl, by rw [← atF_eq]; exact e, q⟩
  · cases y <;> first | (cases e; done) | skip
    exact ⟨_, d, rfl, by rw [← atF_eq]; exact e, q⟩
  · rename_i ks ds
    obtain ⟨k, h1, h2⟩ := Option.bind_eq_some_iff.mp (show (keyD y).bind (fun k => dget ks ds k) = some d from e)
    exact ⟨k, d, h1, h2, q⟩
end DL
/-! What the readings compute: a run over data, part 2. -/
namespace DL
open PySem L2 PyProof.Rows

/-! ### tests, chains, and or not if -/
def xTb (a : Env → R D) (r : Env) : R Bool := (a r).bind fun d => match d with
  | .bl b => .ok b
  | _ => .no
theorem f_tb {A : FE} {a : Env → R D} (ha : CF A a) : CF (fTb A) (xTb a) := fun r r' Q EX σ s h => ha r r' _ EX σ s ((hold_bind h).imp fun d h1 => by
  cases d <;> first | exact h1.elim | exact ⟨_, rfl, h1⟩)
def xChain (c c' : O2) (a b e : Env → R D) (r : Env) : R D := (a r).bind fun x => (b r).bind fun y => match c x y with
  | some (.bl true) => (e r).bind fun u => R.ofO (c' y u)
  | some (.bl false) => .ok (.bl false)
  | _ => .no
theorem f_chain {g g' : G2} {c c' : O2} {A B C : FE} {a b e : Env → R D} (hg : CG2 g c) (hg' : CG2 g' c') (ha : CF A a) (hb : CF B b) (he : CF C e) : CF (fChain g g' A B C) (xChain c c' a b e) := fun r r' Q EX σ s h =>
  ha r r' _ EX σ s ((hold_bind h).imp fun x h1 => hb r r' _ EX σ s ((hold_bind h1).imp fun y h2 => by
    cases z : c x y with
    | none => rw [z] at h2; exact h2.elim
    | some d =>
      rw [z] at h2
      cases d <;> try exact h2.elim
      rename_i v
      refine hg x y _ _ _ z ⟨v, rfl, ?_⟩
      cases v with
      | false => rw [if_neg Bool.false_ne_true]; exact h2
      | true =>
        rw [if_pos rfl]
        exact he r r' _ EX σ s ((hold_bind h2).imp fun u h3 => by
          obtain ⟨d, e2, q⟩ := hold_ofO h3
          exact hg' y u d Q _ e2 q)))
def xAndT (a b : Env → R Bool) (r : Env) : R Bool := (a r).bind fun v => if v = true then b r else .ok false
def xOrT (a b : Env → R Bool) (r : Env) : R Bool := (a r).bind fun v => if v = true then .ok true else b r
def xNotT (a : Env → R Bool) (r : Env) : R Bool := (a r).bind fun v => .ok (!v)
theorem f_andT {A B : FT} {a b : Env → R Bool} (ha : CF A a) (hb : CF B b) : CF (fAndT A B) (xAndT a b) := fun r r' Q EX σ s h => ha r r' _ EX σ s ((hold_bind h).imp fun v h1 => by
  cases v with
  | true => rw [if_pos rfl] at h1 ⊢; exact hb r r' Q EX σ s h1
  | false => rw [if_neg Bool.false_ne_true] at h1 ⊢; exact h1)
theorem f_orT {A B : FT} {a b : Env → R Bool} (ha : CF A a) (hb : CF B b) : CF (fOrT A B) (xOrT a b) := fun r r' Q EX σ s h => ha r r' _ EX σ s ((hold_bind h).imp fun v h1 => by
  cases v with
  | true => rw [if_pos rfl] at h1 ⊢; exact h1
  | false => rw [if_neg Bool.false_ne_true] at h1 ⊢; exact hb r r' Q EX σ s h1)
theorem f_notT {A : FT} {a : Env → R Bool} (ha : CF A a) : CF (fNotT A) (xNotT a) := fun r r' Q EX σ s h => ha r r' _ EX σ s ((hold_bind h).imp fun v h1 => h1)
def xAnd (a b : Env → R D) (r : Env) : R D := (a r).bind fun d => match d with
  | .bl v => if v = true then b r else .ok (.bl false)
  | _ => .no
def xOr (a b : Env → R D) (r : Env) : R D := (a r).bind fun d => match d with
  | .bl v => if v = true then .ok (.bl true) else b r
  | _ => .no
def xNot (a : Env → R D) (r : Env) : R D := (a r).bind fun d => match d with
  | .bl v => .ok (.bl (!v))
  | _ => .no
def xIf (t : Env → R Bool) (a b : Env → R D) (r : Env) : R D := (t r).bind fun v => if v = true then a r else b r
theorem f_and {A B : FE} {a b : Env → R D} (ha : CF A a) (hb : CF B b) : CF (fAnd A B) (xAnd a b) := fun r r' Q EX σ s h => ha r r' _ EX σ s ((hold_bind h).imp fun d h1 => by
  cases d <;> try exact h1.elim
  rename_i v
  refine ⟨v, rfl, ?_⟩
  cases v with
  | true => exact hb r r' Q EX σ s h1
  | false => exact h1)
theorem f_not {A : FE} {a : Env → R D} (ha : CF A a) : CF (fNot A) (xNot a) := fun r r' Q EX σ s h => ha r r' _ EX σ s ((hold_bind h).imp fun d h1 => by
  cases d <;> try exact h1.elim
  exact ⟨_, rfl, h1⟩)
theorem f_if {T : FT} {A B : FE} {t : Env → R Bool} {a b : Env → R D} (ht : CF T t) (ha : CF A a) (hb : CF B b) : CF (fIf T A B) (xIf t a b) := fun r r' Q EX σ s h => ht r r' _ EX σ s ((hold_bind h).imp fun v h1 => by
  cases v with
  | true => rw [if_pos rfl] at h1 ⊢; exact ha r r' Q EX σ s h1
  | false => rw [if_neg Bool.false_ne_true] at h1 ⊢; exact hb r r' Q EX σ s h1)

/-! ### argument lists, displays, calls -/
def xNil (_ : Env) : R (List D) := .ok []
def xCons (a : Env → R D) (b : Env → R (List D)) (r : Env) : R (List D) := (a r).bind fun d => (b r).bind fun ds => .ok (d :: ds)
def xTup (a : Env → R (List D)) (r : Env) : R D := (a r).bind fun ds => if ds.length ≤ sizeLine then .ok (.tup ds) else .no
def xLst (a : Env → R (List D)) (r : Env) : R (List D) := (a r).bind fun ds => if ds.length ≤ sizeLine then .ok ds else .no
def xL (a : Env → R (List D)) (r : Env) : R D := (a r).bind fun ds => .ok (.lst ds)
theorem f_nil : CF fNil xNil := fun r r' Q EX σ s h => h
theorem f_cons {A : FE} {B : FA} {a : Env → R D} {b : Env → R (List D)} (ha : CF A a) (hb : CF B b) : CF (fCons A B) (xCons a b) := fun r r' Q EX σ s h =>
  ha r r' _ EX σ s ((hold_bind h).imp fun d h1 => hb r r' _ EX σ s ((hold_bind h1).imp fun ds h2 => h2))
theorem f_tup {A : FA} {a : Env → R (List D)} (ha : CF A a) : CF (fTup A) (xTup a) := fun r r' Q EX σ s h => ha r r' _ EX σ s ((hold_bind h).imp fun ds h1 => by
  by_cases z : ds.length ≤ sizeLine
  · rw [if_pos z] at h1; exact ⟨z, h1⟩
  · rw [if_neg z] at h1; exact h1.elim)
theorem f_lst {A : FA} {a : Env → R (List D)} (ha : CF A a) : CF (fLst A) (xLst a) := fun r r' Q EX σ s h => ha r r' _ EX σ s ((hold_bind h).imp fun ds h1 => by
  by_cases z : ds.length ≤ sizeLine
  · rw [if_pos z] at h1; exact ⟨z, h1⟩
  · rw [if_neg z] at h1; exact h1.elim)
theorem f_L {A : FA} {a : Env → R (List D)} (ha : CF A a) : CF (fL A) (xL a) := fun r r' Q EX σ s h => ha r r' _ EX σ s (hold_bind h)
def CCG {α : Type} (g : List D → (α → Pr) → Pr) (c : List D → Option α) : Prop := ∀ ds d Q σ, c ds = some d → Q d σ → g ds Q σ
def xCa {α : Type} (c : List D → Option α) (a : Env → R (List D)) (r : Env) : R α := (a r).bind fun ds => R.ofO (c ds)
theorem f_ca {g : CG} {c : List D → Option D} {A : FA} {a : Env → R (List D)} (hg : CCG g c) (ha : CF A a) : CF (fCa g A) (xCa c a) := fun r r' Q EX σ s h => ha r r' _ EX σ s ((hold_bind h).imp fun ds h1 => by
  obtain ⟨d, e, q⟩ := hold_ofO h1
  exact hg ds d Q σ e q)
theorem f_caF {g : List D → (List D → Pr) → Pr} {c : List D → Option (List D)} {A : FA} {a : Env → R (List D)} (hg : CCG g c) (ha : CF A a) : CF (fCaF g A) (xCa c a) := fun r r' Q EX σ s h => ha r r' _ EX σ s ((hold_bind h).imp fun ds h1 => by
  obtain ⟨d, e, q⟩ := hold_ofO h1
  exact hg ds d Q σ e q)
def lenX : List D → Option D
  | [.tup xs] => some (.int xs.length)
  | [.lst xs] => some (.int xs.length)
  | [.str z] => gd (z.length ≤ sizeLine) (.int z.length)
  | _ => none
theorem g_len : CCG lenD lenX := fun ds d Q σ e q => by
  match ds, e with
  | [.tup xs], e => cases e; exact q
  | [.lst xs], e => cases e; exact q
  | [.str z], e => obtain ⟨h, rfl⟩ := gd_some e; exact ⟨h, q⟩
def tupCX : List D → Option D
  | [.lst xs] => some (.tup xs)
  | [.tup xs] => some (.tup xs)
  | _ => none
theorem g_tupC : CCG tupC tupCX := fun ds d Q σ e q => by
  match ds, e with
  | [.lst xs], e => cases e; exact q
  | [.tup xs], e => cases e; exact q
def blsX (f : List Bool → D) : List D → Option D
  | [.lst xs] => (blsOf xs).map f
  | _ => none
theorem g_bls {f : List Bool → D} : CCG (blsD f) (blsX f) := fun ds d Q σ e q => by
  match ds, e with
  | [.lst xs], e =>
    obtain ⟨bs, h1, h2⟩ := Option.map_eq_some_iff.mp (show (blsOf xs).map f = some d from e)
    subst h2
    show (match blsOf xs with
      | some bs => Q (f bs) σ
      | none => False)
    rw [h1]; exact q
def listX : List D → Option (List D)
  | [.lst xs] => some xs
  | [.tup xs] => some xs
  | _ => none
def itF : Int ⊕ List Nat → Int ⊕ List Nat → Bool
  | .inl a, .inl b => decide (a < b)
  | .inl _, .inr _ => true
  | .inr _, .inl _ => false
  | .inr a, .inr b => ltN a b
theorem itF_eq : ∀ a b, itF a b = itemOrd.blt a b
  | .inl a, .inl b => rfl
  | .inl _, .inr _ => rfl
  | .inr _, .inl _ => rfl
  | .inr a, .inr b => ltN_eq a b
def lexF : List (Int ⊕ List Nat) → List (Int ⊕ List Nat) → Bool
  | [], [] => false
  | [], _ :: _ => true
  | _ :: _, [] => false
  | x :: r, y :: t => match itF x y with
    | true => true
    | false => match itF y x with
      | true => false
      | false => lexF r t
theorem lexF_eq : ∀ a b, lexF a b = PyProof.Rows.lexLt itemOrd a b
  | [], [] => rfl
  | [], _ :: _ => rfl
  | _ :: _, [] => rfl
  | x :: r, y :: t => by
    have ih := lexF_eq r t
    unfold lexF PyProof.Rows.lexLt
    rw [← ih, ← itF_eq, ← itF_eq]
    cases itF x y <;> cases itF y x <;> rfl
def ltKF (x y : D) : Bool := lexF (kyD x) (kyD y)
theorem ltKF_eq : ltKF = ltK := by
  funext x y
  exact lexF_eq _ _
def sortX : List D → Option (List D)
  | [.lst xs] => if srtOK xs = true ∧ xs.length ≤ sizeLine then some (isort ltKF xs) else none
  | _ => none
theorem g_sort : CCG sortC sortX := fun ds d Q σ e q => by
  match ds, e with
  | [.lst xs], e =>
    unfold sortX at e
    dsimp only at e
    by_cases h : srtOK xs = true ∧ xs.length ≤ sizeLine
    · rw [if_pos h, ltKF_eq] at e; cases e; exact ⟨h.1, h.2, q⟩
    · rw [if_neg h] at e; cases e
def isiX (tbl : Tag → Option Bool) (a : Env → R D) (r : Env) : R D := (a r).bind fun d => match tagD d with
  | some t => (match tbl t with
    | some b => .ok (.bl b)
    | none => .no)
  | none => .no
theorem f_isi {tbl : Tag → Option Bool} {A : FE} {a : Env → R D} (ha : CF A a) : CF (isiD tbl A) (isiX tbl a) := fun r r' Q EX σ s h => ha r r' _ EX σ s ((hold_bind h).imp fun d h1 => by
  cases e1 : tagD d with
  | none => rw [e1] at h1; exact h1.elim
  | some t =>
    simp only [e1] at h1 ⊢
    cases e2 : tbl t with
    | none => rw [e2] at h1; exact h1.elim
    | some b => rw [e2] at h1; exact h1)
def xFld (c i : Nat) (a : Env → R D) (r : Env) : R D := (a r).bind fun d => match d with
  | .obj c' fs => if c' = c then R.ofO fs[i]? else .no
  | _ => .no
theorem f_fld {c i : Nat} {A : FE} {a : Env → R D} (ha : CF A a) : CF (fFld c i A) (xFld c i a) := fun r r' Q EX σ s h => ha r r' _ EX σ s ((hold_bind h).imp fun d h1 => by
  cases d <;> try exact h1.elim
  rename_i c' fs
  dsimp only at h1 ⊢
  by_cases z : c' = c
  · rw [if_pos z] at h1 ⊢
    obtain ⟨d, e, q⟩ := hold_ofO h1
    rw [e]; exact q
  · rw [if_neg z] at h1; exact h1.elim)
/-! ### slices -/
def oNone (_ : Env) : R (Option Int) := .ok none
def oSome (a : Env → R D) (r : Env) : R (Option Int) := (a r).bind fun d => match d with
  | .int i => .ok (some i)
  | _ => .no
theorem f_oNone : CF fNone oNone := fun r r' Q EX σ s h => h
theorem f_oSome {A : FE} {a : Env → R D} (ha : CF A a) : CF (fSome A) (oSome a) := fun r r' Q EX σ s h => ha r r' _ EX σ s ((hold_bind h).imp fun d h1 => by
  cases d <;> first | exact h1.elim | exact ⟨_, rfl, h1⟩)
def xSlice (a : Env → R D) (l u : Env → R (Option Int)) (r : Env) : R D := (a r).bind fun x => (l r).bind fun lo => (u r).bind fun hi => match x with
  | .tup ds => .ok (.tup (cutD ds lo hi))
  | .lst ds => .ok (.lst (cutD ds lo hi))
  | .str z => if z.length ≤ sizeLine then .ok (.str (cutS z lo hi)) else .no
  | _ => .no
theorem f_slice {A : FE} {L U : FO} {a : Env → R D} {l u : Env → R (Option Int)} (ha : CF A a) (hl : CF L l) (hu : CF U u) : CF (fSlice A L U) (xSlice a l u) := fun r r' Q EX σ s h =>
  ha r r' _ EX σ s ((hold_bind h).imp fun x h1 => hl r r' _ EX σ s ((hold_bind h1).imp fun lo h2 => hu r r' _ EX σ s ((hold_bind h2).imp fun hi h3 => by
    cases x <;> try exact h3.elim
    · rename_i z
      dsimp only at h3 ⊢
      by_cases q : z.length ≤ sizeLine
      · rw [if_pos q] at h3; exact ⟨q, h3⟩
      · rw [if_neg q] at h3; exact h3.elim
    · exact h3
    · exact h3)))

/-! ### targets -/
def CT (g : TGd) (c : D → Env → Option Env) : Prop := ∀ {x : Addr} d r r' r1 K σ, Sim x r r' → c d r = some r1 → (∀ r2, Sim x r1 r2 → K r2 σ) → g d r' K σ
def CTs (g : TGds) (c : List D → Env → Option Env) : Prop := ∀ {x : Addr} d r r' r1 K σ, Sim x r r' → c d r = some r1 → (∀ r2, Sim x r1 r2 → K r2 σ) → g d r' K σ
def yVar (i : Nat) (d : D) (r : Env) : Option Env := some (r.set i (.val d))
theorem t_var {i : Nat} : CT (gVar i) (yVar i) := fun d r r' r1 K σ s e k => by
  cases e
  exact k _ (s.set i _)
def ysNil (ds : List D) (r : Env) : Option Env := match ds with
  | [] => some r
  | _ => none
def ysCons (g : D → Env → Option Env) (gs : List D → Env → Option Env) (ds : List D) (r : Env) : Option Env := match ds with
  | d :: t => (g d r).bind fun r1 => gs t r1
  | [] => none
def yTup (n : Nat) (gs : List D → Env → Option Env) (d : D) (r : Env) : Option Env := match d with
  | .tup ds => if ds.length = n then gs ds r else none
  | _ => none
theorem ts_nil : CTs gsNil ysNil := fun ds r r' r1 K σ s e k => by
  cases ds with
  | nil => cases e; exact ⟨rfl, k _ s⟩
  | cons d ds => cases e
theorem ts_cons {g : TGd} {gs : TGds} {c : D → Env → Option Env} {cs : List D → Env → Option Env} (h : CT g c) (h2 : CTs gs cs) : CTs (gsCons g gs) (ysCons c cs) := fun ds r r' r1 K σ s e k => by
  cases ds with
  | nil => cases e
  | cons d t =>
    obtain ⟨r2, e1, e2⟩ := Option.bind_eq_some_iff.mp (show (c d r).bind (fun r1 => cs t r1) = some r1 from e)
    exact ⟨d, t, rfl, h d r r' r2 _ σ s e1 fun r3 s3 => h2 t r2 r3 r1 K σ s3 e2 k⟩
theorem t_tup {n : Nat} {gs : TGds} {cs : List D → Env → Option Env} (h : CTs gs cs) : CT (gTupD n gs) (yTup n cs) := fun d r r' r1 K σ s e k => by
  cases d <;> first | (cases e; done) | skip
  rename_i ds
  unfold yTup at e
  dsimp only at e
  by_cases z : ds.length = n
  · rw [if_pos z] at e; exact ⟨ds, rfl, z, h ds r r' r1 K σ s e k⟩
  · rw [if_neg z] at e; cases e
def iRng1 (a : Env → R (List D)) (r : Env) : R (List D) := (a r).bind fun ds => match ds with
  | [.int n] => if -(2 ^ 62) ≤ n ∧ n < 2 ^ 62 then .ok (rangeD 0 n) else .no
  | _ => .no
theorem f_rng1 {A : FA} {a : Env → R (List D)} (ha : CF A a) : CF (fRng1 A) (iRng1 a) := fun r r' Q EX σ s h => ha r r' _ EX σ s ((hold_bind h).imp fun ds h1 => by
  match ds, h1 with
  | [.int n], h1 =>
    dsimp only at h1
    by_cases z : -(2 ^ 62) ≤ n ∧ n < 2 ^ 62
    · rw [if_pos z] at h1; exact ⟨n, rfl, z, h1⟩
    · rw [if_neg z] at h1; exact h1.elim)
/-! ### comprehensions -/
def xYes (_ : Env) : R Bool := .ok true
theorem f_yes : CF fYes xYes := fun r r' Q EX σ s h => h
/-- an answer without an exception -/
def R.cut {α : Type} : R α → R α
  | .ok a => .ok a
  | _ => .no
theorem hold_cut {α : Type} {m : R α} {Q : α → Prop} {EX : XQ} (h : m.cut.hold Q EX) : m.hold Q NoQ := by
  cases m <;> exact h
/-- the list so far, turned round, its length -/
def lcG (g : D → Env → Option Env) (t : Env → R Bool) (f : Env → R D) (r : Env) : List D → Nat → List D → R (Nat × List D)
  | [], n, acc => .ok (n, acc)
  | d :: ds, n, acc => match g d r with
    | none => .no
    | some r1 => (t r1).cut.bind fun b => if b = true then (f r1).cut.bind fun y => if Nat.blt n 16777216 = true then frc y fun y' => lcG g t f r ds (n + 1) (y' :: acc) else .no else lcG g t f r ds n acc
def xLc (s : Env → R (List D)) (vs : List Nat) (g : D → Env → Option Env) (t : Env → R Bool) (f : Env → R D) (r : Env) : R (List D) := (s r).bind fun ds => (lcG g t f (wipeD r vs) ds 0 []).bind fun p => .ok p.2.reverse
theorem lc_run {g : TGd} {T : FT} {F : FE} {cg : D → Env → Option Env} {t : Env → R Bool} {f : Env → R D} (hg : CT g cg) (ht : CF T t) (hf : CF F f) {x : Addr} {r r' : Env} (s : Sim x r r') {EX : XQ} {σ : Sg} : ∀ (ds : List D) (n : Nat) (acc : List D) (Q : List D → Pr), n = acc.length →
    (lcG cg t f r ds n acc).hold (fun p => p.1 = p.2.length → Q p.2.reverse σ) EX → lcD g T F r' ds acc.reverse Q σ
  | [], n, acc, Q, hn, h => h hn
  | d :: ds, n, acc, Q, hn, h => by
    unfold lcG at h
    unfold lcD
    cases e : cg d r with
    | none => rw [e] at h; exact h.elim
    | some r1 =>
      rw [e] at h
      dsimp only at h
      refine hg d r r' r1 _ σ s e fun r2 s2 => ht r1 r2 _ NoX σ s2 (R.hold.imp (hold_cut (hold_bind h)) fun b h1 => ?_)
      cases b with
      | true =>
        rw [if_pos rfl] at h1 ⊢
        refine hf r1 r2 _ NoX σ s2 (R.hold.imp (hold_cut (hold_bind h1)) fun y h2 => ?_)
        by_cases z : Nat.blt n 16777216 = true
        · rw [if_pos z, frc_eq] at h2
          have hz : n < 16777216 := by simpa [Nat.blt_eq] using z
          refine ⟨by rw [List.length_reverse, sizeLine_eq, ← hn]; exact hz, ?_⟩
          have ih := lc_run hg ht hf s ds (n + 1) (y :: acc) Q (by rw [hn]; rfl) h2
          rwa [List.reverse_cons] at ih
        · rw [if_neg z] at h2; exact h2.elim
      | false =>
        rw [if_neg Bool.false_ne_true] at h1 ⊢
        exact lc_run hg ht hf s ds n acc Q hn h1
theorem f_lc {S : FI} {vs : List Nat} {g : TGd} {T : FT} {F : FE} {cs : Env → R (List D)} {cg : D → Env → Option Env} {t : Env → R Bool} {f : Env → R D} (hs : CF S cs) (hg : CT g cg) (ht : CF T t) (hf : CF F f) : CF (fLc S vs g T F) (xLc cs vs cg t f) := fun r r' Q EX σ s h =>
  hs r r' _ EX σ s ((hold_bind h).imp fun ds h1 => lc_run hg ht hf (s.wipe vs) ds 0 [] Q rfl ((hold_bind h1).imp fun p h2 _ => h2))
def lc2G (g : D → Env → Option Env) (t : Env → R Bool) (s1 : Env → R (List D)) (vs1 : List Nat) (g1 : D → Env → Option Env) (t1 : Env → R Bool) (f : Env → R D) (r : Env) : List D → Nat → List D → R (Nat × List D)
  | [], n, acc => .ok (n, acc)
  | d :: ds, n, acc => match g d r with
    | none => .no
    | some r1 => (t r1).cut.bind fun b => if b = true then (s1 r1).cut.bind fun es => (lcG g1 t1 f (wipeD r1 vs1) es n acc).cut.bind fun p => lc2G g t s1 vs1 g1 t1 f r ds p.1 p.2 else lc2G g t s1 vs1 g1 t1 f r ds n acc
def xLc2 (s : Env → R (List D)) (vs : List Nat) (g : D → Env → Option Env) (t : Env → R Bool) (s1 : Env → R (List D)) (vs1 : List Nat) (g1 : D → Env → Option Env) (t1 : Env → R Bool) (f : Env → R D) (r : Env) : R (List D) := (s r).bind fun ds => (lc2G g t s1 vs1 g1 t1 f (wipeD r vs) ds 0 []).bind fun p => .ok p.2.reverse
theorem lc2_run {g g1 : TGd} {T T1 : FT} {S1 : FI} {F : FE} {cg cg1 : D → Env → Option Env} {t t1 : Env → R Bool} {cs1 : Env → R (List D)} {f : Env → R D} {vs1 : List Nat} (hg : CT g cg) (ht : CF T t) (hs1 : CF S1 cs1) (hg1 : CT g1 cg1) (ht1 : CF T1 t1) (hf : CF F f) {x : Addr} {r r' : Env} (s : Sim x r r') {EX : XQ} {σ : Sg} :
    ∀ (ds : List D) (n : Nat) (acc : List D) (Q : List D → Pr), n = acc.length → (lc2G cg t cs1 vs1 cg1 t1 f r ds n acc).hold (fun p => p.1 = p.2.length → Q p.2.reverse σ) EX → lc2D g T S1 vs1 g1 T1 F r' ds acc.reverse Q σ
  | [], n, acc, Q, hn, h => h hn
  | d :: ds, n, acc, Q, hn, h => by
    unfold lc2G at h
    unfold lc2D
    cases e : cg d r with
    | none => rw [e] at h; exact h.elim
    | some r1 =>
      rw [e] at h
      dsimp only at h
      refine hg d r r' r1 _ σ s e fun r2 s2 => ht r1 r2 _ NoX σ s2 (R.hold.imp (hold_cut (hold_bind h)) fun b h1 => ?_)
      cases b with
      | true =>
        rw [if_pos rfl] at h1 ⊢
        refine hs1 r1 r2 _ NoX σ s2 (R.hold.imp (hold_cut (hold_bind h1)) fun es h2 => ?_)
        refine lc_run hg1 ht1 hf (s2.wipe vs1) es n acc _ hn (R.hold.imp (hold_cut (hold_bind h2)) fun p h3 hp => ?_)
        exact lc2_run hg ht hs1 hg1 ht1 hf s ds p.1 p.2 Q hp h3
      | false =>
        rw [if_neg Bool.false_ne_true] at h1 ⊢
        exact lc2_run hg ht hs1 hg1 ht1 hf s ds n acc Q hn h1
theorem f_lc2 {S S1 : FI} {vs vs1 : List Nat} {g g1 : TGd} {T T1 : FT} {F : FE} {cs cs1 : Env → R (List D)} {cg cg1 : D → Env → Option Env} {t t1 : Env → R Bool} {f : Env → R D} (hs : CF S cs) (hg : CT g cg) (ht : CF T t) (hs1 : CF S1 cs1) (hg1 : CT g1 cg1) (ht1 : CF T1 t1) (hf : CF F f) :
    CF (fLc2 S vs g T S1 vs1 g1 T1 F) (xLc2 cs vs cg t cs1 vs1 cg1 t1 f) := fun r r' Q EX σ s h =>
  hs r r' _ EX σ s ((hold_bind h).imp fun ds h1 => lc2_run hg ht hs1 hg1 ht1 hf (s.wipe vs) ds 0 [] Q rfl ((hold_bind h1).imp fun p h2 _ => h2))
end DL
/-! What the readings compute: a run over data, part 3: statements, defs. -/
namespace DL
open PySem L2 PyProof.Rows

inductive RS where
  | nx (r : Env)
  | rt (d : D)
  | bk (r : Env)
  | ct (r : Env)
  | rn (ds : List D)
  | ex (x : XD)
  | no
def RS.hold (x : Addr) : RS → DP → XQ → Prop
  | .nx r, A, _ => ∀ s, Sim x r s → A.nx s
  | .rt d, A, _ => A.rt d
  | .bk r, A, _ => ∀ s, Sim x r s → A.bk s
  | .ct r, A, _ => ∀ s, Sim x r s → A.ct s
  | .rn ds, A, _ => A.rn ds
  | .ex x, _, EX => EX x
  | .no, _, _ => False
def R.st {α : Type} (m : R α) (f : α → RS) : RS := match m with
  | .ok a => f a
  | .ex x => .ex x
  | .no => .no
theorem hold_st {α : Type} {m : R α} {f : α → RS} {x : Addr} {A : DP} {EX : XQ} (h : (m.st f).hold x A EX) : m.hold (fun a => (f a).hold x A EX) EX := by
  cases m <;> exact h
def CS (F : FS) (c : Env → RS) : Prop := ∀ {x : Addr} r r' A EX σ, Sim x r r' → (c r).hold x (A.at_ σ) (XP.at_ EX σ) → F A EX r' σ
def yNext (r : Env) : RS := .nx r
def yNever (_ : Env) : RS := .no
theorem s_next : CS sNext yNext := fun r r' A EX σ s h => h r' s
theorem s_never : CS sNever yNever := fun r r' A EX σ s h => h.elim
def ySeq (a b : Env → RS) (r : Env) : RS := match a r with
  | .nx r1 => b r1
  | x => x
theorem s_seq {F F' : FS} {a b : Env → RS} (ha : CS F a) (hb : CS F' b) : CS (sSeq F F') (ySeq a b) := fun r r' A EX σ s h => by
  refine ha r r' _ EX σ s ?_
  unfold ySeq at h
  cases e : a r with
  | nx r1 => rw [e] at h; exact fun r2 s2 => hb r1 r2 A EX σ s2 h
  | rt d => rw [e] at h; exact h
  | bk r1 => rw [e] at h; exact h
  | ct r1 => rw [e] at h; exact h
  | rn d => rw [e] at h; exact h
  | ex x => rw [e] at h; exact h
  | no => rw [e] at h; exact h
def yIf (t : Env → R Bool) (a b : Env → RS) (r : Env) : RS := (t r).st fun v => if v = true then a r else b r
theorem s_if {T : FT} {F F' : FS} {t : Env → R Bool} {a b : Env → RS} (ht : CF T t) (ha : CS F a) (hb : CS F' b) : CS (sIf T F F') (yIf t a b) := fun r r' A EX σ s h => ht r r' _ EX σ s ((hold_st h).imp fun v h1 => by
  cases v with
  | true => rw [if_pos rfl] at h1 ⊢; exact ha r r' A EX σ s h1
  | false => rw [if_neg Bool.false_ne_true] at h1 ⊢; exact hb r r' A EX σ s h1)
def yExpr (a : Env → R D) (r : Env) : RS := (a r).st fun _ => .nx r
theorem s_expr {F : FE} {a : Env → R D} (ha : CF F a) : CS (sExpr F) (yExpr a) := fun r r' A EX σ s h => ha r r' _ EX σ s ((hold_st h).imp fun d h1 => h1 r' s)
def yRet (a : Env → R D) (r : Env) : RS := (a r).st fun d => .rt d
theorem s_ret {F : FE} {a : Env → R D} (ha : CF F a) : CS (sRet F) (yRet a) := fun r r' A EX σ s h => ha r r' _ EX σ s ((hold_st h).imp fun d h1 => h1)
def yRetN (_ : Env) : RS := .rt .non
def ySet (i : Nat) (a : Env → R D) (r : Env) : RS := (a r).st fun d => frc d fun d => .nx (r.set i (.val d))
theorem s_set {i : Nat} {F : FE} {a : Env → R D} (ha : CF F a) : CS (sSet i F) (ySet i a) := fun r r' A EX σ s h => ha r r' _ EX σ s ((hold_st h).imp fun d h1 => by
  rw [frc_eq] at h1
  exact h1 _ (s.set i _))
def ySetOwn (i : Nat) (a : Env → R (List D)) (r : Env) : RS := (a r).st fun d => frcs d fun d => .nx (r.set i (.own d))
theorem s_setOwn {i : Nat} {F : FA} {a : Env → R (List D)} (ha : CF F a) : CS (sSetOwn i F) (ySetOwn i a) := fun r r' A EX σ s h => ha r r' _ EX σ s ((hold_st h).imp fun d h1 => by
  rw [frcs_eq] at h1
  exact h1 _ (s.set i _))
def yOff (is : List Nat) (a : Env → RS) (r : Env) : RS := a (offs r is)
theorem Sim.offs {x : Addr} : ∀ (is : List Nat) {r r' : Env}, Sim x r r' → Sim x (offs r is) (offs r' is)
  | [], _, _, s => s
  | i :: is, r, r', s => by
    unfold DL.offs
    refine Sim.offs is ?_
    rw [s.at i]
    cases e : r[i]? with
    | none => exact s
    | some y =>
      show Sim x (r.set i y.off) (r'.set i (adr x y).off)
      unfold Sim
      rw [List.map_set, show r' = r.map (adr x) from s]
      congr 1
      cases y <;> rfl
theorem s_off {is : List Nat} {F : FS} {a : Env → RS} (ha : CS F a) : CS (sOff is F) (yOff is a) := fun r r' A EX σ s h => ha _ _ A EX σ (s.offs is) h
/-- put together, the spine made plain -/
def frcp {β : Type} : List D → List D → (List D → β) → β
  | [], b, k => k b
  | x :: xs, b, k => frcp xs b fun ys => k (x :: ys)
theorem frcp_eq {β : Type} : ∀ (a b : List D) (k : List D → β), frcp a b k = k (a ++ b)
  | [], b, k => rfl
  | x :: xs, b, k => by unfold frcp; rw [frcp_eq xs]; rfl
def yApp (i : Nat) (a : Env → R D) (r : Env) : RS := match r[i]? with
  | some (.own ds) => if Nat.blt ds.length 16777216 = true then (a r).st fun d => frc d fun d => frcp ds [d] fun es => .nx (r.set i (.own es)) else .no
  | _ => .no
theorem s_app {i : Nat} {F : FE} {a : Env → R D} (ha : CF F a) : CS (sAppC i F) (yApp i a) := fun r r' A EX σ s h => by
  unfold yApp at h
  unfold sAppC
  cases e : r[i]? with
  | none => rw [e] at h; exact h.elim
  | some x =>
    rw [e] at h
    cases x <;> try exact h.elim
    rename_i ds
    rw [s.own e]
    dsimp only at h ⊢
    by_cases z : Nat.blt ds.length 16777216 = true
    · rw [if_pos z] at h
      have hz : ds.length < 16777216 := by simpa [Nat.blt_eq] using z
      exact ⟨by rw [sizeLine_eq]; exact hz, ha r r' _ EX σ s ((hold_st h).imp fun d h1 => by
        rw [frc_eq, frcp_eq] at h1
        exact h1 _ (s.set i _))⟩
    · rw [if_neg z] at h; exact h.elim
def yAsg (g : D → Env → Option Env) (a : Env → R D) (r : Env) : RS := (a r).st fun d => match g d r with
  | some r1 => .nx r1
  | none => .no
theorem s_asg {g : TGd} {c : D → Env → Option Env} {F : FE} {a : Env → R D} (hg : CT g c) (ha : CF F a) : CS (sAsg g F) (yAsg c a) := fun r r' A EX σ s h => ha r r' _ EX σ s ((hold_st h).imp fun d h1 => by
  cases e : c d r with
  | none => rw [e] at h1; exact h1.elim
  | some r1 => rw [e] at h1; exact hg d r r' r1 _ σ s e h1)
def yPar (i j : Nat) (a : Env → R (List D)) (r : Env) : RS := (a r).st fun ds => match ds with
  | [d, d'] => frc d fun d => frc d' fun d' => .nx ((r.set i (.val d)).set j (.val d'))
  | _ => .no
def forG (g : D → Env → Option Env) (b : Env → RS) : List D → Env → RS
  | [], r => .nx r
  | d :: ds, r => match g d r with
    | none => .no
    | some r1 => match b r1 with
      | .nx r2 => forG g b ds r2
      | .ct r2 => forG g b ds r2
      | .bk r2 => .nx r2
      | x => x
def yFor (s : Env → R (List D)) (g : D → Env → Option Env) (b : Env → RS) (r : Env) : RS := (s r).st fun ds => forG g b ds r
theorem for_run {g : TGd} {B : FS} {cg : D → Env → Option Env} {b : Env → RS} (hg : CT g cg) (hb : CS B b) {x : Addr} {A : DE} {EX : XP} {σ : Sg} : ∀ (ds : List D) (r r' : Env), Sim x r r' → (forG cg b ds r).hold x (A.at_ σ) (XP.at_ EX σ) → forD g B ds A EX r' σ
  | [], r, r', s, h => h r' s
  | d :: ds, r, r', s, h => by
    unfold forG at h
    unfold forD
    cases e : cg d r with
    | none => rw [e] at h; exact h.elim
    | some r1 =>
      rw [e] at h
      dsimp only at h
      refine hg d r r' r1 _ σ s e fun r2 s2 => hb r1 r2 _ EX σ s2 ?_
      cases e2 : b r1 with
      | nx r3 => rw [e2] at h; exact fun r4 s4 => for_run hg hb ds r3 r4 s4 h
      | ct r3 => rw [e2] at h; exact fun r4 s4 => for_run hg hb ds r3 r4 s4 h
      | bk r3 => rw [e2] at h; exact h
      | rt d => rw [e2] at h; exact h
      | rn d => rw [e2] at h; exact h
      | ex x => rw [e2] at h; exact h
      | no => rw [e2] at h; exact h
theorem s_for {S : FI} {g : TGd} {B : FS} {cs : Env → R (List D)} {cg : D → Env → Option Env} {b : Env → RS} (hs : CF S cs) (hg : CT g cg) (hb : CS B b) : CS (sFor S g B) (yFor cs cg b) := fun r r' A EX σ s h =>
  hs r r' _ EX σ s ((hold_st h).imp fun ds h1 => for_run hg hb ds r r' s h1)
/-- while, with that much fuel -/
def whG (t : Env → R Bool) (b : Env → RS) : Nat → Env → RS
  | 0, _ => .no
  | n + 1, r => (t r).st fun v => if v = true then (match b r with
    | .nx r2 => whG t b n r2
    | .ct r2 => whG t b n r2
    | .bk r2 => .nx r2
    | x => x) else .nx r
def yWhile (n : Nat) (t : Env → R Bool) (b : Env → RS) (r : Env) : RS := whG t b n r
theorem s_while {n : Nat} {T : FT} {B : FS} {t : Env → R Bool} {b : Env → RS} (ht : CF T t) (hb : CS B b) : CS (sWhile T B) (yWhile n t b) := fun {x} r r' A EX σ s h => by
  refine ⟨fun m r' σ => ∃ r, Sim x r r' ∧ (whG t b m r).hold x (A.at_ σ) (XP.at_ EX σ), ⟨n, r, s, h⟩, fun m r1' σ ⟨r1, s1, h1⟩ => ?_⟩
  cases m with
  | zero => exact h1.elim
  | succ m =>
    unfold whG at h1
    refine ht r1 r1' _ EX σ s1 ((hold_st h1).imp fun v h2 => ?_)
    cases v with
    | false => rw [if_neg Bool.false_ne_true] at h2 ⊢; exact h2 r1' s1
    | true =>
      rw [if_pos rfl] at h2 ⊢
      refine hb r1 r1' _ EX σ s1 ?_
      cases e2 : b r1 with
      | nx r3 => rw [e2] at h2; exact fun r4 s4 => ⟨m, Nat.lt_succ_self m, r3, s4, h2⟩
      | ct r3 => rw [e2] at h2; exact fun r4 s4 => ⟨m, Nat.lt_succ_self m, r3, s4, h2⟩
      | bk r3 => rw [e2] at h2; exact h2
      | rt d => rw [e2] at h2; exact h2
      | rn d => rw [e2] at h2; exact h2
      | ex x => rw [e2] at h2; exact h2
      | no => rw [e2] at h2; exact h2
def yFldI (i c : Nat) (fl : List Str) (f : Str) (a : Env → R D) (r : Env) : RS := (a r).st fun d => match r[i]? with
  | some (.slf x c' ds) => if c' = c ∧ fl[ds.length]? = some f then .nx (r.set i (.slf x c (ds ++ [d]))) else .no
  | _ => .no
theorem s_fldI {i c : Nat} {fl : List Str} {f : Str} {F : FE} {a : Env → R D} (ha : CF F a) : CS (sFldI i c fl f F) (yFldI i c fl f a) := fun r r' A EX σ s h => ha r r' _ EX σ s ((hold_st h).imp fun d h1 => by
  cases e : r[i]? with
  | none => rw [e] at h1; exact h1.elim
  | some x =>
    rw [e] at h1
    cases x <;> try exact h1.elim
    rename_i y c' ds
    have e' := s.slf e
    rw [e']
    dsimp only at h1 ⊢
    by_cases z : c' = c ∧ fl[ds.length]? = some f
    · rw [if_pos z] at h1 ⊢; exact h1 _ (s.setSlf i _ _ _)
    · rw [if_neg z] at h1; exact h1.elim)

/-! ### defs -/
def spOf (c : List D → R D) : DSp := fun ds Q EX σ => (c ds).hold (fun d => Q d σ) (XP.at_ EX σ)
def cfOf (N : List Str) (n : Nat) (b : Env → RS) (ds : List D) : R D := if ds.length = n then (match b (startD N ds) with
  | .nx _ => .ok .non
  | .rt d => .ok d
  | .ex x => .ex x
  | _ => .no) else .no
theorem spOf_len {N : List Str} {n : Nat} {b : Env → RS} {ds : List D} {Q : D → Pr} {EX : XP} {σ : Sg} (h : spOf (cfOf N n b) ds Q EX σ) : ds.length = n := by
  unfold spOf cfOf at h
  by_cases z : ds.length = n
  · exact z
  · rw [if_neg z] at h; exact h.elim
theorem spOf_pure {N : List Str} {n : Nat} {B : FS} {b : Env → RS} (hb : CS B b) {ds : List D} {Q : D → Pr} {EX : XP} {σ : Sg} (h : spOf (cfOf N n b) ds Q EX σ) : B { nx := fun _ => Q .non, rt := Q } EX (startD N ds) σ := by
  have hl := spOf_len h
  unfold spOf cfOf at h
  rw [if_pos hl] at h
  refine hb (x := 0) _ _ _ EX σ Sim.startD ?_
  cases e : b (startD N ds) with
  | nx r => rw [e] at h; exact fun _ _ => h
  | rt d => rw [e] at h; exact h
  | rn d => rw [e] at h; exact h.elim
  | ex x => rw [e] at h; exact h
  | bk r => rw [e] at h; exact h.elim
  | ct r => rw [e] at h; exact h.elim
  | no => rw [e] at h; exact h.elim
def cfI (N : List Str) (n m c : Nat) (b : Env → RS) (ds : List D) : R D := if ds.length = n then (match b (startI N 0 c ds) with
  | .nx (.slf _ c' es :: _) => if c' = c ∧ es.length = m then .ok (.tup es) else .no
  | .ex x => .ex x
  | _ => .no) else .no
theorem spI_len {N : List Str} {n m c : Nat} {b : Env → RS} {ds : List D} {Q : D → Pr} {EX : XP} {σ : Sg} (h : spOf (cfI N n m c b) ds Q EX σ) : ds.length = n := by
  unfold spOf cfI at h
  by_cases z : ds.length = n
  · exact z
  · rw [if_neg z] at h; exact h.elim
theorem spI_pure {G : Gm} {N : List Str} {n m c : Nat} {B : FS} {b : Env → RS} (hb : CS B b) (hm : (G.fld c).length = m) {ds : List D} {Q : D → Pr} {EX : XP} {σ : Sg} {x : Addr} (h : spOf (cfI N n m c b) ds Q EX σ) :
    B (DE.mk (endI (G.fld c) x c Q) (fun _ _ => False) (fun _ _ => False) (fun _ _ => False) (fun _ _ => False)) EX (startI N x c ds) σ := by
  have hl := spI_len h
  unfold spOf cfI at h
  rw [if_pos hl] at h
  refine hb (x := x) (startI N 0 c ds) _ _ EX σ Sim.startI ?_
  cases e : b (startI N 0 c ds) with
  | nx r =>
    rw [e] at h
    intro s2 s
    match r, h, s with
    | .slf y c' es :: rr, h, s =>
      dsimp only at h
      by_cases z : c' = c ∧ es.length = m
      · rw [if_pos z] at h
        rw [show s2 = (Sl.slf y c' es :: rr).map (adr x) from s]
        exact ⟨rfl, z.1, by rw [hm]; exact z.2, h⟩
      · rw [if_neg z] at h; exact h.elim
  | rn d => rw [e] at h; exact h.elim
  | ex x => rw [e] at h; exact h
  | rt d => rw [e] at h; exact h.elim
  | bk r => rw [e] at h; exact h.elim
  | ct r => rw [e] at h; exact h.elim
  | no => rw [e] at h; exact h.elim
/-- a call's exceptions and answer -/
def xCall (c : List D → R D) (a : Env → R (List D)) (r : Env) : R D := (a r).bind fun ds => frcs ds c
theorem f_call {c : List D → R D} {A : FA} {a : Env → R (List D)} (ha : CF A a) : CF (fCall (spOf c) A) (xCall c a) := fun r r' Q EX σ s h => ha r r' _ EX σ s ((hold_bind h).imp fun ds h1 => by
  rw [frcs_eq] at h1
  exact h1)
def xMeth (k : Nat) (c : List D → R D) (a : Env → R D) (b : Env → R (List D)) (r : Env) : R D := (a r).bind fun d => match d with
  | .obj k' fs => if k' = k then (b r).bind fun ds => frcs (.obj k' fs :: ds) c else .no
  | _ => .no
theorem f_meth {k : Nat} {c : List D → R D} {A : FE} {B : FA} {a : Env → R D} {b : Env → R (List D)} (ha : CF A a) (hb : CF B b) : CF (fMeth k (spOf c) A B) (xMeth k c a b) := fun r r' Q EX σ s h => ha r r' _ EX σ s ((hold_bind h).imp fun d h1 => by
  cases d <;> try exact h1.elim
  rename_i k' fs
  dsimp only at h1
  by_cases z : k' = k
  · subst z
    rw [if_pos rfl] at h1
    exact ⟨fs, rfl, hb r r' _ EX σ s ((hold_bind h1).imp fun ds h2 => by
      rw [frcs_eq] at h2
      exact h2)⟩
  · rw [if_neg z] at h1; exact h1.elim)
def xProp (k : Nat) (c : List D → R D) (a : Env → R D) (r : Env) : R D := (a r).bind fun d => match d with
  | .obj k' fs => if k' = k then (c [.obj k' fs]).cut else .no
  | _ => .no
theorem f_prop {k : Nat} {c : List D → R D} {A : FE} {a : Env → R D} (ha : CF A a) : CF (fProp k (spOf c) A) (xProp k c a) := fun r r' Q EX σ s h => ha r r' _ EX σ s ((hold_bind h).imp fun d h1 => by
  cases d <;> try exact h1.elim
  rename_i k' fs
  dsimp only at h1
  by_cases z : k' = k
  · subst z
    rw [if_pos rfl] at h1
    exact ⟨fs, rfl, hold_cut h1⟩
  · rw [if_neg z] at h1; exact h1.elim)
/-- what the construction of an object asks of its __init__ -/
def spIn (c : List D → R D) : List D → (List D → Pr) → XP → Pr := fun ds Q EX σ => (c ds).hold (fun d => match d with
  | .tup es => Q es σ
  | _ => False) (XP.at_ EX σ)
def xMake (k : Nat) (c : List D → R D) (a : Env → R (List D)) (r : Env) : R D := (a r).bind fun ds => (frcs ds c).bind fun d => match d with
  | .tup es => .ok (.obj k es)
  | _ => .no
theorem f_make {k : Nat} {c : List D → R D} {A : FA} {a : Env → R (List D)} (ha : CF A a) : CF (fMake k (spIn c) A) (xMake k c a) := fun r r' Q EX σ s h => ha r r' _ EX σ s ((hold_bind h).imp fun ds h1 => by
  rw [frcs_eq] at h1
  refine (hold_bind h1).imp fun d h2 => ?_
  cases d <;> first | exact h2.elim | exact h2)
/-! ### new lists -/
def yRetNew (i : Nat) (r : Env) : RS := match r[i]? with
  | some (.own ds) => .rn ds
  | _ => .no
theorem s_retNew {i : Nat} : CS (sRetNew i) (yRetNew i) := fun r r' A EX σ s h => by
  unfold yRetNew at h
  unfold sRetNew
  cases e : r[i]? with
  | none => rw [e] at h; exact h.elim
  | some x =>
    rw [e] at h
    cases x <;> try exact h.elim
    rw [s.own e]
    exact h
def yRetF (a : Env → R (List D)) (r : Env) : RS := (a r).st fun d => .rn d
def spNOf (c : List D → R (List D)) : List D → (List D → Pr) → XP → Pr := fun ds Q EX σ => (c ds).hold (fun d => Q d σ) (XP.at_ EX σ)
def cfN (N : List Str) (n : Nat) (b : Env → RS) (ds : List D) : R (List D) := if ds.length = n then (match b (startD N ds) with
  | .rn d => .ok d
  | .ex x => .ex x
  | _ => .no) else .no
theorem spN_len {N : List Str} {n : Nat} {b : Env → RS} {ds : List D} {Q : List D → Pr} {EX : XP} {σ : Sg} (h : spNOf (cfN N n b) ds Q EX σ) : ds.length = n := by
  unfold spNOf cfN at h
  by_cases z : ds.length = n
  · exact z
  · rw [if_neg z] at h; exact h.elim
theorem spN_pure {N : List Str} {n : Nat} {B : FS} {b : Env → RS} (hb : CS B b) {ds : List D} {Q : List D → Pr} {EX : XP} {σ : Sg} (h : spNOf (cfN N n b) ds Q EX σ) : B { nx := fun _ _ => False, rt := fun _ _ => False, rn := Q } EX (startD N ds) σ := by
  have hl := spN_len h
  unfold spNOf cfN at h
  rw [if_pos hl] at h
  refine hb (x := 0) _ _ _ EX σ Sim.startD ?_
  cases e : b (startD N ds) with
  | rn d => rw [e] at h; exact h
  | ex x => rw [e] at h; exact h
  | nx r => rw [e] at h; exact h.elim
  | rt d => rw [e] at h; exact h.elim
  | bk r => rw [e] at h; exact h.elim
  | ct r => rw [e] at h; exact h.elim
  | no => rw [e] at h; exact h.elim
def xCallN (c : List D → R (List D)) (a : Env → R (List D)) (r : Env) : R (List D) := (a r).bind fun ds => frcs ds c
theorem f_callN {c : List D → R (List D)} {A : FA} {a : Env → R (List D)} (ha : CF A a) : CF (fCallN (spNOf c) A) (xCallN c a) := fun r r' Q EX σ s h => ha r r' _ EX σ s ((hold_bind h).imp fun ds h1 => by
  rw [frcs_eq] at h1
  exact h1)
end DL
/-! The data layer, part 15: comprehensions as statements, globals, small words. -/
namespace DL
open PySem L2 PyProof.Rows
section
variable {X : Cx} {G : Gm} {E : XK} {pos : Pos} {tg : Expr}
section
variable {elt tg1 iter iter1 : Expr} {ifs ifs1 : List Expr} {scope : Scope} {own : List (Str × Nat)} {vs1 : List Nat} {S S1 : FI} {t t1 : TG} {g g1 : TGd} {T T1 : FT} {F : FE}
theorem cs_setLc2 {i : Nat} {y : Str} {py spos : Pos} (hN : X.N.Nodup) (hi : PI X tg iter (iE G E S)) (ok : BlkOk X.N X.env.scope scope own)
    (hg : ∀ (s : Shared) (H : Hp) (C : Addr) (cl : List (Str × Addr)) (fp : List Addr), PG (X.blk s H scope (compEnvC scope cl C X.env) fp) tg t) (hl : TgL G (own.map (·.2)) t g)
    (ht : ∀ (s : Shared) (H : Hp) (C : Addr) (cl : List (Str × Addr)) (fp : List Addr), PTs (X.blk s H scope (compEnvC scope cl C X.env) fp) ifs (ttD G E0 T))
    (hi1 : ∀ (s : Shared) (H : Hp) (C : Addr) (cl : List (Str × Addr)) (fp : List Addr), PI (X.blk s H scope (compEnvC scope cl C X.env) fp) tg1 iter1 (iS G E0 S1))
    (hg1 : ∀ (s : Shared) (H : Hp) (C : Addr) (cl : List (Str × Addr)) (fp : List Addr), PG (X.blk s H scope (compEnvC scope cl C X.env) fp) tg1 t1) (hl1 : TgL G vs1 t1 g1)
    (ht1 : ∀ (s : Shared) (H : Hp) (C : Addr) (cl : List (Str × Addr)) (fp : List Addr), PTs (X.blk s H scope (compEnvC scope cl C X.env) fp) ifs1 (ttD G E0 T1))
    (he : ∀ (s : Shared) (H : Hp) (C : Addr) (cl : List (Str × Addr)) (fp : List Addr), PE (X.blk s H scope (compEnvC scope cl C X.env) fp) elt (tD G E0 F))
    (hsw : swapsWith (.ListComp elt [⟨tg, iter, ifs, 0⟩, ⟨tg1, iter1, ifs1, 0⟩] scope pos) (some (.Name y py)) spos.line X.env = pure true := by exact sw_true rfl rfl rfl (by decide +kernel))
    (hy : X.N[i]? = some y := by rfl) (hyl : X.env.scope.names.lookup y = some .local := by rfl) (hv : ∀ i ∈ vs1, i ∈ own.map (·.2) := by decide) (hc : X.calm = true := by rfl) (hs : ∀ x, foldedSetIterable iter X.env x = pure x := by intro _; rfl) (hs1 : ∀ env x, foldedSetIterable iter1 env x = pure x := by intro _ _; rfl) :
    PS X (.Assign [.Name y py] (.ListComp elt [⟨tg, iter, ifs, 0⟩, ⟨tg1, iter1, ifs1, 0⟩] scope pos) spos) (sD G E (sSet i (fL (fLc2 S (own.map (·.2)) g T S1 vs1 g1 T1 F)))) :=
  cs_ofF (ps_setLc2 hc hN hy hyl hsw hi ok hv hg ht hi1 hg1 ht1 he hs hs1) (lc2_link hl hl1)
end
/-- a module's value -/
theorem ce_gval {x : Str} {v : V} {d : D} {u : Value} {pos : Pos} (hm : X.mg x = some u) (r : RelV v u) (rp : ∀ w, Rep G w d v) (hg : Gl X x := by rfl) (hd : (x == ("__debug__" : Str)) = false := by decide) : PE X (.Name x pos) (tD G E (fC d)) := ce_const (pe_glob hg hm r hd) rp
end
/-- a, b = e, [..]: the second is the frame's own -/
def sParO (i j : Nat) (A : FE) (F : FA) : FS := fun B EX r σ => A r (fun d σ => F r (fun ds σ => B.nx ((r.set i (.val d)).set j (.own ds)) σ) EX σ) EX σ
def sParOO (i j : Nat) (A F : FA) : FS := fun B EX r σ => A r (fun d σ => F r (fun ds σ => B.nx ((r.set i (.own d)).set j (.own ds)) σ) EX σ) EX σ
section
variable {X : Cx} {G : Gm} {E : XK} {pos : Pos} {i j : Nat} {x y : Str} {a b : Expr} {px py pt : Pos} {kt k2 pt2}
theorem cs_parO {A : FE} {F : FA} (ha : PE X a (tD G E A)) (hb : PE X b (fD G E F)) (hN : X.N.Nodup) (hc : X.calm = true := by rfl) (hi : X.N[i]? = some x := by rfl) (hj : X.N[j]? = some y := by rfl) (hij : i ≠ j := by decide)
    (hx : X.env.scope.names.lookup x = some .local := by rfl) (hy : X.env.scope.names.lookup y = some .local := by rfl) (h1 : starEach [a, b] X.env = (false, eval a X.env) :: starEach [b] X.env := by rfl) (h2 : starEach [b] X.env = (false, eval b X.env) :: starEach [] X.env := by rfl)
    (hw : swappedStores [.Tuple [.Name x px, .Name y py] kt pt] (.Tuple [a, b] k2 pt2) X.env = pure (some [x, y]) := by rfl)
    (hs : swapsWithSole [.Tuple [.Name x px, .Name y py] kt pt] (.Tuple [a, b] k2 pt2) pos.line X.env = pure false := by rfl) :
    PS X (.Assign [.Tuple [.Name x px, .Name y py] kt pt] (.Tuple [a, b] k2 pt2) pos) (sD G E (sParO i j A F)) := (ps_par hc hN hi hj hij hx hy (pa_cons ha (pa_cons hb pa_nil h2) h1) hw hs).weak fun B s H ⟨w0, H0, wk, r, w, A', EX, fr, sb, lk, ll, f⟩ =>
  ⟨w0, H0, r, w, _, EX, fr, lk, f, fun d v w1 H1 l1 ok1 r1 q1 => ⟨w0, H0, r, w1, _, EX, fr.go l1 ok1, lk, q1, fun ds p vs w2 H2 l2 ok2 hn m h1 r2 q2 =>
    ⟨v, .ref p, rfl, by
      have f2 := ((fr.go l1 ok1).go l2 ok2).setV (i := i) (r1.mono l2.sub)
      have hb' : ∀ (j : Nat) y a, (r.set i (.val d))[j]? = some y → y.isOwn = true → (s.set i (some v))[j]? = some (some (.ref a)) → H1 a ≠ none := ((fr.go l1 ok1).setV (i := i) r1).ownAt
      exact ll.nx _ _ w2 H2 (f2.setOwn hb' hn (SlotOk.own m h1 r2)) (sb.trans (l1.sub.trans l2.sub)) q2⟩⟩⟩
theorem cs_parOO {A F : FA} (ha : PE X a (fD G E A)) (hb : PE X b (fD G E F)) (hN : X.N.Nodup) (hc : X.calm = true := by rfl) (hi : X.N[i]? = some x := by rfl) (hj : X.N[j]? = some y := by rfl) (hij : i ≠ j := by decide)
    (hx : X.env.scope.names.lookup x = some .local := by rfl) (hy : X.env.scope.names.lookup y = some .local := by rfl) (h1 : starEach [a, b] X.env = (false, eval a X.env) :: starEach [b] X.env := by rfl) (h2 : starEach [b] X.env = (false, eval b X.env) :: starEach [] X.env := by rfl)
    (hw : swappedStores [.Tuple [.Name x px, .Name y py] kt pt] (.Tuple [a, b] k2 pt2) X.env = pure (some [x, y]) := by rfl)
    (hs : swapsWithSole [.Tuple [.Name x px, .Name y py] kt pt] (.Tuple [a, b] k2 pt2) pos.line X.env = pure false := by rfl) :
    PS X (.Assign [.Tuple [.Name x px, .Name y py] kt pt] (.Tuple [a, b] k2 pt2) pos) (sD G E (sParOO i j A F)) := (ps_par hc hN hi hj hij hx hy (pa_cons ha (pa_cons hb pa_nil h2) h1) hw hs).weak fun B s H ⟨w0, H0, wk, r, w, A', EX, fr, sb, lk, ll, f⟩ =>
  ⟨w0, H0, r, w, _, EX, fr, lk, f, fun d p vs w1 H1 l1 ok1 hn m h1 r1 q1 => ⟨w0, H0, r, w1, _, EX, fr.go l1 ok1, lk, q1, fun ds p2 vs2 w2 H2 l2 ok2 hn2 m2 h2 r2 q2 =>
    ⟨.ref p, .ref p2, rfl, by
      have f1 := (fr.go l1 ok1).setOwn (i := i) (fun j y b e1 e2 e3 => fr.ownAt j y b e1 e2 e3) hn (SlotOk.own m h1 r1)
      have f2 := f1.go l2 ok2
      exact ll.nx _ _ w2 H2 (f2.setOwn f1.ownAt hn2 (SlotOk.own m2 h2 r2)) (sb.trans (l1.sub.trans l2.sub)) q2⟩⟩⟩
end
def yParO (i j : Nat) (a : List Sl → R D) (f : List Sl → R (List D)) (r : List Sl) : RS := (a r).st fun d => (f r).st fun ds => frc d fun d => frcs ds fun ds => .nx ((r.set i (.val d)).set j (.own ds))
def yParOO (i j : Nat) (a f : List Sl → R (List D)) (r : List Sl) : RS := (a r).st fun d => (f r).st fun ds => .nx ((r.set i (.own d)).set j (.own ds))
theorem s_parO {i j : Nat} {A : FE} {F : FA} {a : List Sl → R D} {f : List Sl → R (List D)} (ha : CF A a) (hf : CF F f) : CS (sParO i j A F) (yParO i j a f) := fun r r' B EX σ s h =>
  ha r r' _ EX σ s ((hold_st h).imp fun d h1 => hf r r' _ EX σ s ((hold_st h1).imp fun ds h2 => by
    rw [frc_eq, frcs_eq] at h2
    exact h2 _ ((s.set i _).set j _)))
theorem s_parOO {i j : Nat} {A F : FA} {a f : List Sl → R (List D)} (ha : CF A a) (hf : CF F f) : CS (sParOO i j A F) (yParOO i j a f) := fun r r' B EX σ s h =>
  ha r r' _ EX σ s ((hold_st h).imp fun d h1 => hf r r' _ EX σ s ((hold_st h1).imp fun ds h2 => h2 _ ((s.set i _).set j _)))
theorem rep_dic {G : Gm} {w : Wd} {a : Addr} {ks : List Key} {ds : List D} {vs : List V} (h : KDic G.K G.pw a (ks.zip vs)) (hl : ks.length = vs.length) (r : Reps G w ds vs) : Rep G w (.dic ks ds) (.ref a) := by
  unfold Rep
  exact ⟨a, vs, rfl, .inr h, hl, r⟩
theorem hu64 {k : Nat} {A : Around} (hr : Room k A) : A.units + 64 < cLine := by have := hr.un; omega
theorem hu65 {k : Nat} {A : Around} (hr : Room k A) : A.units + 65 < cLine := by have := hr.un; omega
theorem hu1 {k : Nat} {A : Around} (hr : Room k A) : A.units + 1 < cLine := by have := hr.un; omega
end DL
namespace DL
open PySem L2
/-- BlkOk, by a look -/
def blkB (N : List Str) (sc scope : Scope) (own : List (Str × Nat)) : Bool :=
  (match scope.kind with | .function => true | _ => false) && scope.names.all (fun y => match scope.names.lookup y.1 with | some k => decide (k = y.2) | none => false) && own.all (fun p => match N[p.2]? with | some n => decide (n = p.1) | none => false) &&
  scope.names.all (fun y => !(decide (y.2 = .free)) || (match sc.names.lookup y.1 with | some k => decide (k = .cell) || decide (k = .free) | none => false)) &&
  scope.names.all (fun y => !(decide (y.2 = .local) || decide (y.2 = .cell)) || (own.map (·.1)).contains y.1 || !(N.contains y.1))
theorem blk_mk {N : List Str} {sc scope : Scope} {own : List (Str × Nat)} (h : blkB N sc scope own = true) : BlkOk N sc scope own := by
  unfold blkB at h
  simp only [Bool.and_eq_true, List.all_eq_true] at h
  obtain ⟨⟨⟨⟨h1, h2⟩, h3⟩, h4⟩, h5⟩ := h
  refine ⟨?_, fun y hy => ?_, fun p hp => ?_, fun y hy hf => ?_, fun y hy hl => ?_⟩
  · cases e : scope.kind <;> rw [e] at h1 <;> first | rfl | cases h1
  · have q := h2 y hy
    cases e : scope.names.lookup y.1 with
    | none => rw [e] at q; cases q
    | some k => rw [e] at q; rw [of_decide_eq_true q]
  · have q := h3 p hp
    cases e : N[p.2]? with
    | none => rw [e] at q; cases q
    | some k => rw [e] at q; rw [of_decide_eq_true q]
  · have q := h4 y hy
    rw [hf] at q
    cases e : sc.names.lookup y.1 with
    | none => rw [e] at q; cases q
    | some k =>
      rw [e] at q
      have q' : (decide (k = .cell) || decide (k = .free)) = true := by simpa using q
      rw [Bool.or_eq_true] at q'
      exact q'.imp (fun z => by rw [of_decide_eq_true z]) fun z => by rw [of_decide_eq_true z]
  · have q := h5 y hy
    have z : (decide (y.2 = .local) || decide (y.2 = .cell)) = true := by
      rw [Bool.or_eq_true]
      exact hl.imp (fun e => decide_eq_true e) fun e => decide_eq_true e
    rw [z] at q
    simp only [Bool.not_true, Bool.false_or, Bool.or_eq_true] at q
    rcases q with q | q
    · exact .inl (List.contains_iff_mem.mp q)
    · refine .inr fun m => ?_
      rw [List.contains_iff_mem.mpr m] at q
      cases q
end DL
/-! Plain words for the laws: how long a text of data is, reprs compared, loops, places. -/
namespace DL
open PySem L2 PyProof.Rows
mutual
/-- no shorter than the text of d -/
def wt : D → Nat
  | .non => 4
  | .bl _ => 5
  | .int i => i.natAbs.log2 + 2
  | .str s => 10 * s.length + 2
  | .tup ds => wts ds + 3
  | .lst ds => wts ds + 3
  | _ => 0
def wts : List D → Nat
  | [] => 0
  | d :: ds => wt d + 2 + wts ds
end
mutual
/-- plain, of that depth at most, its ints not too long, its signs signs -/
def okd : Nat → D → Bool
  | _, .non => true
  | _, .bl _ => true
  | _, .int i => decide (i.natAbs.log2 < 1920)
  | _, .str s => s.cps.toList.all fun c => decide (c < 16 ^ 8)
  | n + 1, .tup ds => okds n ds
  | n + 1, .lst ds => okds n ds
  | _, _ => false
def okds : Nat → List D → Bool
  | _, [] => true
  | n, d :: ds => okd n d && okds n ds
end
mutual
def eqDB : D → D → Bool
  | .non, .non => true
  | .bl a, .bl b => a == b
  | .int a, .int b => decide (a = b)
  | .str a, .str b => decide (a.cps.toList = b.cps.toList)
  | .tup a, .tup b => eqDBs a b
  | .lst a, .lst b => eqDBs a b
  | _, _ => false
def eqDBs : List D → List D → Bool
  | [], [] => true
  | a :: as, b :: bs => eqDB a b && eqDBs as bs
  | _, _ => false
end
mutual
theorem eqDB_eq : ∀ (a b : D), eqDB a b = true → a = b
  | .non, b, h => by cases b <;> first | rfl | (unfold eqDB at h; cases h)
  | .bl x, b, h => by cases b <;> first | (unfold eqDB at h; cases h; done) | (unfold eqDB at h; exact congrArg D.bl (by simpa using h))
  | .int x, b, h => by cases b <;> first | (unfold eqDB at h; cases h; done) | (unfold eqDB at h; exact congrArg D.int (of_decide_eq_true h))
  | .str x, b, h => by
    cases b <;> first | (unfold eqDB at h; cases h; done) | skip
    rename_i y
    unfold eqDB at h
    have e := of_decide_eq_true h
    cases x; cases y
    exact congrArg (fun z => D.str ⟨z⟩) (Array.toList_inj.mp e)
  | .tup x, b, h => by
    cases b <;> first | (unfold eqDB at h; cases h; done) | skip
    unfold eqDB at h
    exact congrArg D.tup (eqDBs_eq _ _ h)
  | .lst x, b, h => by
    cases b <;> first | (unfold eqDB at h; cases h; done) | skip
    unfold eqDB at h
    exact congrArg D.lst (eqDBs_eq _ _ h)
  | .dic _ _, b, h => by cases b <;> (unfold eqDB at h; cases h)
  | .obj _ _, b, h => by cases b <;> (unfold eqDB at h; cases h)
  | .exc _ _, b, h => by cases b <;> (unfold eqDB at h; cases h)
  | .jar, b, h => by cases b <;> (unfold eqDB at h; cases h)
  | .cel _, b, h => by cases b <;> (unfold eqDB at h; cases h)
theorem eqDBs_eq : ∀ (a b : List D), eqDBs a b = true → a = b
  | [], b, h => by cases b <;> first | rfl | (unfold eqDBs at h; cases h)
  | x :: xs, b, h => by
    cases b <;> first | (unfold eqDBs at h; cases h; done) | skip
    unfold eqDBs at h
    rw [Bool.and_eq_true] at h
    rw [eqDB_eq _ _ h.1, eqDBs_eq _ _ h.2]
end
theorem atI_nat {α : Type} {xs : List α} {i : Nat} (h : i < xs.length) : atI xs (i : Int) = some xs[i] := by
  have e : ixN xs.length (i : Int) = some i := by
    unfold ixN
    rw [if_pos (by omega), if_pos (by omega)]
    simp
  unfold atI
  rw [e]
  simp [h]
theorem fmod_lt (n : Int) {m : Int} (h : 0 < m) : 0 ≤ n.fmod m ∧ n.fmod m < m := ⟨Int.fmod_nonneg_of_pos n h, Int.fmod_lt_of_pos n h⟩
theorem rangeD_int {lo hi : Int} {d : D} (h : d ∈ rangeD lo hi) : ∃ k : Int, d = .int k ∧ lo ≤ k ∧ k < hi := by
  unfold rangeD at h
  obtain ⟨i, hi', rfl⟩ := List.mem_map.mp h
  have := List.mem_range.mp hi'
  exact ⟨_, rfl, by omega, by omega⟩
theorem rangeD_len {lo hi : Int} : (rangeD lo hi).length = (hi - lo).toNat := by
  unfold rangeD
  rw [List.length_map, List.length_range]
end DL
/-! The data layer, part 17: what an own class answers to len, in, str, ==. -/
namespace DL
open PySem L2 PyProof.Rows
section
variable {G : Gm} {X : Cx} {E : XK} {k : Nat} {f C : Addr} {fd : FuncData} {ps : List Str} {sp : Sp}
/-- a def that lets nothing out is run at an Around -/
theorem run_at {A' : Around} {pins : List (Addr × Obj)} {σ : L2.St} {H : Hp} {s : Shared} {Q : VK} {us : List Value} {vs : List V} {E' : Value → Shared → Prop} (F : FnG X.prog X.w X.K X.mg X.base k f fd ps sp) (hg : A'.guards = some []) (hr : Room k A') (e0 : Env0 X.prog X.w X.K X.mg X.base A' X.stack s H)
    (hb : Binds X.K fd ps []) (I : Inv X pins σ H s) (r : Vals vs us) (h : sp vs H Q E0) : wpAny (model X.prog X.w) A' (call (.ref f) us) (EP X pins σ Q) E' s := by
  have nl : (us ++ []).length = ps.length := by
    rw [List.append_nil]
    exact r.length.symm.trans (F.len _ _ _ _ h)
  have hbs := hb s us I.kIn nl
  rw [List.append_nil] at hbs
  refine wpAny_call (codeAny_mono (F.run A' X.stack s H ⟨us, []⟩ us vs Q E0 hg hr e0 hbs r h) ?_)
  rintro (er | fl) s' hq
  · obtain ⟨_, _, _, _, _, _, _, _, _, _, _, _, z⟩ := hq
    exact z.elim
  · cases fl with
    | ret u =>
      obtain ⟨v, H', I3, rv, q3⟩ := I.after hq
      exact ⟨v, H', I3, rv, q3⟩
    | next => exact hq.elim
    | brk => exact hq.elim
    | cont => exact hq.elim
theorem op_inO {neg : Bool} {op : CmpOp} (hop : op = if neg then .NotIn else .In) (F : FnG X.prog X.w X.K X.mg X.base k f fd ps sp) (hg : X.A.guards = some []) (hr : Room k X.A) (hb : Binds X.K fd ps []) (hs : PySem.W.findIn X.K (.ref C) "__contains__" = some (some (.ref f))) (hf : PySem.W.isFn X.K (.ref f) = true) :
    OpR X (compareOp op) (fun x y H Q => ∃ a dx fs, y = .ref a ∧ H a = some (.ins C dx fs) ∧ sp [.ref a, x] H (fun v H' => ∃ b : Bool, v = .bl b ∧ Q (.bl (neg != b)) H') E0) := by
  intro pins s σ H x y v u Q I rx ry h
  obtain ⟨a, dx, fs, rfl, ea, h⟩ := h
  cases (show u = Value.ref a from ry)
  obtain ⟨mA, O, _⟩ := ins_get I.hok ea
  obtain ⟨od, J, _⟩ := O.look
  obtain ⟨m, hF⟩ := I.fr
  have run := run_at (E' := X.xe) F hg hr I.env0 hb I (vs := [.ref a, x]) (us := [.ref a, v]) (.cons rfl (.cons rx .nil)) h
  cases neg with
  | false =>
    subst hop
    refine PySem.W.in_K hF I.ok.mod.kin J hs hf (wpAny_mono run ?_ fun _ _ y => y)
    rintro u s' ⟨z, H', I', rz, b, ez, q⟩
    subst ez
    cases (show u = Value.bool b from rz)
    rw [Bool.false_bne] at q
    exact wpAny_truthy_bool ⟨.bl b, H', I', rfl, q⟩
  | true =>
    subst hop
    refine PySem.W.notIn_K hF I.ok.mod.kin J hs hf (wpAny_mono run ?_ fun _ _ y => y)
    rintro u s' ⟨z, H', I', rz, b, ez, q⟩
    subst ez
    cases (show u = Value.bool b from rz)
    rw [Bool.true_bne] at q
    exact wpAny_truthy_bool ⟨.bl _, H', I', rfl, q⟩
end

/-! ### the same over data -/
section
variable {G : Gm} {X : Cx} {k : Nat} {f : Addr} {fd : FuncData} {ps : List Str} {sp : DSp}
theorem See.obj_rep {H0 : Hp} {w : Wd} {H : Hp} {c : Nat} {fs : List D} {v : V} (h : See G H0 w H (.obj c fs) v) : Rep G w (.obj c fs) v := h.rep (fun _ z => nomatch z) (fun _ _ z => nomatch z)
def noOwn : D → Bool
  | .lst _ => false
  | .dic _ _ => false
  | _ => true
theorem noOwn_rep {H0 : Hp} {w : Wd} {H : Hp} {d : D} {v : V} (h : noOwn d = true) (s : See G H0 w H d v) : Rep G w d v := s.rep (fun _ z => by rw [z] at h; cases h) (fun _ _ z => by rw [z] at h; cases h)
/-- x in o -/
def inO (c : Nat) (sp : DSp) (neg : Bool) : G2 := fun x y Q σ => match y with
  | .obj c' fs => c' = c ∧ noOwn x = true ∧ sp [.obj c' fs, x] (fun d σ => match d with
    | .bl b => Q (.bl (neg != b)) σ
    | _ => False) NoX σ
  | _ => False
theorem opl_inO {c : Nat} {neg : Bool} {op : CmpOp} (hop : op = if neg then .NotIn else .In) (F : FnG X.prog X.w X.K X.mg X.base k f fd ps (lift G sp)) (hb : Binds X.K fd ps []) (hg : X.A.guards = some []) (hr : Room k X.A) (hs : PySem.W.findIn X.K (.ref (G.cls c)) "__contains__" = some (some (.ref f))) (hf : PySem.W.isFn X.K (.ref f) = true) :
    OpL G X (compareOp op) (inO c sp neg) := by
  refine ⟨_, op_inO hop F hg hr hb hs hf, fun H0 w H x y v u Q QD ok sx sy g k => ?_⟩
  cases y <;> try exact g.elim
  rename_i c' fs
  obtain ⟨rfl, hn, g⟩ := g
  have rp := sy.obj_rep
  have rx := noOwn_rep hn sx
  obtain ⟨a, dx, gs, rfl, e, _, _, htb⟩ := rp.obj_of
  refine ⟨a, dx, gs, rfl, ok.sub _ _ e, w, [.obj c' fs, x], _, NoX, ok, Reps.cons rp (Reps.cons rx Reps.nil), g, fun d v w' H' l ok' r q => ?_, LkE.none htb⟩
  cases d <;> try exact q.elim
  exact ⟨_, r.bl_of, k _ _ w' H' l ok' Rep.bl q⟩
end

def inOX (c : Nat) (m : List D → R D) (neg : Bool) : O2 := fun x y => match y with
  | .obj c' fs => if c' = c ∧ noOwn x = true then (match m [.obj c' fs, x] with
    | .ok (.bl b) => some (.bl (neg != b))
    | _ => none) else none
  | _ => none
theorem g_inO {c : Nat} {m : List D → R D} {neg : Bool} : CG2 (inO c (spOf m) neg) (inOX c m neg) := fun x y d Q σ e q => by
  cases y <;> first | (cases e; done) | skip
  rename_i c' fs
  unfold inOX at e
  dsimp only at e
  by_cases h : c' = c ∧ noOwn x = true
  · rw [if_pos h] at e
    refine ⟨h.1, h.2, ?_⟩
    unfold spOf
    match z : m [.obj c' fs, x], e with
    | .ok (.bl b), e => cases e; exact q
  · rw [if_neg h] at e; cases e
end DL
/-! The data layer, part 18: index, pop. -/
namespace DL
open PySem L2 PyProof.Rows
variable {G : Gm} {X : Cx} {E : XK}

theorem str_ext {a b : Str} (h : a.cps.toList = b.cps.toList) : a = b := by
  cases a; cases b
  exact congrArg (fun z => (⟨z⟩ : Str)) (Array.toList_inj.mp h)
theorem find_first {ys : List Str} {z : Str} {j : Nat} (h : ys.findIdx? (fun t => decide (t.cps.toList = z.cps.toList)) = some j) : ys[j]? = some z ∧ ∀ m, m < j → ys[m]? ≠ some z := by
  obtain ⟨hj, h1, h2⟩ := List.findIdx?_eq_some_iff_getElem.mp h
  refine ⟨?_, fun m hm e => ?_⟩
  · rw [List.getElem?_eq_getElem hj, str_ext (of_decide_eq_true h1)]
  · have hm' : m < ys.length := by omega
    rw [List.getElem?_eq_getElem hm'] at e
    have := h2 m hm
    rw [Option.some.inj e] at this
    simp at this
/-! ### x.append(y.pop(e)) -/
theorem Reps.erase {w : Wd} : ∀ {ds : List D} {vs : List V} (n : Nat), Reps G w ds vs → Reps G w (ds.eraseIdx n) (vs.eraseIdx n)
  | [], vs, n, h => by rw [h.of_nil]; exact Reps.nil
  | d :: ds, vs, n, h => by
    obtain ⟨v, r, e, h1, h2⟩ := h.of_cons
    subst e
    cases n with
    | zero => exact h2
    | succ n => exact Reps.cons h1 (Reps.erase n h2)
end DL
/-! The data layer, part 19: calls with keywords and defaults. -/
namespace DL
open PySem L2 PyProof.Rows

/-- where a parameter's value comes from: a place, a keyword, a default -/
inductive Src where
  | p (i : Nat) | k (i : Nat) | d (i : Nat)
def pick {α : Type} (sel : List Src) (us ws ds : List α) : List α := sel.filterMap fun x => match x with
  | .p i => us[i]?
  | .k i => ws[i]?
  | .d i => ds[i]?
theorem pick_cons {α : Type} (x : Src) (sel : List Src) (us ws ds : List α) : pick (x :: sel) us ws ds = (match x with
  | .p i => us[i]?
  | .k i => ws[i]?
  | .d i => ds[i]?).toList ++ pick sel us ws ds := by
  unfold pick
  rw [List.filterMap_cons]
  cases x <;> (dsimp only; split <;> rename_i h <;> rw [h] <;> rfl)
theorem vals_get {i : Nat} : ∀ {vs : List V} {us : List Value}, Vals vs us → Vals (vs[i]?).toList (us[i]?).toList := fun {vs us} h => by
  induction h generalizing i with
  | nil => simp; exact .nil
  | cons r t ih =>
    cases i with
    | zero => exact .cons r .nil
    | succ i => simpa using ih (i := i)
theorem vals_pick {vs zs dvs : List V} {us ws its : List Value} (h1 : Vals vs us) (h2 : Vals zs ws) (h3 : Vals dvs its) : ∀ sel : List Src, Vals (pick sel vs zs dvs) (pick sel us ws its)
  | [] => .nil
  | x :: sel => by
    rw [pick_cons, pick_cons]
    refine Vals.append ?_ (vals_pick h1 h2 h3 sel)
    cases x with
    | p i => exact vals_get h1
    | k i => exact vals_get h2
    | d i => exact vals_get h3
theorem reps_get {G : Gm} {w : Wd} {i : Nat} {ds : List D} {vs : List V} (h : Reps G w ds vs) : Reps G w (ds[i]?).toList (vs[i]?).toList := by
  cases e : ds[i]? with
  | none =>
    have hl : vs[i]? = none := by
      rw [List.getElem?_eq_none_iff] at e ⊢
      rw [← h.length]; exact e
    rw [hl]; exact Reps.nil
  | some d =>
    obtain ⟨v, e2, r⟩ := h.getD e
    rw [e2]
    exact Reps.cons r Reps.nil
theorem reps_pick {G : Gm} {w : Wd} {ds es dd : List D} {vs zs dvs : List V} (h1 : Reps G w ds vs) (h2 : Reps G w es zs) (h3 : Reps G w dd dvs) : ∀ sel : List Src, Reps G w (pick sel ds es dd) (pick sel vs zs dvs)
  | [] => Reps.nil
  | x :: sel => by
    rw [pick_cons, pick_cons]
    refine Reps.append ?_ (reps_pick h1 h2 h3 sel)
    cases x with
    | p i => exact reps_get h1
    | k i => exact reps_get h2
    | d i => exact reps_get h3
/-- how a call binds: n values, keywords ks, defaults dd -/
def BdK (K : PySem.W.Frag) (fd : FuncData) (ps : List Str) (n : Nat) (ks : List Str) (sel : List Src) (dd : List D) : Prop :=
  ∃ (its : List Value) (dvs : List V), Vals dvs its ∧ (∀ (G : Gm), G.K = K → ∀ w : Wd, Reps G w dd dvs) ∧ ∀ (s : Shared) (us ws : List Value), K.In s.heap → us.length = n → ws.length = ks.length → BindsTo s fd ⟨us, ks.zip ws⟩ (ps.zip (pick sel us ws its))

/-! ### the written arguments -/
structure CW (X : Cx) (es : List Expr) (kws : List Keyword) (ks : List Str) (t : L2.St → Hp → (List V → List V → Hp → Prop) → Prop) : Prop where
  run : ∀ (pos : Pos) (pins : List (Addr × Obj)) (s : Shared) (σ : L2.St) (H : Hp) (f : Value) (first : List Value) (Qv : Value → Shared → Prop) (R : List V → List V → Hp → Prop), PySem.W.keepIn X.K f = true → Inv X pins σ H s → t σ H R →
    (∀ us ws vs zs s' H', Inv X pins σ H' s' → Vals vs us → Vals zs ws → R vs zs H' → wpAny (model X.prog X.w) X.A (call f (first ++ us) (ks.zip ws)) Qv X.xe s') →
    wpAny (model X.prog X.w) X.A (callWith pos f first (backTo pos (starEach es X.env)) (backToKw pos (keywordEach kws X.env))) Qv X.xe s
section
variable {X : Cx} {e : Expr} {es : List Expr} {kws : List Keyword} {ks : List Str} {t tk : TA}
theorem cw_kw0 (hk : PK X kws tk) (hall : ∀ pos, (backToKw pos (keywordEach kws X.env)).all (·.1.isSome) = true := by intro _; rfl) (hks : ∀ pos, (backToKw pos (keywordEach kws X.env)).filterMap (·.1) = ks := by intro _; rfl)
    (hpl : ∀ pos, ((backTo pos (starEach [] X.env)).any (·.1) || (backToKw pos (keywordEach kws X.env)).any (·.1.isNone)) = false := by intro _; rfl) :
    CW X [] kws ks (fun σ H R => tk σ H fun zs H2 => R [] zs H2) := ⟨fun pos pins s σ H f first Qv R hf I h k => by
  refine PySem.W.callWith_KW0 (h₀ := X.base) I.ok.mod.kin hf (hall pos) ?_ (hpl pos)
  refine thn (hk.run pos pins s σ H _ I h) fun ws s2 ⟨zs, H2, I2, rz, q2⟩ => ⟨I2.kIn, ?_⟩
  rw [hks pos]
  exact k [] ws [] zs s2 H2 I2 .nil rz q2⟩
theorem cw_pos (ha : PA X (e :: es) t) (he : starEach (e :: es) X.env = (false, eval e X.env) :: starEach es X.env := by rfl) (hpl : ∀ pos, (backTo pos (starEach es X.env)).any (·.1) = false := by intro _; rfl) :
    CW X (e :: es) [] [] (fun σ H R => t σ H fun vs H1 => R vs [] H1) := ⟨fun pos pins s σ H f first Qv R hf I h k => by
  refine PySem.W.callWith_K (h₀ := X.base) I.ok.mod.kin hf (thn (ha.run pos pins s σ H _ I h) ?_) he (hpl pos)
  rintro us s1 ⟨vs, H1, I1, r, q⟩
  exact ⟨I1.kIn, k us [] vs [] s1 H1 I1 r .nil q⟩⟩
end

/-! ### over data -/
abbrev FK := Env → (List D → List D → Pr) → XP → Pr
def tkD (G : Gm) (E : XK) (F : FK) : L2.St → Hp → (List V → List V → Hp → Prop) → Prop := fun s H R => ∃ w0 H0 r w QD EX, Fr G w0 H0 r s w H ∧ LkE G E w0 H0 EX ∧ F r QD EX w.sg ∧ ∀ ds es vs zs w' H', Le w H w' H' → Ok w' H' → Reps G w' ds vs → Reps G w' es zs → QD ds es w'.sg → R vs zs H'
def fKw (A B : FA) : FK := fun r Q EX σ => A r (fun ds σ => B r (fun es σ => Q ds es σ) EX σ) EX σ
section
variable {X : Cx} {G : Gm} {E : XK} {k n : Nat} {f C : Addr} {fd : FuncData} {ps ks : List Str} {sel : List Src} {dd : List D} {x m : Str} {p pos apos kpos : Pos} {e o : Expr} {es : List Expr} {kws : List Keyword} {A : FE} {B B2 : FA} {F : FK} {sp : DSp} {nm : Option Str}
theorem _root_.L2.PK.weak {t t' : TA} (h : PK X kws t) (k : ∀ s H Q, t' s H Q → t s H Q) : PK X kws t' := ⟨fun ps p s σ H Q I q => h.run ps p s σ H Q I (k σ H Q q)⟩
theorem ck_nil : PK X [] (taD G E fNil) := PK.weak pk_nil fun s H Q ⟨w0, H0, r, w, QD, EX, fr, lk, f, k⟩ => k [] [] w H (.refl w H) fr.ok Reps.nil f
theorem ck_cons (ha : PE X e (tD G E A)) (hr : PK X kws (taD G E B)) : PK X (⟨nm, e, kpos⟩ :: kws) (taD G E (fCons A B)) := (pk_cons ha hr).weak fun s H Q ⟨w0, H0, r, w, QD, EX, fr, lk, f, k⟩ =>
  ⟨w0, H0, r, w, _, EX, fr, lk, f, fun d v w1 H1 l1 ok1 r1 q1 => ⟨w0, H0, r, w1, _, EX, fr.go l1 ok1, lk, q1, fun ds vs w2 H2 l2 ok2 r2 q2 => k (d :: ds) (v :: vs) w2 H2 (l1.trans l2) ok2 (Reps.cons (r1.mono l2.sub) r2) q2⟩⟩
theorem _root_.DL.CW.weak {t t' : L2.St → Hp → (List V → List V → Hp → Prop) → Prop} (h : CW X es kws ks t) (k : ∀ s H R, t' s H R → t s H R) : CW X es kws ks t' := ⟨fun pos pins s σ H f first Qv R hf I q => h.run pos pins s σ H f first Qv R hf I (k σ H R q)⟩
theorem ck_kw0 (hk : PK X kws (taD G E B2)) (hall : ∀ pos, (backToKw pos (keywordEach kws X.env)).all (·.1.isSome) = true := by intro _; rfl) (hks : ∀ pos, (backToKw pos (keywordEach kws X.env)).filterMap (·.1) = ks := by intro _; rfl)
    (hpl : ∀ pos, ((backTo pos (starEach [] X.env)).any (·.1) || (backToKw pos (keywordEach kws X.env)).any (·.1.isNone)) = false := by intro _; rfl) :
    CW X [] kws ks (tkD G E (fKw fNil B2)) := (cw_kw0 hk hall hks hpl).weak fun s H R ⟨w0, H0, r, w, QD, EX, fr, lk, f, k⟩ =>
  ⟨w0, H0, r, w, _, EX, fr, lk, f, fun es zs w2 H2 l2 ok2 r2 q2 => k [] es [] zs w2 H2 l2 ok2 Reps.nil r2 q2⟩
theorem ck_pos (ha : PA X (e :: es) (taD G E B)) (he : starEach (e :: es) X.env = (false, eval e X.env) :: starEach es X.env := by rfl) (hpl : ∀ pos, (backTo pos (starEach es X.env)).any (·.1) = false := by intro _; rfl) :
    CW X (e :: es) [] [] (tkD G E (fKw B fNil)) := (cw_pos ha he hpl).weak fun s H R ⟨w0, H0, r, w, QD, EX, fr, lk, f, k⟩ =>
  ⟨w0, H0, r, w, _, EX, fr, lk, f, fun ds vs w2 H2 l2 ok2 r2 q2 => k ds [] vs [] w2 H2 l2 ok2 r2 Reps.nil q2⟩
theorem run_gk {sp : Sp} {pins : List (Addr × Obj)} {σ : L2.St} {H : Hp} {s : Shared} {Q : VK} {us ws : List Value} {vs : List V} {args : List Value} (F : FnG X.prog X.w X.K X.mg X.base k f fd ps sp) (hg : X.A.guards = some []) (hr : Room k X.A) (hb : BindsTo s fd ⟨us, ks.zip ws⟩ (ps.zip args)) (hx : PassX X E)
    (I : Inv X pins σ H s) (r : Vals vs args) (h : sp vs H Q E) : wpAny (model X.prog X.w) X.A (call (.ref f) us (ks.zip ws)) (EP X pins σ Q) X.xe s := by
  refine wpAny_call (codeAny_mono (F.run X.A X.stack s H ⟨us, ks.zip ws⟩ args vs Q E hg hr I.env0 hb r h) ?_)
  rintro (er | fl) s' hq
  · exact hx pins σ H s er s' I hq
  · cases fl <;> first
      | exact I.after hq
      | exact hq.elim
/-- f(.., k = ..) -/
def fCallK (n m : Nat) (sel : List Src) (dd : List D) (sp : DSp) (F : FK) : FE := fun r Q EX σ => F r (fun ds es σ => ds.length = n ∧ es.length = m ∧ sp (pick sel ds es dd) Q EX σ) EX σ
theorem ce_callK (Fn : FnG X.prog X.w X.K X.mg X.base k f fd ps (lift G sp)) (hm : X.mg x = some (.ref f)) (hk : PySem.W.keepIn X.K (.ref f) = true) (hb : BdK X.K fd ps n ks sel dd) (hgd : X.A.guards = some []) (hr : Room k X.A) (hx : PassX X E)
    (hc : CW X es kws ks (tkD G E F)) (hg : Gl X x := by rfl) (hdb : (x == ("__debug__" : Str)) = false := by decide) (hKG : G.K = X.K := by rfl) : PE X (.Call (.Name x p) es kws pos) (tD G E (fCallK n ks.length sel dd sp F)) := ⟨fun pins s σ H Q I h => by
  obtain ⟨w0, H0, r, w, QD, EX, fr, lk, f0, kk⟩ := h
  obtain ⟨its, dvs, rd, rD, bd⟩ := hb
  refine wpAny_Call_Name_kw (ld_glob I hg hm ?_ hdb)
  refine hc.run pos pins s σ H (.ref f) [] _ _ hk I ⟨w0, H0, r, w, _, EX, fr, lk, f0, fun ds es vs zs w1 H1 l1 ok1 r1 r2 q1 => (⟨w1, ds, es, l1, ok1, r1, r2, q1⟩ : ∃ w1 ds es, Le w H w1 H1 ∧ Ok w1 H1 ∧ Reps G w1 ds vs ∧ Reps G w1 es zs ∧ ds.length = n ∧ es.length = ks.length ∧ sp (pick sel ds es dd) QD EX w1.sg)⟩ ?_
  rintro us ws vs zs s' H' I' rv rz ⟨w1, ds, es, l1, ok1, r1, r2, hn, hm', q⟩
  refine run_gk (args := pick sel us ws its) Fn hgd hr (bd s' us ws I'.kIn (by rw [← rv.length, ← r1.length]; exact hn) (by rw [← rz.length, ← r2.length]; exact hm')) hx I' (vals_pick rv rz rd sel) ?_
  exact ⟨w1, pick sel ds es dd, QD, EX, ok1, reps_pick r1 r2 (rD G hKG w1) sel, q, fun d v w2 H2 l2 ok2 rp q2 => kk d v w2 H2 (l1.trans l2) ok2 rp q2, lk.go (fr.le.trans l1)⟩⟩
end
end DL
/-! The data layer, part 20: how calls bind; defs with defaults; objects made with keywords; what they compute. -/
namespace DL
open PySem L2 PyProof.Rows
section
variable {K : PySem.W.Frag} {x qual : Str} {st : Stmt} {f : Addr} {fd : FuncData} {ps : List Str}
/-- no defaults -/
theorem bdk_of (F : Fun K x qual st f fd) (n : Nat) (ks : List Str) (sel : List Src)
    (h : ∀ (kV doc pm : Value) (an : Option Addr) (cdv ct : Value) (us ws : List Value), us.length = n → ws.length = ks.length → bindArgs (PySem.W.fnOf x qual (defArgs st) (defBody st) (defScope st) .none kV doc pm an cdv ct) ⟨us, ks.zip ws⟩ = pure (ps.zip (pick sel us ws []))) : BdK K fd ps n ks sel [] := by
  obtain ⟨oc, od, kV, doc, pm, an, cdv, ct, osl, rfl, lk, hcd⟩ := F.ex
  exact ⟨[], [], .nil, fun _ _ _ => Reps.nil, fun s us ws _ h1 h2 => .of_eq (h kV doc pm an cdv ct us ws h1 h2)⟩
/-- a def with defaults, as it stands -/
abbrev FunF (K : PySem.W.Frag) (x qual : Str) (st : Stmt) (dvs : List V) (f : Addr) (fd : FuncData) : Prop := FunD K x qual (defArgs st) (defBody st) (defScope st) dvs [] f fd
theorem bdk_dfl {dvs : List V} {dd : List D} (F : FunF K x qual st dvs f fd) (hd : dvs ≠ []) (hr : ∀ (G : Gm), G.K = K → ∀ w : Wd, Reps G w dd dvs) (n : Nat) (ks : List Str) (sel : List Src)
    (h : ∀ (T : Addr) (kV doc pm : Value) (an : Option Addr) (cdv ct : Value) (us ws its : List Value), us.length = n → ws.length = ks.length → its.length = dvs.length →
      ∃ k, bindArgs (PySem.W.fnOf x qual (defArgs st) (defBody st) (defScope st) (.ref T) kV doc pm an cdv ct) ⟨us, ks.zip ws⟩ = seqItems? (.ref T) >>= k ∧ k (some its.toArray) = pure (ps.zip (pick sel us ws its))) : BdK K fd ps n ks sel dd := by
  obtain ⟨oc, od, dV, kV, doc, pm, an, cdv, ct, osl, rfl, lk, hcd, hD, hK⟩ := F.ex
  rcases hD with ⟨e, _⟩ | ⟨_, T, o, its, m, rfl, lT, oT, rT⟩
  · exact absurd e hd
  · refine ⟨its, dvs, rT, hr, fun s us ws X h1 h2 => ?_⟩
    obtain ⟨k, e1, e2⟩ := h T kV doc pm an cdv ct us ws its h1 h2 rT.length.symm
    refine BindsTo.of_looks fun M => ?_
    rw [e1]
    exact looks_items X lT oT (.of_pure e2)
end
section
variable {P : Program} {w : World} {K : PySem.W.Frag} {mg : Str → Option Value} {base : Heap} {k : Nat} {f : Addr} {N ps : List Str} {sp : Sp}
theorem FunD.okG {x qual : Str} {params : Arguments} {bd : List Stmt} {scope : Scope} {dvs : List V} {kws : List (Str × V)} {fd : FuncData} (F : FunD K x qual params bd scope dvs kws f fd) (S : FnScope N ps scope) (len : ∀ vs H Q E, sp vs H Q E → vs.length = ps.length)
    (body : ∀ (cdv : Value) (A : Around) (outer : List PySem.Env) (s : Shared) (H : Hp) (vs : List V) (Q : VK) (E : XK), A.guards = some [] → Room k (A.deeper (envOfC qual scope s.heap.objs.size f cdv)) → sp vs H Q E →
      ∃ t, PSs (cxOf (L2.CX P w) P w K mg base N qual scope f cdv A outer s H E) bd t ∧ t { nx := fun _ H' => Q .non H', rt := Q } (L2.start N vs) H) : FnG P w K mg base (k + 1) f fd ps sp := by
  obtain ⟨oc, od, dV, kV, doc, pm, an, cdv, ct, osl, rfl, lk, hcd, _, _⟩ := F.ex
  refine ⟨len, fun A outer s H args us vs Q E hg hr e0 hb rv hsp => ?_⟩
  have nl := len _ _ _ _ hsp
  have inK : K.In s.heap := e0.mod.kin.keeps fun b o e => (e0.bs b o e).1
  have lim : s.heap.NoLimit := e0.mod.nolimit.keeps fun b o e => (e0.bs b o e).1
  have kinds : ∀ y ∈ ps.zip us, scope.names.lookup y.1 = some .local ∨ (scope.names.lookup y.1 = some .cell ∧ ((cellsFrom (s.heap.objs.size + 1) scope.names []).lookup y.1).isSome = true) := by
    rintro ⟨n, v⟩ hy
    exact (S.par n (List.of_mem_zip hy).1).imp id fun q => ⟨q, PySem.W.cellsFrom_some _ _ _ (.inl q)⟩
  refine codeAny_call_function hr.depth (inK _ _ lk) rfl S.co S.gen rfl (PySem.W.codeRec_of inK hcd) (hb _ _ _ _ ?_)
  refine wpAny_newFunctionEnv_cells S.kind kinds fun env he s1 x1 => ?_
  subst he
  refine ⟨lim.keeps x1.toInCall.keep, codeAny_func ?_⟩
  obtain ⟨t, ht, hq⟩ := body cdv A outer s H vs Q E hg (hr.deeper _) hsp
  have I := inv_start (CX := L2.CX P w) (E := E) (qual := qual) (f := f) (cd := cdv) S hr.hd e0 nl rv x1
  refine wpAny_mono (ht.run [] s1 (L2.start N vs) H _ I hq) (fun fl s' hs => ?_) (fun e s' hs => hs)
  cases fl with
  | ret u =>
    obtain ⟨v, _, H', J, r, q⟩ := hs
    exact ⟨v, H', J.os, J.bare, J.base, J.hok, r, q⟩
  | next =>
    obtain ⟨_, H', J, q⟩ := hs
    exact ⟨V.non, H', J.os, J.bare, J.base, J.hok, rfl, q⟩
  | brk => exact (hs.elim fun _ z => z.elim fun _ y => (show False from y.2).elim)
  | cont => exact (hs.elim fun _ z => z.elim fun _ y => (show False from y.2).elim)
end
/-! ### C(.., k = ..) -/
def shiftS : Src → Src
  | .p i => .p (i + 1)
  | x => x
def selI (sel : List Src) : List Src := .p 0 :: sel.map shiftS
theorem pick_selI {α : Type} (sel : List Src) (a : α) (us ws its : List α) : pick (selI sel) (a :: us) ws its = a :: pick sel us ws its := by
  unfold selI
  rw [pick_cons]
  show a :: pick (sel.map shiftS) (a :: us) ws its = a :: pick sel us ws its
  congr 1
  induction sel with
  | nil => rfl
  | cons x sel ih =>
    rw [List.map_cons, pick_cons, pick_cons, ih]
    cases x <;> simp [shiftS]
section
variable {X : Cx} {G : Gm} {E : XK} {k n : Nat} {f C : Addr} {fd : FuncData} {ps ks : List Str} {sel : List Src} {dd : List D} {x : Str} {p pos : Pos} {es : List Expr} {kws : List Keyword} {F : FK}
theorem run_gmakeK {sp : Sp} {pins : List (Addr × Obj)} {σ : L2.St} {H : Hp} {s : Shared} {Q : VK} {us ws args : List Value} {vs : List V} (M : Mk X.K C f) (F : FnG X.prog X.w X.K X.mg X.base k f fd ps sp) (hgd : X.A.guards = some []) (hr : Room (k + 1) X.A)
    (hb : ∀ (s' : Shared) (a : Value), X.K.In s'.heap → BindsTo s' fd ⟨a :: us, ks.zip ws⟩ (ps.zip (a :: args))) (hx : PassX X E) (I : Inv X pins σ H s) (r : Vals vs args)
    (h : ∀ x dx, H x = none → H dx = none → dx ≠ x → sp (.ref x :: vs) (upd (upd H dx (.own x)) x (.ins C dx [])) (fun v H2 => v = .non ∧ Q (.ref x) H2) E) :
    wpAny (model X.prog X.w) X.A (call (.ref C) us (ks.zip ws)) (EP X pins σ Q) X.xe s := by
  have hq := h (s.heap.objs.size + 1) s.heap.objs.size (I.hok.fresh (Nat.le_succ _)) I.fresh (Nat.ne_of_lt (Nat.lt_succ_self _))
  have J := Inv.made (C := C) I
  have both : Vals (V.ref (s.heap.objs.size + 1) :: vs) (Value.ref (s.heap.objs.size + 1) :: args) := .cons rfl r
  refine wpAny_call (make_map (f := f) I.kIn M.makes M.init (beq_iff_eq.mp M.fn) (codeAny_mono (F.run _ X.stack _ _ ⟨Value.ref (s.heap.objs.size + 1) :: us, ks.zip ws⟩ (Value.ref (s.heap.objs.size + 1) :: args) _ _ E (guards_make hgd) (hr.make C us (ks.zip ws))
    (J.env0.make C us (ks.zip ws)) (hb _ _ J.kIn) both hq) ?_))
  rintro (er | fl) s' hq'
  · exact hx pins σ _ _ er s' J hq'
  · cases fl with
    | ret u =>
      obtain ⟨v, H', I3, rv, ev, q3⟩ := J.after hq'
      subst ev
      exact ⟨rv, V.ref (s.heap.objs.size + 1), H', I3, rfl, q3⟩
    | next => exact hq'.elim
    | brk => exact hq'.elim
    | cont => exact hq'.elim
def fMakeK (c n m : Nat) (sel : List Src) (dd : List D) (sp : List D → (List D → Pr) → XP → Pr) (F : FK) : FE := fun r Q EX σ => F r (fun ds es σ => ds.length + 1 = n ∧ es.length = m ∧ sp (pick sel ds es dd) (fun gs σ => Q (.obj c gs) σ) EX σ) EX σ
theorem ce_makeK {c : Nat} {spI : List D → (List D → Pr) → XP → Pr} (M : Mk X.K (G.cls c) f) (Fn : FnG X.prog X.w X.K X.mg X.base k f fd ps (liftI G c spI)) (hm : X.mg x = some (.ref (G.cls c))) (hb : BdK X.K fd ps n ks (selI sel) dd) (hgd : X.A.guards = some []) (hr : Room (k + 1) X.A) (hx : PassX X E)
    (hc : CW X es kws ks (tkD G E F)) (hg : Gl X x := by rfl) (hdb : (x == ("__debug__" : Str)) = false := by decide) (hKG : G.K = X.K := by rfl) : PE X (.Call (.Name x p) es kws pos) (tD G E (fMakeK c n ks.length sel dd spI F)) := ⟨fun pins s σ H Q I h => by
  obtain ⟨w0, H0, r, w, QD, EX, fr, lk, f0, kk⟩ := h
  obtain ⟨its, dvs, rd, rD, bd⟩ := hb
  refine wpAny_Call_Name_kw (ld_glob I hg hm ?_ hdb)
  refine hc.run pos pins s σ H (.ref (G.cls c)) [] _ _ M.kp I ⟨w0, H0, r, w, _, EX, fr, lk, f0, fun ds es vs zs w1 H1 l1 ok1 r1 r2 q1 => (⟨w1, ds, es, l1, ok1, r1, r2, q1⟩ : ∃ w1 ds es, Le w H w1 H1 ∧ Ok w1 H1 ∧ Reps G w1 ds vs ∧ Reps G w1 es zs ∧ ds.length + 1 = n ∧ es.length = ks.length ∧ spI (pick sel ds es dd) (fun gs σ => QD (.obj c gs) σ) EX w1.sg)⟩ ?_
  rintro us ws vs zs s' H' I' rv rz ⟨w1, ds, es, l1, ok1, r1, r2, hn, hm', q⟩
  refine run_gmakeK (us := us) (args := pick sel us ws its) M Fn hgd hr (fun s2 a hin => ?_) hx I' (vals_pick rv rz rd sel) fun y dy ny ndy ne => ?_
  · have := bd s2 (a :: us) ws hin (by rw [List.length_cons, ← rv.length, ← r1.length]; exact hn) (by rw [← rz.length, ← r2.length]; exact hm')
    rw [pick_selI] at this
    exact this
  · exact ⟨w1, H', y, dy, pick sel vs zs dvs, pick sel ds es dd, _, EX, rfl, ny, ndy, ne, rfl, ok1, reps_pick r1 r2 (rD G hKG w1) sel, q, fun es fs w2 H2 dz l2 ok2 mi h2 hf r3 q2 => ⟨rfl, by
      refine kk (.obj c es) (.ref y) (w2.frz H2 y) H2 (l1.trans (l2.frz mi.1 ny)) (ok2.frz mi.2.1) ?_ q2
      unfold Rep
      exact ⟨y, dz, fs, rfl, by rw [frz_at]; exact h2, hf, r3.mono (.frz mi.1), l2.sub.two (l1.sub.two (fr.le.sub.two lk.2))⟩⟩, lk.go (fr.le.trans l1)⟩⟩
end
/-- () as a default -/
theorem rep_unit {G : Gm} {K : PySem.W.Frag} {w : Wd} {a : Addr} {n : Nat} {sl : Array (Option Value)} (h : K.lookup a = some ⟨.type "tuple", none, .seq #[] n, sl⟩) (hK : G.K = K) : Rep G w (.tup []) (.ref a) := by
  unfold Rep
  exact ⟨a, [], rfl, .inr ⟨_, #[], n, by rw [hK]; exact h, rfl, rfl, rfl, Nat.zero_le _, .nil⟩, Reps.nil⟩
/-! ### what they compute -/
def xKw (a b : List Sl → R (List D)) (r : List Sl) : R (List D × List D) := (a r).bind fun ds => (b r).bind fun es => .ok (ds, es)
def CK (F : FK) (c : List Sl → R (List D × List D)) : Prop := ∀ {x : Addr} r r' Q EX σ, Sim x r r' → (c r).hold (fun p => Q p.1 p.2 σ) (XP.at_ EX σ) → F r' Q EX σ
theorem f_kw {A B : FA} {a b : List Sl → R (List D)} (ha : CF A a) (hb : CF B b) : CK (fKw A B) (xKw a b) := fun r r' Q EX σ s h =>
  ha r r' _ EX σ s ((hold_bind h).imp fun ds h1 => hb r r' _ EX σ s ((hold_bind h1).imp fun es h2 => h2))
def xCallK (n m : Nat) (sel : List Src) (dd : List D) (c : List D → R D) (a : List Sl → R (List D × List D)) (r : List Sl) : R D := (a r).bind fun p => if p.1.length = n ∧ p.2.length = m then frcs (pick sel p.1 p.2 dd) c else .no
theorem f_callK {n m : Nat} {sel : List Src} {dd : List D} {c : List D → R D} {F : FK} {a : List Sl → R (List D × List D)} (ha : CK F a) : CF (fCallK n m sel dd (spOf c) F) (xCallK n m sel dd c a) := fun r r' Q EX σ s h => ha r r' _ EX σ s ((hold_bind h).imp fun p h1 => by
  by_cases z : p.1.length = n ∧ p.2.length = m
  · rw [if_pos z, frcs_eq] at h1
    exact ⟨z.1, z.2, h1⟩
  · rw [if_neg z] at h1; exact h1.elim)
def xMakeK (k n m : Nat) (sel : List Src) (dd : List D) (c : List D → R D) (b : List Sl → R (List D × List D)) (r : List Sl) : R D := (b r).bind fun p => if p.1.length + 1 = n ∧ p.2.length = m then (frcs (pick sel p.1 p.2 dd) c).bind fun d => (match d with
  | .tup es => .ok (.obj k es)
  | _ => .no) else .no
theorem f_makeK {k n m : Nat} {sel : List Src} {dd : List D} {c : List D → R D} {F : FK} {b : List Sl → R (List D × List D)} (hb : CK F b) : CF (fMakeK k n m sel dd (spIn c) F) (xMakeK k n m sel dd c b) := fun r r' Q EX σ s h => hb r r' _ EX σ s ((hold_bind h).imp fun p h2 => by
  by_cases z2 : p.1.length + 1 = n ∧ p.2.length = m
  · rw [if_pos z2, frcs_eq] at h2
    refine ⟨z2.1, z2.2, ?_⟩
    refine (hold_bind h2).imp fun d h3 => ?_
    cases d <;> first | exact h3.elim | exact h3
  · rw [if_neg z2] at h2; exact h2.elim)
end DL
namespace DL
open PySem L2
/-- a def of the text with its promise, and how it stands -/
def DefU (P : Program) (w : World) (G : Gm) (mg : Str → Option Value) (base : Heap) (k : Nat) (f : Addr) (ps : List Str) (U : FuncData → Prop) (sp : Sp) : Prop := ∃ fd, FnG P w G.K mg base k f fd ps sp ∧ U fd
end DL
/-! The data layer, part 21: own lists: by +, moved, walked. -/
namespace DL
open PySem L2 PyProof.Rows
section
variable {X : Cx} {G : Gm} {E : XK} {a b e : Expr} {pos : Pos} {A B : FE}
/-- a + b of lists, as a new list -/
def fAddN (A B : FE) : FA := fun r Q EX σ => A r (fun x σ => B r (fun y σ => match x, y with
  | .lst xs, .lst ys => xs.length + ys.length ≤ sizeLine ∧ Q (xs ++ ys) σ
  | _, _ => False) EX σ) EX σ
theorem cf_add (ha : PE X a (bD G E A)) (hb : PE X b (bD G E B)) (hK : X.K = G.K := by rfl) : PE X (.BinOp a .Add b pos) (fD G E (fAddN A B)) := (pe_op op_catR ha hb).weak fun s H Q ⟨w0, H0, r, w, QD, EX, fr, lk, f, k⟩ => by
  refine ⟨w0, H0, r, w, _, EX, fr, lk, f, fun x v w1 H1 l1 ok1 s1 q1 => ?_⟩
  refine ⟨w0, H0, r, w1, _, EX, fr.go l1 ok1, lk, q1, fun y u w2 H2 l2 ok2 s2 q2 => ?_⟩
  cases x <;> try exact q2.elim
  cases y <;> try exact q2.elim
  rename_i xs ys
  obtain ⟨hz, q2⟩ := q2
  obtain ⟨p, vs, rfl, t1, r1⟩ := (s1.go l2).lst_of ok2
  obtain ⟨q, us, rfl, t2, r2⟩ := s2.lst_of ok2
  refine ⟨p, q, vs, us, rfl, rfl, hK ▸ t1, hK ▸ t2, by rw [← r1.length, ← r2.length]; exact hz, fun n hn => ?_⟩
  exact k _ n _ w2 _ ((l1.trans l2).trans (Le.new hn)) (ok2.new hn) ((l1.trans l2).none_of hn) (Mine.new (w := w) (H := H) (fr.le.trans (l1.trans l2)) ok2 hn) upd_same (r1.append r2) q2
def xAddN (a b : List Sl → R D) (r : List Sl) : R (List D) := (a r).bind fun x => (b r).bind fun y => match x, y with
  | .lst xs, .lst ys => if Nat.ble (xs.length + ys.length) 16777216 = true then .ok (xs ++ ys) else .no
  | _, _ => .no
theorem f_addN {a b : List Sl → R D} (ha : CF A a) (hb : CF B b) : CF (fAddN A B) (xAddN a b) := fun r r' Q EX σ s h => ha r r' _ EX σ s ((hold_bind h).imp fun x h1 => hb r r' _ EX σ s ((hold_bind h1).imp fun y h2 => by
  cases x <;> try exact h2.elim
  cases y <;> try exact h2.elim
  rename_i xs ys
  dsimp only at h2 ⊢
  by_cases z : Nat.ble (xs.length + ys.length) 16777216 = true
  · rw [if_pos z] at h2
    exact ⟨by rw [sizeLine_eq]; exact Nat.le_of_ble_eq_true z, h2⟩
  · rw [if_neg z] at h2; exact h2.elim))
/-- x = y, y an own list that is not looked at again: it is x's from here on -/
def sMove (i j : Nat) : FS := fun A _ r σ => match r[j]? with
  | some (.own ds) => A.nx ((r.set j .un).set i (.own ds)) σ
  | _ => False
theorem Fr.un {w0 : Wd} {H0 : Hp} {r : Env} {s : L2.St} {w : Wd} {H : Hp} (f : Fr G w0 H0 r s w H) (j : Nat) : Fr G w0 H0 (r.set j .un) s w H where
  gm := f.gm
  ok := f.ok
  le := f.le
  len := by rw [List.length_set]; exact f.len
  slot := fun i x e => by
    by_cases z : j = i
    · subst z
      have hj : j < r.length := by
        have q := (List.getElem?_eq_some_iff.mp e).1
        simpa using q
      rw [List.getElem?_set_self hj] at e
      cases e
      trivial
    · rw [List.getElem?_set_ne z] at e
      exact f.slot i x e
  dist := fun i k x y a e1 e2 o1 o2 q1 q2 => by
    have nn : ∀ {n : Nat} {u : Sl}, (r.set j .un)[n]? = some u → u.isOwn = true → r[n]? = some u := fun {n u} en on => by
      by_cases z : j = n
      · subst z
        have hj : j < r.length := by
          have q := (List.getElem?_eq_some_iff.mp en).1
          simpa using q
        rw [List.getElem?_set_self hj] at en
        cases en
        cases on
      · rw [List.getElem?_set_ne z] at en; exact en
    exact f.dist i k x y a (nn e1 o1) (nn e2 o2) o1 o2 q1 q2
theorem cs_move (i j : Nat) {x y : Str} {p pos' : Pos} (hN : X.N.Nodup) (hi : X.N[i]? = some x := by rfl) (hj : X.N[j]? = some y := by rfl) (hij : i ≠ j := by decide) (hx : Loc X.env.scope x := by first | exact Or.inl rfl | exact Or.inr rfl) (hv : Vis X.env.scope y := by first | exact Or.inl rfl | exact Or.inr (Or.inl rfl) | exact Or.inr (Or.inr rfl))
    (hs : swapsWith (.Name y p) (some (.Name x pos')) pos.line X.env = pure false := by rfl) (hd : (y == ("__debug__" : Str)) = false := by decide) (hcd : (y == ("__classdict__" : Str)) = false := by decide)
    (hf : X.fn x = true ∨ X.env.scope.names.lookup x = some .local := by first | exact .inl rfl | exact .inr rfl | assumption) : PS X (.Assign [.Name x pos'] (.Name y p) pos) (sD G E (sMove i j)) := (ps_set hN hi hx (pe_var hj hv hd hcd) hs hf).weak fun B s H ⟨w0, H0, wk, r, w, A, EX, fr, sb, lk, ll, f⟩ => by
  unfold sMove at f
  cases e : r[j]? with
  | none => rw [e] at f; exact f.elim
  | some sl =>
    rw [e] at f
    cases sl <;> try exact f.elim
    rename_i ds
    obtain ⟨a, vs, q, m, h1, rp⟩ := fr.slot j _ e
    refine ⟨_, q, ll.nx _ _ w H ?_ sb f⟩
    have fu := Fr.un fr j
    refine ⟨fu.gm, fu.ok, fu.le, by rw [List.length_set, List.length_set]; simpa using fu.len, fun k y' e' => ?_, fun k l y1 y2 b e1 e2 o1 o2 q1 q2 => ?_⟩
    · by_cases z : i = k
      · subst z
        have hk : i < (r.set j .un).length := by
          have q' := (List.getElem?_eq_some_iff.mp e').1
          simpa using q'
        rw [List.getElem?_set_self hk] at e'
        cases e'
        rw [List.getElem?_set_self (fu.len ▸ hk)]
        exact ⟨a, vs, rfl, m, h1, rp⟩
      · rw [List.getElem?_set_ne z] at e'
        rw [List.getElem?_set_ne z]
        exact fu.slot k y' e'
    · -- two own slots at one address
      have old : ∀ {n : Nat} {u : Sl}, n ≠ i → ((r.set j .un).set i (.own ds))[n]? = some u → u.isOwn = true → r[n]? = some u ∧ n ≠ j := fun {n u} hn en on => by
        rw [List.getElem?_set_ne fun z => hn z.symm] at en
        by_cases z : j = n
        · subst z
          have hj' : j < r.length := by
            have q' := (List.getElem?_eq_some_iff.mp en).1
            simpa using q'
          rw [List.getElem?_set_self hj'] at en
          cases en
          cases on
        · rw [List.getElem?_set_ne z] at en
          exact ⟨en, fun y => z y.symm⟩
      have hil : ∀ {n : Nat} {u : Sl}, n = i → ((r.set j .un).set i (.own ds))[n]? = some u → i < s.length := fun {n u} en e => by
        have q' := (List.getElem?_eq_some_iff.mp e).1
        rw [List.length_set, List.length_set, en] at q'
        exact fr.len ▸ q'
      by_cases z1 : k = i
      · by_cases z2 : l = i
        · rw [z1, z2]
        · exfalso
          obtain ⟨e3, n3⟩ := old z2 e2 o2
          rw [z1, List.getElem?_set_self (hil z1 e1)] at q1
          rw [List.getElem?_set_ne fun z => z2 z.symm] at q2
          have ea : a = b := by cases q1; rfl
          subst ea
          exact n3 (fr.dist l j y2 _ a e3 e o2 rfl q2 q)
      · obtain ⟨e3, n3⟩ := old z1 e1 o1
        rw [List.getElem?_set_ne fun z => z1 z.symm] at q1
        by_cases z2 : l = i
        · exfalso
          rw [z2, List.getElem?_set_self (hil z2 e2)] at q2
          have ea : a = b := by cases q2; rfl
          subst ea
          exact n3 (fr.dist k j y1 _ a e3 e o1 rfl q1 q)
        · obtain ⟨e4, n4⟩ := old z2 e2 o2
          rw [List.getElem?_set_ne fun z => z2 z.symm] at q2
          exact fr.dist k l y1 y2 b e3 e4 o1 o2 q1 q2
end
def yMove (i j : Nat) (r : Env) : RS := match r[j]? with
  | some (.own ds) => .nx ((r.set j .un).set i (.own ds))
  | _ => .no
theorem s_move {i j : Nat} : CS (sMove i j) (yMove i j) := fun r r' A EX σ s h => by
  unfold yMove at h
  unfold sMove
  cases e : r[j]? with
  | none => rw [e] at h; exact h.elim
  | some x =>
    rw [e] at h
    cases x <;> try exact h.elim
    rw [s.own e]
    exact h _ ((s.set j .un).set i _)
end DL
/-! The data layer, part 22: {k: v, ..}, a new dict as a value. -/
namespace DL
open PySem L2 PyProof.Rows
section
variable {X : Cx} {G : Gm} {E : XK} {a b e : Expr} {pos : Pos} {A B : FE}
def kD : Key → D
  | .inl n => .int n
  | .inr s => .str s
inductive CPs : List (FE × FE) → List ((DL.Env → R D) × (DL.Env → R D)) → Prop where
  | nil : CPs [] []
  | cons {A B : FE} {a b : DL.Env → R D} {ps qs} (ha : CF A a) (hb : CF B b) (h : CPs ps qs) : CPs ((A, B) :: ps) ((a, b) :: qs)
end
end DL
/-! The data layer, part 23: -x. -/
namespace DL
open PySem L2 PyProof.Rows
section
variable {X : Cx} {G : Gm} {E : XK} {a b e : Expr} {pos : Pos} {A B : FE}
def fNeg (A : FE) : FE := fun r Q EX σ => A r (fun d σ => match d with
  | .int n => Q (.int (-n)) σ
  | _ => False) EX σ
theorem ce_neg (ha : PE X a (tD G E A)) : PE X (.UnaryOp .USub a pos) (tD G E (fNeg A)) := (pe_un un_neg ha).weak fun s H Q ⟨w0, H0, r, w, QD, EX, fr, lk, f, k⟩ =>
  ⟨w0, H0, r, w, _, EX, fr, lk, f, fun x v w1 H1 l1 ok1 rp q1 => by
    cases x <;> try exact q1.elim
    rw [rp.int_of]
    exact ⟨_, rfl, k _ _ w1 H1 l1 ok1 Rep.int q1⟩⟩
def xNeg (a : DL.Env → R D) (r : DL.Env) : R D := (a r).bind fun d => match d with
  | .int n => .ok (.int (-n))
  | _ => .no
theorem f_neg {a : DL.Env → R D} (ha : CF A a) : CF (fNeg A) (xNeg a) := fun r r' Q EX σ s h => ha r r' _ EX σ s ((hold_bind h).imp fun d h1 => by
  cases d <;> first | exact h1.elim | exact h1)
end
end DL
/-! The data layer, part 24: a, b = e, [..] where a name is a cell: the tuple is made and taken apart. -/
namespace DL
open PySem L2 PyProof.Rows
section
variable {X : Cx} {G : Gm} {E : XK} {pos : Pos} {i j : Nat} {x y : Str} {a b : Expr} {px py pt : Pos} {kt k2 pt2}
end
end DL
/-! A walk over a list, a tuple or a text, whichever it is. -/
namespace DL
open PySem L2 PyProof.Rows
/-- what is walked of a list, a tuple, a text -/
def seqD : D → Option (List D)
  | .lst ds => some ds
  | .tup ds => some ds
  | .str z => some (signs z)
  | _ => none
def fItA (A : FE) : FI := fun r Q EX σ => A r (fun d σ => ∃ ds, seqD d = some ds ∧ Q ds σ) EX σ
section
variable {X : Cx} {G : Gm} {E : XK} {tg l : Expr} {A : FE}
def iAnyT (K : PySem.W.Frag) (tl : TE) : TI := fun σ H R => tl σ H fun x H1 =>
  (∃ a, x = .ref a ∧ (∃ xs, SqL K H1 a xs) ∧ R (Itl K a) H1) ∨ (∃ a, x = .ref a ∧ (∃ xs, SqT K H1 a xs) ∧ R (Itt K a) H1) ∨ (∃ z, x = .str z ∧ R (Its z) H1)
theorem pi_anyT {tl : TE} (hl : PE X l tl) : PI X tg l (iAnyT X.K tl) := by
  refine ⟨fun pins s σ H R I h => ?_⟩
  refine thn (hl.run pins s σ H _ I h) fun v s1 ⟨x, H1, I1, r1, q1⟩ => ?_
  rcases q1 with ⟨a, e, ⟨xs, hq⟩, q⟩ | ⟨a, e, ⟨xs, hq⟩, q⟩ | ⟨z, e, q⟩
  · subst e
    cases r1
    obtain ⟨its, rv, p, hz⟩ := I1.list hq
    refine wpAny_pyIter_list p.isList ?_
    refine ⟨s1.heap.objs.size, [s1.heap.objs.size], _, _, H1, rfl, I1.kept (t' := s1.toks) fun b o e => Heap.get?_push_of_some _ e, turn_list a _, ⟨_, Heap.get?_push_size _ rfl, rfl, rfl⟩, fun b hb => ?_, q⟩
    have e : b = s1.heap.objs.size := by simpa using hb
    subst e
    exact I1.fpOk (Nat.le_refl _) (I1.hok.fresh (Nat.le_refl _))
  · subst e
    cases r1
    obtain ⟨its, rv, p, hz⟩ := I1.tuple hq
    refine wpAny_pyIter_tuple (show s1.heap.IsTuple a its.toArray from p) ?_
    refine ⟨s1.heap.objs.size, [s1.heap.objs.size], _, _, H1, rfl, I1.kept (t' := s1.toks) fun b o e => Heap.get?_push_of_some _ e, turn_tuple a _, ⟨_, Heap.get?_push_size _ rfl, rfl, rfl⟩, fun b hb => ?_, q⟩
    have e : b = s1.heap.objs.size := by simpa using hb
    subst e
    exact I1.fpOk (Nat.le_refl _) (I1.hok.fresh (Nat.le_refl _))
  · subst e
    obtain ⟨t, rfl⟩ := r1
    cases ha : z.cps.all (· < 128)
    · exact wpAny_pyIter_wide ha (pi_one (tk := s1.toks) I1 _ (turn_str _ z t "str_iterator" (.inr rfl)) ⟨_, Heap.get?_push_size _ rfl, rfl, rfl⟩ q)
    · exact wpAny_pyIter_ascii ha (pi_one (tk := s1.toks) I1 _ (turn_str _ z t "str_ascii_iterator" (.inl rfl)) ⟨_, Heap.get?_push_size _ rfl, rfl, rfl⟩ q)
theorem cis_any (h : PE X l (tD G E A)) (hK : X.K = G.K := by rfl) : PI X tg l (iS G E (fItA A)) := (pi_anyT h).weak fun s H R ⟨w0, H0, r, w, QD, EX, fr, lk, f, k⟩ =>
  ⟨w0, H0, r, w, _, EX, fr, lk, f, fun d v w1 H1 l1 ok1 r1 ⟨ds, ed, q⟩ => by
    cases d <;> first | (cases ed; done) | skip
    · rename_i z zz
      cases ed
      exact .inr (.inr ⟨z, r1.str_of, k (signs z) _ w1 H1 l1 ok1 src_str q⟩)
    · cases ed
      obtain ⟨a, vs, ev, h1, r2⟩ := r1.tup_of
      exact .inr (.inl ⟨a, ev, ⟨vs, hK ▸ sqT_sub ok1.sub h1.sqt⟩, k _ _ w1 H1 l1 ok1 (src_tup (hK ▸ h1.sqt) r2) q⟩)
    · cases ed
      obtain ⟨a, vs, ev, h1, r2⟩ := r1.lst_of
      exact .inl ⟨a, ev, ⟨vs, hK ▸ (lsT_sub ok1.sub h1).sql⟩, k _ _ w1 H1 l1 ok1 (src_list (hK ▸ h1) r2) q⟩⟩
theorem cie_any (h : PE X l (bD G E A)) (hK : X.K = G.K := by rfl) : PI X tg l (iE G E (fItA A)) := (pi_anyT h).weak fun s H R ⟨w0, H0, r, w, QD, EX, fr, lk, f, k⟩ =>
  ⟨w0, H0, r, w, _, EX, fr, lk, f, fun d v w1 H1 l1 ok1 r1 ⟨ds, ed, q⟩ => by
    cases d <;> first | (cases ed; done) | skip
    · rename_i z zz
      cases ed
      rcases r1 with r1 | ⟨_, _, _, _, e2, _⟩ | ⟨_, _, _, _, _, e2, _⟩
      · exact .inr (.inr ⟨z, r1.str_of, k (signs z) _ w1 H1 l1 ok1 src_str.toE q⟩)
      · cases e2
      · cases e2
    · cases ed
      rcases r1 with r1 | ⟨_, _, _, _, e2, _⟩ | ⟨_, _, _, _, _, e2, _⟩
      · obtain ⟨a, vs, ev, h1, r2⟩ := r1.tup_of
        exact .inr (.inl ⟨a, ev, ⟨vs, hK ▸ sqT_sub ok1.sub h1.sqt⟩, k _ _ w1 H1 l1 ok1 (src_tup (hK ▸ h1.sqt) r2).toE q⟩)
      · cases e2
      · cases e2
    · cases ed
      rcases r1 with r1 | ⟨a, vs, es, ev, e2, m, h1, r2⟩ | ⟨_, _, _, _, _, e2, _⟩
      · obtain ⟨a, vs, ev, h1, r2⟩ := r1.lst_of
        exact .inl ⟨a, ev, ⟨vs, hK ▸ (lsT_sub ok1.sub h1).sql⟩, k _ _ w1 H1 l1 ok1 (src_list (hK ▸ h1) r2).toE q⟩
      · cases e2
        exact .inl ⟨a, ev, ⟨vs, .inl (.of h1)⟩, k _ _ w1 H1 l1 ok1 (src_listE m.2.1 h1 r2) q⟩
      · cases e2⟩
end
def iA (a : Env → R D) (r : Env) : R (List D) := (a r).bind fun d => match seqD d with
  | some ds => .ok ds
  | none => .no
theorem f_itA {A : FE} {a : Env → R D} (ha : CF A a) : CF (fItA A) (iA a) := fun r r' Q EX σ s h => ha r r' _ EX σ s ((hold_bind h).imp fun d h1 => by
  cases e : seqD d with
  | none => rw [e] at h1; exact h1.elim
  | some ds => rw [e] at h1; exact ⟨ds, rfl, h1⟩)
end DL
/-! list * int. -/
namespace DL
open PySem L2 PyProof.Rows
variable {G : Gm} {X : Cx}
theorem vals_rep {xs : List V} {its : List Value} (r : Vals xs its) : ∀ n : Nat, Vals (List.replicate n xs).flatten (List.replicate n its).flatten
  | 0 => .nil
  | n + 1 => by
    rw [List.replicate_succ, List.replicate_succ, List.flatten_cons, List.flatten_cons]
    exact Vals.append r (vals_rep r n)
theorem op_mulL : OpR X (binaryOp .Mult) (fun x y H Q => ∃ l xs n, x = V.ref l ∧ y = V.int n ∧ LsT X.K H l xs ∧ 0 ≤ n ∧ n ≤ 16777216 ∧ xs.length * n.toNat ≤ 16777216 ∧ ∀ p, H p = none → Q (.ref p) (upd H p (.lst (List.replicate n.toNat xs).flatten))) := by
  intro pins s σ H x y v u Q I rx ry h
  obtain ⟨l, xs, n, rfl, rfl, hs, h0, h1, hz, q⟩ := h
  obtain rfl : v = Value.ref l := rx
  obtain ⟨k, rfl⟩ := ry
  obtain ⟨its, m, rv, ho⟩ := hs.at I
  have hsl := sizeLine_eq
  have hl : its.length = xs.length := rv.length.symm
  have hz' : its.toArray.size * n.toNat ≤ 16777216 := by rw [List.size_toArray, hl]; exact hz
  refine wpAny_binaryOp_repeat_ref (T := "list") (U := "int") (by decide) ⟨_, ho, rfl⟩ (fun s' => typeIs_int s' n k) noFill_list_mul F.fills_int_mul F.slot_int_rmul repeat_list F.slot_int_index.lookup
    (call_meets F.slot_int_rmul (typeIs_int s n k) F.entry_int_rmul (F.args_int_rmul_2 _ _) (int___rmul___int_list n k l its.toArray m)
      ⟨ho, rfl, ⟨_, ho, rfl⟩, call_meets F.slot_list_mul ⟨_, ho, rfl⟩ F.entry_list_mul (F.args_list_mul_2 _ _)
        (AutoListH.list___mul___list_int_3 l its.toArray m n k (by simp [Builtin.List.listFitsIndex]; omega) (by omega) (by simp only [Builtin.List.listTooLong, decide_eq_true_eq]; omega))
        ⟨ho, ?_⟩⟩)
  rw [listMul_foldl_if]
  refine ⟨V.ref s.heap.objs.size, upd H s.heap.objs.size (.lst (List.replicate n.toNat xs).flatten), I.lnew (t' := s.toks) (vals_rep rv n.toNat) ?_, rfl, q _ I.fresh⟩
  rw [List.length_flatten, List.map_replicate, List.sum_replicate_nat, Nat.mul_comm, sizeLine_eq]
  exact hz
theorem tuple_mul1 (l : Addr) (items : Array Value) (n : Nat) (dd : Option Addr) (sl : Array (Option Value)) (u : Tok) :
    Meets (Builtin.«tuple.__mul__» ⟨[.ref l, .int 1 u], []⟩) (fun _ R s => s.heap.get? l = some { cls := .type "tuple", dict := dd, data := .seq items n, slots := sl } ∧ R (.ok (.ret (Value.ref l))) s) :=
  .of_wp fun prog w A R s h => by
    obtain ⟨hp, g, d, tk, os⟩ := s
    obtain ⟨hl, h⟩ := h
    have f1 := AutoSeq1.idx_int
    have c0 : (decide ((1 : Int) < -(2 ^ 63)) || decide ((1 : Int) ≥ 2 ^ 63)) = false := by decide
    have c1 : (items.isEmpty || (1 : Int) == 1) = true := by simp
    wp_walk using wpAny_loadPart' hl
    repeat (first
      | (refine wpAny_ite_false (decide_eq_false (by rw [c0]; exact Bool.false_ne_true)) ?_; wp_walk using wpAny_loadPart' hl)
      | (refine wpAny_ite_true (decide_eq_true c1) ?_; wp_walk using wpAny_loadPart' hl))
    exact ⟨_, rfl, h⟩
def rRepA (K : PySem.W.Frag) : R2 := fun x y H Q => ∃ l k xs, x = .ref l ∧ y = .int k ∧ SqT K H l xs ∧ ((k = 1 ∧ Q (.ref l) H) ∨ (xs ≠ [] ∧ 2 ≤ k ∧ k ≤ 1000 ∧ xs.length ≤ 1000 ∧ NewT H (List.replicate k.toNat xs).flatten Q))
theorem op_repA : OpR X (binaryOp .Mult) (rRepA X.K) := by
  intro pins s σ H x y v u Q I rx ry h
  obtain ⟨l, k, xs, rfl, rfl, hT, h⟩ := h
  cases rx
  obtain ⟨t, rfl⟩ := ry
  obtain ⟨its, r, ⟨⟨cls, dd, data, sl⟩, ho, hc, n, hd⟩, hs⟩ := I.tuple hT
  simp only at hc hd
  subst hc hd
  rcases h with ⟨rfl, q⟩ | ⟨hne, h1, h2, hz, q⟩
  · exact wpAny_binaryOp_repeat_ref (T := "tuple") (U := "int") (by decide) ⟨_, ho, rfl⟩ (fun s' => typeIs_int s' 1 t) noFill_tuple_mul F.fills_int_mul F.slot_int_rmul repeat_tuple F.slot_int_index.lookup
      (call_meets F.slot_int_rmul (typeIs_int s 1 t) F.entry_int_rmul (F.args_int_rmul_2 _ _) (int_rmul_tuple 1 t l its.toArray n dd sl)
        ⟨ho, rfl, ⟨_, ho, rfl⟩, call_meets F.slot_tuple_mul ⟨_, ho, rfl⟩ F.entry_tuple_mul (F.args_tuple_mul_2 _ _) (tuple_mul1 l its.toArray n dd sl t) ⟨ho, ⟨.ref l, H, I, rfl, q⟩⟩⟩)
  have hle : its.length = xs.length := r.length.symm
  have hn : its ≠ [] := fun e => hne (by
    rw [e] at hle
    exact List.eq_nil_of_length_eq_zero hle.symm)
  have hi : its.toArray.isEmpty = false := by
    cases its with
    | nil => exact absurd rfl hn
    | cons a b => rfl
  have hsz0 : its.toArray.size = xs.length := by rw [List.size_toArray, hle]
  have hm : ((its.toArray.size : Nat) : Int) * k ≤ 1000000 := by
    rw [hsz0]
    have a1 : ((xs.length : Nat) : Int) * k ≤ 1000 * k := Int.mul_le_mul_of_nonneg_right (by omega) (by omega)
    omega
  have flen : (List.replicate k.toNat its).flatten.length ≤ sizeLine := by
    rw [PyProof.Rows.lm_len_rep_flat, hle, sizeLine_eq]
    have a1 : k.toNat * xs.length ≤ 1000 * 1000 := Nat.mul_le_mul (by omega) hz
    omega
  have c0 : (decide (k < -(2 ^ 63)) || decide (k ≥ 2 ^ 63)) = false := by
    rw [decide_eq_false (by omega), decide_eq_false (by omega)] <;> rfl
  have c1 : (its.toArray.isEmpty || k == 1) = false := by
    rw [hi, Bool.false_or]
    exact beq_eq_false_iff_ne.mpr (by omega)
  have c2 : (decide (k ≤ 0) || its.toArray.isEmpty) = false := by
    rw [hi, Bool.or_false]
    exact decide_eq_false (by omega)
  have c4 : Builtin.Tuple.tupleTooMany (((its.toArray.size : Nat) : Int) * k) = false := by
    unfold Builtin.Tuple.tupleTooMany
    rw [sizeLine_eq]
    exact decide_eq_false (by omega)
  refine wpAny_binaryOp_repeat_ref (T := "tuple") (U := "int") (by decide) ⟨_, ho, rfl⟩ (fun s' => typeIs_int s' k t) noFill_tuple_mul F.fills_int_mul F.slot_int_rmul repeat_tuple F.slot_int_index.lookup
    (call_meets F.slot_int_rmul (typeIs_int s k t) F.entry_int_rmul (F.args_int_rmul_2 _ _) (int_rmul_tuple k t l its.toArray n dd sl)
      ⟨ho, rfl, ⟨_, ho, rfl⟩, call_meets F.slot_tuple_mul ⟨_, ho, rfl⟩ F.entry_tuple_mul (F.args_tuple_mul_2 _ _) (tuple_mulW l its.toArray n dd sl k t c0 c1 c2 (by omega) c4 (by rw [size_rep, List.size_toArray]; exact flen)) ⟨ho, ?_⟩⟩)
  rw [size_rep]
  refine laidT I (vals_rep r k.toNat) ?_ q
  rw [PyProof.Rows.lm_len_rep_flat, sizeLine_eq]
  have a1 : k.toNat * xs.length ≤ 1000 * 1000 := Nat.mul_le_mul (by omega) hz
  omega
def mulAD : G2 := fun x y Q σ => match x, y with
  | .int i, .int j => CMul i j ∧ Q (.int (i * j)) σ
  | .lst a, .int n => (0 ≤ n ∧ n ≤ 16777216 ∧ a.length * n.toNat ≤ 16777216) ∧ Q (.lst (List.replicate n.toNat a).flatten) σ
  | .tup a, .int n => (a ≠ [] ∧ 1 ≤ n ∧ n ≤ 1000 ∧ a.length ≤ 1000) ∧ Q (.tup (List.replicate n.toNat a).flatten) σ
  | _, _ => False
theorem Reps.repl {w : Wd} {ds : List D} {vs : List V} (r : Reps G w ds vs) : ∀ n : Nat, Reps G w (List.replicate n ds).flatten (List.replicate n vs).flatten
  | 0 => Reps.nil
  | n + 1 => by
    rw [List.replicate_succ, List.replicate_succ, List.flatten_cons, List.flatten_cons]
    exact r.append (Reps.repl r n)
theorem opl_mulA (hK : X.K = G.K := by rfl) : OpL G X (binaryOp .Mult) mulAD := by
  refine ⟨_, op_mul.or (op_mulL.or op_repA), fun H0 w H x y v u Q QD ok sx sy g k => ?_⟩
  cases x with
  | int i => cases y with
    | int j => exact .inl ⟨i, j, sx.int_of, sy.int_of, g.1, k _ _ w H (.refl w H) ok Rep.int g.2⟩
    | _ => exact g.elim
  | lst a => cases y with
    | int n =>
      obtain ⟨p, vs, rfl, s1, r1⟩ := sx.lst_of ok
      refine .inr (.inl ⟨p, vs, n, rfl, sy.int_of, hK ▸ s1, g.1.1, g.1.2.1, by rw [← r1.length]; exact g.1.2.2, fun p hp => ?_⟩)
      obtain ⟨w2, l2, ok2, rp, e2⟩ := newLst (p := p) ok hp (r1.repl n.toNat)
      exact k _ _ w2 _ l2 ok2 rp (e2 ▸ g.2)
    | _ => exact g.elim
  | tup a => cases y with
    | int n =>
      obtain ⟨p, vs, rfl, s1, r1⟩ := sx.tup_of ok
      refine .inr (.inr ⟨p, n, vs, rfl, sy.int_of, hK ▸ s1, ?_⟩)
      by_cases h1 : n = 1
      · subst h1
        refine .inl ⟨rfl, k _ _ w H (.refl w H) ok sx.tup_rep ?_⟩
        have := g.2
        simpa using this
      · refine .inr ⟨fun e => ?_, by have := g.1.2.1; omega, g.1.2.2.1, by rw [← r1.length]; exact g.1.2.2.2, fun p o hp hd => ?_⟩
        · subst e
          exact g.1.1 (List.length_eq_zero_iff.mp r1.length)
        · obtain ⟨w2, l2, ok2, rp, e2⟩ := newTup (p := p) ok hp hd (r1.repl n.toNat)
          exact k _ _ w2 _ l2 ok2 rp (e2 ▸ g.2)
    | _ => exact g.elim
  | _ => exact g.elim
def mulAX : O2
  | .int i, .int j => gd (CMul i j) (.int (i * j))
  | .lst a, .int n => gd (0 ≤ n ∧ n ≤ 16777216 ∧ a.length * n.toNat ≤ 16777216) (.lst (List.replicate n.toNat a).flatten)
  | .tup a, .int n => gd ((!a.isEmpty) = true ∧ 1 ≤ n ∧ n ≤ 1000 ∧ a.length ≤ 1000) (.tup (List.replicate n.toNat a).flatten)
  | _, _ => none
theorem g_mulA : CG2 mulAD mulAX := fun x y d Q σ e q => by
  cases x <;> cases y <;> first | (cases e; done) | skip
  · obtain ⟨h, rfl⟩ := gd_some e
    exact ⟨h, q⟩
  · obtain ⟨h, rfl⟩ := gd_some e
    exact ⟨⟨fun e => by subst e; exact absurd h.1 (by decide), h.2⟩, q⟩
  · obtain ⟨h, rfl⟩ := gd_some e
    exact ⟨h, q⟩
/-! ### is, is not: two bools too -/
theorem op_isB : OpR X (compareOp .Is) (fun x y H Q => ∃ a b, x = V.bl a ∧ y = V.bl b ∧ Q (.bl (decide (a = b))) H) := by
  intro pins s σ H x y v u Q I rx ry h
  obtain ⟨a, b, rfl, rfl, q⟩ := h
  cases rx
  cases ry
  show wpAny _ _ ((isSame (Value.bool a) (Value.bool b)) >>= fun z => pure (Value.bool z)) _ _ s
  refine wpAny_bind (wpAny_isSame_plain rfl (wpAny_pure (fin_bl I q ?_)))
  cases a <;> cases b <;> rfl
theorem op_isnB : OpR X (compareOp .IsNot) (fun x y H Q => ∃ a b, x = V.bl a ∧ y = V.bl b ∧ Q (.bl (!decide (a = b))) H) := by
  intro pins s σ H x y v u Q I rx ry h
  obtain ⟨a, b, rfl, rfl, q⟩ := h
  cases rx
  cases ry
  show wpAny _ _ ((isSame (Value.bool a) (Value.bool b)) >>= fun z => pure (Value.bool (!z))) _ _ s
  refine wpAny_bind (wpAny_isSame_plain rfl (wpAny_pure (fin_bl I q ?_)))
  cases a <;> cases b <;> rfl
def isAD : G2 := fun x y Q σ => match x, y with
  | .bl a, .bl b => Q (.bl (decide (a = b))) σ
  | x, y => isD x y Q σ
def isnAD : G2 := fun x y Q σ => match x, y with
  | .bl a, .bl b => Q (.bl (!decide (a = b))) σ
  | x, y => isnD x y Q σ
theorem opl_isA : OpL G X (compareOp .Is) isAD := by
  refine ⟨_, op_isN.or op_isB, fun H0 w H x y v u Q QD ok sx sy g k => ?_⟩
  by_cases h : ∃ a b, x = .bl a ∧ y = .bl b
  · obtain ⟨a, b, rfl, rfl⟩ := h
    exact .inr ⟨a, b, sx.bl_of, sy.bl_of, k _ _ w H (.refl w H) ok Rep.bl g⟩
  · have g' : isD x y QD w.sg := by
      unfold isAD at g
      split at g
      · rename_i a b
        exact absurd ⟨a, b, rfl, rfl⟩ h
      · exact g
    left
    cases y with
    | non =>
      refine ⟨sy.non_of, ?_⟩
      rw [(sx.rep g'.1 g'.2.1).non_iff]
      exact k _ _ w H (.refl w H) ok Rep.bl g'.2.2
    | _ => exact g'.elim
theorem opl_isnA : OpL G X (compareOp .IsNot) isnAD := by
  refine ⟨_, op_notN.or op_isnB, fun H0 w H x y v u Q QD ok sx sy g k => ?_⟩
  by_cases h : ∃ a b, x = .bl a ∧ y = .bl b
  · obtain ⟨a, b, rfl, rfl⟩ := h
    exact .inr ⟨a, b, sx.bl_of, sy.bl_of, k _ _ w H (.refl w H) ok Rep.bl g⟩
  · have g' : isnD x y QD w.sg := by
      unfold isnAD at g
      split at g
      · rename_i a b
        exact absurd ⟨a, b, rfl, rfl⟩ h
      · exact g
    left
    cases y with
    | non =>
      refine ⟨sy.non_of, ?_⟩
      rw [(sx.rep g'.1 g'.2.1).non_iff]
      exact k _ _ w H (.refl w H) ok Rep.bl g'.2.2
    | _ => exact g'.elim
def isAX : O2 := fun x y => match x, y with
  | .bl a, .bl b => some (.bl (decide (a = b)))
  | x, y => isX x y
def isnAX : O2 := fun x y => match x, y with
  | .bl a, .bl b => some (.bl (!decide (a = b)))
  | x, y => isnX x y
theorem g_isA : CG2 isAD isAX := fun x y d Q σ e q => by
  unfold isAX at e
  unfold isAD
  split at e
  · cases e; exact q
  · exact g_is x y d Q σ e q
theorem g_isnA : CG2 isnAD isnAX := fun x y d Q σ e q => by
  unfold isnAX at e
  unfold isnAD
  split at e
  · cases e; exact q
  · exact g_isn x y d Q σ e q
end DL
/-! isinstance of an own class: what the text's top must have written. -/
namespace DL
open PySem L2 PyProof.Rows
end DL
/-! xs[::-1] of a tuple or a list. -/
namespace HTR
open PySem PySem.Spec PyProof.Rows L2 HT
section
variable {prog : Program} {w : World} {A : Around} {E : Value → Shared → Prop} {s : Shared}
end
end HTR
namespace DL
open PySem L2 PyProof.Rows
variable {G : Gm} {X : Cx} {E : XK}
end DL
/-! Own dicts: {}, {k: v}, d[k] = v; x = xs.pop(). -/
namespace DL
open PySem L2 PyProof.Rows
/-! ### what a dict becomes -/
def putKs (ks : List Key) (k : Key) : List Key := if (ks.any fun x => decide (x = k)) = true then ks else ks ++ [k]
def putA {α : Type} (ks : List Key) (ds : List α) (k : Key) (d : α) : List α := if (ks.any fun x => decide (x = k)) = true then (ks.zip ds).map fun p => if p.1 = k then d else p.2 else ds ++ [d]
theorem zip_map {α : Type} {k : Key} {v : α} : ∀ {ks : List Key} {vs : List α}, ks.length = vs.length → ks.zip ((ks.zip vs).map fun p => if p.1 = k then v else p.2) = (ks.zip vs).map fun kv => if kv.1 = k then (kv.1, v) else kv
  | [], _, _ => rfl
  | x :: ks, [], h => by simp at h
  | x :: ks, y :: vs, h => by
    have ih := zip_map (k := k) (v := v) (ks := ks) (vs := vs) (by simpa using h)
    simp only [List.zip_cons_cons, List.map_cons, ih]
    congr 1
    split <;> rfl
theorem any_zip {α : Type} {k : Key} : ∀ {ks : List Key} {vs : List α}, ks.length = vs.length → ((ks.zip vs).any fun kv => decide (kv.1 = k)) = ks.any fun x => decide (x = k)
  | [], _, _ => rfl
  | x :: ks, [], h => by simp at h
  | x :: ks, y :: vs, h => by
    have ih := any_zip (k := k) (ks := ks) (vs := vs) (by simpa using h)
    simp only [List.zip_cons_cons, List.any_cons, ih]
theorem put_zip {ks : List Key} {vs : List V} {k : Key} {v : V} (h : ks.length = vs.length) : putK (ks.zip vs) k v = (putKs ks k).zip (putA ks vs k v) := by
  unfold putK putKs putA
  rw [any_zip h]
  split
  · rw [zip_map h]
  · rw [List.zip_append h]; rfl
theorem putA_len {α : Type} {ks : List Key} {ds : List α} {k : Key} {d : α} (h : ks.length = ds.length) : (putKs ks k).length = (putA ks ds k d).length := by
  unfold putKs putA
  split
  · rw [List.length_map, List.length_zip, h, Nat.min_self]
  · simp [h]
section
variable {G : Gm}
theorem Reps.zipMap {w : Wd} {k : Key} {d : D} {v : V} (r : Rep G w d v) : ∀ {ks : List Key} {ds : List D} {vs : List V}, Reps G w ds vs → Reps G w ((ks.zip ds).map fun p => if p.1 = k then d else p.2) ((ks.zip vs).map fun p => if p.1 = k then v else p.2)
  | [], ds, vs, h => Reps.nil
  | x :: ks, [], vs, h => by rw [h.of_nil]; exact Reps.nil
  | x :: ks, e :: ds, vs, h => by
    obtain ⟨u, t, rfl, h1, h2⟩ := h.of_cons
    simp only [List.zip_cons_cons, List.map_cons]
    refine Reps.cons ?_ (Reps.zipMap r h2)
    split
    · exact r
    · exact h1
theorem Reps.put {w : Wd} {k : Key} {d : D} {v : V} (r : Rep G w d v) {ks : List Key} {ds : List D} {vs : List V} (h : Reps G w ds vs) : Reps G w (putA ks ds k d) (putA ks vs k v) := by
  unfold putA
  split
  · exact Reps.zipMap r h
  · exact h.append (Reps.cons r Reps.nil)
end
/-! ### new dicts -/
abbrev FG := Env → (List Key → List D → Pr) → XP → Pr
section
variable {X : Cx} {G : Gm} {E : XK} {pos : Pos} {e : Expr}
def gD (G : Gm) (E : XK) (F : FG) : TE := fun s H Q => ∃ w0 H0 r w QD EX, Fr G w0 H0 r s w H ∧ LkE G E w0 H0 EX ∧ F r QD EX w.sg ∧
  ∀ ks ds a vs w' H', Le w H w' H' → Ok w' H' → H a = none → Mine H0 w' a → H' a = some (.dK (ks.zip vs)) → ks.length = vs.length → Reps G w' ds vs → QD ks ds w'.sg → Q (.ref a) H'
def fNewD : FG := fun _ Q _ => Q [] []
theorem cg_new : PE X (.Dict [] [] pos) (gD G E fNewD) := PE.weak pe_dnewK fun s H Q ⟨w0, H0, r, w, QD, EX, fr, lk, f, k⟩ => fun p hp =>
  k [] [] p [] w _ (Le.new hp) (fr.ok.new hp) hp ⟨fr.ok.none_hd hp, fr.ok.none_jr hp, fr.le.none_of hp⟩ upd_same rfl Reps.nil f
end
/-! ### statements -/
def sSetOwnD (i : Nat) (F : FG) : FS := fun B EX r σ => F r (fun ks ds σ => B.nx (r.set i (.ownd ks ds)) σ) EX σ
def sPutK (i : Nat) (K V : FE) : FS := fun B EX r σ => match r[i]? with
  | some (.ownd ks ds) => V r (fun d σ => K r (fun k σ => match keyD k with
    | some key => ks.length < sizeLine ∧ B.nx (r.set i (.ownd (putKs ks key) (putA ks ds key d))) σ
    | none => False) EX σ) EX σ
  | _ => False
def sPopV (i j : Nat) : FS := fun B _ r σ => match r[j]? with
  | some (.own es) => (match es[es.length - 1]? with
    | some y => B.nx ((r.set j (.own es.dropLast)).set i (.val y)) σ
    | none => False)
  | _ => False
section
variable {X : Cx} {G : Gm} {E : XK} {pos : Pos} {e : Expr}
theorem SlotOk.ownd {H0 : Hp} {w : Wd} {H : Hp} {ks : List Key} {ds : List D} {a : Addr} {vs : List V} (m : Mine H0 w a) (h : H a = some (.dK (ks.zip vs))) (hl : ks.length = vs.length) (r : Reps G w ds vs) : SlotOk G H0 w H (.ownd ks ds) (some (some (.ref a))) := ⟨a, vs, rfl, m, h, hl, r⟩
theorem cs_setOwnD {i : Nat} {x : Str} {F : FG} {pos' : Pos} (he : PE X e (gD G E F)) (hN : X.N.Nodup) (hi : X.N[i]? = some x := by rfl) (hx : Loc X.env.scope x := by first | exact Or.inl rfl | exact Or.inr rfl) (hs : swapsWith e (some (.Name x pos')) pos.line X.env = pure false := by rfl)
    (hf : X.fn x = true ∨ X.env.scope.names.lookup x = some .local := by first | exact .inl rfl | exact .inr rfl | assumption) : PS X (.Assign [.Name x pos'] e pos) (sD G E (sSetOwnD i F)) := (ps_set hN hi hx he hs hf).weak fun B s H ⟨w0, H0, wk, r, w, A, EX, fr, sb, lk, ll, f⟩ =>
  ⟨w0, H0, r, w, _, EX, fr, lk, f, fun ks ds a vs w1 H1 l1 ok1 hn m h1 hl r1 q1 => ll.nx _ _ w1 H1 ((fr.go l1 ok1).setOwn (fun j y b e1 e2 e3 => fr.ownAt j y b e1 e2 e3) hn (SlotOk.ownd m h1 hl r1)) (sb.trans l1.sub) q1⟩
theorem cs_putK {i : Nat} {x : Str} {idx value : Expr} {p pos' : Pos} {K V : FE} (hu : X.A.units + 1 < cLine) (hk : PE X idx (tD G E K)) (hv : PE X value (tD G E V)) (hN : X.N[i]? = some x := by rfl) (hw : Vis X.env.scope x := by first | exact Or.inl rfl | exact Or.inr (Or.inl rfl) | exact Or.inr (Or.inr rfl))
    (hd : (x == ("__debug__" : Str)) = false := by decide) (hcd : (x == ("__classdict__" : Str)) = false := by decide) (hs : swapsWith value (some (.Subscript (.Name x p) idx pos')) pos.line X.env = pure false := by rfl) :
    PS X (.Assign [.Subscript (.Name x p) idx pos'] value pos) (sD G E (sPutK i K V)) := (ps_dput hu (pe_var hN hw hd hcd) hk hv hs).weak fun B s H ⟨w0, H0, wk, r, w, A', EX, fr, sb, lk, ll, f⟩ => by
  unfold sPutK at f
  cases e1 : r[i]? with
  | none => rw [e1] at f; exact f.elim
  | some sl =>
    rw [e1] at f
    cases sl <;> try exact f.elim
    rename_i ks ds
    dsimp only at f
    refine ⟨w0, H0, r, w, _, EX, fr, lk, f, fun d v w1 H1 l1 ok1 r1 q1 => ?_⟩
    have fr1 := fr.go l1 ok1
    obtain ⟨a, vs, q, m, h1, hl, rp⟩ := fr1.slot i _ e1
    refine ⟨_, q, w0, H0, r, w1, _, EX, fr1, lk, q1, fun k u w2 H2 l2 ok2 r2 q2 => ?_⟩
    cases ek : keyD k with
    | none => rw [ek] at q2; exact q2.elim
    | some key =>
      rw [ek] at q2
      dsimp only at q2
      have ekd : k = kD key := by
        cases k <;> first | (cases ek; done) | (cases ek; rfl)
      have eu : u = kV key := by
        subst ekd
        cases key with
        | inl n => exact r2.int_of
        | inr z => exact r2.str_of
      have fr2 := fr1.go l2 ok2
      obtain ⟨a2, vs2, qa, m2, h2, hl2, rp2⟩ := fr2.slot i _ e1
      rw [q] at qa
      cases qa
      have rv := r1.mono l2.sub
      refine ⟨a, _, rfl, eu ▸ DPut.k (k := key) h2 (by rw [List.length_zip, ← hl2, Nat.min_self]; exact q2.1), ?_⟩
      rw [put_zip hl2]
      have fr3 := fr2.chg (y := .ownd (putKs ks key) (putA ks ds key d)) (o := .dK ((putKs ks key).zip (putA ks vs2 key v))) e1 rfl q m2 (SlotOk.ownd m2 upd_same (putA_len hl2) (Reps.put rv rp2))
      exact ll.nx _ _ w2 _ fr3 (sb.trans (l1.sub.trans l2.sub)) q2.2
theorem cs_popV {i j : Nat} {x y : Str} {p2 apos cpos pos' : Pos} (hN : X.N.Nodup) (hij : i ≠ j := by decide) (hi : X.N[i]? = some x := by rfl) (hj : X.N[j]? = some y := by rfl) (hx : Loc X.env.scope x := by first | exact Or.inl rfl | exact Or.inr rfl)
    (hw : Vis X.env.scope y := by first | exact Or.inl rfl | exact Or.inr (Or.inl rfl) | exact Or.inr (Or.inr rfl)) (hd2 : (y == ("__debug__" : Str)) = false := by decide) (hcd2 : (y == ("__classdict__" : Str)) = false := by decide)
    (hbase : attributeBase (.Name y p2) "pop" X.env (eval (.Name y p2) X.env) = eval (.Name y p2) X.env := by rfl) (hline : (apos.endLine == cpos.line) = true := by rfl)
    (hs : swapsWith (.Call (.Attribute (.Name y p2) "pop" apos) [] [] cpos) (some (.Name x pos')) pos.line X.env = pure false := by rfl)
    (hf : X.fn x = true ∨ X.env.scope.names.lookup x = some .local := by first | exact .inl rfl | exact .inr rfl | assumption) :
    PS X (.Assign [.Name x pos'] (.Call (.Attribute (.Name y p2) "pop" apos) [] [] cpos) pos) (sD G E (sPopV i j)) :=
  (ps_set hN hi hx (pe_bm0 PySem.F.plainAttrs_list PySem.F.slot_list_pop PySem.F.type_list_pop mt_pop (pe_var hj hw hd2 hcd2) hbase hline) hs hf).weak fun B s H ⟨w0, H0, wk, r, w, A', EX, fr, sb, lk, ll, f⟩ => by
  unfold sPopV at f
  cases e1 : r[j]? with
  | none => rw [e1] at f; exact f.elim
  | some sl =>
    rw [e1] at f
    cases sl <;> try exact f.elim
    rename_i es
    dsimp only at f
    cases e2 : es[es.length - 1]? with
    | none => rw [e2] at f; exact f.elim
    | some y' =>
      rw [e2] at f
      dsimp only at f
      obtain ⟨a, vs, q, m, h1, rp⟩ := fr.slot j _ e1
      obtain ⟨u, hu, ru⟩ := rp.getD e2
      refine ⟨_, q, ⟨.inl ⟨rfl, vs, .inl (.of h1)⟩, ?_⟩⟩
      refine ⟨a, vs, u, rfl, rfl, h1, by rw [← rp.length]; exact hu, ?_⟩
      have rd : Reps G w es.dropLast vs.dropLast := by
        rw [List.dropLast_eq_take, List.dropLast_eq_take, ← rp.length]
        exact rp.take _
      have fr2 := fr.chg (y := .own es.dropLast) (o := .lst vs.dropLast) e1 rfl q m (SlotOk.own m upd_same rd)
      exact ll.nx _ _ w _ (fr2.setV ru) sb f
end
/-! ### what they compute -/
def CFG (F : FG) (c : Env → R (List Key × List D)) : Prop := ∀ {x : Addr} r r' Q EX σ, Sim x r r' → (c r).hold (fun p => Q p.1 p.2 σ) (XP.at_ EX σ) → F r' Q EX σ
def xNewD (_ : Env) : R (List Key × List D) := .ok ([], [])
theorem g_newD : CFG fNewD xNewD := fun r r' Q EX σ s h => h
theorem Sim.setOwnd {x : Addr} {r r' : Env} (s : Sim x r r') (i : Nat) (ks : List Key) (ds : List D) : Sim x (r.set i (.ownd ks ds)) (r'.set i (.ownd ks ds)) := s.set i _
def ySetOwnD (i : Nat) (a : Env → R (List Key × List D)) (r : Env) : RS := (a r).st fun p => .nx (r.set i (.ownd p.1 p.2))
theorem s_setOwnD {i : Nat} {F : FG} {a : Env → R (List Key × List D)} (ha : CFG F a) : CS (sSetOwnD i F) (ySetOwnD i a) := fun r r' A EX σ s h => ha r r' _ EX σ s ((hold_st h).imp fun p h1 => h1 _ (s.setOwnd i _ _))
def yPutK (i : Nat) (k v : Env → R D) (r : Env) : RS := match r[i]? with
  | some (.ownd ks ds) => (v r).st fun d => (k r).st fun k => (match keyD k with
    | some key => if Nat.blt ks.length 16777216 = true then frc d fun d => .nx (r.set i (.ownd (putKs ks key) (putA ks ds key d))) else .no
    | none => .no)
  | _ => .no
theorem s_putK {i : Nat} {K V : FE} {k v : Env → R D} (hk : CF K k) (hv : CF V v) : CS (sPutK i K V) (yPutK i k v) := fun r r' B EX σ s h => by
  unfold yPutK at h
  unfold sPutK
  cases e : r[i]? with
  | none => rw [e] at h; exact h.elim
  | some x =>
    rw [e] at h
    cases x <;> try exact h.elim
    rename_i ks ds
    rw [s.ownd e]
    dsimp only at h ⊢
    refine hv r r' _ EX σ s ((hold_st h).imp fun d h1 => hk r r' _ EX σ s ((hold_st h1).imp fun kk h2 => ?_))
    cases ek : keyD kk with
    | none => rw [ek] at h2; exact h2.elim
    | some key =>
      rw [ek] at h2
      dsimp only at h2 ⊢
      by_cases z : Nat.blt ks.length 16777216 = true
      · rw [if_pos z, frc_eq] at h2
        exact ⟨by rw [sizeLine_eq]; simpa [Nat.blt_eq] using z, h2 _ (s.setOwnd i _ _)⟩
      · rw [if_neg z] at h2; exact h2.elim
def yPopV (i j : Nat) (r : Env) : RS := match r[j]? with
  | some (.own es) => (match es[es.length - 1]? with
    | some y => .nx ((r.set j (.own es.dropLast)).set i (.val y))
    | none => .no)
  | _ => .no
theorem s_popV {i j : Nat} : CS (sPopV i j) (yPopV i j) := fun r r' A EX σ s h => by
  unfold yPopV at h
  unfold sPopV
  cases e : r[j]? with
  | none => rw [e] at h; exact h.elim
  | some x =>
    rw [e] at h
    cases x <;> try exact h.elim
    rename_i es
    rw [s.own e]
    dsimp only at h ⊢
    cases e2 : es[es.length - 1]? with
    | none => rw [e2] at h; exact h.elim
    | some y =>
      rw [e2] at h
      exact h _ ((s.set j _).set i _)
end DL
/-! xs.insert(i, e) of an own list. -/
namespace DL
open PySem L2 PyProof.Rows
section
variable {X : Cx} {G : Gm} {E : XK}
def sIns (i : Nat) (A B : FE) : FS := fun C EX r σ => match r[i]? with
  | some (.own ds) => ds.length < sizeLine ∧ A r (fun n σ => B r (fun d σ => ∃ k : Nat, n = .int (k : Int) ∧ k ≤ 16777216 ∧ C.nx (r.set i (.own (ds.take k ++ [d] ++ ds.drop k))) σ) EX σ) EX σ
  | _ => False
theorem cs_ins {i : Nat} {x : Str} {e e2 : Expr} {p apos cpos pos : Pos} {A B : FE} (he : PE X e (tD G E A)) (he2 : PE X e2 (tD G E B)) (hN : X.N[i]? = some x := by rfl) (hv : Vis X.env.scope x := by first | exact Or.inl rfl | exact Or.inr (Or.inl rfl) | exact Or.inr (Or.inr rfl))
    (hs : starEach [e, e2] X.env = (false, eval e X.env) :: starEach [e2] X.env := by rfl) (hs2 : starEach [e2] X.env = (false, eval e2 X.env) :: starEach [] X.env := by rfl) (hplain : (backTo cpos (starEach [e2] X.env)).any (·.1) = false := by rfl)
    (hfew : ((backTo cpos (starEach [e, e2] X.env)).all (fun x => !x.1) && (backToKw cpos (keywordEach [] X.env)).all (fun x => x.1.isSome)
      && decide ([e, e2].length + ([] : List Keyword).length + (if ([] : List Keyword).isEmpty then 0 else 1) < 30)) = true := by rfl)
    (hbase : attributeBase (.Name x p) "insert" X.env (eval (.Name x p) X.env) = eval (.Name x p) X.env := by rfl) (hline : (apos.endLine == cpos.line) = true := by rfl) (hd : (x == ("__debug__" : Str)) = false := by decide) (hcd : (x == ("__classdict__" : Str)) = false := by decide)
    (hsw : swapsWith (.Call (.Attribute (.Name x p) "insert" apos) [e, e2] [] cpos) none pos.line X.env = pure false := by rfl) :
    PS X (.Expr (.Call (.Attribute (.Name x p) "insert" apos) [e, e2] [] cpos) pos) (sD G E (sIns i A B)) :=
  PS.weak (ps_expr (pe_bm PySem.F.plainAttrs_list PySem.F.slot_list_insert PySem.F.type_list_insert mt_insert (pe_var hN hv hd hcd) (pa_cons he (pa_cons he2 pa_nil hs2) hs) hbase hfew hline hs hplain) hsw) fun B' s H ⟨w0, H0, wk, r, w, A', EX, fr, sb, lk, ll, f0⟩ => by
  unfold sIns at f0
  cases e1 : r[i]? with
  | none => rw [e1] at f0; exact f0.elim
  | some sl =>
    rw [e1] at f0
    cases sl <;> try exact f0.elim
    rename_i ds
    obtain ⟨hz, f0⟩ := f0
    obtain ⟨a, vs, q, m, h1, rp⟩ := fr.slot i _ e1
    refine ⟨_, q, ⟨.inl ⟨rfl, vs, .inl (.of h1)⟩, w0, H0, r, w, _, EX, fr, lk, f0, fun n u w1 H1 l1 ok1 r1 q1 => ?_⟩⟩
    have fr1 := fr.go l1 ok1
    refine ⟨w0, H0, r, w1, _, EX, fr1, lk, q1, fun d v w2 H2 l2 ok2 r2 ⟨k, en, hk, q2⟩ => ?_⟩
    have fr2 := fr1.go l2 ok2
    obtain ⟨a', vs', q', m', h1', rp'⟩ := fr2.slot i _ e1
    rw [q] at q'
    cases q'
    subst en
    have eu : u = .int (k : Int) := r1.int_of
    subst eu
    refine ⟨a, vs', (k : Int), v, rfl, rfl, h1', by rw [← rp'.length]; exact hz, by omega, by omega, ?_⟩
    rw [Int.toNat_natCast]
    have fr3 := fr2.chg (y := .own (ds.take k ++ [d] ++ ds.drop k)) (o := .lst (vs'.take k ++ [v] ++ vs'.drop k)) e1 rfl q m' (SlotOk.own m' upd_same (((rp'.take k).append (Reps.cons r2 Reps.nil)).append (rp'.drop k)))
    exact ll.nx _ _ w2 _ fr3 (sb.trans (l1.sub.trans l2.sub)) q2
end
end DL
/-! in, not in of a tuple whose items are data of any depth. -/
namespace DL
open PySem L2 PyProof.Rows
section
variable {X : Cx} {G : Gm}
theorem op_inTD (hu : X.A.units + 65 < cLine) : OpR X (compareOp .In) (fun x y H Q => ∃ d ds, Dp X.K H x d ∧ Dp X.K H y (.tuple ds) ∧ SeqAt.shaped d = true ∧ SeqAt.shaped (.tuple ds) = true ∧ Q (.bl (false != ds.any fun z => PyData.eqv z d)) H) := by
  intro pins s σ H x y v u Q I rx ry h
  obtain ⟨d, ds, hd, he, sd, se, q⟩ := h
  rw [Bool.false_bne] at q
  obtain ⟨as, r1⟩ := Dp.reads I d x v hd rx
  obtain ⟨bs, r2⟩ := Dp.reads I (.tuple ds) y u he ry
  exact SeqAt.in_tuple_reads r2 r1 (SeqAt.canLay_of_shaped se) (SeqAt.canLay_of_shaped sd) (room_in_shaped sd hu) ⟨.bl _, H, I, rfl, q⟩
theorem op_notInTD (hu : X.A.units + 65 < cLine) : OpR X (compareOp .NotIn) (fun x y H Q => ∃ d ds, Dp X.K H x d ∧ Dp X.K H y (.tuple ds) ∧ SeqAt.shaped d = true ∧ SeqAt.shaped (.tuple ds) = true ∧ Q (.bl (true != ds.any fun z => PyData.eqv z d)) H) := by
  intro pins s σ H x y v u Q I rx ry h
  obtain ⟨d, ds, hd, he, sd, se, q⟩ := h
  rw [Bool.true_bne] at q
  obtain ⟨as, r1⟩ := Dp.reads I d x v hd rx
  obtain ⟨bs, r2⟩ := Dp.reads I (.tuple ds) y u he ry
  exact SeqAt.notIn_tuple_reads r2 r1 (SeqAt.canLay_of_shaped se) (SeqAt.canLay_of_shaped sd) (room_in_shaped sd hu) ⟨.bl _, H, I, rfl, q⟩
def inTD (neg : Bool) : G2 := fun x y Q σ => match y with
  | .tup ds => shp x ∧ shp (.tup ds) ∧ Q (.bl (neg != ds.any fun z => eqb z x)) σ
  | _ => False
theorem opl_inTG {op : CmpOp} {neg : Bool} (h : OpR X (compareOp op) (fun x y H Q => ∃ d ds, Dp X.K H x d ∧ Dp X.K H y (.tuple ds) ∧ SeqAt.shaped d = true ∧ SeqAt.shaped (.tuple ds) = true ∧ Q (.bl (neg != ds.any fun z => PyData.eqv z d)) H)) (hK : X.K = G.K := by rfl) : OpL G X (compareOp op) (inTD neg) := by
  refine ⟨_, h, fun H0 w H x y v u Q QD ok sx sy g k => ?_⟩
  cases y with
  | tup ds =>
    obtain ⟨⟨p1, p2⟩, ⟨p3, p4⟩, g⟩ := g
    have e : pd (.tup ds) = .tuple (ds.map pd) := by rw [← pds_map]; conv => lhs; unfold pd
    have d1 := sx.dp ok p1
    have d2 := sy.dp ok p3
    rw [e] at d2 p4
    refine ⟨pd x, ds.map pd, hK ▸ d1, hK ▸ d2, p2, p4, ?_⟩
    rw [List.any_map]
    exact k _ _ w H (.refl w H) ok Rep.bl g
  | _ => exact g.elim
theorem opl_inT (hu : X.A.units + 65 < cLine) (hK : X.K = G.K := by rfl) : OpL G X (compareOp .In) (inTD false) := opl_inTG (op_inTD hu) hK
theorem opl_notinT (hu : X.A.units + 65 < cLine) (hK : X.K = G.K := by rfl) : OpL G X (compareOp .NotIn) (inTD true) := opl_inTG (op_notInTD hu) hK
end
def inTX (neg : Bool) : O2 := fun x y => match y with
  | .tup ds => gd ((shpB x && shpB (.tup ds)) = true) (.bl (neg != ds.any fun z => eqb z x))
  | _ => none
theorem g_inT {neg : Bool} : CG2 (inTD neg) (inTX neg) := fun x y d Q σ e q => by
  cases y <;> first | (cases e; done) | skip
  rename_i ds
  unfold inTX gd at e
  dsimp only at e
  by_cases z : (shpB x && shpB (.tup ds)) = true
  · rw [if_pos z] at e
    cases e
    rw [Bool.and_eq_true] at z
    exact ⟨shpB_iff z.1, shpB_iff z.2, q⟩
  · rw [if_neg z] at e; cases e
/-! ### a, b = e, {..} where a name is a cell -/
section
variable {X : Cx} {G : Gm} {E : XK} {pos : Pos} {i j : Nat} {x y : Str} {a b : Expr} {px py pt : Pos} {kt k2 pt2}
end
end DL
/-! != of own objects (their class has __eq__, no __ne__). -/
namespace OwnNe
open PySem PySem.Spec PySem.W PyProof.Rows
section
variable {prog : Program} {w : World} {A : Around} {E : Value → Shared → Prop} {s : Shared} {K : Frag} {x C L f : Addr} {h₀ : Heap} {m : Str → Option Value} {ox : Obj} {od : Option Obj} {name : Str} {b tb : Value}
end
end OwnNe
namespace DL
open PySem L2 PyProof.Rows
section
variable {X : Cx} {G : Gm} {E : XK} {k : Nat} {f C : Addr} {fd : FuncData} {ps : List Str} {sp : Sp}
end
section
variable {G : Gm} {X : Cx} {k : Nat} {f : Addr} {fd : FuncData} {ps : List Str} {sp : DSp}
end
end DL
/-! set(xs) and sorted(set(xs)), xs a list of texts. -/
namespace SetStr
open PySem PySem.Spec PyProof.Rows L2
open PySem.W (Frag)
def kS (e : Int × Value) : Str := match e.2 with
  | .str k _ => k
  | _ => Str.empty
def GS (P : Program) (w : World) (e : Int × Value) : Prop := ∃ k tk, e.2 = Value.str k tk ∧ e.1 = (strKind P w).hash k
/-- a set whose members are the texts of L, laid out so that it can be walked -/
def SSt (P : Program) (w : World) (h : Heap) (a : Addr) (L : List Str) (n : Nat) : Prop :=
  ∃ o es ep t, h.get? a = some o ∧ o.ExactSet ∧ o.data = .set es ep t ∧ (∀ e ∈ es.toList, GS P w e) ∧ (es.toList.map kS).Nodup ∧ (∀ k, k ∈ L ↔ k ∈ es.toList.map kS) ∧
    es.size < scanBound ∧ t.fits es.size = true ∧ es.size = n ∧ Ris t.place.toList ∧ (w.params.followText "set-order" = true ∨ t.led = true)
section
variable {P : Program} {w : World} {A : Around} {E : Value → Shared → Prop} {s : Shared} {a : Addr} {L : List Str} {n : Nat}
theorem SSt.keep {h h' : Heap} (R : SSt P w h a L n) (k : ∀ o, h.get? a = some o → h'.get? a = some o) : SSt P w h' a L n := by
  obtain ⟨o, es, ep, t, ho, r⟩ := R
  exact ⟨o, es, ep, t, k o ho, r⟩
theorem gs_elems {l : List (Int × Value)} (g : ∀ e ∈ l, GS P w e) : ElemsOf (strKind P w) l := fun e he => by
  obtain ⟨k, tk, h1, h2⟩ := g e he
  exact ⟨⟨k, by rw [h1]; exact strKind_is P w k tk, h2⟩, by rw [h1]; rfl⟩
theorem gs_mem {l : List (Int × Value)} (g : ∀ e ∈ l, GS P w e) (k : Str) : k ∈ l.map kS ↔ ∃ e ∈ l, (strKind P w).is k e.2 = true := by
  have one : ∀ e ∈ l, ((strKind P w).is k e.2 = true ↔ kS e = k) := fun e he => by
    obtain ⟨k0, tk, h1, _⟩ := g e he
    unfold kS
    rw [h1]
    constructor
    · intro z
      have z' : (k0 == k) = true := z
      exact beq_iff_eq.mp z'
    · rintro rfl
      exact strKind_is P w k0 tk
  rw [List.mem_map]
  exact ⟨fun ⟨e, he, q⟩ => ⟨e, he, (one e he).mpr q⟩, fun ⟨e, he, q⟩ => ⟨e, he, (one e he).mp q⟩⟩
theorem ss_tail {g : Bool → Sem Unit} (hg : ∀ (b : Bool) (s₁ : Shared) (Q' : Unit → Shared → Prop), Q' () s₁ → wpAny (model P w) A (g b) Q' E s₁)
    {o : Obj} {es : Array (Int × Value)} {ep : Nat} {t : SetTable} (ho : s.heap.get? a = some o) (hex : o.ExactSet) (hd : o.data = .set es ep t)
    {es1 : Array (Int × Value)} {t2 : SetTable} {L1 : List Str} (g1 : ∀ e ∈ es1.toList, GS P w e) (nd1 : (es1.toList.map kS).Nodup) (m1 : ∀ k, k ∈ L1 ↔ k ∈ es1.toList.map kS)
    (hb1 : es1.size < scanBound) (hf2 : t2.fits es1.size = true) (hr : Ris t2.place.toList) (hl : w.params.followText "set-order" = true ∨ t2.led = true) {wasDummy : Bool} {R : Option Bool → Shared → Prop}
    (hR : ∀ h', Heap.SameBut a s.heap h' → SSt P w h' a L1 es1.size → R (some true) { s with heap := h' }) :
    wpAny (model P w) A (do
        storeSet a es1 t2
        if (!wasDummy && t2.tooFull) = true then do
            g (relayAll t2 es1 (SetTable.grown es1.size)).2.2
            storeSet a (relayAll t2 es1 (SetTable.grown es1.size)).1 (relayAll t2 es1 (SetTable.grown es1.size)).2.1
            pure (some true)
          else pure (some true)) R E s := by
  refine wpAny_bind (wpAny_storeSet_of ho hd ?_ (fits_of_scanBound hb1))
  have ho1 := store_at (es' := es1) (t' := t2) ho hd
  have sb1 := Heap.SameBut.update s.heap a (Obj.putSet es1 t2)
  split
  · have pm := relayAll_perm t2 es1 (SetTable.grown es1.size)
    have hf3 := relayAll_fits t2 es1 (SetTable.grown es1.size)
    have hr3 := relayAll_ris t2 es1 (SetTable.grown es1.size)
    have hl3 := relayAll_led t2 es1 (SetTable.grown es1.size)
    generalize relayAll t2 es1 (SetTable.grown es1.size) = Z at pm hf3 hr3 hl3 ⊢
    obtain ⟨es2, t3, gave⟩ := Z
    dsimp only at pm hf3 hr3 hl3 ⊢
    have hsz : es2.size = es1.size := by rw [← Array.length_toList, pm.length_eq, Array.length_toList]
    have hb2 : es2.size < scanBound := by rw [hsz]; exact hb1
    refine wpAny_bind (hg _ _ _ ?_)
    refine wpAny_bind (wpAny_storeSet_of ho1 rfl ?_ (fits_of_scanBound hb2))
    have ho2 := store_at (es' := es2) (t' := t3) ho1 rfl
    refine wpAny_pure (hR _ (sb1.trans (Heap.SameBut.update _ a _)) ?_)
    exact ⟨_, es2, _, t3, ho2, hex, rfl, fun e he => g1 e (pm.mem_iff.mp he), (pm.map kS).nodup_iff.mpr nd1, fun k => (m1 k).trans (pm.map kS).mem_iff.symm, hb2, hf3, hsz, hr3,
      hl.imp id fun z => by rw [hl3]; exact z⟩
  · exact wpAny_pure (hR _ sb1 ⟨_, es1, _, t2, ho1, hex, rfl, g1, nd1, m1, hb1, hf2, rfl, hr, hl⟩)
theorem ss_add {k : Str} {tk : Tok} {Q : Bool → Shared → Prop} (R : SSt P w s.heap a L n) (room : n + 1 < scanBound)
    (hQ : ∀ b h' n', Heap.SameBut a s.heap h' → n' ≤ n + 1 → SSt P w h' a (L ++ [k]) n' → Q b { s with heap := h' }) :
    wpAny (model P w) A (setAddHashed a (.str k tk) ((strKind P w).hash k)) Q E s := by
  obtain ⟨o, es, ep, t, ho, hex, hd, g, nd, hm, hb, hf, hn, hr, hl⟩ := R
  have hkey : (strKind P w).is k (.str k tk) = true := strKind_is P w k tk
  have hsc : (Value.str k tk).scannable = true := rfl
  have hel : ElemsOf (strKind P w) es.toList := gs_elems g
  unfold setAddHashed setAddHashedIn
  refine wpAny_holding (wpAny_bind (wpAny_setState_of ho hd hf ?_))
  dsimp only
  rw [byScan_of hsc hb hel]
  simp only [↓reduceIte]
  unfold setAddByScan
  refine wpAny_bind ?_
  refine wpAny_bind (wpAny_rule ?_)
  refine wpAny_bind (wpAny_setScan_of hkey ho hd hf hel ?_)
  cases hfi : List.findIdx? (fun e => (strKind P w).is k e.2) es.toList with
  | some j =>
    dsimp only
    obtain ⟨hj, pj, _⟩ := List.findIdx?_eq_some_iff_getElem.mp hfi
    have hk : k ∈ L := (hm k).mpr ((gs_mem (P := P) (w := w) g k).mpr ⟨es.toList[j], List.getElem_mem hj, pj⟩)
    refine wpAny_pure (wpAny_pure ?_)
    refine hQ _ s.heap n (Heap.SameBut.refl a s.heap) (Nat.le_succ _) ⟨o, es, ep, t, ho, hex, hd, g, nd, fun i => ?_, hb, hf, hn, hr, hl⟩
    rw [List.mem_append, List.mem_singleton, ← hm i]
    exact ⟨fun z => z.elim id fun e => e ▸ hk, .inl⟩
  | none =>
    dsimp only
    have hnk : k ∉ es.toList.map kS := fun z => by
      obtain ⟨e, he, q⟩ := (gs_mem (P := P) (w := w) g k).mp z
      have c := List.findIdx?_eq_none_iff.mp hfi e he
      rw [q] at c
      cases c
    have hgw : ∀ (b : Bool) {s₁ : Shared} {Q' : Unit → Shared → Prop}, Q' () s₁ → wpAny (model P w) A (match b with | true => rule "set.scan.the-table-gave-way" | false => pure ()) Q' E s₁ :=
      fun b s₁ Q' q => by cases b <;> first | exact wpAny_pure q | exact wpAny_rule q
    have pm := layNew_perm t es ((strKind P w).hash k) (.str k tk)
    have hf1 := layNew_fits t es ((strKind P w).hash k) (.str k tk)
    have hr1 := layNew_ris t es ((strKind P w).hash k) (.str k tk) hr
    have hl1 := layNew_led t es ((strKind P w).hash k) (.str k tk)
    generalize layNew t es ((strKind P w).hash k) (.str k tk) = Z at pm hf1 hr1 hl1 ⊢
    obtain ⟨es1, t1, wasDummy, gave⟩ := Z
    dsimp only at pm hf1 hr1 hl1 ⊢
    rw [Array.toList_push] at pm
    have pc : es1.toList.Perm (((strKind P w).hash k, Value.str k tk) :: es.toList) := pm.trans (List.perm_append_singleton _ _)
    have pk : (es1.toList.map kS).Perm (k :: es.toList.map kS) := pc.map kS
    have g1 : ∀ e ∈ es1.toList, GS P w e := fun e he => by
      rcases List.mem_cons.mp (pc.mem_iff.mp he) with z | z
      · rw [z]; exact ⟨k, tk, rfl, rfl⟩
      · exact g e z
    have nd1 : (es1.toList.map kS).Nodup := pk.nodup_iff.mpr (List.nodup_cons.mpr ⟨hnk, nd⟩)
    have m1 : ∀ i, i ∈ L ++ [k] ↔ i ∈ es1.toList.map kS := fun i => by
      rw [List.mem_append, List.mem_singleton, hm i, pk.mem_iff, List.mem_cons]
      exact Or.comm
    have hsz : es1.size = n + 1 := by rw [← Array.length_toList, pc.length_eq, List.length_cons, Array.length_toList, hn]
    have hb1 : es1.size < scanBound := by rw [hsz]; exact room
    have hled : w.params.followText "set-order" = true ∨ t1.led = true := hl.imp id fun z => by rw [hl1]; exact z
    have fin : ∀ h', Heap.SameBut a s.heap h' → SSt P w h' a (L ++ [k]) es1.size → Q true { s with heap := h' } := fun h' sb r => hQ true h' _ sb (by rw [hsz]; exact Nat.le_refl _) r
    refine wpAny_bind (hgw _ ?_)
    split
    · refine wpAny_bind ?_
      rw [hashByValue_scannable 8 hsc]
      refine wpAny_pure ?_
      refine ss_tail ?_ ho hex hd g1 nd1 m1 hb1 ?_ ?_ ?_ ?_
      · intro b s₁ Q' q; cases b <;> first | exact wpAny_pure q | exact wpAny_rule q
      · first | (split <;> first | exact hf1 | exact SetTable.fits_plain_off hf1) | exact hf1
      · first | (split <;> exact hr1) | exact hr1
      · first | (split <;> exact hled) | exact hled
      · intro h' sb r; dsimp only; exact wpAny_pure (fin h' sb r)
    · refine wpAny_bind (wpAny_pure ?_)
      simp only [↓reduceIte]
      refine ss_tail ?_ ho hex hd g1 nd1 m1 hb1 hf1 hr1 hled ?_
      · intro b s₁ Q' q; cases b <;> first | exact wpAny_pure q | exact wpAny_rule q
      · intro h' sb r; dsimp only; exact wpAny_pure (fin h' sb r)
theorem ss_fresh {h : Heap} (P : Program) (w : World) : SSt P w (h.push { cls := .type "set", dict := none, data := .set #[] 0 (.fresh 0 0 (!w.params.followText "set-order")) }) h.objs.size [] 0 :=
  ⟨_, #[], 0, _, Heap.get?_push_size _ rfl, ⟨rfl, rfl, rfl⟩, rfl, (fun e he => by simp at he), (by simp), (fun k => by simp), (by decide), (by rfl), rfl, List.Pairwise.nil, by
    show _ ∨ (!w.params.followText "set-order") = true
    cases w.params.followText "set-order"
    · exact .inr rfl
    · exact .inl rfl⟩
end
end SetStr
/-! set(xs), xs a list of texts: the call. -/
namespace SetStr
open PySem PySem.Spec PyProof.Rows L2
section
variable {P : Program} {w : World} {A : Around} {R : Result → Shared → Prop} {I : Addr} {fp wr : List Addr} {G : Array GenState → Array GenState → Prop} {n : Nat} {Pv : Nat → Value → Prop} {St : Nat → Shared → Prop}
theorem getD_take {xs : List Str} {i : Nat} (h : i < xs.length) : xs.take i ++ [xs.getD i Str.empty] = xs.take (i + 1) := by
  rw [List.take_succ, List.getD_eq_getElem?_getD, List.getElem?_eq_getElem h]
  rfl
theorem ss_loop (W : WalksS P w A.in1 I fp wr G n Pv St) (S : Addr) (hSf : S ∉ fp) (xs : List Str) (hsz : xs.length = n) (hfew : n + 1 < scanBound)
    (hval : ∀ i v, Pv i v → ∃ t, v = .str (xs.getD i Str.empty) t) :
    ∀ (k i : Nat) (s : Shared), n - i = k → i ≤ n → St i s → (∃ m, m ≤ i ∧ SSt P w s.heap S (xs.take i) m) →
      (∀ s', Moved (S :: wr) G s s' → (∃ m, m ≤ n ∧ SSt P w s'.heap S (xs.take n) m) → R (.ok (.ret .none)) s') →
      codeAny (model P w) A (.builtin "set.update.loop" ⟨[.ref S, .ref I], []⟩) R s := by
  have hSw : S ∉ wr := fun h => hSf (W.sub _ h)
  have hsub : ∀ b ∈ wr, b ∈ S :: wr := fun b hb => List.mem_cons_of_mem _ hb
  intro k
  induction k with
  | zero =>
    intro i s hk hi hst hS hR
    have hin : i = n := by omega
    subst hin
    refine codeAny_builtin PyProof.Rows.F.entry_set_update_loop ?_
    rw [Around.under_plainId PyProof.Rows.F.plain_set_update_loop _]
    show wpAny _ A.in1 (pyNext (.ref I) >>= _) _ _ s
    refine wpAny_bind (W.done s _ _ hst fun s' hm => ?_)
    show wpAny _ A.in1 (ret Value.none) _ _ s'
    obtain ⟨m, hm1, hS⟩ := hS
    exact wpAny_pure (hR s' (hm.mono hsub) ⟨m, hm1, hS.keep fun o e => hm.heap S _ hSw e⟩)
  | succ k ih =>
    intro i s hk hi hst hS hR
    have hlt : i < n := by omega
    refine codeAny_builtin PyProof.Rows.F.entry_set_update_loop ?_
    rw [Around.under_plainId PyProof.Rows.F.plain_set_update_loop _]
    show wpAny _ A.in1 (pyNext (.ref I) >>= _) _ _ s
    refine wpAny_bind (W.item i s _ _ hlt hst fun v s' hP hst' hm => ?_)
    obtain ⟨t, rfl⟩ := hval i v hP
    obtain ⟨m, hm1, hS⟩ := hS
    have hS' : SSt P w s'.heap S (xs.take i) m := hS.keep fun o e => hm.heap S _ hSw e
    show wpAny _ A.in1 (holding [Value.str (xs.getD i Str.empty) t] (setAdd S (.str (xs.getD i Str.empty) t)) >>= _) _ _ s'
    refine wpAny_bind (wpAny_holding ?_)
    unfold setAdd
    refine wpAny_holding ?_
    refine wpAny_bind ((PySem.strKind P w).pyHash (k := xs.getD i Str.empty) (strKind_is _ _ _ _) ?_)
    refine ss_add (s := { s' with toks := s'.toks + 1 }) hS' (by omega) fun b h' n' hsb hn' hS2 => ?_
    rw [getD_take (by omega)] at hS2
    refine wpAny_pure ⟨plainId_quiet PyProof.Rows.F.plain_set_update_loop _, ih (i + 1) _ (by omega) hlt (W.frame _ s' _ _ hst' (Nat.le_succ _) fun b hb o e => ?_) ⟨n', by omega, hS2⟩ fun s'' hm'' hS'' => ?_⟩
    · rw [hsb.2 b (fun h : b = S => hSf (by rw [← h]; exact hb))]; exact e
    · refine hR s'' (Moved.trans W.gtrans ((hm.mono hsub).then_heap (Nat.le_succ _) fun b o hb e => ?_) hm'') hS''
      rw [hsb.2 b (fun h : b = S => hb (by rw [h]; exact List.mem_cons_self))]; exact e
end
section
variable {P : Program} {w : World} {A : Around} {E : Value → Shared → Prop} {s : Shared}
open SS in
set_option maxHeartbeats 6400000 in
theorem call_set_strs {l : Addr} {items : Array Value} {xs : List Str} {Q : Value → Shared → Prop}
    (hh : A.handled = none) (hl : s.heap.IsList l items) (hi : PyProof.Rows.StrsAre items.toList xs) (hfew : xs.length + 1 < scanBound)
    (h : ∀ (h' : Heap) (tk m : Nat), m ≤ xs.length → SSt P w h' s.heap.objs.size xs m →
      (∀ b o, s.heap.get? b = some o → h'.get? b = some o) → Q (.ref s.heap.objs.size) { s with heap := h', toks := tk }) :
    wpAny (model P w) A (call (.type "set") [.ref l]) Q E s := by
  have hsz : xs.length = items.size := by rw [← StrsAre.len_eq hi, Array.length_toList]
  obtain ⟨c, tl, hmro⟩ := PySem.F.called_set.mro
  have hmade := PySem.F.called_set.made
  have hsub := PySem.F.called_set.sub
  refine wpAny_call (codeAny_of_tree ?_)
  show wpAny _ _ (callAny (.type "set") _) _ _ _
  refine wpAny_pure ⟨Code.quiet_builtin _ (by decide +kernel), codeAny_builtin PySem.F.entry_type_call ?_⟩
  rw [Around.under_plain (weight_type_call_type "set" [.ref l] []) rfl]
  have h1 := PySem.F.called_set.notType
  have h2 := PySem.F.called_set.canCreate
  have hct := PySem.F.typeCall_set_1 (.ref l)
  repeat (any_goals (first | assumption | wp_step))
  refine codeAny_mono (code_set_led1 (.ref l) (E := E) (Q₁ := fun obj s₁ => obj = .ref s.heap.objs.size ∧ s₁ = { s with heap := s.heap.push { cls := .type "set", dict := none, data := .set #[] 0 (.fresh 0 0 (!w.params.followText "set-order")) } }) ⟨rfl, rfl⟩) fun r s₁ hr => ?_
  cases r with
  | error e => exact hr
  | ok fl =>
    cases fl with
    | ret obj =>
      obtain ⟨rfl, rfl⟩ := hr
      have hS : (s.heap.push { cls := .type "set", dict := none, data := .set #[] 0 (.fresh 0 0 (!w.params.followText "set-order")) }).get? s.heap.objs.size = some { cls := .type "set", dict := none, data := .set #[] 0 (.fresh 0 0 (!w.params.followText "set-order")) } := Heap.get?_push_size _ rfl
      have hT : Shared.TypeIs { s with heap := s.heap.push { cls := .type "set", dict := none, data := .set #[] 0 (.fresh 0 0 (!w.params.followText "set-order")) } } (.ref s.heap.objs.size) "set" := ⟨_, hS, rfl⟩
      have hli := PySem.F.called_set.init.lookup
      have hbi := PySem.F.called_set.init.bind (.ref s.heap.objs.size)
      repeat (any_goals (first | assumption | wp_step))
      refine codeAny_mono (codeAny_call_builtin (R := wants (fun r s₂ => r = .none ∧ ∃ h' tk m, s₂ = { s with heap := h', toks := tk } ∧ m ≤ xs.length ∧
          SSt P w h' s.heap.objs.size xs m ∧ (∀ b o, s.heap.get? b = some o → h'.get? b = some o)) E) PySem.F.called_set.init.plain PySem.F.entry_set_init (check_set_init_1 hT ?_)) fun r₂ s₂ hr₂ => ?_
      · obtain ⟨ol, hol, hcl, nl, hdl⟩ := hl
        obtain ⟨ocls, odict, odata, oslots⟩ := ol
        simp only at hcl hdl
        subst hcl; subst hdl
        have hol' : (s.heap.push { cls := .type "set", dict := none, data := .set #[] 0 (.fresh 0 0 (!w.params.followText "set-order")) }).get? l = some { cls := .type "list", dict := odict, data := .seq items nl, slots := oslots } := Heap.get?_push_of_some _ hol
        have hsls := PySem.F.sub_list_set
        have hslf := PySem.F.sub_list_frozenset
        have hne : (Value.type "list" == Value.type "dict") = false := by decide
        have hl1 : (s.heap.push { cls := .type "set", dict := none, data := .set #[] 0 (.fresh 0 0 (!w.params.followText "set-order")) }).IsList l items := ⟨_, hol', rfl, nl, rfl⟩
        unfold Builtin.«set.__init__» noKeywords Builtin.Frozenset.updateFrom
        generalize hPI : pyIter = PI
        wp_walk
        subst hPI
        refine wpAny_pyIter_list hl1 ?_
        refine wpAny_bind (wpAny_runValue ?_)
        have hlS : l < s.heap.objs.size := Heap.lt_size hol
        have hh3 : A.in1.in1.in1.handled = none := by simp [hh]
        have hneI : l ≠ (s.heap.push { cls := .type "set", dict := none, data := .set #[] 0 (.fresh 0 0 (!w.params.followText "set-order")) }).objs.size := by
          rw [Heap.size_push]; exact Nat.ne_of_lt (Nat.lt_succ_of_lt hlS)
        have hSf : s.heap.objs.size ∉ [(s.heap.push { cls := .type "set", dict := none, data := .set #[] 0 (.fresh 0 0 (!w.params.followText "set-order")) }).objs.size, l] := by
          rw [Heap.size_push]; simp only [List.mem_cons, List.mem_singleton, List.not_mem_nil, or_false, not_or]
          exact ⟨Nat.ne_of_lt (Nat.lt_succ_self _), Nat.ne_of_gt hlS⟩
        have hval : ∀ (i : Nat) (v : Value), items[i]? = some v → ∃ t, v = .str (xs.getD i Str.empty) t := fun i v hv => strs_at hi i v (by rw [Array.getElem?_toList]; exact hv)
        refine ss_loop ((Walks.list hh3 _ l hneI items).toS) s.heap.objs.size
          hSf xs hsz (by rw [← hsz]; exact hfew) hval (items.size - 0) 0 _ (by omega) (Nat.zero_le _)
          ⟨⟨_, Heap.get?_push_size _ rfl, rfl, rfl⟩, (hl1.push _)⟩ ?hS0 ?hR
        case hS0 =>
          exact ⟨0, Nat.le_refl _, (ss_fresh P w).keep fun o e => Heap.get?_push_of_some _ e⟩
        case hR =>
          intro s' hm ⟨m, hm1, hS'⟩
          obtain ⟨h', g', d', tk', os'⟩ := s'
          have eg : g' = s.gens := hm.gens
          have ed : d' = s.drawn := hm.drawn
          have eo : os' = s.os := hm.os
          subst eg; subst ed; subst eo
          show wpAny _ _ _ _ _ _
          refine wpAny_pure ?_
          show wpAny _ _ (ret Value.none) _ _ _
          rw [← hsz, List.take_length] at hS'
          refine wpAny_pure ⟨rfl, h', tk', m, rfl, by omega, hS', fun b o e => ?_⟩
          have hb := Heap.lt_size e
          have hb1 : b ≠ s.heap.objs.size := Nat.ne_of_lt hb
          have hb2 : b ≠ (s.heap.push { cls := .type "set", dict := none, data := .set #[] 0 (.fresh 0 0 (!w.params.followText "set-order")) }).objs.size := by
            rw [Heap.size_push]; exact Nat.ne_of_lt (Nat.lt_succ_of_lt hb)
          exact hm.heap b o (by simp only [List.mem_cons, List.mem_singleton, List.not_mem_nil, or_false, not_or]; exact ⟨hb1, hb2⟩) (Heap.get?_push_of_some _ (Heap.get?_push_of_some _ e))
      · cases r₂ with
        | error e => exact hr₂
        | ok fl₂ =>
          cases fl₂ with
          | ret r =>
            obtain ⟨rfl, h', tk, m, rfl, hm1, hS', hk'⟩ := hr₂
            repeat (any_goals (first | assumption | wp_step))
            exact h _ _ m hm1 hS' hk'
          | _ => exact hr₂.elim
    | _ => exact hr.elim
end
end SetStr
/-! sorted(s), s a set of texts. -/
namespace SetStr
open PySem PySem.Spec PyProof.Rows L2
section
variable {P : Program} {w : World} {A : Around} {E : Value → Shared → Prop} {s : Shared} {a : Addr} {L : List Str} {n : Nat}
theorem strs_of_all : ∀ (vs : List Value), (∀ v ∈ vs, ∃ k tk, v = Value.str k tk) → ∃ ks, StrsAre vs ks ∧ ks = vs.map fun v => kS (0, v)
  | [], _ => ⟨[], .nil, rfl⟩
  | v :: vs, h => by
    obtain ⟨k, tk, rfl⟩ := h v List.mem_cons_self
    obtain ⟨ks, h1, h2⟩ := strs_of_all vs fun u hu => h u (List.mem_cons_of_mem _ hu)
    exact ⟨k :: ks, .cons k tk h1, by rw [List.map_cons, ← h2]; rfl⟩
theorem sorted_set_strs {Q : Value → Shared → Prop} (R : SSt P w s.heap a L n) (hh : A.handled = none)
    (hQ : ∀ s' p (out : Array Value) (c : Nat) (ks : List Str), (∀ b o, s.heap.get? b = some o → s'.heap.get? b = some o) → s'.gens = s.gens → s'.os = s.os → s.heap.objs.size ≤ p →
      s'.heap.get? p = some (seqObj "list" out c) → StrsAre out.toList ks → sortedS ks = true → ks.Nodup → (∀ k, k ∈ ks ↔ k ∈ L) → ks.length = n → Q (.ref p) s') :
    wpAny (model P w) A (call (.builtin "sorted") [.ref a]) Q E s := by
  obtain ⟨o, es, ep, t, ho, hex, hd, g, nd, hm, hb, hf, hn, hr, hl⟩ := R
  refine Calls.call_function_entry kind_sorted plain_sorted entry_sorted (args_sorted1 _) ?_
  unfold Builtin.«sorted»
  refine wpAny_bind (m := checkCount "sorted" 1 1 _) (wpAny_pure ?_)
  refine wpAny_bind (collect_set (A := A.in1) hh ⟨o, ho, hex.1, hd⟩ hf hb hr hl fun s1 vs k1 hz g1 o1 pm => ?_)
  have hvl : vs.length = n := by rw [pm.length_eq, List.length_map, Array.length_toList]; exact hn
  obtain ⟨ks, hS, hks⟩ := strs_of_all vs fun v hv => by
    obtain ⟨e, he, q⟩ := List.mem_map.mp (pm.mem_iff.mp hv)
    obtain ⟨k, tk, h1, _⟩ := g e he
    exact ⟨k, tk, by rw [← q]; exact h1⟩
  have pk : ks.Perm (es.toList.map kS) := by
    have q := pm.map fun v => kS (0, v)
    rw [List.map_map] at q
    rw [hks]
    exact q
  have hzl : vs.length ≤ sizeLine := by
    rw [hvl, sizeLine_eq, ← hn]
    unfold scanBound at hb
    omega
  refine wpAny_bind (wpAny_newList ?_ hzl)
  have hoL : (s1.heap.push (seqObj "list" vs.toArray 0)).get? s1.heap.objs.size = some (seqObj "list" vs.toArray 0) := Heap.get?_push_size _ rfl
  refine wpAny_bind (wpAny_holding (wpAny_call_entry slot_list_sort ⟨_, hoL, rfl⟩ entry_list_sort (list_sort_treeKAny strKind_oneLt hoL hS.keysOf (fun v₁ v₂ rest e => keyKind_strs (by rw [← e]; exact hS)) hzl fun st' hp hs => ⟨_, rfl, ?_⟩) (args_list_sort _)))
  obtain ⟨ks', h1, h2, h3⟩ := sorted_out_str hS hp hs
  obtain ⟨c, hc⟩ := sortedHeap_at (vs := vs) (out := (arrOf st').map (·.2)) hoL
  have pn : ks'.Perm (es.toList.map kS) := h2.trans pk
  refine wpAny_pure ⟨_, rfl, hQ _ s1.heap.objs.size _ c ks' (fun b u e => ?_) g1 o1 hz hc h1 h3 (pn.nodup_iff.mpr nd) (fun k => by rw [pn.mem_iff, ← hm k]) ?_⟩
  · have q := k1 b u e
    have hlt := Heap.lt_size q
    show (sortedHeap (s1.heap.push (seqObj "list" vs.toArray 0)) s1.heap.objs.size vs _).get? b = some u
    rw [sortedHeap_old (Nat.ne_of_lt hlt) (by rw [size_push']; exact Nat.lt_succ_of_lt hlt)]
    exact Heap.get?_push_of_some _ q
  · rw [pn.length_eq, List.length_map, Array.length_toList]; exact hn
end
end SetStr
/-! sorted(set(xs)) over data: the texts of xs, each once, in their order. -/
namespace DL
open PySem PySem.Spec L2 PyProof.Rows
/-! ### plain -/
def ltTx (a b : Str) : Bool := ltN a.cps.toList b.cps.toList
def ddp : List Str → List Str
  | [] => []
  | x :: l => if x ∈ l then ddp l else x :: ddp l
theorem mem_ddp {x : Str} : ∀ {l : List Str}, x ∈ ddp l ↔ x ∈ l
  | [] => Iff.rfl
  | y :: l => by
    have ih := mem_ddp (x := x) (l := l)
    unfold ddp
    split
    · rename_i h
      rw [ih, List.mem_cons]
      exact ⟨.inr, fun z => z.elim (fun e => e ▸ h) id⟩
    · rw [List.mem_cons, List.mem_cons, ih]
theorem nodup_ddp : ∀ {l : List Str}, (ddp l).Nodup
  | [] => List.nodup_nil
  | y :: l => by
    unfold ddp
    split
    · exact nodup_ddp
    · rename_i h
      exact List.nodup_cons.mpr ⟨fun z => h (mem_ddp.mp z), nodup_ddp⟩
def sset (xs : List Str) : List Str := isort ltTx (ddp xs)
theorem ordTx : Ord ltTx where
  irr := fun x => by
    show ltN _ _ = false
    rw [ltN_eq]; exact decide_eq_false (List.lt_irrefl _)
  asym := fun x y h => by
    have h : ltN _ _ = true := h
    show ltN _ _ = false
    rw [ltN_eq] at h ⊢
    exact decide_eq_false (List.lt_asymm (of_decide_eq_true h))
  tr := fun x y z h1 h2 => by
    have h1 : ltN _ _ = false := h1
    have h2 : ltN _ _ = false := h2
    show ltN _ _ = false
    rw [ltN_eq] at h1 h2 ⊢
    refine decide_eq_false fun q => ?_
    exact absurd q (List.not_lt.mpr (List.le_trans (List.not_lt.mp (of_decide_eq_false h1)) (List.not_lt.mp (of_decide_eq_false h2))))
theorem ltTx_anti {x y : Str} (h1 : ltTx x y = false) (h2 : ltTx y x = false) : x = y := by
  have h1 : ltN _ _ = false := h1
  have h2 : ltN _ _ = false := h2
  rw [ltN_eq] at h1 h2
  have e : x.cps.toList = y.cps.toList := List.le_antisymm (List.not_lt.mp (of_decide_eq_false h2)) (List.not_lt.mp (of_decide_eq_false h1))
  cases x with
  | mk a => cases y with
    | mk b =>
      cases a with
      | mk l => cases b with
        | mk m =>
          have : l = m := e
          rw [this]
theorem ltCps_eq : ∀ a b : List Nat, ltCps a b = decide (a < b)
  | [], [] => by simp [ltCps]
  | [], y :: b => by simp [ltCps]
  | x :: a, [] => by simp [ltCps]
  | x :: a, y :: b => by
    unfold ltCps
    rw [ltCps_eq a b, Bool.eq_iff_iff, decide_eq_true_iff, List.cons_lt_cons_iff]
    simp
theorem rising_sd : ∀ {l : List Str} {p : Str}, risingS p l = true → Sd ltTx (p :: l)
  | [], p, _ => List.pairwise_singleton _ _
  | x :: l, p, h => by
    unfold risingS at h
    rw [Bool.and_eq_true] at h
    have ih := rising_sd h.2
    have h1 : ltTx x p = false := by
      show ltN _ _ = false
      rw [ltN_eq, ← ltCps_eq]
      simpa using h.1
    refine List.pairwise_cons.mpr ⟨fun z hz => ?_, ih⟩
    rcases List.mem_cons.mp hz with e | e
    · rw [e]; exact h1
    · exact ordTx.tr _ _ _ h1 ((List.pairwise_cons.mp ih).1 z e)
theorem sset_unique {ks xs : List Str} (h : sortedS ks = true) (n : ks.Nodup) (m : ∀ k, k ∈ ks ↔ k ∈ xs) : ks = sset xs := by
  have sd : Sd ltTx ks := by
    cases ks with
    | nil => exact List.Pairwise.nil
    | cons x l => exact rising_sd h
  refine sd_unique (((List.perm_ext_iff_of_nodup n nodup_ddp).mpr fun k => (m k).trans mem_ddp.symm).trans isort_perm.symm) sd (isort_sd ordTx) fun x _ y _ a b => ltTx_anti a b
/-! ### the calls -/
def SetSt (P : Program) (w : World) (a : Addr) (L : List Str) (n : Nat) : HO := .ext fun h => SetStr.SSt P w h a L n
section
variable {X : Cx}
theorem setS_new {w : World} {P : Program} {H : Hp} {h : Heap} {a : Addr} {L : List Str} {n : Nat} (R : SetStr.SSt P w h a L n) : ObjOk P w H h a (SetSt P w a L n) := by
  have ⟨o, _, _, _, ho, _⟩ := R
  exact ⟨R, ⟨o, ho⟩, fun h1 h2 p k => SetStr.SSt.keep p k⟩
theorem cr_setSt (hc : X.calm = true) : CallR X (.type "set") (fun xs H Q => ∃ (l : Addr) (ks : List Str), xs = [V.ref l] ∧ SqL X.K H l (ks.map V.str) ∧ ks.length + 1 < scanBound ∧ ∀ a n, H a = none → Q (.ref a) (upd H a (SetSt X.prog X.w a ks n))) := by
  intro pins s σ H xs us Q I r h
  obtain ⟨l, ks, rfl, hl, hf, q⟩ := h
  rw [Vals.ref1 r]
  obtain ⟨its, rv, pl, hz⟩ := I.list hl
  have hn : H s.heap.objs.size = none := I.hok.fresh (Nat.le_refl _)
  refine SetStr.call_set_strs (P := X.prog) (w := X.w) (xs := ks) (I.ok.hd hc) pl.isList rv.strs hf fun h' tk m hm R k => ?_
  exact ⟨.ref s.heap.objs.size, upd H s.heap.objs.size (SetSt X.prog X.w s.heap.objs.size ks m), I.laid (t' := tk) k (Nat.le_refl _) (setS_new R), rfl, q _ m hn⟩
theorem cr_sortSt (hc : X.calm = true) : CallR X (.builtin "sorted") (fun vs H Q => ∃ (a : Addr) (L : List Str) (n : Nat), vs = [V.ref a] ∧ H a = some (SetSt X.prog X.w a L n) ∧ ∀ p, H p = none → Q (.ref p) (upd H p (.lst ((sset L).map V.str)))) := by
  intro pins s σ H vs us Q I r h
  obtain ⟨a, L, n, rfl, ha, q⟩ := h
  have R : SetStr.SSt X.prog X.w s.heap a L n := (I.hok a _ ha).1
  rw [Vals.ref1 r]
  refine SetStr.sorted_set_strs R (I.ok.hd hc) fun s' p out c ks k g o hp hg hi hs hnd hm hl => ?_
  have e0 : ks = sset L := sset_unique hs hnd hm
  have hlen : (ks.map V.str).length ≤ sizeLine := by
    rw [List.length_map, hl, sizeLine_eq]
    obtain ⟨_, es, _, _, _, _, _, _, _, _, hb, _, hn, _⟩ := R
    unfold scanBound at hb
    omega
  have hn : H p = none := I.hok.fresh hp
  have J : Inv X pins σ (upd H p (.lst (ks.map V.str))) { s with heap := s'.heap, gens := s'.gens, drawn := s'.drawn, toks := s'.toks } :=
    I.call (ch := []) (Un.laid k hp hn) (I.hok.laid k hp ⟨hlen, out.toList, c, vals_of_strs hi, hg⟩) (by rw [g]; exact I.bare) (fun _ z => nomatch z)
  have e : s' = { s with heap := s'.heap, gens := s'.gens, drawn := s'.drawn, toks := s'.toks } := by
    cases s'
    cases s
    cases o
    rfl
  rw [e]
  exact ⟨.ref p, _, J, rfl, e0 ▸ q p hn⟩
end
/-! ### over data -/
def fSSet (A : FE) : FA := fun r Q EX σ => A r (fun d σ => match d with
  | .lst ds => (match strsOf ds with
    | some xs => xs.length + 1 < scanBound ∧ Q ((sset xs).map D.str) σ
    | none => False)
  | _ => False) EX σ
theorem reps_strs {G : Gm} {w : Wd} : ∀ (xs : List Str), Reps G w (xs.map D.str) (xs.map V.str)
  | [] => Reps.nil
  | x :: xs => Reps.cons Rep.str (reps_strs xs)
section
variable {X : Cx} {G : Gm} {E : XK} {e : Expr} {A : FE} {p p2 pos pos2 : Pos}
theorem cf_sset (ha : PE X e (bD G E A)) (hm : X.mg "sorted" = none) (hm2 : X.mg "set" = none) (hc : X.calm = true := by rfl) (hK : X.K = G.K := by rfl) (hg : Gl X "sorted" := by rfl) (hg2 : Gl X "set" := by rfl)
    (he : starEach [Expr.Call (.Name "set" p2) [e] [] pos2] X.env = (false, eval (.Call (.Name "set" p2) [e] [] pos2) X.env) :: starEach [] X.env := by rfl) (he2 : starEach [e] X.env = (false, eval e X.env) :: starEach [] X.env := by rfl)
    (hpl : (backTo pos (starEach [] X.env)).any (·.1) = false := by rfl) (hpl2 : (backTo pos2 (starEach [] X.env)).any (·.1) = false := by rfl) :
    PE X (.Call (.Name "sorted" p) [.Call (.Name "set" p2) [e] [] pos2] [] pos) (fD G E (fSSet A)) :=
  (pe_callB (cr_sortSt hc) hg hm (by decide +kernel) (pa_cons (pe_callTy (cr_setSt hc) hg2 hm2 (by decide +kernel) (pa_cons ha pa_nil he2) (by decide) (by decide) he2 hpl2) pa_nil he) (by decide) (by decide) he hpl).weak fun s H Q ⟨w0, H0, r, w, QD, EX, fr, lk, f, k⟩ =>
  ⟨w0, H0, r, w, _, EX, fr, lk, f, fun d v w1 H1 l1 ok1 s1 q1 => by
    cases d <;> try exact q1.elim
    rename_i ds
    dsimp only at q1
    cases e1 : strsOf ds with
    | none => rw [e1] at q1; exact q1.elim
    | some xs =>
      rw [e1] at q1
      obtain ⟨hz, q1⟩ := q1
      obtain ⟨a, us, rfl, sq, rr⟩ := s1.lst_of ok1
      rw [strsOf_eq e1] at rr
      rw [rr.strs] at sq
      refine ⟨a, xs, rfl, hK ▸ sq.sql, hz, fun b n hb => ?_⟩
      refine ⟨b, xs, n, rfl, upd_same, fun p' hp => ?_⟩
      have l2 : Le w1 H1 w1 (upd H1 b (SetSt X.prog X.w b xs n)) := Le.new hb
      have ok2 : Ok w1 (upd H1 b (SetSt X.prog X.w b xs n)) := ok1.new hb
      have l3 := (l1.trans l2).trans (Le.new (o := .lst ((sset xs).map V.str)) hp)
      exact k ((sset xs).map D.str) p' ((sset xs).map V.str) w1 _ l3 (ok2.new hp) ((l1.trans l2).none_of hp) (Mine.new (w := w) (H := H) (fr.le.trans (l1.trans l2)) ok2 hp) upd_same (reps_strs _) q1⟩
end
def xSSet (a : Env → R D) (r : Env) : R (List D) := (a r).bind fun d => match d with
  | .lst ds => (match strsOf ds with
    | some xs => if Nat.blt (xs.length + 1) 4000 = true then .ok ((sset xs).map D.str) else .no
    | none => .no)
  | _ => .no
theorem f_sset {A : FE} {a : Env → R D} (ha : CF A a) : CF (fSSet A) (xSSet a) := fun r r' Q EX σ s h => ha r r' _ EX σ s ((hold_bind h).imp fun d h1 => by
  cases d <;> try exact h1.elim
  rename_i ds
  dsimp only at h1 ⊢
  cases e1 : strsOf ds with
  | none => rw [e1] at h1; exact h1.elim
  | some xs =>
    rw [e1] at h1
    dsimp only at h1 ⊢
    by_cases z : Nat.blt (xs.length + 1) 4000 = true
    · rw [if_pos z] at h1
      refine ⟨?_, h1⟩
      have : xs.length + 1 < 4000 := by simpa [Nat.blt_eq] using z
      unfold scanBound
      omega
    · rw [if_neg z] at h1; exact h1.elim)
end DL
/-! An __init__ with defaults. -/
namespace DL
open PySem L2 PyProof.Rows
section
variable {G : Gm}
theorem okID {dvs : List V} {P : Program} {w : World} {mg : Str → Option Value} {base : Heap} {k : Nat} {f : Addr} {N ps : List Str} {x qual : Str} {st : Stmt} {fd : FuncData} {sp : DSp} {B : FS} {c : Nat} (F : FunF G.K x qual st dvs f fd) (S : FnScope N ps (defScope st)) (len : ∀ ds Q EX σ, sp ds Q EX σ → ds.length + 1 = ps.length)
    (body : ∀ (cdv : Value) (A : Around) (outer : List PySem.Env) (s : Shared) (H : Hp) (E : XK), A.guards = some [] → Room k (A.deeper (envOfC qual (defScope st) s.heap.objs.size f cdv)) →
      PSs (cxOf (L2.CX P w) P w G.K mg base N qual (defScope st) f cdv A outer s H E) (defBody st) (sD G E B))
    (pure : ∀ ds Q EX x σ, sp ds Q EX σ → B (DE.mk (endI (G.fld c) x c Q) (fun _ _ => False) (fun _ _ => False) (fun _ _ => False) (fun _ _ => False)) EX (startI N x c ds) σ) : FnG P w G.K mg base (k + 1) f fd ps (liftI G c fun ds Q EX => sp ds (fun d σ => match d with
        | .tup es => Q es σ
        | _ => False) EX) := by
  refine FunD.okG F S (fun vs H Q E ⟨w, H1, x, dx, vr, ds, QD, EX, e, _, _, _, _, _, r, h, _⟩ => by rw [e, List.length_cons, ← r.length]; exact len _ _ _ _ h) fun cdv A outer s H vs Q E hg hr ⟨w, H1, x, dx, vr, ds, QD, EX, ev, nx, ndx, ne, eH, ok, r, h, k, lk⟩ => ⟨_, body cdv A outer s H E hg hr, ?_⟩
  subst ev
  have l1 : Le w H1 w H := by
    rw [eH]
    exact (Le.new ndx).trans (Le.new (by rw [upd_ne fun e => ne e.symm]; exact nx))
  have ok1 : Ok w H := by
    rw [eH]
    exact (ok.new ndx).new (by rw [upd_ne fun e => ne e.symm]; exact nx)
  have mx : Mine H1 w x := ⟨ok.none_hd nx, ok.none_jr nx, nx⟩
  have fr : Fr G w H1 (startI N x c ds) (L2.start N (.ref x :: vr)) w H := by
    have base := fr_start (N := N.drop 1) lk.2.2 ok1 r
    refine ⟨lk.2.2, ok1, l1, ?_, fun i y e => ?_, fun i j y z a e1 e2 o1 o2 _ _ => ?_⟩
    · unfold startI L2.start
      simp [r.length]
    · cases i with
      | zero =>
        unfold startI at e
        simp at e
        subst e
        unfold L2.start
        exact ⟨x, dx, [], by simp, mx, by rw [eH, upd_same], ⟨G.fld c, by simp⟩, by simp, Reps.nil, rfl⟩
      | succ i =>
        have e' : (startD (N.drop 1) ds)[i]? = some y := by
          unfold startI at e
          unfold startD
          simpa [Nat.sub_sub, Nat.add_comm] using e
        have := base.slot i y e'
        have e2 : (L2.start N (.ref x :: vr))[i + 1]? = (L2.start (N.drop 1) vr)[i]? := by
          unfold L2.start
          simp [Nat.sub_sub, Nat.add_comm]
        rw [e2]
        have noO : y.isOwn = false := by
          unfold startD at e'
          by_cases hn : i < ds.length
          · rw [List.getElem?_append_left (by simpa using hn), List.getElem?_map] at e'
            have hd : ds[i]? = some ds[i] := by simp [hn]
            rw [hd] at e'
            cases e'
            rfl
          · rw [List.getElem?_append_right (by simpa using hn), List.getElem?_replicate] at e'
            split at e'
            · cases e'; rfl
            · cases e'
        cases y with
        | un => trivial
        | val d => exact this
        | own _ => cases noO
        | ownd _ _ => cases noO
        | slf _ _ _ => cases noO
    · have zero : ∀ {n : Nat} {u : Sl}, (startI N x c ds)[n]? = some u → u.isOwn = true → n = 0 := fun {n u} en on => by
        cases n with
        | zero => rfl
        | succ n =>
          exfalso
          unfold startI at en
          rw [List.getElem?_cons_succ] at en
          by_cases hn : n < ds.length
          · rw [List.getElem?_append_left (by simpa using hn), List.getElem?_map] at en
            have hd : ds[n]? = some ds[n] := by simp [hn]
            rw [hd] at en
            cases en
            cases on
          · rw [List.getElem?_append_right (by simpa using hn), List.getElem?_replicate] at en
            split at en
            · cases en; cases on
            · cases en
      rw [zero e1 o1, zero e2 o2]
  refine ⟨w, H1, w, startI N x c ds, w, _, EX, fr, .refl w, lk, ?_, pure ds _ EX x _ h⟩
  refine ⟨fun r s w' H' fr5 _ q => ?_, fun d v w' H' l ok' rp q => q.elim, fun _ _ _ _ _ _ q => q.elim, fun _ _ _ _ _ _ q => q.elim, fun _ _ _ _ _ _ _ _ _ _ q => q.elim⟩
  match r, q, fr5 with
  | Sl.slf x' c' es :: rr, q, fr6 =>
    obtain ⟨rfl, rfl, hl, hq⟩ := q
    obtain ⟨a, dy, fs, e2, m, h1, ⟨l, hl2⟩, hz', rp, rfl⟩ := fr6.slot 0 _ rfl
    have el : l = [] := by
      have h3 := congrArg List.length hl2
      rw [List.length_append, List.length_map, ← hl, rp.length, List.length_map] at h3
      exact List.eq_nil_of_length_eq_zero (by omega)
    subst el
    rw [List.append_nil] at hl2
    exact k es fs w' H' dy fr6.le fr6.ok m h1 hl2.symm rp hq
end
end DL
/-! dict([(text, value), ..]), a new dict as a value; the texts are told once each. -/
namespace DL
open PySem L2 PyProof.Rows
variable {G : Gm} {X : Cx} {E : XK}
end DL
/-! The attribute of an exception that is a value. -/
namespace DL
open PySem L2 PyProof.Rows
section
variable {X : Cx} {G : Gm} {E : XK} {e : Expr} {A : FE} {nm : Str} {pos : Pos}
end
end DL
/-! Own exceptions that keep one value: made, raised. -/
namespace ExL
open PySem PySem.W PySem.Calls PyProof.Rows PySem.HandSPX
section
open Builtin Builtin.ObjectAttr
variable {prog : Program} {w : World} {A : Around} {R : Result → Shared → Prop} {hp : Heap} {g : Array GenState} {d : Drawn} {t : Nat} {os : OsState} {K : Frag} {B : String} {bmB : List Value}
end
/-- what is made -/
structure Made1 (nm : Str) (h h' : Heap) (e C d : Addr) (v : Value) : Prop where
  keep : ∀ b o, h.get? b = some o → h'.get? b = some o
  new : h.objs.size ≤ e
  obj : ∃ oe vs, h'.get? e = some oe ∧ oe.cls = .ref C ∧ oe.dict = some d ∧ oe.data = .fields vs ∧ vs[1]? = some .none
  dbig : h.objs.size ≤ d
  dne : d ≠ e
  ns : h'.Ns1 d (fun y => if y = nm then some v else none)
/-! ### given -/
def argsG (p1 p2 : Pos) : Arguments := { posonlyargs := [], args := [{ arg := "self", annotation := none, pos := p1 }, { arg := "given", annotation := none, pos := p2 }], vararg := none, kwonlyargs := [], kw_defaults := [], kwarg := none, defaults := [] }
def bodyG (q1 q2 q3 q4 : Pos) : List Stmt := [.Assign [.Attribute (.Name "self" q1) "given" q2] (.Name "given" q3) q4]
def scopeG : Scope := { kind := .function, names := [(PySem.Str.ofString "self", .local), (PySem.Str.ofString "given", .local)], isGenerator := false, isCoroutine := false, more := [] }
/-- what the written part says of such a class x at C, over the base B, and of its __init__ at f -/
structure ClG (K : Frag) (mg : Str → Option Value) (x : Str) (C f : Addr) (bmB : List Value) (newId : String) : Prop where
  gl : mg x = some (.ref C)
  cls : ∃ nm q N bs bm sn sub ab col dd k0 k1 k2 k3 k5, K.lookup C = some (excClassObj nm q C N bs bm true sn sub ab col dd k0 k1 k2 k3 k5 newId) ∧ excTail bmB bm = true
  sa : findIn K (.ref C) "__setattr__" = some (some (.builtin "object.__setattr__"))
  tk : takerIn K C "given" = some none
  it : findIn K (.ref C) "__init__" = some (some (.ref f))
  ty : typeIn K (.ref f) = some (.type "function")
  kp : keepIn K (.ref C) = true
  sb : subIn K (.ref C) (.type "BaseException") = some true
  tc : typeIn K (.ref C) = some (.type "type")
  fn : ∃ (q : Str) (oc : Value) (od : Option Addr) (doc pm : Value) (an : Option Addr) (cdv ct : Value) (osl : Array (Option Value)) (p1 p2 q1 q2 q3 q4 : Pos), K.lookup f = some ⟨oc, od, .func (fnOf "__init__" q (argsG p1 p2) (bodyG q1 q2 q3 q4) scopeG .none .none doc pm an cdv ct), osl⟩ ∧ codeIn K cdv q = true
section
variable {prog : Program} {w : World} {A : Around} {R : Result → Shared → Prop} {s : Shared} {K : Frag} {mg : Str → Option Value} {x : Str} {C f : Addr} {B newId initId : String} {bmB : List Value}
end
/-! ### index -/
def argsI (p1 p2 : Pos) : Arguments := { posonlyargs := [], args := [{ arg := "self", annotation := none, pos := p1 }, { arg := "index", annotation := none, pos := p2 }], vararg := none, kwonlyargs := [], kw_defaults := [], kwarg := none, defaults := [] }
def bodyI (q1 q2 q3 q4 : Pos) : List Stmt := [.Assign [.Attribute (.Name "self" q1) "index" q2] (.Name "index" q3) q4]
def scopeI : Scope := { kind := .function, names := [(PySem.Str.ofString "self", .local), (PySem.Str.ofString "index", .local)], isGenerator := false, isCoroutine := false, more := [] }
/-- what the written part says of such a class x at C, over the base B, and of its __init__ at f -/
structure ClI (K : Frag) (mg : Str → Option Value) (x : Str) (C f : Addr) (bmB : List Value) (newId : String) : Prop where
  gl : mg x = some (.ref C)
  cls : ∃ nm q N bs bm sn sub ab col dd k0 k1 k2 k3 k5, K.lookup C = some (excClassObj nm q C N bs bm true sn sub ab col dd k0 k1 k2 k3 k5 newId) ∧ excTail bmB bm = true
  sa : findIn K (.ref C) "__setattr__" = some (some (.builtin "object.__setattr__"))
  tk : takerIn K C "index" = some none
  it : findIn K (.ref C) "__init__" = some (some (.ref f))
  ty : typeIn K (.ref f) = some (.type "function")
  kp : keepIn K (.ref C) = true
  sb : subIn K (.ref C) (.type "BaseException") = some true
  tc : typeIn K (.ref C) = some (.type "type")
  fn : ∃ (q : Str) (oc : Value) (od : Option Addr) (doc pm : Value) (an : Option Addr) (cdv ct : Value) (osl : Array (Option Value)) (p1 p2 q1 q2 q3 q4 : Pos), K.lookup f = some ⟨oc, od, .func (fnOf "__init__" q (argsI p1 p2) (bodyI q1 q2 q3 q4) scopeI .none .none doc pm an cdv ct), osl⟩ ∧ codeIn K cdv q = true
section
variable {prog : Program} {w : World} {A : Around} {R : Result → Shared → Prop} {s : Shared} {K : Frag} {mg : Str → Option Value} {x : Str} {C f : Addr} {B newId initId : String} {bmB : List Value}
end
end ExL
namespace ExL
open PySem PySem.Spec PyProof.Rows L2
section
variable {X : Cx} {C f : Addr} {x : Str} {B newId initId : String} {bmB : List Value}
end
section
variable {X : Cx} {C f : Addr} {x : Str} {B newId initId : String} {bmB : List Value}
end
end ExL
/-! raise over data; the state of an except suite, its exception tracked. -/
namespace DL
open PySem L2 PyProof.Rows
section
variable {X : Cx} {G : Gm} {E : XK} {e : Expr} {pos : Pos}
end
/-! ### an exception, tracked -/
def XO (cls : Value) (od : Option Addr) (a : Addr) : HO := .ext fun h => ∃ (oe : Obj) (vs : Array Value), h.get? a = some oe ∧ oe.cls = cls ∧ oe.dict = od ∧ oe.data = .fields vs
theorem XO.at {C : Addr} {od : Option Addr} {a : Addr} : XcAt (XO (.ref C) od a) C od a := fun P w H h x => x.1
theorem XO.ok {P : Program} {w : World} {H : Hp} {h : Heap} {cls : Value} {od : Option Addr} {a : Addr} {oe : Obj} {vs : Array Value} (ha : h.get? a = some oe) (hz : Zc cls od oe) (hd : oe.data = .fields vs) : ObjOk P w H h a (XO cls od a) :=
  ⟨⟨oe, vs, ha, hz.1, hz.2, hd⟩, ⟨oe, ha⟩, fun h1 h2 ⟨o, u, e, r⟩ k => ⟨o, u, k o e, r⟩⟩
section
variable {X : Cx} {pins : List (Addr × Obj)} {σ : L2.St} {H : Hp} {s : Shared}
end
end DL
/-! try .. except over data: what is caught is tracked in the suite. -/
namespace DL
open PySem L2 PyProof.Rows
/-! ### the tests of the clauses -/
/-- the test ty says ex of an exception's class -/
def TstOk (X : Cx) (ty : Expr) (ex : Value → Option Bool) : Prop := ∀ (a : Addr) (pn ps : List (Addr × Obj)) (σ : L2.St) (H : Hp) (s : Shared) (oe : Obj) (b : Bool) (R : Bool → Shared → Prop) (E1 : Value → Shared → Prop),
  Inv (X.suite a pn) ps σ H s → s.heap.get? a = some oe → ex oe.cls = some b → (∀ h1, (∀ c o, s.heap.get? c = some o → h1.get? c = some o) → R b { s with heap := h1 }) →
    wpAny (model X.prog X.w) (X.A.mark (some (.ref a))) (eval ty X.env) (fun c s1 => wpAny (model X.prog X.w) (X.A.mark (some (.ref a))) (excMatches (.ref a) c) R E1 s1) E1 s
section
variable {X : Cx} {p p1 p2 p3 : Pos} {x x1 x2 x3 : Str} {c c1 c2 c3 : Value} {kk : Nat}
end
/-! ### the clauses -/
structure Clz where
  ex : Value → Option Bool
  io : Option Nat
  ts : TS
inductive ClsOk (X : Cx) : List ExceptHandler → List Clz → Prop
  | nil : ClsOk X [] []
  | bare {ty : Expr} {ex : Value → Option Bool} {u : Stmt} {su : List Stmt} {q : Pos} {hd : List ExceptHandler} {l : List Clz} {ts : TS} (ht : TstOk X ty ex) (hu : ∀ a pn, PSs (X.suite a pn) (u :: su) ts) (r : ClsOk X hd l) :
      ClsOk X (.ExceptHandler (some ty) none (u :: su) q :: hd) (⟨ex, none, ts⟩ :: l)
  | named {ty : Expr} {ex : Value → Option Bool} {u : Stmt} {su : List Stmt} {q : Pos} {hd : List ExceptHandler} {l : List Clz} {ts : TS} {i : Nat} {n : Str} (hi : X.N[i]? = some n) (hk : X.env.kindOf n = some .local) (ht : TstOk X ty ex)
      (hu : ∀ a pn, PSs (X.suite a pn) (u :: su) ts) (r : ClsOk X hd l) : ClsOk X (.ExceptHandler (some ty) (some n) (u :: su) q :: hd) (⟨ex, some i, ts⟩ :: l)
section
variable {X : Cx} {body : List Stmt} {h₀ : ExceptHandler} {hds : List ExceptHandler} {l : List Clz} {pos : Pos} {tb : XK → TS}
end
end DL
/-! try .. except over data: clauses that return. -/
namespace DL
open PySem L2 PyProof.Rows
/-- a clause: which classes it takes, the slot of its name, its suite -/
structure Hdl where
  ex : Nat → Option Bool
  io : Option Nat
  S : FS
def putE (r : Env) (x : XD) : Option Nat → Env
  | none => r
  | some i => r.set i (.val (.exc x.c x.d.toList))
def endE (A : DE) : DE := { nx := fun _ _ => False, rt := A.rt, rn := A.rn }
def hdl (n : Nat) : List Hdl → DE → XD → Pr
  | [], _, _ => fun _ => False
  | h :: t, A, x => fun σ => ∃ b, h.ex x.c = some b ∧ if b = true then h.S (endE A) NoX (putE (List.replicate n .un) x h.io) σ else hdl n t A x σ
abbrev NoE : XK := fun _ _ _ => False
inductive HdsD (X : Cx) (G : Gm) : List ExceptHandler → List Hdl → Prop
  | nil : HdsD X G [] []
  | bare {ty : Expr} {ex : Nat → Option Bool} {ev : Value → Option Bool} {u : Stmt} {su : List Stmt} {q : Pos} {hd : List ExceptHandler} {l : List Hdl} {S : FS} (hx : ∀ c b, ex c = some b → ev (.ref (G.cls c)) = some b) (ht : TstOk X ty ev)
      (hu : ∀ a pn, PSs (X.suite a pn) (u :: su) (sD G NoE S)) (r : HdsD X G hd l) : HdsD X G (.ExceptHandler (some ty) none (u :: su) q :: hd) (⟨ex, none, S⟩ :: l)
  | named {ty : Expr} {ex : Nat → Option Bool} {ev : Value → Option Bool} {u : Stmt} {su : List Stmt} {q : Pos} {hd : List ExceptHandler} {l : List Hdl} {S : FS} {i : Nat} {n : Str} (hi : X.N[i]? = some n) (hk : X.env.kindOf n = some .local)
      (hx : ∀ c b, ex c = some b → ev (.ref (G.cls c)) = some b) (ht : TstOk X ty ev) (hu : ∀ a pn, PSs (X.suite a pn) (u :: su) (sD G NoE S)) (r : HdsD X G hd l) : HdsD X G (.ExceptHandler (some ty) (some n) (u :: su) q :: hd) (⟨ex, some i, S⟩ :: l)
inductive Zs (G : Gm) : List Hdl → List Clz → Prop
  | nil : Zs G [] []
  | cons {h : Hdl} {z : Clz} {l : List Hdl} {k : List Clz} (hx : ∀ c b, h.ex c = some b → z.ex (.ref (G.cls c)) = some b) (hi : z.io = h.io) (ht : z.ts = sD G NoE h.S) (r : Zs G l k) : Zs G (h :: l) (z :: k)
theorem HdsD.zs {X : Cx} {G : Gm} {hs : List ExceptHandler} {l : List Hdl} (h : HdsD X G hs l) : ∃ k, ClsOk X hs k ∧ Zs G l k := by
  induction h with
  | nil => exact ⟨[], .nil, .nil⟩
  | bare hx ht hu r ih =>
    obtain ⟨k, h1, h2⟩ := ih
    exact ⟨_ :: k, .bare ht hu h1, .cons hx rfl rfl h2⟩
  | named hi hk hx ht hu r ih =>
    obtain ⟨k, h1, h2⟩ := ih
    exact ⟨_ :: k, .named hi hk ht hu h1, .cons hx rfl rfl h2⟩
section
variable {G : Gm} {w0 w1 wk : Wd} {H0 H1 : Hp} {n : Nat} {A : DE} {D : Ends}
end
section
variable {X : Cx} {G : Gm} {E : XK} {body : List Stmt} {h₀ : ExceptHandler} {hds : List ExceptHandler} {l : List Hdl} {pos : Pos} {B : FS} {n : Nat}
end
structure HdY where
  ex : Nat → Option Bool
  io : Option Nat
  s : Env → RS
def RS.fin : RS → RS
  | .rt d => .rt d
  | .rn ds => .rn ds
  | _ => .no
inductive HdsY : List Hdl → List HdY → Prop
  | nil : HdsY [] []
  | cons {ex : Nat → Option Bool} {io : Option Nat} {S : FS} {s : Env → RS} {l : List Hdl} {k : List HdY} (h : CS S s) (r : HdsY l k) : HdsY (⟨ex, io, S⟩ :: l) (⟨ex, io, s⟩ :: k)
end DL
/-! Defs that may be called within an except suite. -/
namespace DL
open PySem L2 PyProof.Rows
/-- room, whatever is handled -/
structure RmW (k : Nat) (A : Around) : Prop where
  dp : A.depth + 3 * k + 5 < recursionLimit
  un : A.units + 16 * k + 200 < cLine
theorem RmW.of {k : Nat} {A : Around} (r : Room k A) : RmW k A := ⟨r.dp, r.un⟩
theorem RmW.mono {j k : Nat} {A : Around} (r : RmW k A) (h : j ≤ k) : RmW j A := ⟨by have := r.dp; omega, by have := r.un; omega⟩
theorem RmW.deeper {k : Nat} {A : Around} (r : RmW (k + 1) A) (env : PySem.Env) : RmW k (A.deeper env) :=
  ⟨by have := r.dp; show A.depth + 1 + 3 * k + 5 < recursionLimit; omega, by have := r.un; show A.units + 3 + 16 * k + 200 < cLine; omega⟩
theorem RmW.depth {k : Nat} {A : Around} (r : RmW k A) : A.depth < recursionLimit := by have := r.dp; omega
theorem RmW.mark {k : Nat} {A : Around} {v : Option Value} (r : RmW k A) : RmW k (A.mark v) := ⟨r.dp, r.un⟩
structure FnW (P : Program) (w : World) (K : PySem.W.Frag) (mg : Str → Option Value) (base : Heap) (k : Nat) (f : Addr) (fd : FuncData) (ps : List Str) (sp : Sp) : Prop where
  len : ∀ vs H Q E, sp vs H Q E → vs.length = ps.length
  run : ∀ (A : Around) (outer : List PySem.Env) (s : Shared) (H : Hp) (args : Args) (us : List Value) (vs : List V) (Q : VK) (E : XK), A.guards = some [] → RmW k A → Env0 P w K mg base A outer s H → BindsTo s fd args (ps.zip us) → Vals vs us → sp vs H Q E →
    codeAny (model P w) A (.call (.ref f) args) (CR (L2.CX P w) outer P w H s Q E) s
theorem FnW.mono {P : Program} {w : World} {K : PySem.W.Frag} {mg : Str → Option Value} {base : Heap} {j k : Nat} {f : Addr} {fd : FuncData} {ps : List Str} {sp : Sp} (F : FnW P w K mg base j f fd ps sp) (h : j ≤ k) : FnW P w K mg base k f fd ps sp :=
  ⟨F.len, fun A outer s H args us vs Q E hg hr => F.run A outer s H args us vs Q E hg (hr.mono h)⟩
section
variable {P : Program} {w : World} {K : PySem.W.Frag} {mg : Str → Option Value} {base : Heap} {k : Nat} {f : Addr} {N ps : List Str} {sp : Sp}
end
section
variable {G : Gm} {P : Program} {w : World} {mg : Str → Option Value} {base : Heap} {k : Nat} {f : Addr} {N ps : List Str}
end
section
variable {X : Cx} {G : Gm} {E : XK} {k : Nat} {f : Addr} {fd : FuncData} {ps : List Str} {sp : DSp} {x : Str} {p pos : Pos} {e : Expr} {es : List Expr} {B : FA}
end
end DL
/-! The head by one run of the kernel: a part of the heap is looked at behind the top, by tests on it. -/
namespace HdM
open PySem PySem.Spec PyProof.Rows L2 DL
/-! ### the part: the module's names xs, what they name in four steps -/
def refsAt (g : Addr → Option Obj) (l : List Addr) : List Addr := l.flatMap fun a => match g a with
  | some o => He.refsO o
  | none => []
def lev (g : Addr → Option Obj) : Nat → List Addr → List Addr
  | 0, l => l
  | n + 1, l => l ++ lev g n (refsAt g l)
def partG (xs : List Str) (g : Addr → Option Obj) : PySem.W.Frag := He.frG g (mainGlobals :: cStatics :: lev g 4 (xs.map (He.ga (He.frG g [mainGlobals]))))
def partH (xs : List Str) (h : Heap) : PySem.W.Frag := partG xs h.get?
def partT (xs : List Str) (s : PySem.W.SharedT) : PySem.W.Frag := partG xs (HandSHeadRun.getT s)
theorem part_eq (xs : List Str) (s : PySem.W.SharedT) : partT xs s = partH xs s.abs.heap := by
  have e : HandSHeadRun.getT s = s.abs.heap.get? := funext fun a => HandSHeadRun.getT_eq s a
  unfold partT partH
  rw [e]
/-! ### a def -/
structure DfM where
  ad : PySem.W.Frag → Addr
  name : Str
  qual : Str
  params : Arguments
  body : List Stmt
  scope : Scope
  dfl : List He.Dv := []
def fnAt (K : PySem.W.Frag) (a : Addr) : He.FnW := match K.lookup a with
  | some ⟨_, _, .func d, _⟩ => some (d.name, d.qualname, d.params, d.body, d.scope, d.globals, d.closure, d.builtins)
  | _ => none
def DfM.val (d : DfM) : He.FnW := some (d.name, d.qual, d.params, .stmts d.body, d.scope, mainGlobals, [], builtinsNs)
def DfM.dvs (K : PySem.W.Frag) (d : DfM) : List V := d.dfl.map (He.Dv.v K)
def DfM.ok (K : PySem.W.Frag) (d : DfM) : Bool := PySem.W.keepIn K (.ref (d.ad K)) && (match K.lookup (d.ad K) with
  | some ⟨_, _, .func e, _⟩ => PySem.W.codeIn K e.code d.qual && He.dflB K e.defaults (d.dvs K)
  | _ => false)
theorem DfM.funD {K : PySem.W.Frag} {d : DfM} (e : fnAt K (d.ad K) = d.val) (c : d.ok K = true) : ∃ fd, FunD K d.name d.qual d.params d.body d.scope (d.dvs K) [] (d.ad K) fd := by
  obtain ⟨kp, c2⟩ := Bool.and_eq_true_iff.mp c
  cases q : K.lookup (d.ad K) with
  | none => rw [q] at c2; cases c2
  | some o =>
    obtain ⟨oc, od, dt, osl⟩ := o
    unfold fnAt at e
    rw [q] at c2 e
    cases dt with
    | func fd =>
      obtain ⟨m1, m2, m3, m4, m5, m6, m7, m8, m9, m10, m11, m12, m13, m14, m15⟩ := fd
      have z : (some (m1, m2, m3, m4, m5, m6, m7, m15) : He.FnW) = some (d.name, d.qual, d.params, .stmts d.body, d.scope, mainGlobals, [], builtinsNs) := e
      simp only [Option.some.injEq, Prod.mk.injEq] at z
      obtain ⟨z1, z2, z3, z4, z5, z6, z7, z8⟩ := z
      subst z1 z2 z3 z4 z5 z6 z7 z8
      obtain ⟨k1, k2⟩ := Bool.and_eq_true_iff.mp (show (PySem.W.codeIn K m13 d.qual && He.dflB K m8 (d.dvs K)) = true from c2)
      exact ⟨_, ⟨oc, od, m8, m9, m10, m11, m12, m13, m14, osl, rfl, q, k1, He.dflB_ok k2, .inl rfl⟩, kp⟩
    | _ => cases c2
theorem fun_of {K : PySem.W.Frag} {x q : Str} {st : Stmt} {f : Addr} (h : ∃ fd, FunD K x q (defArgs st) (defBody st) (defScope st) [] [] f fd) : ∃ fd, L2.Fun K x q st f fd := by
  obtain ⟨fd, ⟨oc, od, dV, kV, doc, pm, an, cdv, ct, osl, rfl, lk, cd, df, _⟩, kp⟩ := h
  rcases df with ⟨_, rfl⟩ | ⟨n, _⟩
  · exact ⟨_, ⟨oc, od, kV, doc, pm, an, cdv, ct, osl, rfl, lk, cd⟩, kp⟩
  · exact absurd rfl n
/-! ### tests -/
/-- the getter of a property -/
def getF (K : PySem.W.Frag) (P : Addr) : Addr := match PySem.W.recIn K P "property" with
  | some (.ref f :: _) => f
  | _ => 0
def getB (K : PySem.W.Frag) (P : Addr) : Bool := match PySem.W.recIn K P "property" with
  | some (.ref _ :: _) => true
  | _ => false
theorem get_ok {K : PySem.W.Frag} {P : Addr} (h : getB K P = true) : ∃ r, PySem.W.recIn K P "property" = some (.ref (getF K P) :: r) := by
  unfold getB at h
  unfold getF
  split at h
  · rename_i f r e
    exact ⟨r, by rw [e]⟩
  · cases h
def unitB (K : PySem.W.Frag) (a : Addr) : Bool := match K.lookup a with
  | some ⟨.type c, none, .seq its _, _⟩ => decide (c = "tuple") && its.toList.isEmpty
  | _ => false
theorem unit_ok {K : PySem.W.Frag} {a : Addr} (h : unitB K a = true) : ∃ n sl, K.lookup a = some ⟨.type "tuple", none, .seq #[] n, sl⟩ := by
  unfold unitB at h
  split at h
  · rename_i c its n sl e
    obtain ⟨h1, h2⟩ := Bool.and_eq_true_iff.mp h
    have ec : c = "tuple" := of_decide_eq_true h1
    have ei : its = #[] := by
      cases its with
      | mk l =>
        cases l with
        | nil => rfl
        | cons x y => cases h2
    exact ⟨n, sl, by rw [e, ec, ei]⟩
  · cases h
def intB (K : PySem.W.Frag) (x : Str) (i : Int) : Bool := match PySem.W.nsIn K mainGlobals x with
  | some (some (.int j _)) => decide (j = i)
  | _ => false
theorem int_ok {K : PySem.W.Frag} {x : Str} {i : Int} (h : intB K x i = true) : ∃ t, PySem.W.nsIn K mainGlobals x = some (some (.int i t)) := by
  unfold intB at h
  split at h
  · rename_i j t e
    have ej : j = i := of_decide_eq_true h
    exact ⟨t, by rw [e, ej]⟩
  · cases h
/-- a dict of the written part, but for its hashes -/
def entB : List DictEntry → List (Key × V) → Bool
  | [], [] => true
  | e :: r, (k, v) :: t => keyIs k e.key && (He.relB v e.val && entB r t)
  | _, _ => false
def dicB (K : PySem.W.Frag) (a : Addr) (kvs : List (Key × V)) : Bool := match K.lookup a with
  | some ⟨.type c, none, .dict es _, sl⟩ => decide (c = "dict") && (sl.toList.isEmpty && (!(a == sysModules) && entB es.toList kvs))
  | _ => false
def hashesAt (K : PySem.W.Frag) (a : Addr) : List Int := match K.lookup a with
  | some ⟨_, _, .dict es _, _⟩ => es.toList.map (·.hash)
  | _ => []
theorem kent_of {w : World} : ∀ {es : List DictEntry} {kvs : List (Key × V)}, entB es kvs = true → es.map (·.hash) = kvs.map (fun p => keyH w p.1) → KEnt w es kvs
  | [], [], _, _ => trivial
  | [], _ :: _, h, _ => by cases h
  | _ :: _, [], h, _ => by cases h
  | e :: r, (k, v) :: t, h, q => by
    obtain ⟨h1, h⟩ := Bool.and_eq_true_iff.mp (show (keyIs k e.key && (He.relB v e.val && entB r t)) = true from h)
    obtain ⟨h2, h3⟩ := Bool.and_eq_true_iff.mp h
    have q : e.hash :: r.map (·.hash) = keyH w k :: t.map (fun p => keyH w p.1) := q
    injection q with q1 q2
    exact ⟨h1, q1, He.relB_ok h2, kent_of h3 q2⟩
theorem dic_ok {K : PySem.W.Frag} {w : World} {a : Addr} {kvs : List (Key × V)} (h : dicB K a kvs = true) (q : hashesAt K a = kvs.map (fun p => keyH w p.1)) : KDic K w a kvs := by
  unfold dicB at h
  unfold hashesAt at q
  split at h
  · rename_i c es n sl e
    obtain ⟨h1, h⟩ := Bool.and_eq_true_iff.mp h
    obtain ⟨h2, h⟩ := Bool.and_eq_true_iff.mp h
    obtain ⟨h3, h4⟩ := Bool.and_eq_true_iff.mp h
    have ec : c = "dict" := of_decide_eq_true h1
    have es0 : sl = #[] := by
      cases sl with
      | mk l =>
        cases l with
        | nil => rfl
        | cons x y => cases h2
    rw [e] at q
    exact ⟨es, n, by rw [e, ec, es0], by simpa using h3, kent_of h4 q⟩
  · cases h
/-! ### the Hook -/
abbrev AlM : Type := Bool × List He.FnW × List (List Int)
def lookM (fs : List (PySem.W.Frag → Bool)) (fn : List DfM) (dc : List (PySem.W.Frag → Addr)) (K : PySem.W.Frag) : AlM :=
  ((fs.all fun f => f K) && fn.all fun d => d.ok K, fn.map fun d => fnAt K (d.ad K), dc.map fun a => hashesAt K (a K))
def wantM (fn : List DfM) (hs : List (List Key)) (w : World) : AlM := (true, fn.map DfM.val, hs.map fun l => l.map (keyH w))
def SaysM (fs : List (PySem.W.Frag → Bool)) (fn : List DfM) (dc : List (PySem.W.Frag → Addr)) (hs : List (List Key)) (w : World) (K : PySem.W.Frag) : Prop := lookM fs fn dc K = wantM fn hs w
def hookM (xs : List Str) (fs : List (PySem.W.Frag → Bool)) (fn : List DfM) (dc : List (PySem.W.Frag → Addr)) (hs : List (List Key)) : PySem.W.Hook where
  α := AlM
  obs := fun s => lookM fs fn dc (partH xs s.heap)
  val := wantM fn hs
  says := fun w h => ∃ K : PySem.W.Frag, K.In h ∧ SaysM fs fn dc hs w K
  of := fun _ _ e => ⟨_, He.frG_in, e⟩
  keeps := fun _ _ _ ⟨K, hK, c⟩ k => ⟨K, PySem.W.Frag.In.keeps hK k, c⟩
def obM (xs : List Str) (fs : List (PySem.W.Frag → Bool)) (fn : List DfM) (dc : List (PySem.W.Frag → Addr)) (s : PySem.W.SharedT) : AlM := lookM fs fn dc (partT xs s)
theorem obM_eq {xs : List Str} {fs : List (PySem.W.Frag → Bool)} {fn : List DfM} {dc : List (PySem.W.Frag → Addr)} {hs : List (List Key)} (s : PySem.W.SharedT) : obM xs fs fn dc s = (hookM xs fs fn dc hs).obs s.abs := by
  unfold obM
  rw [part_eq]; rfl
section
variable {fs : List (PySem.W.Frag → Bool)} {fn : List DfM} {dc : List (PySem.W.Frag → Addr)} {hs : List (List Key)} {w : World} {K : PySem.W.Frag}
theorem SaysM.fact (c : SaysM fs fn dc hs w K) (i : Nat) {f : PySem.W.Frag → Bool} (h : fs[i]? = some f := by rfl) : f K = true := by
  have c1 : ((fs.all fun f => f K) && fn.all fun d => d.ok K) = true := congrArg (fun z : AlM => z.1) c
  exact List.all_eq_true.mp (Bool.and_eq_true_iff.mp c1).1 f (List.mem_of_getElem? h)
theorem SaysM.def_ (c : SaysM fs fn dc hs w K) (i : Nat) {d : DfM} (h : fn[i]? = some d := by rfl) : ∃ fd, FunD K d.name d.qual d.params d.body d.scope (d.dvs K) [] (d.ad K) fd := by
  have c1 : ((fs.all fun f => f K) && fn.all fun d => d.ok K) = true := congrArg (fun z : AlM => z.1) c
  have e : (fn.map fun d => fnAt K (d.ad K)) = fn.map DfM.val := congrArg (fun z : AlM => z.2.1) c
  have e2 : (fn.map fun d => fnAt K (d.ad K))[i]? = (fn.map DfM.val)[i]? := by rw [e]
  rw [List.getElem?_map, List.getElem?_map, h] at e2
  exact DfM.funD (Option.some.inj e2) (List.all_eq_true.mp (Bool.and_eq_true_iff.mp c1).2 d (List.mem_of_getElem? h))
theorem SaysM.hash (c : SaysM fs fn dc hs w K) (i : Nat) {a : PySem.W.Frag → Addr} {l : List Key} (h : dc[i]? = some a := by rfl) (h2 : hs[i]? = some l := by rfl) : hashesAt K (a K) = l.map (keyH w) := by
  have e : (dc.map fun a => hashesAt K (a K)) = hs.map fun l => l.map (keyH w) := congrArg (fun z : AlM => z.2.2) c
  have e2 : (dc.map fun a => hashesAt K (a K))[i]? = (hs.map fun l => l.map (keyH w))[i]? := by rw [e]
  rw [List.getElem?_map, List.getElem?_map, h, h2] at e2
  exact Option.some.inj e2
end
/-! ### the end -/
theorem walk_ofM {l : PySem.W.OpenLaw} {n k : Nat} {q : Program} {loose : List Str} {XP : (Str → Option Value) → Heap → Prop} {d : DefRec} {sp : DSp} {x : Str} {xs : List Str} {fs : List (PySem.W.Frag → Bool)} {fn : List DfM} {dc : List (PySem.W.Frag → Addr)} {hs : List (List Key)}
    (hn : l.most = some n) (hn2 : n ≤ sizeLine) (hdf : d.params.defaults = []) (hr : Room k callerA)
    (F : ∀ (w : World) (K : PySem.W.Frag) (mg : Str → Option Value) (fa : Addr) (h : Heap), K.In h → SaysM fs fn dc hs w K → h.Ns mainGlobals mg → mg d.name = some (.ref fa) →
      ∃ (G : Gm) (fd : FuncData), G.K = K ∧ G.tb = [] ∧ (∀ (s : Shared) (u : Value), BindsTo s fd ⟨[u], []⟩ [(x, u)]) ∧
        ∀ base : Heap, K.In base → base.Ns mainGlobals mg → FnG l.prog w K mg base k fa fd [x] (lift G sp))
    (hsp : ∀ (ns : List Int), ns.length ≤ n → (∀ z ∈ ns, Builtin.Int.intBits z ≤ 1048576) → sp [.lst (ns.map D.int)] (fun d _ => d = .bl true) NoX ⟨0, []⟩) :
    PySem.W.WalkO q loose XP (hookM xs fs fn dc hs).says l.row.toRowW d [] (fun f vs => PySem.call f vs) := by
  refine Att.attach_callB hn hdf fun w s₀ s₁ mg mb fa o pm cd doc a vs ns G' Y ho hd hcd hmg hobj hints hlen hbits hg => ?_
  obtain ⟨K, KX, c⟩ := Y
  obtain ⟨G, fd, rfl, et, hb, hF⟩ := F w K mg fa _ KX c G'.T.g hmg
  exact law_callD KX et G'.T.g G'.T.b G'.T.builtins G'.T.nolimit hg hobj hints (Nat.le_trans hlen hn2) hr hF hb (hsp ns hlen hbits)
end HdM
/-! A lambda that is handed to a def which calls it in a try: over data. -/
namespace DL
open PySem L2 PyProof.Rows
section
variable {X : Cx} {pins : List (Addr × Obj)} {σ : L2.St} {H : Hp} {s : Shared}
end
/-! ### the maker's names, as the lambda sees them -/
def Sl.seen : Sl → Sl
  | .val d => .val d
  | _ => .un
theorem Fr.seen {G : Gm} {w0 w w1 : Wd} {H0 H H1 : Hp} {r : Env} {t : L2.St} (f : Fr G w0 H0 r t w H) (l : Le w H w1 H1) (ok : Ok w1 H1) : Fr G w1 H1 (r.map Sl.seen) t w1 H1 where
  gm := l.sub.gm.trans f.gm
  ok := ok
  le := .refl w1 H1
  len := by rw [List.length_map]; exact f.len
  slot := fun i x e => by
    rw [List.getElem?_map] at e
    cases q : r[i]? with
    | none => rw [q] at e; cases e
    | some y =>
      rw [q] at e
      cases e
      have h := f.slot i y q
      cases y with
      | val d =>
        obtain ⟨v, e2, rv⟩ := h
        exact ⟨v, e2, rv.mono l.sub⟩
      | _ => trivial
  dist := fun i j x y a e1 e2 o1 o2 _ _ => by
    rw [List.getElem?_map] at e1
    cases q : r[i]? with
    | none => rw [q] at e1; cases e1
    | some y =>
      rw [q] at e1
      cases e1
      cases y <;> cases o1
end DL
/-! x(lambda: ..), x a def that calls what it got first in a try: over data. -/
namespace DL
open PySem L2 PyProof.Rows
section
variable {X : Cx} {pins : List (Addr × Obj)} {σ : L2.St} {H : Hp} {s : Shared}
end
section
variable {X : Cx} {G : Gm} {E : XK} {k n it : Nat} {x a told : Str} {st : Stmt} {g c P : Addr} {fd : FuncData} {Ng : List Str} {params : Arguments} {body : Expr} {scope : Scope} {p lpos pos p1 p2 p3 p4 p5 : Pos} {h₀ : ExceptHandler} {hds : List ExceptHandler} {rest : List Stmt} {l : List Hdl} {R : FS} {A : FE}
end
end DL
/-! A def that calls what it got in a try: its run. -/
namespace DL
open PySem L2 PyProof.Rows
end DL
/-! The law's call where tables of code objects are written (defs that make lambdas). -/
namespace DL
open PySem PySem.Spec L2 PyProof.Rows
/-- what is known of a code object and its table, ahead of the law's call -/
structure TabI (K : PySem.W.Frag) (h : Heap) (c P : Addr) : Prop where
  code : PySem.W.CodeHd h c P
  out : K.lookup P = none
  empty : h.get? P = some { cls := .none, data := .fields #[] }
section
variable {P : Program} {w : World} {G : Gm} {mg mb : Str → Option Value} {k : Nat} {fa a : Addr} {fd : FuncData} {x : Str} {sp : DSp} {s₁ : Shared} {vs : List Value} {ns : List Int}
end
end DL
/-! The head's Hook where defs make lambdas: their code objects and tables. -/
namespace HdM
open PySem PySem.Spec PyProof.Rows L2 DL
end HdM
/-! Own exceptions: the facts of a class, from tests on the part. -/
namespace ExL
open PySem PySem.Spec PyProof.Rows L2
section
variable {K : PySem.W.Frag} {mg : Str → Option Value} {x : Str} {C f : Addr} {bmB : List Value} {newId : String}
end
end ExL
/-! A def that makes lambdas: its body knows its code object. -/
namespace DL
open PySem PySem.Spec L2 PyProof.Rows
section
variable {P : Program} {w : World} {K : PySem.W.Frag} {mg : Str → Option Value} {base : Heap} {k : Nat} {f c : Addr} {N ps : List Str} {sp : Sp}
end
section
variable {G : Gm} {P : Program} {w : World} {mg : Str → Option Value} {base : Heap} {k : Nat} {f c : Addr} {N ps : List Str}
end
/-! ### the context of a lambda's body -/
section
variable {X : Cx} {A1 : Around} {outer : List PySem.Env} {s2 : Shared} {H2 : Hp} {E1 : XK} {scope : Scope} {f c1 : Addr}
end
end DL
/-! {} as a value. -/
namespace DL
open PySem L2 PyProof.Rows
section
variable {X : Cx} {G : Gm} {E : XK} {pos : Pos}
end
end DL
/-! repr of a dict of flat values. -/
namespace DL
open PySem L2 PyProof.Rows
def kPd : Key → PyData
  | .inl i => .int i
  | .inr s => .str s
def dkv : List Key → List D → List (PyData × PyData)
  | k :: ks, d :: ds => (kPd k, pd d) :: dkv ks ds
  | _, _ => []
def flatB : D → Bool
  | .non => true
  | .bl _ => true
  | .int _ => true
  | .str _ => true
  | _ => false
section
variable {G : Gm}
end
def dicOK (ks : List Key) (ds : List D) : Prop := ds.all flatB = true ∧ (PyData.dict (dkv ks ds)).showable = true ∧ (PyData.dict (dkv ks ds)).depth ≤ 60 ∧ (PyData.dict (dkv ks ds)).shown.length ≤ sizeLine
instance (ks : List Key) (ds : List D) : Decidable (dicOK ks ds) := by unfold dicOK; exact inferInstance
section
variable {G : Gm} {X : Cx}
end
/-- what is shown of a value, of dicts too -/
def shw : D → Str
  | .dic ks ds => (PyData.dict (dkv ks ds)).shown
  | d => (pd d).shown
def shwOK : D → Prop
  | .dic ks ds => dicOK ks ds
  | d => shownOK d
end DL
/-! list(x), x a text too. -/
namespace DL
open PySem L2 PyProof.Rows
section
variable {X : Cx} {G : Gm}
end
end DL
/-! x in o, both values (x of any kind). -/
namespace DL
open PySem L2 PyProof.Rows
section
variable {X : Cx} {G : Gm} {E : XK} {a b : Expr} {pos : Pos}
/-- an operator's rule over values -/
structure OpV (G : Gm) (X : Cx) (op : Value → Value → Sem Value) (g : G2) : Prop where
  ex : ∃ r, OpR X op r ∧ ∀ w H x y v u Q (QD : D → Pr), Ok w H → Rep G w x v → Rep G w y u → g x y QD w.sg →
    (∀ d z w' H', Le w H w' H' → Ok w' H' → Rep G w' d z → QD d w'.sg → Q z H') → r v u H Q
theorem OpV.link {op : Value → Value → Sem Value} {g : G2} {rr : R2} {A B : FE} (k0 : ∀ w H x y v u Q (QD : D → Pr), Ok w H → Rep G w x v → Rep G w y u → g x y QD w.sg →
    (∀ d z w' H', Le w H w' H' → Ok w' H' → Rep G w' d z → QD d w'.sg → Q z H') → rr v u H Q) (s : L2.St) (H : Hp) (Q : VK) (h : tD G E (f2 g A B) s H Q) : tOp rr (tD G E A) (tD G E B) s H Q := by
  obtain ⟨w0, H0, r, w, QD, EX, fr, lk, f, k⟩ := h
  refine ⟨w0, H0, r, w, _, EX, fr, lk, f, fun x v w1 H1 l1 ok1 s1 q1 => ?_⟩
  refine ⟨w0, H0, r, w1, _, EX, fr.go l1 ok1, lk, q1, fun y u w2 H2 l2 ok2 s2 q2 => ?_⟩
  exact k0 w2 H2 x y v u Q QD ok2 (s1.mono l2.sub) s2 q2 fun d z w3 H3 l3 ok3 r3 q3 => k d z w3 H3 ((l1.trans l2).trans l3) ok3 r3 q3
end
section
variable {G : Gm} {X : Cx} {k : Nat} {f : Addr} {fd : FuncData} {ps : List Str} {sp : DSp}
def inV (c : Nat) (sp : DSp) (neg : Bool) : G2 := fun x y Q σ => match y with
  | .obj c' fs => c' = c ∧ sp [.obj c' fs, x] (fun d σ => match d with
    | .bl b => Q (.bl (neg != b)) σ
    | _ => False) NoX σ
  | _ => False
end
section
variable {G : Gm} {X : Cx}
end
end DL
/-! text * int. -/
namespace DL
open PySem L2 PyProof.Rows
section
variable {G : Gm} {X : Cx}
end
instance (z : Str) (n : Int) : Decidable (MulOk z n) := by unfold MulOk; exact inferInstance
end DL
/-! str(x), x a tuple or a list. -/
namespace DL
open PySem L2 PyProof.Rows
section
variable {G : Gm} {X : Cx}
end
end DL
/-! x == (), x != (), x a tuple of anything. -/
namespace DL
open PySem L2 PyProof.Rows
section
variable {G : Gm} {X : Cx}
end
end DL
/-! xs.count(True), xs.index(True): lists of bools. -/
namespace DL
open PySem L2 PyProof.Rows
section
variable {G : Gm} {X : Cx} {E : XK}
variable {o e : Expr} {apos cpos : Pos} {A B : FE}
end
end DL
/-! x in xs, xs a list of tuples, x a dict too. -/
namespace DL
open PySem L2 PyProof.Rows
section
variable {A : Around} {s : Shared}
end
section
variable {G : Gm} {X : Cx}
end
end DL
/-! int(text). -/
namespace DL
open PySem L2 PyProof.Rows
section
variable {G : Gm} {X : Cx}
end
end DL
/-! Classmethods: their defs (the class in an unread slot), their calls by position. -/
namespace DL
open PySem L2 PyProof.Rows
section
variable {P : Program} {w : World} {mg : Str → Option Value} {base : Heap} {k : Nat} {f C : Addr} {c : Str} {N ps : List Str} {G : Gm}
end
section
variable {X : Cx} {G : Gm} {E : XK} {k : Nat} {f C p g : Addr} {mc : Value} {fd : FuncData} {ps : List Str} {dvs : List V} {dsv : List Value} {x m : Str} {pos apos npos : Pos} {e o : Expr} {es : List Expr} {B : FA} {sp : DSp} {pl : Sem Bool}
end
end DL
/-! x == o, x of a type of the language, o an own object: o's own __eq__ answers. -/
namespace DL
open PySem PySem.Spec PyProof.Rows PySem.W PySem.SeqAt
section
variable {prog : Program} {w : World} {A : Around} {E : Value → Shared → Prop} {s : Shared} {K : Frag} {x C f : Addr} {ox : Obj} {od : Option Obj} {a : Value} {Ta id : String}
end
end DL
/-! x == o, x a text, an int, None, a tuple, a list, a dict, o an own object. -/
namespace DL
open PySem L2 PyProof.Rows PySem.SeqAt
/-- C is no subclass of these -/
structure OffB (K : PySem.W.Frag) (C : Addr) : Prop where
  str : PySem.W.subIn K (.ref C) (.type "str") = some false
  int : PySem.W.subIn K (.ref C) (.type "int") = some false
  non : PySem.W.subIn K (.ref C) (.type "NoneType") = some false
  tup : PySem.W.subIn K (.ref C) (.type "tuple") = some false
  lst : PySem.W.subIn K (.ref C) (.type "list") = some false
  dic : PySem.W.subIn K (.ref C) (.type "dict") = some false
section
variable {X : Cx} {k : Nat} {f C : Addr} {fd : FuncData} {ps : List Str} {sp : Sp}
end
end DL
/-! o == x, o != x: o an own object, x a text, an int, None, a tuple, a list, a dict. -/
namespace DL
open PySem L2 PyProof.Rows PySem.SeqAt
/-- the language's types are no subclasses of C -/
structure SideB (K : PySem.W.Frag) (C : Addr) : Prop where
  str : PySem.W.notFirst K C (.type "str") = true
  int : PySem.W.notFirst K C (.type "int") = true
  non : PySem.W.notFirst K C (.type "NoneType") = true
  tup : PySem.W.notFirst K C (.type "tuple") = true
  lst : PySem.W.notFirst K C (.type "list") = true
  dic : PySem.W.notFirst K C (.type "dict") = true
section
variable {X : Cx} {k : Nat} {f C : Addr} {fd : FuncData} {ps : List Str} {sp : Sp}
end
end DL
/-! ==, != between an own object and a text, an int, None, a tuple, a list, a dict: rules over values. -/
namespace DL
open PySem L2 PyProof.Rows
section
variable {G : Gm} {X : Cx} {k : Nat} {f : Addr} {fd : FuncData} {ps : List Str} {sp : DSp}
end
end DL
/-! bool(o), o an own object with __bool__. -/
namespace PySem.W
open PySem PySem.Calls PyProof.Rows
section
variable {prog : Program} {w : World} {A : Around} {E : Value → Shared → Prop} {s : Shared} {K : Frag} {x C L f : Addr} {h₀ : Heap} {m : Str → Option Value} {ox : Obj} {od : Option Obj}
end
end PySem.W
namespace DL
open PySem L2 PyProof.Rows
section
variable {X : Cx} {k : Nat} {f C : Addr} {fd : FuncData} {ps : List Str} {sp : Sp}
end
section
variable {G : Gm} {X : Cx} {k : Nat} {f : Addr} {fd : FuncData} {ps : List Str} {sp : DSp}
end
end DL
/-! (o, t) == (o2, t2): o, o2 own objects of a class with __eq__. -/
namespace DL
open PySem L2 PyProof.Rows PySem.SeqAt
section
variable {prog : Program} {w : World} {A : Around} {R : Result → Shared → Prop}
end
section
variable {G : Gm} {X : Cx} {pins : List (Addr × Obj)} {σ : L2.St} {H : Hp} {s : Shared} {w : Wd}
end
section
variable {X : Cx} {k : Nat} {f C : Addr} {fd : FuncData} {ps : List Str} {sp : Sp}
end
section
variable {G : Gm} {X : Cx} {k : Nat} {f : Addr} {fd : FuncData} {ps : List Str} {sp : DSp}
end
end DL
/-! ==, != of an own object with any kind: own objects of other classes, too. -/
namespace DL
open PySem L2 PyProof.Rows PySem.SeqAt
section
variable {X : Cx} {k : Nat} {f C : Addr} {fd : FuncData} {ps : List Str} {sp : Sp}
end
section
variable {G : Gm} {X : Cx} {k k2 : Nat} {f f2 : Addr} {fd fd2 : FuncData} {ps ps2 : List Str} {sp sp2 : DSp}
end
end DL
/-! C.read(text = ..), a classmethod asked by name; x.split(sep). -/
namespace DL
open PySem L2 PyProof.Rows
section
variable {X : Cx} {G : Gm} {E : XK} {k : Nat} {f C p g : Addr} {mc : Value} {fd : FuncData} {ps ks : List Str} {sel : List Src} {dd : List D} {x m : Str} {pos apos npos : Pos} {kws : List Keyword} {B : FA} {sp : DSp} {pl : Sem Bool}
end
/-! ### x.split(sep) -/
section
variable {X : Cx} {G : Gm} {E : XK}
end
end DL
/-! Names of the module that stand for texts. -/
namespace DL
open PySem L2 PyProof.Rows
section
variable {X : Cx} {G : Gm} {E : XK}
end
end DL
namespace HdM
open PySem
end HdM
/-! isinstance(x, (A, B, ..)). -/
namespace DL
open PySem L2 PyProof.Rows
section
variable {X : Cx} {G : Gm} {E : XK}
end
end DL
/-! J[1], f = divmod(J[1], m), J a jar. -/
namespace DL
open PySem L2 PyProof.Rows
section
variable {X : Cx} {G : Gm} {E : XK}
def sJarDM (jp : JP) (i j : Nat) (M : FE) : FS := fun A EX r σ => fCons (fJar jp 1 (fVar i)) (fCons M fNil) r (fun ds σ => ∃ n m : Int, ds = [.int n, .int m] ∧ 0 < m ∧ m < 1073741824 ∧ r[i]? = some (.val .jar) ∧ JpSet jp 1 (n / m) σ.n σ.n ∧ ∀ k : Int, 0 ≤ k → k < m → A.nx (r.set j (.val (.int k))) σ) EX σ
theorem cs_jarDM {jp : JP} {i j : Nat} {x y : Str} {me : Expr} {p p2 dp ip ip2 spos sp2 py pos cp tp : Pos} {kk kk2} {kt : Nat} {M : FE} {ty : TG} (ha : PA X [.Subscript (.Name x p2) (.Constant (.int 1) kk2 ip2) sp2, me] (taD G E (fCons (fJar jp 1 (fVar i)) (fCons M fNil)))) (hz : X.mg "divmod" = none) (hy : PG X (.Name y py) ty) (hty : TgL G [j] ty (gVar j))
    (hj : G.jp = jp := by rfl) (hN : X.N[i]? = some x := by rfl) (hv : Vis X.env.scope x := by first | exact Or.inl rfl | exact Or.inr (Or.inl rfl) | exact Or.inr (Or.inr rfl))
    (hd : (x == ("__debug__" : Str)) = false := by decide) (hcd : (x == ("__classdict__" : Str)) = false := by decide)
    (has : ∀ v, assign (.Subscript (.Name x p) (.Constant (.int 1) kk ip) spos) X.env v = (do
      let ov ← holding [v] (eval (.Name x p) X.env)
      let iv ← holding [v, ov] (eval (.Constant (.int 1) kk ip) X.env)
      standAt spos
      holding [v, ov, iv] (setItem ov iv v)
      release [v, ov, iv] []) := by intro _; rfl)
    (hc : X.calm = true := by rfl) (hg : Gl X "divmod" := by rfl) (he : starEach [.Subscript (.Name x p2) (.Constant (.int 1) kk2 ip2) sp2, me] X.env = (false, eval (.Subscript (.Name x p2) (.Constant (.int 1) kk2 ip2) sp2) X.env) :: starEach [me] X.env := by rfl) (hpl : (backTo cp (starEach [me] X.env)).any (·.1) = false := by rfl)
    (hs : swapsWithSole [.Tuple [.Subscript (.Name x p) (.Constant (.int 1) kk ip) spos, .Name y py] kt tp] (.Call (.Name "divmod" dp) [.Subscript (.Name x p2) (.Constant (.int 1) kk2 ip2) sp2, me] [] cp) pos.line X.env = pure false := by rfl)
    (hw : swappedStores [.Tuple [.Subscript (.Name x p) (.Constant (.int 1) kk ip) spos, .Name y py] kt tp] (.Call (.Name "divmod" dp) [.Subscript (.Name x p2) (.Constant (.int 1) kk2 ip2) sp2, me] [] cp) X.env = pure none := by rfl)
    (h1 : (assignEach [.Tuple [.Subscript (.Name x p) (.Constant (.int 1) kk ip) spos, .Name y py] kt tp] X.env).map (·.2) = [assign (.Tuple [.Subscript (.Name x p) (.Constant (.int 1) kk ip) spos, .Name y py] kt tp) X.env] := by rfl)
    (hn : (assignEach [.Subscript (.Name x p) (.Constant (.int 1) kk ip) spos, .Name y py] X.env).length = 2 := by rfl) (hst : (assignEach [.Subscript (.Name x p) (.Constant (.int 1) kk ip) spos, .Name y py] X.env).findIdx? (·.1) = none := by rfl)
    (h2 : (assignEach [.Subscript (.Name x p) (.Constant (.int 1) kk ip) spos, .Name y py] X.env).map (·.2) = assign (.Subscript (.Name x p) (.Constant (.int 1) kk ip) spos) X.env :: (assignEach [.Name y py] X.env).map (·.2) := by rfl)
    (h3 : (assignEach [.Name y py] X.env).map (·.2) = assign (.Name y py) X.env :: (assignEach [] X.env).map (·.2) := by rfl) :
    PS X (.Assign [.Tuple [.Subscript (.Name x p) (.Constant (.int 1) kk ip) spos, .Name y py] kt tp] (.Call (.Name "divmod" dp) [.Subscript (.Name x p2) (.Constant (.int 1) kk2 ip2) sp2, me] [] cp) pos) (sD G E (sJarDM jp i j M)) :=
  (ps_asg (pe_callB call_divmod hg hz (by decide +kernel) ha (by decide) (by decide) he hpl) (pg_tup (n := 2) hc (pgs_cons (pg_sub (pe_var hN hv hd hcd) pe_int set_list has) (pgs_cons hy pgs_nil h3) h2) hn hst) hs hw h1).weak
    fun B s H ⟨w0, H0, wk, r, w, A', EX, fr, sb, lk, ll, f0⟩ => ⟨w0, H0, r, w, _, EX, fr, lk, f0, fun ds vs w1 H1 l1 ok1 r1 q1 => by
      obtain ⟨n, m, rfl, m0, m1, hji, ⟨mo, st⟩, q1⟩ := q1
      have ev := Reps.ints (ns := [n, m]) r1
      subst ev
      refine ⟨n, m, rfl, ⟨m0, m1⟩, fun q hq => ?_⟩
      have l2 := Le.new (w := w1) (o := .tup [.int (n / m), .int (n % m)]) hq
      have ok2 := ok1.new (o := .tup [.int (n / m), .int (n % m)]) hq
      have fr2 := fr.go (l1.trans l2) ok2
      obtain ⟨u, e2, ru⟩ := fr2.slot i _ hji
      obtain ⟨a, rfl, ja⟩ := ru.jar_of
      obtain ⟨_, x0, y0, z0, h, g⟩ := ok2.jar a ja
      rw [fr2.gm, hj] at g
      have st := st x0 y0 z0 g
      rw [← hj] at st
      have e4 : ∃ d t c : Int, (HO.lst ([V.int x0, .int y0, .int z0].set 1 (.int (n / m)))) = .lst [.int d, .int t, .int c] ∧ G.jp w1.sg.n d t c := ⟨_, _, _, rfl, st⟩
      have fr3 := fr2.jar (k := w1.sg.n) ja (fun _ _ _ z => z) e4
      refine ⟨q, [.int (n / m), .int (n % m)], rfl, .inl (.inl upd_same), rfl, .int (n / m), [.int (n % m)], rfl, ?_⟩
      have fin : gSub (tVar i) (tC (.int 1)) rSetL (.int (n / m)) s (upd H1 q (.tup [.int (n / m), .int (n % m)])) (fun s' H' => gCons ty gNil [.int (n % m)] s' H' fun s2 H2 => B.nx s2 H2) :=
        ⟨.ref a, e2, ⟨a, [V.int x0, .int y0, .int z0], 1, 1, rfl, rfl, h, rfl, .int (n % m), [], rfl, hty.go w0 H0 r s (w1.cnt w1.sg.n) _ (.int (n % m)) _ (fun r' => A'.nx r') _ fr3 Rep.int (q1 (n % m) (Int.emod_nonneg _ (by omega)) (Int.emod_lt_of_pos _ m0)) fun r' s' fr' _ _ k' => ⟨rfl, ll.nx r' s' (w1.cnt w1.sg.n) _ fr' ((sb.trans l1.sub).trans .cnt) k'⟩⟩⟩
      exact fin⟩
end
end DL
/-! xs.index(z): a list of texts. -/
namespace DL
open PySem L2 PyProof.Rows
section
variable {G : Gm} {X : Cx} {E : XK}
theorem flat_strs (bs : List Str) : (bs.map V.str).all flatV = true := by
  rw [List.all_map, List.all_eq_true]
  intro b _; rfl
theorem eqV_strs {a b : Str} : eqV (.str a) (.str b) = decide (a = b) := by
  unfold eqV
  rw [Bool.eq_iff_iff, beq_iff_eq, decide_eq_true_iff]
def fIxL (A B : FE) : FE := fun r Q EX σ => A r (fun x σ => match x with
  | .lst ds => B r (fun y σ => match y with
    | .str z => (match strsOf ds with
      | some ys => (match ys.findIdx? (fun t => decide (t.cps.toList = z.cps.toList)) with
        | some j => Q (.int (j : Nat)) σ
        | none => False)
      | none => False)
    | _ => False) EX σ
  | _ => False) EX σ
theorem ixL_link {A B : FE} {rr : V → List V → Hp → VK → Prop} (hK : X.K = G.K) (hg : ∀ p (ys : List Str) z j H Q, ys.findIdx? (fun t : Str => decide (t.cps.toList = z.cps.toList)) = some j → SqL X.K H p (ys.map V.str) → Q (.int (j : Nat)) H → rr (.ref p) [.str z] H Q) (s : L2.St) (H : Hp) (Q : VK) (h : tD G E (fIxL A B) s H Q) : tBM X.K "list" rr (bD G E A) (tCons (tD G E B) tNil) s H Q := by
  obtain ⟨w0, H0, r, w, QD, EX, fr, lk, f, k⟩ := h
  refine ⟨w0, H0, r, w, _, EX, fr, lk, f, fun x v w1 H1 l1 ok1 r1 q1 => ?_⟩
  cases x <;> try exact q1.elim
  rename_i ds
  obtain ⟨a, us, rfl, sq, rp⟩ := r1.lst_of ok1
  refine ⟨.inl ⟨rfl, us, hK ▸ sq.sql⟩, w0, H0, r, w1, _, EX, fr.go l1 ok1, lk, q1, fun y u w2 H2 l2 ok2 r2 q2 => ?_⟩
  cases y <;> try exact q2.elim
  rename_i z
  dsimp only at q2
  cases e1 : strsOf ds with
  | none => rw [e1] at q2; exact q2.elim
  | some ys =>
    rw [e1] at q2
    dsimp only at q2
    cases e2 : ys.findIdx? (fun t => decide (t.cps.toList = z.cps.toList)) with
    | none => rw [e2] at q2; exact q2.elim
    | some j =>
      rw [e2] at q2
      obtain ⟨a2, us2, e3, sq2, rp2⟩ := (r1.go l2).lst_of ok2
      cases e3
      rw [strsOf_eq e1] at rp2
      rw [rp2.strs] at sq2
      cases r2.str_of
      exact hg a ys z j H2 _ e2 (hK ▸ sq2.sql) (k _ _ w2 H2 (l1.trans l2) ok2 Rep.int q2)
variable {o e : Expr} {apos cpos : Pos} {A B : FE}
theorem ce_ixL (ho : PE X o (bD G E A)) (he : PE X e (tD G E B)) (hK : X.K = G.K := by rfl) (hs : starEach [e] X.env = (false, eval e X.env) :: starEach [] X.env := by rfl) (hplain : (backTo cpos (starEach [] X.env)).any (·.1) = false := by rfl)
    (hfew : ((backTo cpos (starEach [e] X.env)).all (fun x => !x.1) && (backToKw cpos (keywordEach [] X.env)).all (fun x => x.1.isSome)
      && decide ([e].length + ([] : List Keyword).length + (if ([] : List Keyword).isEmpty then 0 else 1) < 30)) = true := by rfl)
    (hbase : attributeBase o "index" X.env (eval o X.env) = eval o X.env := by rfl) (hline : (apos.endLine == cpos.line) = true := by rfl) : PE X (.Call (.Attribute o "index" apos) [e] [] cpos) (tD G E (fIxL A B)) :=
  PE.weak (pe_bm PySem.F.plainAttrs_list PySem.F.slot_list_index PySem.F.type_list_index mt_index ho (pa_cons he pa_nil hs) hbase hfew hline hs hplain) (ixL_link hK fun p ys z j H Q e sq q => by
    obtain ⟨h1, h2⟩ := find_first e
    refine ⟨p, ys.map V.str, .str z, j, .str z, rfl, rfl, sq, rfl, flat_strs ys, ?_, by rw [eqV_strs]; simp, fun m z' hm hz => ?_, q⟩
    · rw [List.getElem?_map, h1]; rfl
    · rw [List.getElem?_map] at hz
      obtain ⟨y, hy, rfl⟩ := Option.map_eq_some_iff.mp hz
      rw [eqV_strs, decide_eq_false]
      intro e
      exact h2 m hm (by rw [hy, e]))
end
def xIxL (a b : List Sl → R D) (r : List Sl) : R D := (a r).bind fun x => match x with
  | .lst ds => (b r).bind fun y => match y with
    | .str z => (match strsOf ds with
      | some ys => (match ys.findIdx? (fun t => decide (t.cps.toList = z.cps.toList)) with
        | some j => .ok (.int (j : Nat))
        | none => .no)
      | none => .no)
    | _ => .no
  | _ => .no
theorem f_ixL {A B : FE} {a b : List Sl → R D} (ha : CF A a) (hb : CF B b) : CF (fIxL A B) (xIxL a b) := fun r r' Q EX σ s h => ha r r' _ EX σ s ((hold_bind h).imp fun x h1 => by
  cases x <;> try exact h1.elim
  rename_i ds
  refine hb r r' _ EX σ s ((hold_bind h1).imp fun y h2 => ?_)
  cases y <;> try exact h2.elim
  rename_i z
  dsimp only at h2 ⊢
  cases e1 : strsOf ds with
  | none => rw [e1] at h2; exact h2.elim
  | some ys =>
    rw [e1] at h2
    dsimp only at h2 ⊢
    cases e2 : ys.findIdx? (fun t => decide (t.cps.toList = z.cps.toList)) with
    | none => rw [e2] at h2; exact h2.elim
    | some j => rw [e2] at h2; exact h2)
end DL
/-! Own exceptions as values: X(e), X(given=e), X(). -/
namespace ExL
open PySem PySem.HandSPX
section
variable {M : Model} {prog : Program} {w : World} {A : Around} {E : Value → Shared → Prop} {R : Result → Shared → Prop} {h : Heap} {g : Array GenState} {d : Drawn} {t : Nat} {os : OsState}
variable {nm q : Str} {C N : Addr} {bs bm bmB : List Value} {hdct : Bool} {sn : List Str} {sub : List Value} {ab : Bool} {col : Option Bool} {dd : Option Addr} {k0 k1 k2 k3 k5 : Option Value} {B newId initId : String} {kw : List (Str × Value)}
end
end ExL

namespace ExL
open PySem PySem.W PySem.Calls PyProof.Rows PySem.HandSPX
section
variable {prog : Program} {w : World} {A : Around} {R : Result → Shared → Prop} {s : Shared} {K : Frag} {mg : Str → Option Value} {x : Str} {C f : Addr} {B newId initId : String} {bmB : List Value}
end
end ExL
namespace ExL
open PySem PySem.Spec PyProof.Rows L2
section
variable {X : Cx} {C f : Addr} {x : Str} {B newId initId : String} {bmB : List Value}
end
end ExL
namespace DL
open PySem L2 PyProof.Rows
section
variable {G : Gm} {w w1 : Wd} {H H1 : Hp} {c : Nat}
end
section
variable {X : Cx} {G : Gm} {E : XK} {e : Expr} {pos p : Pos} {c k : Nat} {x nm : Str} {A : FA} {F : FK} {kws : List Keyword} {B newId initId : String} {bmB : List Value} {f : Addr}
end
/-! ### tables of classes as lists -/
def AllP (P : Nat × Bool → Prop) : List (Nat × Bool) → Prop
  | [] => True
  | x :: t => P x ∧ AllP P t
theorem AllP.get {P : Nat × Bool → Prop} : ∀ {l : List (Nat × Bool)}, AllP P l → ∀ {c : Nat} {b : Bool}, l.lookup c = some b → P (c, b)
  | [], _, _, _, h => by cases h
  | (c1, b1) :: t, ⟨h1, h2⟩, c, b, h => by
    rw [List.lookup_cons] at h
    by_cases e : c = c1
    · subst e
      rw [beq_self_eq_true] at h
      cases h
      exact h1
    · rw [show (c == c1) = false by simpa using e] at h
      exact AllP.get h2 h
/-- many tests of one class -/
theorem kit_of {K : PySem.W.Frag} {C : Addr} {l : List (Value × Bool)} (h : (l.all fun p => PySem.W.kitOne K (.ref C) p.1 == some p.2) = true) {v : Value} {b : Bool} (i : Nat) (e : l[i]? = some (v, b)) : PySem.W.kitOne K (.ref C) v = some b :=
  beq_iff_eq.mp (List.all_eq_true.mp h (v, b) (List.mem_of_getElem? e))
end DL
/-! x.upper(). -/
namespace DL
open PySem L2 PyProof.Rows
section
variable {X : Cx} {G : Gm} {E : XK} {A : FE}
end
end DL
/-! f(.., xs, ..), xs an own list that stays one's own: the answer is a truth value. -/
namespace DL
open PySem L2 PyProof.Rows
section
variable {G : Gm} {w0 w w1 w2 : Wd} {H0 H H2 : Hp}
/-- some own lists more are frozen -/
structure FrzD (w w1 : Wd) (H H0 : Hp) : Prop where
  hd : ∀ a, w1.hd a = w.hd a ∨ (w.hd a = none ∧ ¬ w.jr a ∧ H0 a = none ∧ w1.hd a = H a ∧ ∃ vs, H a = some (.lst vs))
  jr : w1.jr = w.jr
  ja : w1.ja = w.ja
  tb : w1.tb = w.tb
  gm : w1.gm = w.gm
  dk : w1.dk = w.dk
  sg : w1.sg = w.sg
theorem FrzD.sub (f : FrzD w w1 H H0) : Sub w w1 where
  hd := fun a o e => by
    rcases f.hd a with h | ⟨h, _⟩
    · rw [h]; exact e
    · rw [h] at e; cases e
  jr := fun a j => by rw [f.jr]; exact j
  ja := fun a j => by rw [f.ja]; exact j
  tb := f.tb
  gm := f.gm
  dk := fun i p h => by rw [f.dk]; exact h
theorem FrzD.refl : FrzD w w H H0 := ⟨fun _ => .inl rfl, rfl, rfl, rfl, rfl, rfl, rfl⟩
end
section
variable {X : Cx} {G : Gm} {E : XK} {k : Nat} {f C : Addr} {fd : FuncData} {ps : List Str} {x : Str} {p pos : Pos} {e : Expr} {es : List Expr} {B : FA} {sp : DSp}
end
end DL
/-! sorted(set(xs)), xs a list or a tuple of numbers. -/
namespace SetStr
open PySem PySem.Spec PyProof.Rows L2
section
variable {P : Program} {w : World} {A : Around} {E : Value → Shared → Prop} {s : Shared}
end
end SetStr
namespace DL
open PySem PySem.Spec L2 PyProof.Rows
section
variable {X : Cx}
end
section
variable {X : Cx} {G : Gm} {E : XK} {e : Expr} {A : FE} {p p2 pos pos2 : Pos}
end
end DL
/-! Plain law, part 1: settings of parts, neighbours, peaks. No program in sight. -/
namespace TP
open DL
abbrev Tx := List Nat
/-! ### settings of a part -/
def setsF (found : List Tx) : List Tx → List Tx
  | [] => found
  | p :: ps => setsF (found.flatMap fun b => p.map fun c => b ++ [c]) ps
def sets (ps : List Tx) : List Tx := setsF [[]] ps
def fits : Tx → List Tx → Prop
  | [], [] => True
  | c :: s, p :: ps => c ∈ p ∧ fits s ps
  | _, _ => False
theorem mem_setsF : ∀ {ps : List Tx} {found : List Tx} {s : Tx}, s ∈ setsF found ps ↔ ∃ b ∈ found, ∃ t, s = b ++ t ∧ fits t ps
  | [], found, s => by
    unfold setsF
    constructor
    · intro h; exact ⟨s, h, [], by simp, trivial⟩
    · rintro ⟨b, hb, t, e, f⟩
      cases t with
      | nil => rw [e, List.append_nil]; exact hb
      | cons _ _ => exact f.elim
  | p :: ps, found, s => by
    unfold setsF
    rw [mem_setsF]
    constructor
    · rintro ⟨b, hb, t, e, f⟩
      obtain ⟨b0, hb0, h⟩ := List.mem_flatMap.mp hb
      obtain ⟨c, hc, rfl⟩ := List.mem_map.mp h
      exact ⟨b0, hb0, c :: t, by rw [e]; simp, hc, f⟩
    · rintro ⟨b, hb, t, e, f⟩
      cases t with
      | nil => exact f.elim
      | cons c t =>
        exact ⟨b ++ [c], List.mem_flatMap.mpr ⟨b, hb, List.mem_map.mpr ⟨c, f.1, rfl⟩⟩, t, by rw [e]; simp, f.2⟩
theorem mem_sets {ps : List Tx} {s : Tx} : s ∈ sets ps ↔ fits s ps := by
  unfold sets
  rw [mem_setsF]
  constructor
  · rintro ⟨b, hb, t, e, f⟩
    rw [List.mem_singleton.mp hb] at e
    rw [e]; exact f
  · intro f; exact ⟨[], List.mem_singleton.mpr rfl, s, rfl, f⟩
theorem fits.len : ∀ {s : Tx} {ps : List Tx}, fits s ps → s.length = ps.length
  | [], [], _ => rfl
  | c :: s, p :: ps, h => by simp [fits.len h.2]
  | [], _ :: _, h => h.elim
  | _ :: _, [], h => h.elim
theorem fits.at : ∀ {s : Tx} {ps : List Tx}, fits s ps → ∀ {k : Nat}, k < ps.length → s.getD k 0 ∈ ps.getD k []
  | [], [], _, k, h => by simp at h
  | c :: s, p :: ps, h, 0, _ => h.1
  | c :: s, p :: ps, h, k + 1, hk => by
    have := fits.at h.2 (k := k) (by simpa using hk)
    simpa using this
  | [], _ :: _, h, _, _ => h.elim
  | _ :: _, [], h, _, _ => h.elim
theorem fits_of : ∀ {s : Tx} {ps : List Tx}, s.length = ps.length → (∀ k, k < ps.length → s.getD k 0 ∈ ps.getD k []) → fits s ps
  | [], [], _, _ => trivial
  | c :: s, p :: ps, hl, h => ⟨h 0 (by simp), fits_of (by simpa using hl) fun k hk => by simpa using h (k + 1) (by simpa using hk)⟩
  | [], _ :: _, hl, _ => by simp at hl
  | _ :: _, [], hl, _ => by simp at hl
/-- all the same length, strictly ascending -/
def Asc (l : List Tx) : Prop := l.Pairwise (· < ·)
theorem lt_snoc : ∀ {a b : Tx} {x y : Nat}, a.length = b.length → a < b → a ++ [x] < b ++ [y]
  | [], [], _, _, _, h => by exact absurd h (by simp)
  | a :: as, b :: bs, x, y, hl, h => by
    rw [List.cons_append, List.cons_append, List.cons_lt_cons_iff]
    rcases List.cons_lt_cons_iff.mp h with h | ⟨e, h⟩
    · exact .inl h
    · exact .inr ⟨e, lt_snoc (by simpa using hl) h⟩
  | [], _ :: _, _, _, hl, _ => by simp at hl
  | _ :: _, [], _, _, hl, _ => by simp at hl
theorem lt_snoc2 : ∀ {a : Tx} {x y : Nat}, x < y → a ++ [x] < a ++ [y]
  | [], x, y, h => by
    rw [List.nil_append, List.nil_append, List.cons_lt_cons_iff]; exact .inl h
  | a :: as, x, y, h => by
    rw [List.cons_append, List.cons_append, List.cons_lt_cons_iff]; exact .inr ⟨rfl, lt_snoc2 h⟩
theorem asc_setsF : ∀ {ps : List Tx} {found : List Tx} {n : Nat}, Asc found → (∀ b ∈ found, b.length = n) → (∀ p ∈ ps, p.Pairwise (· < ·)) → Asc (setsF found ps)
  | [], found, n, h, _, _ => h
  | p :: ps, found, n, h, hn, hp => by
    unfold setsF
    refine asc_setsF (n := n + 1) ?_ (fun b hb => ?_) fun q hq => hp q (List.mem_cons_of_mem _ hq)
    · unfold Asc
      rw [List.pairwise_flatMap]
      refine ⟨fun b hb => ?_, ?_⟩
      · rw [List.pairwise_map]
        exact (hp p List.mem_cons_self).imp fun h => lt_snoc2 h
      · refine List.Pairwise.imp_of_mem ?_ h
        intro a b ha hb hab x hx y hy
        obtain ⟨c, _, rfl⟩ := List.mem_map.mp hx
        obtain ⟨d, _, rfl⟩ := List.mem_map.mp hy
        exact lt_snoc (by rw [hn a ha, hn b hb]) hab
    · obtain ⟨b0, hb0, h⟩ := List.mem_flatMap.mp hb
      obtain ⟨c, _, rfl⟩ := List.mem_map.mp h
      simp [hn b0 hb0]
theorem asc_sets {ps : List Tx} (hp : ∀ p ∈ ps, p.Pairwise (· < ·)) : Asc (sets ps) :=
  asc_setsF (n := 0) (List.pairwise_singleton _ _) (by simp) hp
theorem lt_irr (a : Tx) : ¬ a < a := List.lt_irrefl a
theorem Asc.nodup {l : List Tx} (h : Asc l) : l.Nodup := h.imp fun {a b} h e => by subst e; exact lt_irr _ h
theorem len_setsF : ∀ {ps : List Tx} {found : List Tx}, (setsF found ps).length = found.length * (ps.map List.length).prod
  | [], found => by simp [setsF]
  | p :: ps, found => by
    unfold setsF
    rw [len_setsF]
    have : (found.flatMap fun b => p.map fun c => b ++ [c]).length = found.length * p.length := by
      induction found with
      | nil => simp
      | cons b bs ih => simp [List.flatMap_cons, ih, Nat.add_mul]; omega
    rw [this, List.map_cons, List.prod_cons, Nat.mul_assoc]
theorem len_sets {ps : List Tx} : (sets ps).length = (ps.map List.length).prod := by
  unfold sets; rw [len_setsF]; simp

theorem setsF_snoc : ∀ {p : List Tx} {f : List Tx} {x : Tx}, setsF f (p ++ [x]) = (setsF f p).flatMap fun b => x.map fun c => b ++ [c]
  | [], f, x => rfl
  | y :: p, f, x => by
    rw [List.cons_append]
    unfold setsF
    exact setsF_snoc
def grow (l : List Tx) (x : Tx) : List Tx := l.flatMap fun b => x.map fun c => b ++ [c]
theorem sets_grow {p : List Tx} {x : Tx} : sets (p ++ [x]) = grow (sets p) x := setsF_snoc
theorem grow_app {l m : List Tx} {x : Tx} : grow (l ++ m) x = grow l x ++ grow m x := List.flatMap_append
theorem grow_one {b : Tx} {x : Tx} : grow [b] x = x.map fun c => b ++ [c] := by unfold grow; simp
theorem grow_len : ∀ {l : List Tx} {x : Tx}, (grow l x).length = l.length * x.length
  | [], x => by simp [grow]
  | b :: l, x => by
    rw [show b :: l = [b] ++ l from rfl, grow_app, grow_one, List.length_append, List.length_map, grow_len, List.length_append, Nat.add_mul]
    simp
theorem prod3 : ∀ {p : List Tx} {n : Nat}, (∀ x ∈ p, x.length ≤ 3) → p.length ≤ n → (p.map List.length).prod ≤ 3 ^ n
  | [], n, _, _ => by simp; exact Nat.one_le_pow _ _ (by decide)
  | x :: p, 0, _, h => by simp at h
  | x :: p, n + 1, h, hl => by
    rw [List.map_cons, List.prod_cons, Nat.pow_succ, Nat.mul_comm (3 ^ n)]
    exact Nat.mul_le_mul (h x List.mem_cons_self) (prod3 (fun y hy => h y (List.mem_cons_of_mem _ hy)) (by simpa using hl))
/-- a part of up to five switches with up to three stands each -/
structure Small (p : List Tx) : Prop where
  len : p.length ≤ 5
  three : ∀ x ∈ p, x.length ≤ 3
theorem Small.sets {p : List Tx} (h : Small p) : (sets p).length ≤ 243 := by
  rw [len_sets]
  exact prod3 h.three h.len
theorem Small.pre {p q : List Tx} (h : Small (p ++ q)) : Small p := ⟨by have := h.len; rw [List.length_append] at this; omega, fun x hx => h.three x (List.mem_append_left _ hx)⟩
theorem fits.len5 {s : Tx} {p : List Tx} (h : fits s p) (hp : Small p) : s.length ≤ 5 := by rw [h.len]; exact hp.len
/-! ### neighbours -/
def turned (s : Tx) (k : Nat) (c : Tx) : Tx := s.take k ++ c ++ s.drop (k + 1)
def side (part : List Tx) (s : Tx) (k : Nat) : List Tx := ((part.getD k []).filter fun c => decide (c ≠ s.getD k 0)).map fun c => turned s k [c]
def besideRaw (part : List Tx) (s : Tx) : List Tx := (List.range part.length).flatMap fun k => side part s k
def beside (part : List Tx) (s : Tx) : List Tx := isort ltN (besideRaw part s)
theorem mem_beside {part : List Tx} {s e : Tx} : e ∈ beside part s ↔ ∃ k, k < part.length ∧ ∃ c, c ∈ part.getD k [] ∧ c ≠ s.getD k 0 ∧ e = turned s k [c] := by
  unfold beside
  rw [isort_perm.mem_iff]
  unfold besideRaw
  rw [List.mem_flatMap]
  constructor
  · rintro ⟨k, hk, h⟩
    unfold side at h
    obtain ⟨c, hc, rfl⟩ := List.mem_map.mp h
    obtain ⟨h1, h2⟩ := List.mem_filter.mp hc
    exact ⟨k, by simpa using hk, c, h1, of_decide_eq_true h2, rfl⟩
  · rintro ⟨k, hk, c, h1, h2, rfl⟩
    refine ⟨k, by simpa using hk, ?_⟩
    unfold side
    exact List.mem_map.mpr ⟨c, List.mem_filter.mpr ⟨h1, decide_eq_true h2⟩, rfl⟩
theorem turned_len {s : Tx} {k : Nat} {c : Nat} (h : k < s.length) : (turned s k [c]).length = s.length := by
  unfold turned
  simp
  omega
theorem turned_eq_set : ∀ {s : Tx} {k : Nat} {c : Nat}, k < s.length → turned s k [c] = s.set k c
  | [], k, c, h => by simp at h
  | x :: s, 0, c, h => by simp [turned]
  | x :: s, k + 1, c, h => by
    have ih := turned_eq_set (s := s) (k := k) (c := c) (by simpa using h)
    unfold turned at ih ⊢
    simp only [List.take_succ_cons, List.drop_succ_cons, List.set_cons_succ, List.cons_append]
    rw [ih]
theorem set_getD {s : Tx} {k j c : Nat} (h : k < s.length) : (s.set k c).getD j 0 = if j = k then c else s.getD j 0 := by
  rw [List.getD_eq_getElem?_getD, List.getElem?_set, List.getD_eq_getElem?_getD]
  by_cases e : j = k
  · subst e; simp [h]
  · rw [if_neg (fun z => e z.symm), if_neg e]
/-- in how many places two settings differ -/
def dif (e s : Tx) : Nat := ((List.range s.length).filter fun k => decide (e.getD k 0 ≠ s.getD k 0)).length
theorem ext_getD : ∀ {a b : Tx}, a.length = b.length → (∀ k, k < b.length → a.getD k 0 = b.getD k 0) → a = b
  | [], [], _, _ => rfl
  | x :: a, y :: b, hl, h => by
    have h0 := h 0 (by simp)
    have := ext_getD (a := a) (b := b) (by simpa using hl) fun k hk => by simpa using h (k + 1) (by simpa using hk)
    simp at h0
    rw [h0, this]
  | [], _ :: _, hl, _ => by simp at hl
  | _ :: _, [], hl, _ => by simp at hl
theorem filter_one {n : Nat} {p : Nat → Bool} : ((List.range n).filter p).length = 1 ↔ ∃ k, k < n ∧ p k = true ∧ ∀ j, j < n → p j = true → j = k := by
  constructor
  · intro h
    obtain ⟨k, hk⟩ := List.length_eq_one_iff.mp h
    have mk : k ∈ (List.range n).filter p := by rw [hk]; simp
    obtain ⟨h1, h2⟩ := List.mem_filter.mp mk
    refine ⟨k, by simpa using h1, h2, fun j hj hp => ?_⟩
    have : j ∈ (List.range n).filter p := List.mem_filter.mpr ⟨by simpa using hj, hp⟩
    rw [hk] at this
    exact List.mem_singleton.mp this
  · rintro ⟨k, hk, hp, hu⟩
    have hn : ((List.range n).filter p).Nodup := List.nodup_range.filter _
    have : ((List.range n).filter p).Perm [k] := by
      refine (List.perm_ext_iff_of_nodup hn (by simp)).mpr fun j => ?_
      rw [List.mem_filter, List.mem_singleton, List.mem_range]
      constructor
      · rintro ⟨a, b⟩; exact hu j a b
      · rintro rfl; exact ⟨hk, hp⟩
    rw [this.length_eq]; rfl
theorem dif_one {e s : Tx} (hl : e.length = s.length) : dif e s = 1 ↔ ∃ k, k < s.length ∧ e.getD k 0 ≠ s.getD k 0 ∧ e = turned s k [e.getD k 0] := by
  unfold dif
  rw [filter_one]
  constructor
  · rintro ⟨k, hk, h1, h2⟩
    refine ⟨k, hk, of_decide_eq_true h1, ?_⟩
    rw [turned_eq_set hk]
    refine ext_getD (by rw [List.length_set, hl]) fun j hj => ?_
    rw [List.length_set] at hj
    rw [set_getD hk]
    by_cases q : j = k
    · rw [if_pos q, q]
    · rw [if_neg q]
      exact Decidable.byContradiction fun z => q (h2 j hj (decide_eq_true z))
  · rintro ⟨k, hk, h1, h2⟩
    refine ⟨k, hk, decide_eq_true h1, fun j hj hp => ?_⟩
    have hp' := of_decide_eq_true hp
    refine Decidable.byContradiction fun q => hp' ?_
    rw [h2, turned_eq_set hk, set_getD hk, if_neg q]
/-- the neighbours in a part that the setting is in -/
theorem mem_beside_fits {part : List Tx} {s e : Tx} (hs : fits s part) : e ∈ beside part s ↔ fits e part ∧ dif e s = 1 := by
  have hl := hs.len
  rw [mem_beside]
  constructor
  · rintro ⟨k, hk, c, hc, hne, rfl⟩
    have hk' : k < s.length := by omega
    have el : (turned s k [c]).length = s.length := turned_len hk'
    have g : (turned s k [c]).getD k 0 = c := by rw [turned_eq_set hk', set_getD hk', if_pos rfl]
    refine ⟨fits_of (by omega) fun j hj => ?_, (dif_one el).mpr ⟨k, hk', by rw [g]; exact hne, by rw [g]⟩⟩
    rw [turned_eq_set hk', set_getD hk']
    by_cases q : j = k
    · rw [if_pos q, q]; exact hc
    · rw [if_neg q]; exact hs.at hj
  · rintro ⟨fe, d⟩
    obtain ⟨k, hk, h1, h2⟩ := (dif_one (by rw [fe.len, hl])).mp d
    exact ⟨k, by omega, e.getD k 0, fe.at (by omega), h1, h2⟩
theorem ordN : Ord ltN where
  irr := fun x => by rw [ltN_eq]; exact decide_eq_false (lt_irr x)
  asym := fun x y h => by
    rw [ltN_eq] at h ⊢
    exact decide_eq_false (List.lt_asymm (of_decide_eq_true h))
  tr := fun x y z h1 h2 => by
    rw [ltN_eq] at h1 h2 ⊢
    have a := of_decide_eq_false h1
    have b := of_decide_eq_false h2
    refine decide_eq_false fun q => ?_
    have a' : x ≤ y := List.not_lt.mp a
    have b' : y ≤ z := List.not_lt.mp b
    exact absurd q (List.not_lt.mpr (List.le_trans a' b'))
theorem ltN_anti {x y : Tx} (h1 : ltN x y = false) (h2 : ltN y x = false) : x = y := by
  rw [ltN_eq] at h1 h2
  exact List.le_antisymm (List.not_lt.mp (of_decide_eq_false h2)) (List.not_lt.mp (of_decide_eq_false h1))
theorem Asc.sd {l : List Tx} (h : Asc l) : Sd ltN l := h.imp fun {a b} h => by
  rw [ltN_eq]; exact decide_eq_false (List.lt_asymm h)
/-- two lists without twins, the same elements, both ascending: the same -/
theorem asc_eq {l m : List Tx} (hl : Asc l) (hm : Asc m) (h : ∀ x, x ∈ l ↔ x ∈ m) : l = m :=
  sd_unique ((List.perm_ext_iff_of_nodup hl.nodup hm.nodup).mpr h) hl.sd hm.sd fun x _ y _ a b => ltN_anti a b
theorem sd_asc {l : List Tx} (h : Sd ltN l) (n : l.Nodup) : Asc l := by
  refine (List.Pairwise.and h n).imp fun {a b} ⟨h1, h2⟩ => ?_
  rw [ltN_eq] at h1
  rcases Decidable.em (a < b) with q | q
  · exact q
  · exact absurd (List.le_antisymm (List.not_lt.mp (of_decide_eq_false h1)) (List.not_lt.mp q)) h2
theorem sideLen {part : List Tx} {s : Tx} {k : Nat} (h : Small part) : (side part s k).length ≤ 3 := by
  unfold side
  rw [List.length_map]
  refine Nat.le_trans (List.length_filter_le _ _) ?_
  by_cases hk : k < part.length
  · refine h.three _ ?_
    rw [List.getD_eq_getElem?_getD, List.getElem?_eq_getElem hk]
    exact List.getElem_mem hk
  · rw [List.getD_eq_getElem?_getD, List.getElem?_eq_none (by omega)]
    exact Nat.zero_le _
theorem besideLen {part : List Tx} {s : Tx} (h : Small part) : ∀ (p : List Nat), (p.flatMap fun k => side part s k).length ≤ p.length * 3
  | [] => Nat.zero_le _
  | k :: p => by
    rw [List.flatMap_cons, List.length_append, List.length_cons, Nat.succ_mul, Nat.add_comm]
    exact Nat.add_le_add (besideLen h p) (sideLen h)
/-! ### places in an order -/
/-- the place of a text -/
def idx (o : List Tx) (s : Tx) : Nat := o.idxOf s
theorem idx_lt {o : List Tx} {s : Tx} (h : s ∈ o) : idx o s < o.length := List.idxOf_lt_length_iff.mpr h
theorem idx_at {o : List Tx} {s : Tx} (h : s ∈ o) : o.getD (idx o s) [] = s := by
  have := idx_lt h
  rw [List.getD_eq_getElem?_getD, List.getElem?_eq_getElem this]
  exact List.getElem_idxOf this
theorem idx_inj {o : List Tx} {s t : Tx} (hs : s ∈ o) (ht : t ∈ o) (e : idx o s = idx o t) : s = t := by
  rw [← idx_at hs, ← idx_at ht, e]
def near (w : List Tx) (s : Tx) : List Tx := (sets w).filter fun e => decide (dif e s = 1)
theorem mem_near {w : List Tx} {s e : Tx} : e ∈ near w s ↔ fits e w ∧ dif e s = 1 := by
  unfold near
  rw [List.mem_filter, mem_sets, decide_eq_true_iff]
end TP
/-! Runs over typed data: texts as lists of signs, lists of texts. -/
namespace DL
open PySem L2 PyProof.Rows TP
def sx (l : Tx) : Str := ⟨⟨l⟩⟩
abbrev st (l : Tx) : D := .str (sx l)
def sts (xs : List Tx) : List D := xs.map st
theorem sts_cons {x : Tx} {xs : List Tx} : sts (x :: xs) = st x :: sts xs := rfl
theorem sts_app {x y : List Tx} : sts (x ++ y) = sts x ++ sts y := List.map_append
theorem sts_len {x : List Tx} : (sts x).length = x.length := List.length_map _
theorem sx_inj {a b : Tx} (h : sx a = sx b) : a = b := by cases h; rfl
theorem sx_len {a : Tx} : (sx a).length = a.length := rfl
theorem sx_list {a : Tx} : (sx a).cps.toList = a := rfl
theorem sx_app {a b : Tx} : sx a ++ sx b = sx (a ++ b) := by
  show (⟨(⟨a⟩ : Array Nat) ++ ⟨b⟩⟩ : Str) = ⟨⟨a ++ b⟩⟩
  rw [List.append_toArray]
theorem signs_sx {a : Tx} : signs (sx a) = a.map fun c => st [c] := rfl
theorem sl_eq : sizeLine = 16777216 := sizeLine_eq
theorem gd_pos {p : Prop} [Decidable p] {a : D} (h : p) : gd p a = some a := by unfold gd; rw [if_pos h]
theorem addX_st {a b : Tx} (h : a.length + b.length ≤ 16777216) : addX (st a) (st b) = some (st (a ++ b)) := by
  show gd ((sx a).length + (sx b).length ≤ sizeLine) (.str (sx a ++ sx b)) = _
  rw [sx_app, gd_pos (by rw [sl_eq]; exact h)]
theorem addX_int {a b : Int} : addX (.int a) (.int b) = some (.int (a + b)) := rfl
theorem addX_tup {a b : List D} (h : a.length + b.length ≤ 16777216) : addX (.tup a) (.tup b) = some (.tup (a ++ b)) := gd_pos (by rw [sl_eq]; exact h)
theorem eqX_st {a b : Tx} : eqX (st a) (st b) = some (.bl (decide (a = b))) := rfl
theorem neX_st {a b : Tx} : neX (st a) (st b) = some (.bl (!decide (a = b))) := rfl
theorem ltX_st {a b : Tx} : ltX (st a) (st b) = some (.bl (ltN a b)) := rfl
theorem ltX_int {a b : Int} : ltX (.int a) (.int b) = some (.bl (decide (a < b))) := rfl
theorem leX_int {a b : Int} : leX (.int a) (.int b) = some (.bl (decide (a ≤ b))) := rfl
theorem gtX_int {a b : Int} : gtX (.int a) (.int b) = some (.bl (decide (b < a))) := rfl
theorem geX_int {a b : Int} : geX (.int a) (.int b) = some (.bl (decide (b ≤ a))) := rfl
theorem shp_int (a : Int) : shpB (.int a) = true := rfl
theorem eqX_int {a b : Int} : eqX (.int a) (.int b) = some (.bl (decide (a = b))) := by
  show gd ((shpB (.int a) && shpB (.int b)) = true) (.bl (eqb (.int a) (.int b))) = _
  rw [gd_pos (by rw [shp_int, shp_int]; rfl)]
  rfl
theorem neX_int {a b : Int} : neX (.int a) (.int b) = some (.bl (!decide (a = b))) := by
  show gd ((shpB (.int a) && shpB (.int b)) = true) (.bl (!eqb (.int a) (.int b))) = _
  rw [gd_pos (by rw [shp_int, shp_int]; rfl)]
  rfl
theorem atF_nat {α : Type} {xs : List α} {n : Nat} : atF xs (n : Int) = xs[n]? := rfl
theorem ixX_st {a : Tx} {n : Nat} (h : n < a.length) (hl : a.length ≤ 16777216) : ixX (st a) (.int n) = some (st [a.getD n 0]) := by
  show (atF a (n : Int)).bind (fun c => if Nat.ble a.length 16777216 = true then some (D.str ⟨#[c]⟩) else none) = _
  rw [atF_nat, List.getElem?_eq_getElem h]
  show (if Nat.ble a.length 16777216 = true then some (D.str ⟨#[a[n]]⟩) else none) = _
  rw [if_pos (Nat.ble_eq.mpr hl), List.getD_eq_getElem?_getD, List.getElem?_eq_getElem h]; rfl
theorem ixX_tup {a : List D} {n : Nat} {d : D} (h : a[n]? = some d) : ixX (.tup a) (.int n) = some d := h
theorem ixX_lst {a : List D} {n : Nat} {d : D} (h : a[n]? = some d) : ixX (.lst a) (.int n) = some d := h
theorem sts_at {a : List Tx} {n : Nat} (h : n < a.length) : (sts a)[n]? = some (st (a.getD n [])) := by
  unfold sts
  rw [List.getElem?_map, List.getElem?_eq_getElem h, List.getD_eq_getElem?_getD, List.getElem?_eq_getElem h]; rfl
theorem ixX_sts {a : List Tx} {n : Nat} (h : n < a.length) : ixX (.tup (sts a)) (.int n) = some (st (a.getD n [])) := ixX_tup (sts_at h)
theorem ixX_stsL {a : List Tx} {n : Nat} (h : n < a.length) : ixX (.lst (sts a)) (.int n) = some (st (a.getD n [])) := ixX_lst (sts_at h)
theorem strsOf_sts : ∀ {xs : List Tx}, strsOf (sts xs) = some (xs.map sx)
  | [] => rfl
  | x :: xs => by
    show (strsOf (sts xs)).map (sx x :: ·) = _
    rw [strsOf_sts]; rfl
theorem blsOf_map : ∀ {xs : List Bool}, blsOf (xs.map D.bl) = some xs
  | [] => rfl
  | x :: xs => by
    show (blsOf (xs.map D.bl)).map (x :: ·) = _
    rw [blsOf_map]; rfl
theorem findIdx_sts {s : Tx} : ∀ {o : List Tx}, s ∈ o → (o.map sx).findIdx? (fun t : Str => decide (t.cps.toList = (sx s).cps.toList)) = some (idx o s)
  | [], h => by cases h
  | x :: o, h => by
    rw [List.map_cons, List.findIdx?_cons]
    unfold idx
    rw [List.idxOf_cons]
    by_cases e : x = s
    · subst e; simp [sx_list]
    · have hs : s ∈ o := (List.mem_cons.mp h).resolve_left fun z => e z.symm
      have ih := findIdx_sts hs
      have e1 : decide ((sx x).cps.toList = (sx s).cps.toList) = false := decide_eq_false e
      have e2 : (x == s) = false := by simpa using e
      rw [e1, e2]
      simp only [Bool.false_eq_true, if_false]
      rw [ih]; rfl
/-! ### in -/
theorem flat_sts : ∀ {xs : List Tx}, (sts xs).all flatD = true
  | [] => rfl
  | x :: xs => by
    show (flatD (st x) && (sts xs).all flatD) = true
    rw [flat_sts]; rfl
theorem eqb_st {a b : Tx} : eqb (st a) (st b) = decide (a = b) := by
  show decide (sx a = sx b) = decide (a = b)
  exact decide_eq_decide.mpr ⟨sx_inj, fun h => by rw [h]⟩
theorem any_eqb {s : Tx} : ∀ {xs : List Tx}, (sts xs).any (fun z => eqb z (st s)) = decide (s ∈ xs)
  | [] => rfl
  | x :: xs => by
    show (eqb (st x) (st s) || (sts xs).any (fun z => eqb z (st s))) = _
    rw [any_eqb, eqb_st, Bool.eq_iff_iff, Bool.or_eq_true, decide_eq_true_iff, decide_eq_true_iff, decide_eq_true_iff, List.mem_cons]
    exact ⟨fun h => h.imp Eq.symm id, fun h => h.imp Eq.symm id⟩
theorem inX_tup {neg : Bool} {s : Tx} {xs : List Tx} : inX neg (st s) (.tup (sts xs)) = some (.bl (neg != decide (s ∈ xs))) := by
  show gd ((flatD (st s) && (sts xs).all flatD) = true) (.bl (neg != (sts xs).any fun z => eqb z (st s))) = _
  rw [gd_pos (by rw [flat_sts]; rfl), any_eqb]
theorem inX_one {neg : Bool} {c : Nat} {xs : Tx} : inX neg (st [c]) (st xs) = some (.bl (neg != decide (c ∈ xs))) := rfl
/-! ### sorting -/
theorem ltKF_st {a b : Tx} : ltKF (st a) (st b) = ltN a b := by
  show (match ltN a b with
    | true => true
    | false => match ltN b a with
      | true => false
      | false => false) = ltN a b
  cases ltN a b <;> cases ltN b a <;> rfl
theorem ins1_map {α β : Type} {f : α → β} {lt : α → α → Bool} {lt' : β → β → Bool} (h : ∀ a b, lt' (f a) (f b) = lt a b) {x : α} : ∀ {l : List α}, ins1 lt' (f x) (l.map f) = (ins1 lt x l).map f
  | [] => rfl
  | y :: l => by
    rw [List.map_cons]
    unfold ins1
    rw [h, ins1_map h]
    by_cases z : lt y x = true
    · rw [if_pos z, if_pos z]; rfl
    · rw [if_neg z, if_neg z]; rfl
theorem isort_map {α β : Type} {f : α → β} {lt : α → α → Bool} {lt' : β → β → Bool} (h : ∀ a b, lt' (f a) (f b) = lt a b) : ∀ {l : List α}, isort lt' (l.map f) = (isort lt l).map f
  | [] => rfl
  | y :: l => by
    rw [List.map_cons]
    unfold isort
    rw [isort_map h, ins1_map h]
theorem srt_sts {xs : List Tx} : srtOK (sts xs) = true := by
  have : (sts xs).all (oneD true) = true := by
    unfold sts
    rw [List.all_map, List.all_eq_true]
    intro x _; rfl
  unfold srtOK
  rw [this]; simp
theorem sortX_sts {xs : List Tx} (h : xs.length ≤ 16777216) : sortX [.lst (sts xs)] = some (sts (isort ltN xs)) := by
  show (if srtOK (sts xs) = true ∧ (sts xs).length ≤ sizeLine then some (isort ltKF (sts xs)) else none) = _
  rw [if_pos ⟨srt_sts, by rw [sts_len, sl_eq]; exact h⟩]
  unfold sts
  rw [isort_map fun a b => ltKF_st]
/-! ### slices of texts -/
theorem take_min {α : Type} {a : List α} {k : Nat} : a.take (min k a.length) = a.take k := by
  rcases Nat.le_total k a.length with h | h
  · rw [Nat.min_eq_left h]
  · rw [Nat.min_eq_right h, List.take_length, List.take_of_length_le h]
theorem drop_min {α : Type} {a : List α} {k : Nat} : a.drop (min k a.length) = a.drop k := by
  rcases Nat.le_total k a.length with h | h
  · rw [Nat.min_eq_left h]
  · rw [Nat.min_eq_right h, List.drop_length, List.drop_of_length_le h]
def cutN {α : Type} (a : List α) (lo hi : Option Int) : List α := (a.drop (HT.sIx a.length 0 lo)).take (HT.sIx a.length a.length hi - HT.sIx a.length 0 lo)
theorem cutS_sx {a : Tx} {lo hi : Option Int} : cutS (sx a) lo hi = sx (cutN a lo hi) := rfl
theorem cutD_map {α : Type} {e : α → D} {a : List α} {lo hi : Option Int} : cutD (a.map e) lo hi = (cutN a lo hi).map e := by
  unfold cutD cutN
  rw [List.length_map, List.map_take, List.map_drop]
theorem cutD_sts {a : List Tx} {lo hi : Option Int} : cutD (sts a) lo hi = sts (cutN a lo hi) := cutD_map
theorem cutN_to {α : Type} {a : List α} {k : Nat} : cutN a none (some (k : Int)) = a.take k := by
  unfold cutN
  rw [HT.sIx_none, HT.sIx_nat, List.drop_zero, Nat.sub_zero, take_min]
theorem cutN_from {α : Type} {a : List α} {k : Nat} : cutN a (some (k : Int)) none = a.drop k := by
  unfold cutN
  rw [HT.sIx_none, HT.sIx_nat, drop_min]
  exact List.take_of_length_le (by rw [List.length_drop]; omega)
theorem cutN_mid {α : Type} {a : List α} {i k : Nat} : cutN a (some (i : Int)) (some (k : Int)) = (a.drop i).take (k - i) := by
  unfold cutN
  rw [HT.sIx_nat, HT.sIx_nat, drop_min]
  rcases Nat.le_total k a.length with h | h
  · rw [Nat.min_eq_left h]
    rcases Nat.le_total i a.length with h2 | h2
    · rw [Nat.min_eq_left h2]
    · rw [Nat.min_eq_right h2, List.drop_of_length_le h2, List.take_nil, List.take_nil]
  · rw [Nat.min_eq_right h, List.take_of_length_le (by rw [List.length_drop]; omega), List.take_of_length_le (by rw [List.length_drop]; omega)]
/-! ### comprehensions -/
section
variable {α β : Type}
theorem lcG_ok {e : α → D} {g : D → List Sl → Option (List Sl)} {t : List Sl → R Bool} {f : List Sl → R D} {r : List Sl} {p : α → Bool} {h : α → D} :
    ∀ (xs : List α) (n : Nat) (acc : List D), (∀ x ∈ xs, ∃ r1, g (e x) r = some r1 ∧ t r1 = .ok (p x) ∧ (p x = true → f r1 = .ok (h x))) → n + xs.length ≤ 16777216 →
      lcG g t f r (xs.map e) n acc = .ok (n + (xs.filter p).length, ((xs.filter p).map h).reverse ++ acc)
  | [], n, acc, _, _ => rfl
  | x :: xs, n, acc, hb, hl => by
    obtain ⟨r1, h1, h2, h3⟩ := hb x List.mem_cons_self
    rw [List.map_cons]
    unfold lcG
    rw [h1]
    dsimp only
    rw [h2]
    simp only [R.cut, R.bind]
    have hb' : ∀ y ∈ xs, _ := fun y hy => hb y (List.mem_cons_of_mem _ hy)
    rw [List.length_cons] at hl
    cases hp : p x with
    | false =>
      rw [if_neg Bool.false_ne_true, lcG_ok xs n acc hb' (by omega), List.filter_cons_of_neg (by rw [hp]; exact Bool.false_ne_true)]
    | true =>
      rw [if_pos rfl, h3 hp]
      simp only
      rw [if_pos (by rw [Nat.blt_eq]; omega), frc_eq, lcG_ok xs (n + 1) _ hb' (by omega), List.filter_cons_of_pos hp]
      simp only [List.length_cons, List.map_cons, List.reverse_cons, List.append_assoc, List.cons_append, List.nil_append]
      rw [show n + 1 + (xs.filter p).length = n + ((xs.filter p).length + 1) by omega]
theorem xLc_ok {e : α → D} {s : List Sl → R (List D)} {vs : List Nat} {g : D → List Sl → Option (List Sl)} {t : List Sl → R Bool} {f : List Sl → R D} {r : List Sl} {xs : List α} (p : α → Bool) (h : α → D) (hs : s r = .ok (xs.map e)) (hl : xs.length ≤ 16777216)
    (hb : ∀ x ∈ xs, ∃ r1, g (e x) (wipeD r vs) = some r1 ∧ t r1 = .ok (p x) ∧ (p x = true → f r1 = .ok (h x))) : xLc s vs g t f r = .ok ((xs.filter p).map h) := by
  unfold xLc
  rw [hs]
  simp only [R.bind]
  rw [lcG_ok xs 0 [] hb (by omega)]
  simp
end
theorem rangeD_nat {n : Nat} : rangeD 0 (n : Int) = (List.range n).map fun i => D.int (i : Nat) := by
  unfold rangeD
  simp
theorem filter_tt {α : Type} {l : List α} : l.filter (fun _ => true) = l := List.filter_eq_self.mpr fun _ _ => rfl
theorem bind_ok {α β : Type} {a : α} {f : α → R β} : (R.ok a).bind f = f a := rfl
theorem st_ok {α : Type} {a : α} {f : α → RS} : (R.ok a).st f = f a := rfl
theorem ofO_some {α : Type} {a : α} : R.ofO (some a) = .ok a := rfl
theorem cut_ok {α : Type} {a : α} : (R.ok a).cut = .ok a := rfl
theorem seqD_lst {ds : List D} : seqD (.lst ds) = some ds := rfl
theorem seqD_tup {ds : List D} : seqD (.tup ds) = some ds := rfl
theorem seqD_st {a : Tx} : seqD (.str (sx a)) = some (a.map fun c => st [c]) := rfl
theorem iA_ok {a : List Sl → R D} {r : List Sl} {d : D} {ds : List D} (h : a r = .ok d) (h2 : seqD d = some ds) : iA a r = .ok ds := by
  unfold iA; rw [h]; show (match seqD d with
    | some ds => R.ok ds
    | none => R.no) = _
  rw [h2]
theorem rng1_eq {a : List Sl → R (List D)} {r : List Sl} {n : Int} (h : a r = .ok [.int n]) : iRng1 a r = if -(2 ^ 62) ≤ n ∧ n < 2 ^ 62 then .ok (rangeD 0 n) else .no := by
  unfold iRng1
  rw [h]
  rfl
theorem rng1_ok {a : List Sl → R (List D)} {r : List Sl} {n : Nat} (h : a r = .ok [.int (n : Int)]) (h2 : n < 1000000000) : iRng1 a r = .ok (rangeD 0 (n : Int)) := by
  rw [rng1_eq h]
  have h3 : (n : Int) < 1000000000 := by omega
  have h4 : (0 : Int) ≤ (n : Int) := Int.natCast_nonneg n
  exact if_pos ⟨Int.le_trans (by decide : -(2 ^ 62 : Int) ≤ 0) h4, Int.lt_trans h3 (by decide : (1000000000 : Int) < 2 ^ 62)⟩
theorem lenX_st {a : Tx} (h : a.length ≤ 16777216) : lenX [.str (sx a)] = some (.int (a.length : Nat)) := gd_pos (by rw [sl_eq]; exact h)
theorem lenX_lst {a : List D} : lenX [.lst a] = some (.int (a.length : Nat)) := rfl
theorem lenX_tup {a : List D} : lenX [.tup a] = some (.int (a.length : Nat)) := rfl
theorem natc1 {k : Nat} : ((k : Nat) : Int) + 1 = ((k + 1 : Nat) : Int) := rfl
end DL
/-! Runs stepped through, goal by goal: W for statements, equations for expressions. -/
namespace DL
open PySem L2 PyProof.Rows TP
def RS.w : RS → DP → XQ → Prop
  | .nx r, A, _ => A.nx r
  | .rt d, A, _ => A.rt d
  | .bk r, A, _ => A.bk r
  | .ct r, A, _ => A.ct r
  | .rn ds, A, _ => A.rn ds
  | .ex x, _, EX => EX x
  | .no, _, _ => False
@[irreducible] def W (c : List Sl → RS) (A : DP) (EX : XQ) (r : List Sl) : Prop := (c r).w A EX
section
variable {A : DP} {EX : XQ} {r : List Sl} {a b : List Sl → RS} {e e1 e2 : List Sl → R D} {i j : Nat}
theorem W_def {c : List Sl → RS} : W c A EX r = (c r).w A EX := by unfold W; rfl
theorem W_eq {c : List Sl → RS} {z : RS} (h : c r = z) (k : z.w A EX) : W c A EX r := by unfold W; rw [h]; exact k
theorem W_seq (h : W a { A with nx := fun r1 => W b A EX r1 } EX r) : W (ySeq a b) A EX r := by
  unfold W ySeq at *
  cases e : a r with
  | nx r1 => rw [e] at h; exact h
  | rt d => rw [e] at h; exact h
  | bk r1 => rw [e] at h; exact h
  | ct r1 => rw [e] at h; exact h
  | rn d => rw [e] at h; exact h
  | ex x => rw [e] at h; exact h
  | no => rw [e] at h; exact h
theorem W_next (h : A.nx r) : W yNext A EX r := W_eq (z := .nx r) rfl h
theorem W_ret {d : D} (h : e r = .ok d) (k : A.rt d) : W (yRet e) A EX r := W_eq (z := .rt d) (by unfold yRet; rw [h]; rfl) k
theorem W_expr {d : D} (h : e r = .ok d) (k : A.nx r) : W (yExpr e) A EX r := W_eq (z := .nx r) (by unfold yExpr; rw [h]; rfl) k
theorem W_set {d : D} (h : e r = .ok d) (k : A.nx (r.set i (.val d))) : W (ySet i e) A EX r := W_eq (z := .nx (r.set i (.val d))) (by unfold ySet; rw [h]; show frc d (fun d => RS.nx (r.set i (.val d))) = _; rw [frc_eq]) k
theorem W_setOwn {f : List Sl → R (List D)} {ds : List D} (h : f r = .ok ds) (k : A.nx (r.set i (.own ds))) : W (ySetOwn i f) A EX r := W_eq (z := .nx (r.set i (.own ds))) (by unfold ySetOwn; rw [h]; show frcs ds (fun d => RS.nx (r.set i (.own d))) = _; rw [frcs_eq]) k
theorem W_off {is : List Nat} (h : W a A EX (offs r is)) : W (yOff is a) A EX r := by unfold W at h ⊢; exact h
theorem W_app {ds : List D} {d : D} (h1 : r[i]? = some (.own ds)) (h2 : ds.length < 16777216) (h : e r = .ok d) (k : A.nx (r.set i (.own (ds ++ [d])))) : W (yApp i e) A EX r :=
  W_eq (z := .nx (r.set i (.own (ds ++ [d])))) (by
    unfold yApp
    rw [h1]
    dsimp only
    rw [if_pos (by rw [Nat.blt_eq]; exact h2), h]
    show frc d (fun d => frcp ds [d] fun es => RS.nx (r.set i (.own es))) = _
    rw [frc_eq, frcp_eq]) k
theorem W_if {t : List Sl → R Bool} {v : Bool} (h : t r = .ok v) (k1 : v = true → W a A EX r) (k2 : v = false → W b A EX r) : W (yIf t a b) A EX r := by
  unfold W yIf
  rw [h]
  show RS.w (if v = true then a r else b r) A EX
  cases v with
  | true => rw [if_pos rfl, ← W_def]; exact k1 rfl
  | false => rw [if_neg Bool.false_ne_true, ← W_def]; exact k2 rfl
theorem W_parO {d : D} {ds : List D} {f : List Sl → R (List D)} (h : e r = .ok d) (h2 : f r = .ok ds) (k : A.nx ((r.set i (.val d)).set j (.own ds))) : W (yParO i j e f) A EX r :=
  W_eq (z := .nx ((r.set i (.val d)).set j (.own ds))) (by
    unfold yParO; rw [h, h2]
    show frc d (fun d => frcs ds fun ds => RS.nx ((r.set i (.val d)).set j (.own ds))) = _
    rw [frc_eq, frcs_eq]) k
theorem W_parOO {d ds : List D} {e f : List Sl → R (List D)} (h : e r = .ok d) (h2 : f r = .ok ds) (k : A.nx ((r.set i (.own d)).set j (.own ds))) : W (yParOO i j e f) A EX r :=
  W_eq (z := .nx ((r.set i (.own d)).set j (.own ds))) (by unfold yParOO; rw [h, h2]; rfl) k
theorem W_asg {g : D → List Sl → Option (List Sl)} {d : D} {r1 : List Sl} (h : e r = .ok d) (h2 : g d r = some r1) (k : A.nx r1) : W (yAsg g e) A EX r := W_eq (z := .nx r1) (by unfold yAsg; rw [h, st_ok, h2]) k
theorem W_retNew {ds : List D} (h : r[i]? = some (.own ds)) (k : A.rn ds) : W (yRetNew i) A EX r := W_eq (z := .rn ds) (by unfold yRetNew; rw [h]) k
theorem W_move {ds : List D} (h : r[j]? = some (.own ds)) (k : A.nx ((r.set j .un).set i (.own ds))) : W (yMove i j) A EX r := by
  unfold W yMove
  rw [h]
  exact k
/-- a walk: I holds behind each turn, of what has come -/
theorem forG_W {α : Type} {em : α → D} {g : D → List Sl → Option (List Sl)} (I : List α → List Sl → Prop) {ys : List α} :
    ∀ (xs pre : List α) (r : List Sl), pre ++ xs = ys → I pre r → (∀ p x q, ys = p ++ x :: q → ∀ r, I p r → ∃ r1, g (em x) r = some r1 ∧ W b { A with nx := I (p ++ [x]), ct := I (p ++ [x]), bk := A.nx } EX r1) → (∀ r', I ys r' → A.nx r') → (forG g b (xs.map em) r).w A EX
  | [], pre, r, e, hi, _, k => k r (by rw [← e, List.append_nil]; exact hi)
  | x :: xs, pre, r, e, hi, hb, k => by
    obtain ⟨r1, h1, h2⟩ := hb pre x xs e.symm r hi
    rw [List.map_cons]
    unfold forG
    rw [h1]
    dsimp only
    unfold W at h2
    have e2 : pre ++ [x] ++ xs = ys := by rw [← e]; simp
    cases q : b r1 with
    | nx r2 => rw [q] at h2; exact forG_W I xs (pre ++ [x]) r2 e2 h2 hb k
    | ct r2 => rw [q] at h2; exact forG_W I xs (pre ++ [x]) r2 e2 h2 hb k
    | bk r2 => rw [q] at h2; exact h2
    | rt d => rw [q] at h2; exact h2
    | rn d => rw [q] at h2; exact h2
    | ex x => rw [q] at h2; exact h2
    | no => rw [q] at h2; exact h2
theorem W_for {α : Type} {s : List Sl → R (List D)} {g : D → List Sl → Option (List Sl)} {em : α → D} {xs : List α} (I : List α → List Sl → Prop) (hs : s r = .ok (xs.map em)) (h0 : I [] r)
    (hb : ∀ p x q, xs = p ++ x :: q → ∀ r, I p r → ∃ r1, g (em x) r = some r1 ∧ W b { A with nx := I (p ++ [x]), ct := I (p ++ [x]), bk := A.nx } EX r1) (k : ∀ r', I xs r' → A.nx r') : W (yFor s g b) A EX r := by
  unfold W yFor
  rw [hs]
  exact forG_W I xs [] r rfl h0 hb k
/-- while, by a measure -/
theorem whG_W {t : List Sl → R Bool} (I : Nat → List Sl → Prop) : ∀ (n m : Nat) (r : List Sl), m < n → I m r → (∀ m r, I m r → ∃ v, t r = .ok v ∧ (v = true → W b { A with nx := fun r2 => ∃ k, k < m ∧ I k r2, ct := fun r2 => ∃ k, k < m ∧ I k r2, bk := A.nx } EX r) ∧ (v = false → A.nx r)) → (whG t b n r).w A EX
  | 0, m, r, h, _, _ => by omega
  | n + 1, m, r, h, hi, hb => by
    obtain ⟨v, h1, h2, h3⟩ := hb m r hi
    unfold whG
    rw [h1, st_ok]
    cases v with
    | false => rw [if_neg Bool.false_ne_true]; exact h3 rfl
    | true =>
      rw [if_pos rfl]
      have h2 := h2 rfl
      unfold W at h2
      cases q : b r with
      | nx r2 => rw [q] at h2; obtain ⟨k, hk, h4⟩ := h2; exact whG_W I n k r2 (by omega) h4 hb
      | ct r2 => rw [q] at h2; obtain ⟨k, hk, h4⟩ := h2; exact whG_W I n k r2 (by omega) h4 hb
      | bk r2 => rw [q] at h2; exact h2
      | rt d => rw [q] at h2; exact h2
      | rn d => rw [q] at h2; exact h2
      | ex x => rw [q] at h2; exact h2
      | no => rw [q] at h2; exact h2
theorem W_while {n : Nat} {t : List Sl → R Bool} (I : Nat → List Sl → Prop) (m : Nat) (hm : m < n) (h0 : I m r) (hb : ∀ m r, I m r → ∃ v, t r = .ok v ∧ (v = true → W b { A with nx := fun r2 => ∃ k, k < m ∧ I k r2, ct := fun r2 => ∃ k, k < m ∧ I k r2, bk := A.nx } EX r) ∧ (v = false → A.nx r)) : W (yWhile n t b) A EX r :=
  W_def ▸ whG_W I n m r hm h0 hb
theorem S_set {d : D} (h : e r = .ok d) (k : W b A EX (r.set i (.val d))) : W (ySeq (ySet i e) b) A EX r := W_seq (W_set h k)
theorem S_setOwn {f : List Sl → R (List D)} {ds : List D} (h : f r = .ok ds) (k : W b A EX (r.set i (.own ds))) : W (ySeq (ySetOwn i f) b) A EX r := W_seq (W_setOwn h k)
theorem W_app2 {ds es : List D} {d : D} (h1 : r[i]? = some (.own ds)) (h2 : ds.length < 16777216) (h : e r = .ok d) (he : ds ++ [d] = es) (k : A.nx (r.set i (.own es))) : W (yApp i e) A EX r := W_app h1 h2 h (by rw [he]; exact k)
theorem S_app {ds es : List D} {d : D} (h1 : r[i]? = some (.own ds)) (h2 : ds.length < 16777216) (h : e r = .ok d) (he : ds ++ [d] = es) (k : W b A EX (r.set i (.own es))) : W (ySeq (yApp i e) b) A EX r := W_seq (W_app2 h1 h2 h he k)
theorem S_expr {d : D} (h : e r = .ok d) (k : W b A EX r) : W (ySeq (yExpr e) b) A EX r := W_seq (W_expr h k)
theorem S_parO {d : D} {ds : List D} {f : List Sl → R (List D)} (h : e r = .ok d) (h2 : f r = .ok ds) (k : W b A EX ((r.set i (.val d)).set j (.own ds))) : W (ySeq (yParO i j e f) b) A EX r := W_seq (W_parO h h2 k)
theorem S_parOO {d ds : List D} {e f : List Sl → R (List D)} (h : e r = .ok d) (h2 : f r = .ok ds) (k : W b A EX ((r.set i (.own d)).set j (.own ds))) : W (ySeq (yParOO i j e f) b) A EX r := W_seq (W_parOO h h2 k)
theorem S_asg {g : D → List Sl → Option (List Sl)} {d : D} {r1 : List Sl} (h : e r = .ok d) (h2 : g d r = some r1) (k : W b A EX r1) : W (ySeq (yAsg g e) b) A EX r := W_seq (W_asg h h2 k)
theorem S_if {t : List Sl → R Bool} {c : List Sl → RS} {v : Bool} (h : t r = .ok v) (k1 : v = true → W a { A with nx := fun r1 => W c A EX r1 } EX r) (k2 : v = false → W b { A with nx := fun r1 => W c A EX r1 } EX r) : W (ySeq (yIf t a b) c) A EX r := W_seq (W_if h k1 k2)
/-- a test that is known not to hold, with nothing else -/
theorem S_skip {t : List Sl → R Bool} {c : List Sl → RS} (h : t r = .ok false) (k : W c A EX r) : W (ySeq (yIf t a yNext) c) A EX r := W_seq (W_if h (fun z => nomatch z) fun _ => W_next k)
theorem S_for {α : Type} {c : List Sl → RS} {s : List Sl → R (List D)} {g : D → List Sl → Option (List Sl)} {em : α → D} {xs : List α} (I : List α → List Sl → Prop) (hs : s r = .ok (xs.map em)) (h0 : I [] r)
    (hb : ∀ p x q, xs = p ++ x :: q → ∀ r, I p r → ∃ r1, g (em x) r = some r1 ∧ W b { A with nx := I (p ++ [x]), ct := I (p ++ [x]), bk := fun r => W c A EX r } EX r1) (k : ∀ r', I xs r' → W c A EX r') : W (ySeq (yFor s g b) c) A EX r :=
  W_seq (W_for I hs h0 hb k)
theorem S_while {n : Nat} {c : List Sl → RS} {t : List Sl → R Bool} (I : Nat → List Sl → Prop) (m : Nat) (hm : m < n) (h0 : I m r) (hb : ∀ m r, I m r → ∃ v, t r = .ok v ∧ (v = true → W b { A with nx := fun r2 => ∃ k, k < m ∧ I k r2, ct := fun r2 => ∃ k, k < m ∧ I k r2, bk := fun r => W c A EX r } EX r) ∧ (v = false → W c A EX r)) : W (ySeq (yWhile n t b) c) A EX r :=
  W_seq (W_while I m hm h0 hb)
/-- what a def answers -/
theorem cf_ok {N : List Str} {n : Nat} {c : List Sl → RS} {ds : List D} {v : D} (hl : ds.length = n) (h : W c { nx := fun _ => v = .non, rt := fun d => d = v } NoQ (startD N ds)) : cfOf N n c ds = .ok v := by
  unfold cfOf
  rw [if_pos hl]
  unfold W at h
  cases q : c (startD N ds) with
  | nx r => rw [q] at h; show R.ok D.non = _; rw [show v = .non from h]
  | rt d => rw [q] at h; show R.ok d = _; rw [show d = v from h]
  | bk r => rw [q] at h; exact h.elim
  | ct r => rw [q] at h; exact h.elim
  | rn d => rw [q] at h; exact h.elim
  | ex x => rw [q] at h; exact h.elim
  | no => rw [q] at h; exact h.elim
theorem cfN_ok {N : List Str} {n : Nat} {c : List Sl → RS} {ds vs : List D} (hl : ds.length = n) (h : W c { nx := fun _ => False, rt := fun _ => False, rn := fun d => d = vs } NoQ (startD N ds)) : cfN N n c ds = .ok vs := by
  unfold cfN
  rw [if_pos hl]
  unfold W at h
  cases q : c (startD N ds) with
  | nx r => rw [q] at h; exact h.elim
  | rt d => rw [q] at h; exact h.elim
  | bk r => rw [q] at h; exact h.elim
  | ct r => rw [q] at h; exact h.elim
  | rn d => rw [q] at h; show R.ok d = _; rw [show d = vs from h]
  | ex x => rw [q] at h; exact h.elim
  | no => rw [q] at h; exact h.elim
/-! ### expressions -/
theorem E_2 {c : O2} {x y d : D} (h1 : e1 r = .ok x) (h2 : e2 r = .ok y) (h : c x y = some d) : x2 c e1 e2 r = .ok d := by unfold x2; rw [h1, bind_ok, h2, bind_ok, h]; rfl
theorem E_L {f : List Sl → R (List D)} {ds : List D} (h : f r = .ok ds) : xL f r = .ok (.lst ds) := by unfold xL; rw [h]; rfl
theorem E_cons {f : List Sl → R (List D)} {d : D} {ds : List D} (h : e r = .ok d) (h2 : f r = .ok ds) : xCons e f r = .ok (d :: ds) := by unfold xCons; rw [h, bind_ok, h2]; rfl
theorem E_nil : xNil r = .ok [] := rfl
theorem E_ca {α : Type} {c : List D → Option α} {f : List Sl → R (List D)} {ds : List D} {d : α} (h : f r = .ok ds) (h2 : c ds = some d) : xCa c f r = .ok d := by unfold xCa; rw [h, bind_ok, h2]; rfl
theorem E_tup {f : List Sl → R (List D)} {ds : List D} (h : f r = .ok ds) (h2 : ds.length ≤ 16777216) : xTup f r = .ok (.tup ds) := by unfold xTup; rw [h, bind_ok, if_pos (by rw [sl_eq]; exact h2)]
theorem E_lst {f : List Sl → R (List D)} {ds : List D} (h : f r = .ok ds) (h2 : ds.length ≤ 16777216) : xLst f r = .ok ds := by unfold xLst; rw [h, bind_ok, if_pos (by rw [sl_eq]; exact h2)]
theorem E_call {c : List D → R D} {f : List Sl → R (List D)} {ds : List D} {d : D} (h : f r = .ok ds) (h2 : c ds = .ok d) : xCall c f r = .ok d := by unfold xCall; rw [h, bind_ok, frcs_eq, h2]
theorem E_callN {c : List D → R (List D)} {f : List Sl → R (List D)} {ds d : List D} (h : f r = .ok ds) (h2 : c ds = .ok d) : xCallN c f r = .ok d := by unfold xCallN; rw [h, bind_ok, frcs_eq, h2]
theorem E_addN {a b : List D} (h1 : e1 r = .ok (.lst a)) (h2 : e2 r = .ok (.lst b)) (h : a.length + b.length ≤ 16777216) : xAddN e1 e2 r = .ok (a ++ b) := by
  unfold xAddN
  rw [h1, bind_ok, h2, bind_ok]
  show (if Nat.ble (a.length + b.length) 16777216 = true then R.ok (a ++ b) else R.no) = _
  rw [if_pos (Nat.ble_eq.mpr h)]
theorem E_prop {k : Nat} {c : List D → R D} {fs : List D} {d : D} (h : e r = .ok (.obj k fs)) (h2 : c [.obj k fs] = .ok d) : xProp k c e r = .ok d := by
  unfold xProp
  rw [h, bind_ok]
  show (if k = k then _ else _) = _
  rw [if_pos rfl, h2]
  rfl
theorem E_tb {b : Bool} (h : e r = .ok (.bl b)) : xTb e r = .ok b := by unfold xTb; rw [h]; rfl
theorem E_notT {t : List Sl → R Bool} {b : Bool} (h : t r = .ok b) : xNotT t r = .ok (!b) := by unfold xNotT; rw [h]; rfl
theorem E_orT {t u : List Sl → R Bool} {b c : Bool} (h : t r = .ok b) (h2 : b = false → u r = .ok c) : xOrT t u r = .ok (b || c) := by
  unfold xOrT; rw [h, bind_ok]
  cases b with
  | true => rw [if_pos rfl]; rfl
  | false => rw [if_neg Bool.false_ne_true, h2 rfl]; rfl
theorem E_andT {t u : List Sl → R Bool} {b c : Bool} (h : t r = .ok b) (h2 : b = true → u r = .ok c) : xAndT t u r = .ok (b && c) := by
  unfold xAndT; rw [h, bind_ok]
  cases b with
  | false => rw [if_neg Bool.false_ne_true]; rfl
  | true => rw [if_pos rfl, h2 rfl]; rfl
theorem E_all {xs : List Bool} {f : List Sl → R (List D)} (h : f r = .ok (xs.map D.bl)) : xCa (blsX fun bs => .bl (bs.all id)) (xCons (xL f) xNil) r = .ok (.bl (xs.all id)) := by
  refine E_ca (E_cons (E_L h) E_nil) ?_
  show (blsOf (xs.map D.bl)).map _ = _
  rw [blsOf_map]; rfl
theorem E_fld {c k : Nat} {fs : List D} {d : D} (h : e r = .ok (.obj c fs)) (h2 : fs[k]? = some d) : xFld c k e r = .ok d := by
  unfold xFld
  rw [h, bind_ok]
  show (if c = c then R.ofO fs[k]? else R.no) = _
  rw [if_pos rfl, h2]; rfl
theorem E_meth {k : Nat} {c : List D → R D} {f : List Sl → R (List D)} {fs ds : List D} {d : D} (h : e r = .ok (.obj k fs)) (h1 : f r = .ok ds) (h2 : c (.obj k fs :: ds) = .ok d) : xMeth k c e f r = .ok d := by
  unfold xMeth
  rw [h, bind_ok]
  show (if k = k then _ else _) = _
  rw [if_pos rfl, h1, bind_ok, frcs_eq, h2]
theorem E_make {k : Nat} {c : List D → R D} {f : List Sl → R (List D)} {ds es : List D} (h1 : f r = .ok ds) (h2 : c ds = .ok (.tup es)) : xMake k c f r = .ok (.obj k es) := by
  unfold xMake
  rw [h1, bind_ok, frcs_eq, h2]; rfl
theorem E_kw {f g : List Sl → R (List D)} {ds es : List D} (h1 : f r = .ok ds) (h2 : g r = .ok es) : xKw f g r = .ok (ds, es) := by
  unfold xKw; rw [h1, bind_ok, h2]; rfl
theorem E_callK {n m : Nat} {sel : List Src} {dd : List D} {c : List D → R D} {f : List Sl → R (List D × List D)} {ds es xs : List D} {d : D} (h1 : f r = .ok (ds, es)) (hn : ds.length = n ∧ es.length = m) (hp : pick sel ds es dd = xs) (h2 : c xs = .ok d) : xCallK n m sel dd c f r = .ok d := by
  unfold xCallK
  rw [h1, bind_ok, if_pos hn, frcs_eq, hp, h2]
theorem E_makeK {k n m : Nat} {sel : List Src} {dd : List D} {c : List D → R D} {f : List Sl → R (List D × List D)} {ds es xs gs : List D} (h1 : f r = .ok (ds, es)) (hn : ds.length + 1 = n ∧ es.length = m) (hp : pick sel ds es dd = xs) (h2 : c xs = .ok (.tup gs)) : xMakeK k n m sel dd c f r = .ok (.obj k gs) := by
  unfold xMakeK
  rw [h1, bind_ok, if_pos hn, frcs_eq, hp, h2]; rfl
theorem inOX_ok {c : Nat} {m : List D → R D} {neg : Bool} {fs : List D} {x : D} {b : Bool} (hx : noOwn x = true) (h : m [.obj c fs, x] = .ok (.bl b)) : inOX c m neg x (.obj c fs) = some (.bl (neg != b)) := by
  unfold inOX
  dsimp only
  rw [if_pos ⟨rfl, hx⟩, h]
theorem E_isi {tbl : Tag → Option Bool} {d : D} {t : Tag} {b : Bool} (h : e r = .ok d) (h1 : tagD d = some t) (h2 : tbl t = some b) : isiX tbl e r = .ok (.bl b) := by
  unfold isiX; rw [h, bind_ok]
  show (match tagD d with
    | some t => (match tbl t with
      | some b => R.ok (D.bl b)
      | none => .no)
    | none => .no) = _
  rw [h1]
  show (match tbl t with
      | some b => R.ok (D.bl b)
      | none => .no) = _
  rw [h2]
theorem E_and {a b : Bool} (h1 : e1 r = .ok (.bl a)) (h2 : a = true → e2 r = .ok (.bl b)) : xAnd e1 e2 r = .ok (.bl (a && b)) := by
  unfold xAnd; rw [h1, bind_ok]
  cases a with
  | false => rfl
  | true => exact h2 rfl
theorem E_not {a : Bool} (h1 : e1 r = .ok (.bl a)) : xNot e1 r = .ok (.bl (!a)) := by
  unfold xNot; rw [h1]; rfl
theorem E_if {t : List Sl → R Bool} {v : Bool} {d : D} (h : t r = .ok v) (h1 : v = true → e1 r = .ok d) (h2 : v = false → e2 r = .ok d) : xIf t e1 e2 r = .ok d := by
  unfold xIf; rw [h, bind_ok]
  cases v with
  | true => rw [if_pos rfl]; exact h1 rfl
  | false => rw [if_neg Bool.false_ne_true]; exact h2 rfl
/-- what an __init__ makes -/
theorem cfI_ok {N : List Str} {n m c : Nat} {cc : List Sl → RS} {ds vs : List D} (hl : ds.length = n) (h : W cc { nx := fun r => ∃ y t, r = .slf y c vs :: t ∧ vs.length = m, rt := fun _ => False } NoQ (startI N 0 c ds)) : cfI N n m c cc ds = .ok (.tup vs) := by
  unfold cfI
  rw [if_pos hl]
  rw [W_def] at h
  cases q : cc (startI N 0 c ds) with
  | nx r =>
    rw [q] at h
    obtain ⟨y, t, e1, e2⟩ := h
    subst e1
    show (if c = c ∧ vs.length = m then R.ok (D.tup vs) else R.no) = _
    rw [if_pos ⟨rfl, e2⟩]
  | rt d => rw [q] at h; exact h.elim
  | bk r => rw [q] at h; exact h.elim
  | ct r => rw [q] at h; exact h.elim
  | rn d => rw [q] at h; exact h.elim
  | ex x => rw [q] at h; exact h.elim
  | no => rw [q] at h; exact h.elim
theorem W_fldI {c : Nat} {fl : List Str} {f : Str} {x : Addr} {ds : List D} {d : D} (h : e r = .ok d) (h1 : r[i]? = some (.slf x c ds)) (h2 : fl[ds.length]? = some f) (k : A.nx (r.set i (.slf x c (ds ++ [d])))) : W (yFldI i c fl f e) A EX r := by
  rw [W_def]
  unfold yFldI
  rw [h, st_ok, h1]
  show RS.w (if c = c ∧ fl[ds.length]? = some f then _ else _) A EX
  rw [if_pos ⟨rfl, h2⟩]
  exact k
end
/-! ### a drawing def's statement that draws nothing -/
def jk : Option D → Sl
  | none => .un
  | some d => .val d
def jo : Option (List D) → Sl
  | none => .un
  | some d => .own d
theorem adr_jo {x : Addr} {a : Option (List D)} : adr x (jo a) = jo a := by cases a <;> rfl
theorem adr_jk {x : Addr} {a : Option D} : adr x (jk a) = jk a := by cases a <;> rfl
theorem adr_val {x : Addr} {d : D} : adr x (.val d) = .val d := rfl
theorem adr_un {x : Addr} : adr x .un = .un := rfl
theorem adr_own {x : Addr} {d : List D} : adr x (.own d) = .own d := rfl
theorem CS.goW {F : FS} {c : List Sl → RS} (h : CS F c) {r : List Sl} (hr : r.map (adr 0) = r) {A : DE} {EX : XP} {σ : Sg} (hw : W c { nx := fun r1 => r1.map (adr 0) = r1 ∧ A.nx r1 σ, rt := fun d => A.rt d σ, bk := fun r1 => r1.map (adr 0) = r1 ∧ A.bk r1 σ, ct := fun r1 => r1.map (adr 0) = r1 ∧ A.ct r1 σ, rn := fun ds => A.rn ds σ } (XP.at_ EX σ) r) : F A EX r σ := by
  refine h (x := 0) r r A EX σ hr.symm ?_
  rw [W_def] at hw
  cases q : c r with
  | nx r1 =>
    rw [q] at hw
    intro s hs
    rw [show s = r1.map (adr 0) from hs, hw.1]
    exact hw.2
  | bk r1 =>
    rw [q] at hw
    intro s hs
    rw [show s = r1.map (adr 0) from hs, hw.1]
    exact hw.2
  | ct r1 =>
    rw [q] at hw
    intro s hs
    rw [show s = r1.map (adr 0) from hs, hw.1]
    exact hw.2
  | rt d => rw [q] at hw; exact hw
  | rn d => rw [q] at hw; exact hw
  | ex x => rw [q] at hw; exact hw
  | no => rw [q] at hw; exact hw
/-- a test that draws nothing -/
theorem CF.go {α : Type} {F : List Sl → (α → Pr) → XP → Pr} {c : List Sl → R α} (h : CF F c) {r : List Sl} (hr : r.map (adr 0) = r) {d : α} (e : c r = .ok d) {Q : α → Pr} {EX : XP} {σ : Sg} (q : Q d σ) : F r Q EX σ := h (x := 0) r r Q EX σ hr.symm (by rw [e]; exact q)
end DL
/-! Boards, rankings as data; what is shown of texts. -/
namespace DL
open PySem L2 PyProof.Rows TP
def standsOf (z : Int) : Tx := if z = 2 then [48, 49] else [48, 49, 50]
def full (s : List Int) : List Tx := s.map standsOf
def bd (s : List Int) : D := .obj 1 [.tup [.tup (s.map D.int), .tup (sts (sets (full s)))]]
theorem lit_empty : Str.ofString "" = sx [] := by decide +kernel
theorem lit012 : Str.ofString "012" = sx [48, 49, 50] := by decide +kernel
structure OkS (s : List Int) : Prop where
  len : s.length ≤ 5
  two : ∀ z ∈ s, z = 2 ∨ z = 3
  ne : s ≠ []
theorem standsOf_len {z : Int} : (standsOf z).length ≤ 3 := by unfold standsOf; split <;> decide
theorem OkS.small {s : List Int} (h : OkS s) : Small (full s) where
  len := by unfold full; rw [List.length_map]; exact h.len
  three := fun x hx => by
    obtain ⟨z, _, rfl⟩ := List.mem_map.mp hx
    exact standsOf_len
theorem full_len {s : List Int} : (full s).length = s.length := List.length_map _
theorem full_at {s : List Int} {k : Nat} (h : k < s.length) : (full s).getD k [] = standsOf (s[k]) := by
  unfold full
  rw [List.getD_eq_getElem?_getD, List.getElem?_map, List.getElem?_eq_getElem h]; rfl
theorem full_asc {s : List Int} : ∀ p ∈ full s, p.Pairwise (· < ·) := fun x hx => by
  obtain ⟨z, _, rfl⟩ := List.mem_map.mp hx
  unfold standsOf
  split <;> decide
theorem full_digit {s : List Int} {t : Tx} (h : fits t (full s)) : ∀ c ∈ t, c < 100 := fun c hc => by
  obtain ⟨k, hk, rfl⟩ := List.mem_iff_getElem.mp hc
  have hl := h.len
  have := h.at (k := k) (by omega)
  have e : t.getD k 0 = t[k] := by rw [List.getD_eq_getElem?_getD, List.getElem?_eq_getElem hk]; rfl
  rw [e, full_at (by rw [← full_len (s := s)]; omega)] at this
  unfold standsOf at this
  split at this <;> simp at this <;> omega
/-! ### what is shown -/
structure Plain (l : Tx) : Prop where
  len : l.length ≤ 5
  lt : ∀ c ∈ l, c < 100
/-! ### what may be compared -/
mutual
def okq : Nat → D → Bool
  | _, .non => true
  | _, .bl _ => true
  | _, .int _ => true
  | _, .str s => PyData.strOk s
  | n + 1, .tup ds => okqs n ds
  | n + 1, .lst ds => okqs n ds
  | _, _ => false
def okqs : Nat → List D → Bool
  | _, [] => true
  | n, d :: ds => okq n d && okqs n ds
end
mutual
theorem okq_ok : ∀ (n : Nat) (d : D), okq n d = true → plain d = true ∧ (pd d).canLay0 = true ∧ (pd d).depth ≤ n
  | _, .non, _ => ⟨rfl, rfl, Nat.zero_le _⟩
  | _, .bl _, _ => ⟨rfl, rfl, Nat.zero_le _⟩
  | _, .int _, _ => ⟨rfl, rfl, Nat.zero_le _⟩
  | n, .str s, h => ⟨rfl, by cases n <;> exact h, Nat.zero_le _⟩
  | 0, .tup _, h => by unfold okq at h; cases h
  | 0, .lst _, h => by unfold okq at h; cases h
  | n + 1, .tup ds, h => by
    unfold okq at h
    have := okqs_ok n ds h
    exact ⟨by unfold plain; exact this.1, by simp only [pd, PyData.canLay0]; exact this.2.1, by simp only [pd, PyData.depth]; exact Nat.succ_le_succ this.2.2⟩
  | n + 1, .lst ds, h => by
    unfold okq at h
    have := okqs_ok n ds h
    exact ⟨by unfold plain; exact this.1, by simp only [pd, PyData.canLay0]; exact this.2.1, by simp only [pd, PyData.depth]; exact Nat.succ_le_succ this.2.2⟩
  | _, .dic _ _, h => by unfold okq at h; cases h
  | _, .obj _ _, h => by unfold okq at h; cases h
  | _, .exc _ _, h => by unfold okq at h; cases h
  | _, .jar, h => by unfold okq at h; cases h
  | _, .cel _, h => by unfold okq at h; cases h
theorem okqs_ok : ∀ (n : Nat) (ds : List D), okqs n ds = true → plains ds = true ∧ PyData.canLayAll0 (pds ds) = true ∧ PyData.depthAll (pds ds) ≤ n
  | _, [], _ => ⟨rfl, rfl, Nat.zero_le _⟩
  | n, d :: ds, h => by
    unfold okqs at h
    rw [Bool.and_eq_true] at h
    have a := okq_ok n d h.1
    have b := okqs_ok n ds h.2
    exact ⟨by unfold plains; rw [a.1, b.1]; rfl, by simp only [pds, PyData.canLayAll0]; rw [a.2.1, b.2.1]; rfl, by simp only [pds, PyData.depthAll]; exact Nat.max_le.mpr ⟨a.2.2, b.2.2⟩⟩
end
theorem shp_of {d : D} (h : okq 60 d = true) : shpB d = true := by
  have z := okq_ok 60 d h
  unfold shpB
  rw [Bool.and_eq_true]
  refine ⟨z.1, ?_⟩
  unfold SeqAt.shaped
  rw [Bool.and_eq_true]
  exact ⟨z.2.1, decide_eq_true (Nat.le_trans z.2.2 (by decide))⟩
theorem okqs_map {α : Type} {f : α → D} {n : Nat} : ∀ {xs : List α}, (∀ x ∈ xs, okq n (f x) = true) → okqs n (xs.map f) = true
  | [], _ => by simp [okqs]
  | x :: xs, h => by
    rw [List.map_cons]
    unfold okqs
    rw [h x List.mem_cons_self, okqs_map fun y hy => h y (List.mem_cons_of_mem _ hy)]; rfl
theorem okq_st {n : Nat} {x : Tx} (h : Plain x) : okq n (st x) = true := by
  have e : okq n (st x) = (sx x).cps.all (· < 0x110000) := by cases n <;> rfl
  rw [e, ← Array.all_toList, List.all_eq_true]
  exact fun c hc => decide_eq_true (Nat.lt_trans (h.lt c hc) (by decide))
theorem okqs_sts {n : Nat} {xs : List Tx} (h : ∀ x ∈ xs, Plain x) : okqs n (sts xs) = true := okqs_map fun x hx => okq_st (h x hx)
theorem okq_lst {n : Nat} {ds : List D} (h : okqs n ds = true) : okq (n + 1) (.lst ds) = true := by unfold okq; exact h
theorem okq_tup {n : Nat} {ds : List D} (h : okqs n ds = true) : okq (n + 1) (.tup ds) = true := by unfold okq; exact h
theorem shp_lst {xs : List Tx} (h : ∀ x ∈ xs, Plain x) : shpB (.lst (sts xs)) = true := shp_of (okq_lst (okqs_sts h))
theorem shp_tup {xs : List Tx} (h : ∀ x ∈ xs, Plain x) : shpB (.tup (sts xs)) = true := shp_of (okq_tup (okqs_sts h))
theorem shp_st {x : Tx} (h : Plain x) : shpB (st x) = true := shp_of (okq_st h)
theorem eqvAll_sts : ∀ {a b : List Tx}, PyData.eqvAll (pds (sts a)) (pds (sts b)) = decide (a = b)
  | [], [] => by simp [sts, pds, PyData.eqvAll]
  | [], y :: b => by simp [sts, pds, PyData.eqvAll]
  | x :: a, [] => by simp [sts, pds, PyData.eqvAll]
  | x :: a, y :: b => by
    have ih := eqvAll_sts (a := a) (b := b)
    rw [sts_cons, sts_cons]
    unfold pds PyData.eqvAll
    rw [ih]
    have e : PyData.eqv (pd (st x)) (pd (st y)) = decide (x = y) := eqb_st
    rw [e, Bool.eq_iff_iff]
    simp
theorem eqb_lst {a b : List Tx} : eqb (.lst (sts a)) (.lst (sts b)) = decide (a = b) := by
  unfold eqb pd PyData.eqv
  exact eqvAll_sts
theorem eqb_tup {a b : List Tx} : eqb (.tup (sts a)) (.tup (sts b)) = decide (a = b) := by
  unfold eqb pd PyData.eqv
  exact eqvAll_sts
theorem inX_lst {neg : Bool} {s : Tx} {xs : List Tx} (hs : Plain s) (h : ∀ x ∈ xs, Plain x) : inX neg (st s) (.lst (sts xs)) = some (.bl (neg != decide (s ∈ xs))) := by
  show gd ((shpB (st s) && shpB (.lst (sts xs))) = true) (.bl (neg != (sts xs).any fun z => eqb z (st s))) = _
  rw [gd_pos (by rw [shp_lst h, shp_st hs]; rfl), any_eqb]
theorem plain_of {s : List Int} (h : OkS s) {t : Tx} (ht : fits t (full s)) : Plain t := ⟨ht.len5 h.small, full_digit ht⟩
theorem plain_sets {s : List Int} (h : OkS s) : ∀ t ∈ sets (full s), Plain t := fun t ht => plain_of h (mem_sets.mp ht)
/-! ### drawn boards -/
def lists : Nat → List (List Int)
  | 0 => [[]]
  | n + 1 => [] :: (lists n).flatMap fun s => [2 :: s, 3 :: s]
def prodI : List Int → Int
  | [] => 1
  | z :: s => z * prodI s
def spansOf (m : Int) : List (List Int) := (lists 5).filter fun s => !s.isEmpty && decide (prodI s ≤ m)
theorem lists_mem : ∀ (n : Nat) (s : List Int), s ∈ lists n → s.length ≤ n ∧ ∀ z ∈ s, z = 2 ∨ z = 3
  | 0, s, h => by
    rw [List.mem_singleton.mp h]
    exact ⟨Nat.le_refl _, fun z hz => by cases hz⟩
  | n + 1, s, h => by
    rcases List.mem_cons.mp h with h | h
    · rw [h]
      exact ⟨Nat.zero_le _, fun z hz => by cases hz⟩
    · obtain ⟨t, ht, h⟩ := List.mem_flatMap.mp h
      obtain ⟨h1, h2⟩ := lists_mem n t ht
      rcases List.mem_cons.mp h with h | h
      · subst h
        exact ⟨Nat.succ_le_succ h1, fun z hz => (List.mem_cons.mp hz).elim (fun e => .inl e) (h2 z)⟩
      · rw [List.mem_singleton] at h
        subst h
        exact ⟨Nat.succ_le_succ h1, fun z hz => (List.mem_cons.mp hz).elim (fun e => .inr e) (h2 z)⟩
theorem okS_of {m : Int} {s : List Int} (h : s ∈ spansOf m) : OkS s := by
  obtain ⟨h1, h2⟩ := List.mem_filter.mp h
  obtain ⟨h3, h4⟩ := lists_mem 5 s h1
  rw [Bool.and_eq_true] at h2
  exact ⟨h3, h4, fun e => by rw [e] at h2; exact absurd h2.1 (by decide)⟩
theorem prod_full : ∀ {s : List Int}, (∀ z ∈ s, z = 2 ∨ z = 3) → (((full s).map List.length).prod : Int) = prodI s
  | [], _ => rfl
  | z :: s, h => by
    have ih := prod_full (s := s) fun y hy => h y (List.mem_cons_of_mem _ hy)
    show ((((standsOf z).length * ((full s).map List.length).prod : Nat)) : Int) = z * prodI s
    rw [Int.natCast_mul, ih]
    congr 1
    rcases h z List.mem_cons_self with e | e <;> subst e <;> rfl
theorem sets_le {m : Nat} {s : List Int} (h : s ∈ spansOf m) : (sets (full s)).length ≤ m := by
  have ok := okS_of h
  obtain ⟨h1, h2⟩ := List.mem_filter.mp h
  rw [Bool.and_eq_true] at h2
  have h3 := of_decide_eq_true h2.2
  rw [← prod_full ok.two] at h3
  rw [len_sets]
  exact Int.ofNat_le.mp h3
/-! ### parts -/
structure IsPart (s : List Int) (rs : List Tx) : Prop where
  len : rs.length = s.length
  ne : ∀ k, k < s.length → rs.getD k [] ≠ []
  asc : ∀ k, k < s.length → (rs.getD k []).Pairwise (· < ·)
  sub : ∀ k, k < s.length → ∀ c ∈ rs.getD k [], c ∈ (full s).getD k []
theorem IsPart.fits {s : List Int} {rs : List Tx} (h : IsPart s rs) {t : Tx} (ht : TP.fits t rs) : TP.fits t (full s) := by
  refine fits_of (by rw [ht.len, h.len, full_len]) fun k hk => ?_
  rw [full_len] at hk
  exact h.sub k hk _ (ht.at (by rw [h.len]; exact hk))
theorem full_three {s : List Int} {k : Nat} : ∀ {c : Nat}, c ∈ (full s).getD k [] → c = 48 ∨ c = 49 ∨ c = 50 := fun {c} h => by
  by_cases hk : k < s.length
  · rw [full_at hk] at h
    unfold standsOf at h
    split at h <;> simp at h <;> omega
  · rw [List.getD_eq_getElem?_getD, List.getElem?_eq_none (by rw [full_len]; omega)] at h
    cases h
theorem asc_three {l : Tx} (h : l.Pairwise (· < ·)) (k : ∀ c ∈ l, c = 48 ∨ c = 49 ∨ c = 50) : l.length ≤ 3 := by
  match l, h, k with
  | [], _, _ => exact Nat.zero_le _
  | [_], _, _ => exact (by decide : 1 ≤ 3)
  | [_, _], _, _ => exact (by decide : 2 ≤ 3)
  | [_, _, _], _, _ => exact (by decide : 3 ≤ 3)
  | a :: b :: c :: d :: t, h, k =>
    have k1 := k a (by simp)
    have k2 := k d (by simp)
    have h1 := List.pairwise_cons.mp h
    have h2 := List.pairwise_cons.mp h1.2
    have h3 := List.pairwise_cons.mp h2.2
    have q1 := h1.1 b (by simp)
    have q2 := h2.1 c (by simp)
    have q3 := h3.1 d (by simp)
    omega
theorem IsPart.small {s : List Int} {rs : List Tx} (h : IsPart s rs) (hs : OkS s) : Small rs where
  len := by rw [h.len]; exact hs.len
  three := fun x hx => by
    obtain ⟨k, hk, rfl⟩ := List.mem_iff_getElem.mp hx
    have hk' : k < s.length := by rw [← h.len]; exact hk
    have e : rs.getD k [] = rs[k] := by rw [List.getD_eq_getElem?_getD, List.getElem?_eq_getElem hk]; rfl
    have a := h.asc k hk'
    have b := h.sub k hk'
    rw [e] at a b
    exact asc_three a fun c hc => full_three (b c hc)
theorem isPart_full {s : List Int} : IsPart s (full s) where
  len := full_len
  ne := fun k hk => by
    rw [full_at hk]
    unfold standsOf
    split <;> simp
  asc := fun k hk => full_asc _ (by
    rw [List.getD_eq_getElem?_getD, List.getElem?_eq_getElem (by rw [full_len]; exact hk)]
    exact List.getElem_mem _)
  sub := fun _ _ _ h => h
theorem ixX_last {o : List Tx} {t : Tx} {l : List Tx} (h : o = l ++ [t]) : ixX (.tup (sts o)) (.int (-1)) = some (st t) := by
  subst h
  show (if 0 < (sts (l ++ [t])).length then (sts (l ++ [t]))[(sts (l ++ [t])).length - 1 - 0]? else none) = _
  rw [sts_len, List.length_append, if_pos (by simp)]
  unfold sts
  rw [List.getElem?_map]
  simp
end DL
/-! Plain law, part 2: helping and climbing. -/
namespace TP
open DL
def bestI (o l : List Tx) : Int := maxI (l.map fun x => (idx o x : Int))
def up (w o : List Tx) (x : Tx) : Option Tx := if (idx o x : Int) < bestI o (beside w x) then some (o.getD (bestI o (beside w x)).toNat []) else none
/-- every place of the whole has a neighbour -/
structure Rich (w o : List Tx) : Prop where
  mem : ∀ t, fits t w → t ∈ o
  nb : ∀ t, fits t w → beside w t ≠ []
end TP
/-! Squares: as data, sorted, of a board; kinds. -/
namespace TP
open DL
def far (n : Nat) (lo hi : Tx) : List Nat := (List.range n).filter fun k => decide (lo.getD k 0 < hi.getD k 0)
def back (n : Nat) (lo hi : Tx) : Bool := (List.range n).any fun k => decide (hi.getD k 0 < lo.getD k 0)
end TP
/-! Squares as data; kinds. -/
namespace DL
open PySem L2 PyProof.Rows TP
def tps (qs : List (List Tx)) : List D := qs.map fun q => .tup (sts q)
theorem tps_app {a b : List (List Tx)} : tps (a ++ b) = tps a ++ tps b := List.map_append
theorem tps_len {a : List (List Tx)} : (tps a).length = a.length := List.length_map _
theorem okqs_tps {k : Nat} {qs : List (List Tx)} (h : ∀ q ∈ qs, ∀ t ∈ q, Plain t) : okqs (k + 1) (tps qs) = true := okqs_map fun q hq => okq_tup (okqs_sts (h q hq))
theorem eqvAll_tps : ∀ {a b : List (List Tx)}, PyData.eqvAll (pds (tps a)) (pds (tps b)) = decide (a = b)
  | [], [] => by simp [tps, pds, PyData.eqvAll]
  | [], y :: b => by simp [tps, pds, PyData.eqvAll]
  | x :: a, [] => by simp [tps, pds, PyData.eqvAll]
  | x :: a, y :: b => by
    have ih := eqvAll_tps (a := a) (b := b)
    show (PyData.eqv (pd (.tup (sts x))) (pd (.tup (sts y))) && PyData.eqvAll (pds (tps a)) (pds (tps b))) = _
    have e : PyData.eqv (pd (.tup (sts x))) (pd (.tup (sts y))) = decide (x = y) := eqb_tup
    rw [ih, e, Bool.eq_iff_iff]
    simp
/-! ### kinds -/
def kd : Nat → D
  | 0 => .str "crossed"
  | 1 => .str "plain"
  | _ => .str "turned"
theorem pre_len {α : Type} {l p q : List α} {x : α} (h : l = p ++ x :: q) : p.length ≤ l.length := by rw [h, List.length_append]; omega
theorem range_pre {n k : Nat} {p q : List Nat} (h : List.range n = p ++ k :: q) : k < n := by
  have : k ∈ List.range n := by rw [h]; simp
  simpa using this
theorem turned_at {x : Tx} {k j c : Nat} (h : k < x.length) : (turned x k [c]).getD j 0 = if j = k then c else x.getD j 0 := by rw [turned_eq_set h, set_getD h]
end DL
/-! Rising rows: how many, which is the shortest (plain Lean). -/
namespace TP
open DL
/-! ### what lies beside, once each -/
theorem beside_nodup {w : List Tx} {x : Tx} (hw : ∀ p ∈ w, p.Pairwise (· < ·)) (hx : x.length = w.length) : (beside w x).Nodup := by
  unfold beside
  rw [isort_perm.nodup_iff]
  unfold besideRaw
  unfold List.Nodup
  rw [List.pairwise_flatMap]
  refine ⟨fun k hk => ?_, ?_⟩
  · have hk' : k < w.length := by simpa using hk
    unfold side
    rw [List.pairwise_map]
    refine ((hw (w.getD k []) ?_).filter _).imp fun {a b} h e => ?_
    · rw [List.getD_eq_getElem?_getD, List.getElem?_eq_getElem hk']; exact List.getElem_mem hk'
    · have h1 : List.getD _ k 0 = List.getD _ k 0 := congrArg (fun t : Tx => t.getD k 0) e
      rw [turned_at (by omega), turned_at (by omega), if_pos rfl, if_pos rfl] at h1
      omega
  · refine List.Pairwise.imp_of_mem ?_ List.nodup_range
    intro k j hk hj hkj a ha b hb e
    have hk' : k < w.length := by simpa using hk
    have hj' : j < w.length := by simpa using hj
    obtain ⟨c, hc, rfl⟩ := List.mem_map.mp ha
    obtain ⟨d, hd, rfl⟩ := List.mem_map.mp hb
    have hne : c ≠ x.getD k 0 := by simpa using (List.mem_filter.mp hc).2
    have h1 : List.getD _ k 0 = List.getD _ k 0 := congrArg (fun t : Tx => t.getD k 0) e
    rw [turned_at (by omega), turned_at (by omega), if_pos rfl, if_neg hkj] at h1
    exact hne h1
theorem near_eq {w : List Tx} {x : Tx} (hw : ∀ p ∈ w, p.Pairwise (· < ·)) (hx : fits x w) : near w x = beside w x := by
  refine asc_eq ?_ (sd_asc (isort_sd ordN) (beside_nodup hw hx.len)) fun e => ?_
  · exact (asc_sets hw).filter _
  · rw [mem_near, mem_beside_fits hx]
/-! ### rows -/
def endOf (r : List Tx) : Tx := r.getD (r.length - 1) []
theorem endOf_one {b : Tx} : endOf [b] = b := rfl
theorem endOf_snoc {r : List Tx} {e : Tx} : endOf (r ++ [e]) = e := by
  unfold endOf
  rw [List.length_append, List.length_singleton, Nat.add_sub_cancel, List.getD_eq_getElem?_getD, List.getElem?_append_right (Nat.le_refl _), Nat.sub_self]
  rfl
inductive Pth (nx : Tx → List Tx) (b : Tx) : List Tx → Prop
  | one : Pth nx b [b]
  | snoc {r : List Tx} {e : Tx} : Pth nx b r → e ∈ nx (endOf r) → Pth nx b (r ++ [e])
theorem Pth.ne {nx : Tx → List Tx} {b : Tx} {r : List Tx} (h : Pth nx b r) : r ≠ [] := by
  cases h <;> simp
def grw (nx : Tx → List Tx) (r : List Tx) : List (List Tx) := (nx (endOf r)).map fun e => r ++ [e]
def stp (nx : Tx → List Tx) (L : List (List Tx)) : List (List Tx) := L.flatMap (grw nx)
def allF (nx : Tx → List Tx) (g : Tx) : Nat → List (List Tx) → List (List Tx)
  | 0, _ => []
  | m + 1, L => L.filter (fun r => decide (endOf r = g)) ++ allF nx g m (stp nx L)
/-! ### upwards -/
def ups (w o : List Tx) (x : Tx) : List Tx := (beside w x).filter fun e => decide (idx o x < idx o e)
def upTo (w o : List Tx) (g x : Tx) : List Tx := (ups w o x).filter fun e => decide (idx o e ≤ idx o g)
structure Line (w o : List Tx) : Prop where
  asc : ∀ p ∈ w, p.Pairwise (· < ·)
  mem : ∀ t, fits t w ↔ t ∈ o
  nd : o.Nodup
section
variable {w o : List Tx} {g b : Tx}
theorem Line.ups (h : Line w o) {x e : Tx} (hx : x ∈ o) (he : e ∈ ups w o x) : e ∈ o ∧ idx o x < idx o e := by
  obtain ⟨h1, h2⟩ := List.mem_filter.mp he
  exact ⟨(h.mem e).mp ((mem_beside_fits ((h.mem x).mpr hx)).mp h1).1, by simpa using h2⟩
theorem mem_upTo {x e : Tx} : e ∈ upTo w o g x ↔ e ∈ TP.ups w o x ∧ idx o e ≤ idx o g := by
  unfold upTo
  rw [List.mem_filter]
  simp
theorem Line.pth (h : Line w o) {r : List Tx} (hb : b ∈ o) (hr : Pth (TP.ups w o) b r) : endOf r ∈ o ∧ r.length ≤ idx o (endOf r) + 1 ∧ ∀ x ∈ r, x ∈ o := by
  induction hr with
  | one => exact ⟨hb, by simp, fun x hx => by rw [List.mem_singleton.mp hx]; exact hb⟩
  | snoc h1 h2 ih =>
    obtain ⟨i1, i2, i3⟩ := ih
    obtain ⟨j1, j2⟩ := h.ups i1 h2
    rw [endOf_snoc]
    refine ⟨j1, by rw [List.length_append, List.length_singleton]; omega, fun x hx => ?_⟩
    rcases List.mem_append.mp hx with hx | hx
    · exact i3 x hx
    · rw [List.mem_singleton.mp hx]; exact j1
/-- all rows from b to g -/
def rowsOf (w o : List Tx) (b g : Tx) : List (List Tx) := allF (upTo w o g) g o.length [[b]]
/-! ### how many -/
def cnt (nx : Tx → List Tx) (g : Tx) : Nat → Tx → Nat
  | 0, _ => 0
  | n + 1, v => (if v = g then 1 else 0) + ((nx v).map (cnt nx g n)).sum
theorem sum_flat {α β : Type} {f : α → List β} {k : β → Nat} : ∀ {l : List α}, ((l.flatMap f).map k).sum = (l.map fun a => ((f a).map k).sum).sum
  | [] => rfl
  | a :: l => by simp [sum_flat (l := l)]
theorem sum_add {α : Type} {f h : α → Nat} : ∀ {l : List α}, (l.map fun a => f a + h a).sum = (l.map f).sum + (l.map h).sum
  | [] => rfl
  | a :: l => by simp only [List.map_cons, List.sum_cons, sum_add (l := l)]; omega
theorem sum_ite {α : Type} {p : α → Bool} : ∀ {l : List α}, (l.map fun a => if p a = true then 1 else 0).sum = (l.filter p).length
  | [] => rfl
  | a :: l => by
    rw [List.map_cons, List.sum_cons, sum_ite (l := l), List.filter_cons]
    split <;> simp <;> omega
theorem len_allF {nx : Tx → List Tx} : ∀ {m : Nat} {L : List (List Tx)}, (allF nx g m L).length = (L.map fun r => cnt nx g m (endOf r)).sum
  | 0, L => by
    have : ∀ L : List (List Tx), (L.map fun r => cnt nx g 0 (endOf r)).sum = 0 := fun L => by
      induction L with
      | nil => rfl
      | cons r L ih => rw [List.map_cons, List.sum_cons, ih]; rfl
    rw [this]; rfl
  | m + 1, L => by
    unfold allF
    rw [List.length_append, len_allF (m := m), ← sum_ite, stp, sum_flat, ← sum_add]
    congr 1
    refine List.map_congr_left fun r _ => ?_
    unfold grw
    rw [List.map_map]
    show _ = (if endOf r = g then 1 else 0) + _
    congr 1
    · simp
    · congr 1
      refine List.map_congr_left fun e _ => ?_
      show cnt nx g m (endOf (r ++ [e])) = _
      rw [endOf_snoc]
def rise (w o : List Tx) (g : Tx) : Nat → Tx → Nat
  | 0, _ => 0
  | n + 1, v => if v = g then 1 else ((TP.ups w o v).map (rise w o g n)).sum
theorem sum_zero {α : Type} {f : α → Nat} : ∀ {l : List α}, (∀ a ∈ l, f a = 0) → (l.map f).sum = 0
  | [], _ => rfl
  | a :: l, h => by rw [List.map_cons, List.sum_cons, h a List.mem_cons_self, sum_zero fun x hx => h x (List.mem_cons_of_mem _ hx)]
theorem sum_filter {α : Type} {f k : α → Nat} {p : α → Bool} : ∀ {l : List α}, (∀ a ∈ l, p a = true → f a = k a) → (∀ a ∈ l, p a = false → k a = 0) → ((l.filter p).map f).sum = (l.map k).sum
  | [], _, _ => rfl
  | a :: l, h1, h2 => by
    have ih := sum_filter (l := l) (fun x hx => h1 x (List.mem_cons_of_mem _ hx)) (fun x hx => h2 x (List.mem_cons_of_mem _ hx))
    rw [List.filter_cons, List.map_cons, List.sum_cons]
    cases q : p a with
    | true => rw [if_pos rfl, List.map_cons, List.sum_cons, ih, h1 a List.mem_cons_self q]
    | false => rw [if_neg Bool.false_ne_true, ih, h2 a List.mem_cons_self q, Nat.zero_add]
theorem Line.rise_past (h : Line w o) : ∀ (n : Nat) {v : Tx}, v ∈ o → idx o g < idx o v → rise w o g n v = 0
  | 0, v, _, _ => rfl
  | n + 1, v, hv, hl => by
    rw [rise, if_neg (fun e => by rw [e] at hl; omega)]
    refine sum_zero fun e he => ?_
    obtain ⟨h1, h2⟩ := h.ups hv he
    exact h.rise_past n h1 (by omega)
theorem Line.cnt_rise (h : Line w o) (hg : g ∈ o) : ∀ (n : Nat) {v : Tx}, v ∈ o → cnt (upTo w o g) g n v = rise w o g n v
  | 0, v, _ => rfl
  | n + 1, v, hv => by
    rw [cnt, rise]
    by_cases e : v = g
    · subst e
      rw [if_pos rfl, if_pos rfl, show upTo w o v v = [] from ?_]
      · rfl
      · refine List.eq_nil_iff_forall_not_mem.mpr fun x hx => ?_
        obtain ⟨h1, h2⟩ := mem_upTo.mp hx
        have := (h.ups hv h1).2
        omega
    · rw [if_neg e, if_neg e, Nat.zero_add]
      unfold upTo
      refine sum_filter (fun x hx _ => h.cnt_rise hg n (h.ups hv hx).1) fun x hx hp => h.rise_past n (h.ups hv hx).1 ?_
      have : ¬ idx o x ≤ idx o g := by simpa using hp
      omega
theorem Line.many (h : Line w o) (hg : g ∈ o) (hb : b ∈ o) : (rowsOf w o b g).length = rise w o g o.length b := by
  unfold rowsOf
  rw [len_allF, List.map_cons, List.sum_cons, endOf_one, h.cnt_rise hg _ hb]
  rfl
end
end TP
/-! Own dicts with settings as keys; rows as data. -/
namespace DL
open PySem L2 PyProof.Rows TP
def kx (l : List Tx) : List Key := l.map fun t => .inr (sx t)
theorem kx_len {l : List Tx} : (kx l).length = l.length := List.length_map _
theorem any_kx {t : Tx} : ∀ {l : List Tx}, ((kx l).any fun x => decide (x = (.inr (sx t) : Key))) = decide (t ∈ l)
  | [] => rfl
  | y :: l => by
    have ih := any_kx (t := t) (l := l)
    show (decide ((Sum.inr (sx y) : Key) = .inr (sx t)) || (kx l).any _) = _
    rw [ih, Bool.eq_iff_iff, Bool.or_eq_true, decide_eq_true_iff, decide_eq_true_iff, decide_eq_true_iff, List.mem_cons]
    refine ⟨fun h => h.imp (fun e => (sx_inj (Sum.inr.inj e)).symm) id, fun h => h.imp (fun e => by rw [e]) id⟩
theorem putKs_new {l : List Tx} {t : Tx} (h : t ∉ l) : putKs (kx l) (.inr (sx t)) = kx (l ++ [t]) := by
  unfold putKs
  rw [any_kx, decide_eq_false h, if_neg Bool.false_ne_true]
  unfold kx
  rw [List.map_append]; rfl
theorem putA_new {α : Type} {l : List Tx} {t : Tx} {ds : List α} {d : α} (h : t ∉ l) : putA (kx l) ds (.inr (sx t)) d = ds ++ [d] := by
  unfold putA
  rw [any_kx, decide_eq_false h, if_neg Bool.false_ne_true]
theorem ixX_dic {l : List Tx} {f : Tx → D} {t : Tx} (h : t ∈ l) : ixX (.dic (kx l) (l.map f)) (st t) = some (f t) := by
  show dget (kx l) (l.map f) (.inr (sx t)) = _
  unfold dget
  induction l with
  | nil => simp at h
  | cons y l ih =>
    show (List.find? (fun p : Key × D => decide (p.1 = Sum.inr (sx t))) ((Sum.inr (sx y), f y) :: (kx l).zip (l.map f))).map (·.2) = _
    rw [List.find?_cons]
    by_cases e : y = t
    · subst e
      rw [decide_eq_true rfl]; rfl
    · rw [decide_eq_false (fun q => e (sx_inj (Sum.inr.inj q)))]
      exact ih ((List.mem_cons.mp h).resolve_left fun q => e q.symm)
theorem ixX_end {r : List Tx} (h : r ≠ []) : ixX (.tup (sts r)) (.int (-1)) = some (st (endOf r)) := by
  have e : r = r.dropLast ++ [endOf r] := by
    conv => lhs; rw [← List.dropLast_concat_getLast h]
    congr 2
    unfold endOf
    rw [List.getLast_eq_getElem, List.getD_eq_getElem?_getD, List.getElem?_eq_getElem (by have := List.length_pos_iff.mpr h; omega)]; rfl
  exact ixX_last e
variable {A : DP} {EX : XQ} {r : List Sl} {i j : Nat} {e e1 e2 : List Sl → R D} {b : List Sl → RS}
theorem E_neg {n : Int} (h : e r = .ok (.int n)) : xNeg e r = .ok (.int (-n)) := by unfold xNeg; rw [h]; rfl
theorem E_end {row : List Tx} (h : e r = .ok (.tup (sts row))) (hr : row ≠ []) : x2 ixX e (xNeg (xC (.int 1))) r = .ok (st (endOf row)) := E_2 h rfl (ixX_end hr)
theorem W_setOwnD {f : List Sl → R (List Key × List D)} {ks : List Key} {ds : List D} (h : f r = .ok (ks, ds)) (k : A.nx (r.set i (.ownd ks ds))) : W (ySetOwnD i f) A EX r := W_eq (z := .nx (r.set i (.ownd ks ds))) (by unfold ySetOwnD; rw [h]; rfl) k
theorem S_setOwnD {f : List Sl → R (List Key × List D)} {ks : List Key} {ds : List D} (h : f r = .ok (ks, ds)) (k : W b A EX (r.set i (.ownd ks ds))) : W (ySeq (ySetOwnD i f) b) A EX r := W_seq (W_setOwnD h k)
theorem W_putK {l : List Tx} {ds es : List D} {t : Tx} {d : D} (h1 : r[i]? = some (.ownd (kx l) ds)) (hl : l.length < 16777216) (h2 : e2 r = .ok d) (h3 : e1 r = .ok (st t)) (hn : t ∉ l) (he : ds ++ [d] = es) (k : A.nx (r.set i (.ownd (kx (l ++ [t])) es))) : W (yPutK i e1 e2) A EX r := by
  refine W_eq (z := .nx (r.set i (.ownd (kx (l ++ [t])) es))) ?_ k
  unfold yPutK
  rw [h1]
  dsimp only
  rw [h2, st_ok, h3, st_ok]
  show (if Nat.blt (kx l).length 16777216 = true then frc d fun d => RS.nx (r.set i (.ownd (putKs (kx l) (.inr (sx t))) (putA (kx l) ds (.inr (sx t)) d))) else RS.no) = _
  rw [if_pos (by rw [kx_len, Nat.blt_eq]; exact hl), frc_eq, putKs_new hn, putA_new hn, he]
/-- a def whose answer is known only by what holds of it -/
theorem cf_ex {N : List Str} {n : Nat} {c : List Sl → RS} {ds : List D} {P : D → Prop} (hl : ds.length = n) (h : W c { nx := fun _ => P .non, rt := P } NoQ (startD N ds)) : ∃ v, cfOf N n c ds = .ok v ∧ P v := by
  unfold cfOf
  rw [if_pos hl]
  unfold W at h
  cases q : c (startD N ds) with
  | nx r => rw [q] at h; exact ⟨_, rfl, h⟩
  | rt d => rw [q] at h; exact ⟨_, rfl, h⟩
  | bk r => rw [q] at h; exact h.elim
  | ct r => rw [q] at h; exact h.elim
  | rn d => rw [q] at h; exact h.elim
  | ex x => rw [q] at h; exact h.elim
  | no => rw [q] at h; exact h.elim
theorem neX_tps0 {L : List (List Tx)} (h : ∀ q ∈ L, ∀ t ∈ q, Plain t) : neX (.lst (tps L)) (.lst []) = some (.bl (!decide (L = []))) := by
  show gd ((shpB (.lst (tps L)) && shpB (.lst [])) = true) (.bl (!eqb (.lst (tps L)) (.lst []))) = _
  rw [gd_pos (by rw [shp_of (okq_lst (okqs_tps h))]; rfl)]
  have e : eqb (.lst (tps L)) (.lst []) = decide (L = []) := by
    show eqb (.lst (tps L)) (.lst (tps [])) = _
    unfold eqb pd PyData.eqv
    exact eqvAll_tps
  rw [e]
end DL
/-! The shortest rising row, found in waves (plain Lean). -/
namespace TP
open DL
theorem nodup_len {l : List Tx} : ∀ {o : List Tx}, l.Nodup → (∀ x ∈ l, x ∈ o) → l.length ≤ o.length := by
  induction l with
  | nil => exact fun _ _ => Nat.zero_le _
  | cons x l ih =>
    intro o hn h
    have p := List.perm_cons_erase (h x List.mem_cons_self)
    rw [List.nodup_cons] at hn
    have h2 := ih (o := o.erase x) hn.2 fun y hy => by
      have h3 := p.mem_iff.mp (h y (List.mem_cons_of_mem _ hy))
      exact (List.mem_cons.mp h3).resolve_left fun e => hn.1 (e ▸ hy)
    rw [p.length_eq, List.length_cons, List.length_cons]
    omega
section
variable {w o : List Tx} {b g : Tx} {k : Nat} {R L : List (List Tx)} {S S1 Dn : List Tx}
structure Bfs (w o : List Tx) (b g : Tx) (k : Nat) (R : List (List Tx)) (S Dn : List Tx) : Prop where
  row : ∀ r ∈ R, Pth (ups w o) b r ∧ r.length = k + 1
  seen : ∀ x, x ∈ S ↔ x ∈ Dn ∨ ∃ r ∈ R, endOf r = x
  goal : g ∉ Dn
  shut : ∀ x ∈ Dn, ∀ e ∈ ups w o x, e ∈ S
  start : b ∈ S
  far : ∀ p, Pth (ups w o) b p → p.length ≤ k → endOf p ∈ Dn
  nd : S.Nodup
  sub : ∀ x ∈ S, x ∈ o
structure Wave (w o : List Tx) (b g : Tx) (k : Nat) (S : List Tx) (p : List (List Tx)) (S1 : List Tx) (L : List (List Tx)) : Prop where
  seen : ∀ x, x ∈ S1 ↔ x ∈ S ∨ ∃ r ∈ L, endOf r = x
  row : ∀ r ∈ L, Pth (ups w o) b r ∧ r.length = k + 2
  done : ∀ r ∈ p, endOf r ≠ g ∧ ∀ e ∈ ups w o (endOf r), e ∈ S1
  nd : S1.Nodup
  sub : ∀ x ∈ S1, x ∈ o
  few : L.length ≤ S1.length
structure Short (w o : List Tx) (b g : Tx) (x : List Tx) : Prop where
  pth : Pth (ups w o) b x
  fin : endOf x = g
  least : ∀ q, Pth (ups w o) b q → endOf q = g → x.length ≤ q.length
theorem Bfs.first (hb : b ∈ o) : Bfs w o b g 0 [[b]] [b] [] where
  row r hr := by rw [List.mem_singleton.mp hr]; exact ⟨.one, rfl⟩
  seen x := by simp [endOf, eq_comm]
  goal h := by cases h
  shut x h := by cases h
  start := List.mem_singleton_self _
  far p h hl := by have := List.length_pos_iff.mpr h.ne; omega
  nd := by simp
  sub x hx := by rw [List.mem_singleton.mp hx]; exact hb
theorem Bfs.wave (h : Bfs w o b g k R S Dn) : Wave w o b g k S [] S [] where
  seen x := by simp
  row r hr := by cases hr
  done r hr := by cases hr
  nd := h.nd
  sub := h.sub
  few := Nat.zero_le _
theorem Wave.add {p : List (List Tx)} (ln : Line w o) (hb : b ∈ o) (h : Wave w o b g k S p S1 L) {x : List Tx} {e : Tx} (hx : Pth (ups w o) b x) (hl : x.length = k + 1) (he : e ∈ ups w o (endOf x)) (hn : e ∉ S1) : Wave w o b g k S p (S1 ++ [e]) (L ++ [x ++ [e]]) where
  seen y := by
    rw [List.mem_append, h.seen, List.mem_singleton]
    constructor
    · rintro ((h1 | ⟨r, h1, h2⟩) | h1)
      · exact .inl h1
      · exact .inr ⟨r, List.mem_append_left _ h1, h2⟩
      · exact .inr ⟨x ++ [e], List.mem_append_right _ (List.mem_singleton_self _), by rw [endOf_snoc, h1]⟩
    · rintro (h1 | ⟨r, h1, h2⟩)
      · exact .inl (.inl h1)
      · rcases List.mem_append.mp h1 with h3 | h3
        · exact .inl (.inr ⟨r, h3, h2⟩)
        · rw [List.mem_singleton.mp h3, endOf_snoc] at h2
          exact .inr h2.symm
  row r hr := by
    rcases List.mem_append.mp hr with h3 | h3
    · exact h.row r h3
    · rw [List.mem_singleton.mp h3]
      exact ⟨.snoc hx he, by rw [List.length_append, hl]; rfl⟩
  done r hr := ⟨(h.done r hr).1, fun e he => List.mem_append_left _ ((h.done r hr).2 e he)⟩
  nd := by
    rw [List.nodup_append]
    exact ⟨h.nd, by simp, fun a ha c hc e2 => hn (by rw [List.mem_singleton.mp hc] at e2; exact e2 ▸ ha)⟩
  sub y hy := by
    rcases List.mem_append.mp hy with h3 | h3
    · exact h.sub y h3
    · rw [List.mem_singleton.mp h3]; exact (ln.ups (ln.pth hb hx).1 he).1
  few := by
    rw [List.length_append, List.length_append]
    exact Nat.add_le_add h.few (Nat.le_refl _)
theorem Wave.next {p : List (List Tx)} (h : Wave w o b g k S p S1 L) {x : List Tx} (hg : endOf x ≠ g) (hu : ∀ e ∈ ups w o (endOf x), e ∈ S1) : Wave w o b g k S (p ++ [x]) S1 L where
  seen := h.seen
  row := h.row
  done r hr := by
    rcases List.mem_append.mp hr with h3 | h3
    · exact h.done r h3
    · rw [List.mem_singleton.mp h3]; exact ⟨hg, hu⟩
  nd := h.nd
  sub := h.sub
  few := h.few
theorem Wave.bfs (h : Bfs w o b g k R S Dn) (hw : Wave w o b g k S R S1 L) : Bfs w o b g (k + 1) L S1 S where
  row := hw.row
  seen := hw.seen
  goal hg := by
    rcases (h.seen g).mp hg with h1 | ⟨r, h1, h2⟩
    · exact h.goal h1
    · exact (hw.done r h1).1 h2
  shut x hx e he := by
    rcases (h.seen x).mp hx with h1 | ⟨r, h1, rfl⟩
    · exact (hw.seen e).mpr (.inl (h.shut x h1 e he))
    · exact (hw.done r h1).2 e he
  start := (hw.seen b).mpr (.inl h.start)
  far p hp hl := by
    cases hp with
    | one => exact h.start
    | snoc h1 h2 =>
      rename_i r e
      rw [endOf_snoc]
      rw [List.length_append, List.length_singleton] at hl
      exact h.shut _ (h.far r h1 (by omega)) e h2
  nd := hw.nd
  sub := hw.sub
theorem Bfs.found (h : Bfs w o b g k R S Dn) {x : List Tx} (hx : x ∈ R) (he : endOf x = g) : Short w o b g x where
  pth := (h.row x hx).1
  fin := he
  least q hq hg := by
    rw [(h.row x hx).2]
    by_cases hl : q.length ≤ k
    · exact absurd (hg ▸ h.far q hq hl) h.goal
    · omega
theorem Bfs.none (h : Bfs w o b g k [] S Dn) {q : List Tx} (hq : Pth (ups w o) b q) : endOf q ≠ g := by
  have hs : ∀ x, x ∈ S → x ∈ Dn := fun x hx => by
    rcases (h.seen x).mp hx with h1 | ⟨r, h1, _⟩
    · exact h1
    · cases h1
  have : endOf q ∈ Dn := by
    induction hq with
    | one => exact hs _ h.start
    | snoc h1 h2 ih => rw [endOf_snoc]; exact hs _ (h.shut _ ih _ h2)
  exact fun e => h.goal (e ▸ this)
theorem Bfs.short (ln : Line w o) (hb : b ∈ o) (h : Bfs w o b g k R S Dn) (hne : R ≠ []) : k < o.length := by
  cases R with
  | nil => exact absurd rfl hne
  | cons r R =>
    obtain ⟨h1, h2⟩ := h.row r List.mem_cons_self
    obtain ⟨i1, i2, _⟩ := ln.pth hb h1
    have := idx_lt i1
    omega
end
end TP
/-! Facts: what they lead to; orders that agree with them (plain Lean). -/
namespace TP
open DL
abbrev Fa := Tx × Tx
inductive Reach (F : List Fa) (a : Tx) : Tx → Prop
  | refl : Reach F a a
  | step {b c : Tx} : Reach F a b → (b, c) ∈ F → Reach F a c
theorem Reach.trans {F : List Fa} {a b c : Tx} (h : Reach F a b) (k : Reach F b c) : Reach F a c := by
  induction k with
  | refl => exact h
  | step _ h2 ih => exact .step ih h2
theorem Reach.one {F : List Fa} {a b : Tx} (h : (a, b) ∈ F) : Reach F a b := .step .refl h
theorem Reach.sub {F F' : List Fa} (s : ∀ f ∈ F, f ∈ F') {a b : Tx} (h : Reach F a b) : Reach F' a b := by
  induction h with
  | refl => exact .refl
  | step _ h2 ih => exact .step ih (s _ h2)
open Classical in
noncomputable def rch (F : List Fa) (a b : Tx) : Bool := decide (Reach F a b)
theorem rch_iff {F : List Fa} {a b : Tx} : rch F a b = true ↔ Reach F a b := by
  unfold rch
  exact @decide_eq_true_iff _ (Classical.propDecidable _)
theorem rch_false {F : List Fa} {a b : Tx} : rch F a b = false ↔ ¬ Reach F a b := by
  rw [← rch_iff]
  cases rch F a b <;> simp
/-- an order agrees with the facts -/
def Agr (o : List Tx) (F : List Fa) : Prop := ∀ f ∈ F, idx o f.1 < idx o f.2
def agr (o : List Tx) (F : List Fa) : Bool := F.all fun f => decide (idx o f.1 < idx o f.2)
theorem Agr.le {o : List Tx} {F : List Fa} (h : Agr o F) {a b : Tx} (r : Reach F a b) : idx o a ≤ idx o b := by
  induction r with
  | refl => exact Nat.le_refl _
  | step _ h2 ih => exact Nat.le_trans ih (Nat.le_of_lt (h _ h2))
theorem Agr.lt {o : List Tx} {F : List Fa} (h : Agr o F) {a b : Tx} (r : Reach F a b) (hne : a ≠ b) : idx o a < idx o b := by
  induction r with
  | refl => exact absurd rfl hne
  | step h1 h2 ih => exact Nat.lt_of_le_of_lt (h.le h1) (h _ h2)
theorem idx_app_l {l m : List Tx} {x : Tx} (h : x ∈ l) : idx (l ++ m) x = idx l x := by
  unfold idx
  rw [List.idxOf_append, if_pos h]
theorem idx_app_r {l m : List Tx} {x : Tx} (h : x ∉ l) : idx (l ++ m) x = idx m x + l.length := by
  unfold idx
  rw [List.idxOf_append, if_neg h]
/-! ### what is seen from a place -/
structure Seek (F : List Fa) (a : Tx) (S W : List Tx) : Prop where
  start : a ∈ S
  from_ : ∀ x ∈ S, Reach F a x
  wait : ∀ x ∈ W, x ∈ S
  shut : ∀ x ∈ S, x ∉ W → ∀ f ∈ F, f.1 = x → f.2 ∈ S
theorem Seek.done {F : List Fa} {a : Tx} {S : List Tx} (h : Seek F a S []) {b : Tx} : b ∈ S ↔ Reach F a b := by
  refine ⟨h.from_ b, fun r => ?_⟩
  induction r with
  | refl => exact h.start
  | step _ h2 ih => exact h.shut _ ih (by simp) _ h2 rfl
def left (F : List Fa) (S : List Tx) : Nat := (F.filter fun f => decide (f.2 ∉ S)).length
theorem left_add {F : List Fa} {S : List Tx} {f : Fa} (hf : f ∈ F) (hn : f.2 ∉ S) : left F (S ++ [f.2]) + 1 ≤ left F S := by
  unfold left
  induction F with
  | nil => cases hf
  | cons g F ih =>
    have mono : ∀ F : List Fa, (F.filter fun g => decide (g.2 ∉ S ++ [f.2])).length ≤ (F.filter fun g => decide (g.2 ∉ S)).length := fun F => by
      induction F with
      | nil => exact Nat.le_refl _
      | cons g F ih2 =>
        rw [List.filter_cons, List.filter_cons]
        by_cases q : g.2 ∈ S
        · rw [if_neg (by simp [q]), if_neg (by simp [q])]; exact ih2
        · rw [if_pos (c := decide (g.2 ∉ S) = true) (by simpa using q)]
          split
          · rw [List.length_cons, List.length_cons]; omega
          · rw [List.length_cons]; omega
    rw [List.filter_cons, List.filter_cons]
    rcases List.mem_cons.mp hf with e | e
    · subst e
      rw [if_neg (by simp), if_pos (by simpa using hn), List.length_cons]
      have := mono F
      omega
    · have ih := ih e
      by_cases q : g.2 ∈ S
      · rw [if_neg (by simp [q]), if_neg (by simp [q])]; exact ih
      · rw [if_pos (c := decide (g.2 ∉ S) = true) (by simpa using q)]
        split
        · rw [List.length_cons, List.length_cons]; omega
        · rw [List.length_cons]; omega
end TP
namespace TP
open DL
/-- facts that a line agrees with -/
structure Fc (w o : List Tx) (F : List Fa) : Prop where
  nd : F.Nodup
  mem : ∀ f ∈ F, f.1 ∈ o ∧ f.2 ∈ o
  near : ∀ f ∈ F, dif f.1 f.2 = 1
  agr : Agr o F
  few : F.length ≤ 900
theorem dif_comm {a b : Tx} (h : a.length = b.length) : dif a b = dif b a := by
  unfold dif
  rw [h]
  congr 2
  funext k
  simp only [ne_comm]
theorem Fc.let {w o : List Tx} {F : List Fa} (h : Fc w o F) {k : Nat} (hk : k < F.length) : F[k] ∉ F.take k ∧ rch (F.take k) F[k].2 F[k].1 = false := by
  constructor
  · intro z
    obtain ⟨j, hj, e⟩ := List.mem_iff_getElem.mp z
    rw [List.length_take] at hj
    rw [List.getElem_take] at e
    have := (List.getElem_inj h.nd).mp e
    omega
  · rw [rch_false]
    intro r
    have h1 := h.agr.le (r.sub fun f hf => List.mem_of_mem_take hf)
    have h2 := h.agr _ (List.getElem_mem hk)
    omega
end TP
/-! Facts as data; Notes as data. -/
namespace DL
open PySem L2 PyProof.Rows TP
def fct (f : Fa) : D := .tup [st f.1, st f.2]
def fcts (F : List Fa) : List D := F.map fct
/-- a Notes object -/
def nt (s : List Int) (F : List Fa) : D := .obj 3 [.tup [bd s, .tup (fcts F)]]
theorem fcts_len {F : List Fa} : (fcts F).length = F.length := List.length_map _
theorem fcts_app {F G : List Fa} : fcts (F ++ G) = fcts F ++ fcts G := List.map_append
theorem fct_sts {f : Fa} : fct f = .tup (sts [f.1, f.2]) := rfl
theorem eqb_fct {f g : Fa} : eqb (fct f) (fct g) = decide (f = g) := by
  rw [fct_sts, fct_sts, eqb_tup, Bool.eq_iff_iff, decide_eq_true_iff, decide_eq_true_iff]
  constructor
  · intro h
    injection h with h1 h2
    injection h2 with h2
    exact Prod.ext h1 h2
  · rintro rfl; rfl
theorem any_fct {f : Fa} : ∀ {F : List Fa}, (fcts F).any (fun z => eqb z (fct f)) = decide (f ∈ F)
  | [] => rfl
  | g :: F => by
    show (eqb (fct g) (fct f) || (fcts F).any (fun z => eqb z (fct f))) = _
    rw [any_fct, eqb_fct, Bool.eq_iff_iff, Bool.or_eq_true, decide_eq_true_iff, decide_eq_true_iff, decide_eq_true_iff, List.mem_cons]
    exact ⟨fun h => h.imp Eq.symm id, fun h => h.imp Eq.symm id⟩
theorem okq_fct {n : Nat} {f : Fa} (h1 : Plain f.1) (h2 : Plain f.2) : okq (n + 1) (fct f) = true := okq_tup (okqs_sts (xs := [f.1, f.2]) fun x hx => by
  rcases List.mem_cons.mp hx with e | e
  · rw [e]; exact h1
  · rw [List.mem_singleton.mp e]; exact h2)
theorem okqs_fcts {n : Nat} {F : List Fa} (h : ∀ f ∈ F, Plain f.1 ∧ Plain f.2) : okqs (n + 1) (fcts F) = true := okqs_map fun f hf => okq_fct (h f hf).1 (h f hf).2
theorem inTX_fct {neg : Bool} {f : Fa} {F : List Fa} (hf : Plain f.1 ∧ Plain f.2) (h : ∀ f ∈ F, Plain f.1 ∧ Plain f.2) : inTX neg (fct f) (.tup (fcts F)) = some (.bl (neg != decide (f ∈ F))) := by
  show gd ((shpB (fct f) && shpB (.tup (fcts F))) = true) (.bl (neg != (fcts F).any fun z => eqb z (fct f))) = _
  rw [gd_pos (by rw [shp_of (okq_fct hf.1 hf.2), shp_of (okq_tup (okqs_fcts h))]; rfl), any_fct]
variable {A : DP} {EX : XQ} {r : List Sl} {i j : Nat} {b : List Sl → RS}
theorem W_popV {es : List D} {y : D} (h : r[j]? = some (.own (es ++ [y]))) (k : A.nx ((r.set j (.own es)).set i (.val y))) : W (yPopV i j) A EX r := by
  refine W_eq (z := .nx ((r.set j (.own es)).set i (.val y))) ?_ k
  unfold yPopV
  rw [h]
  dsimp only
  have e : (es ++ [y])[(es ++ [y]).length - 1]? = some y := by
    rw [List.length_append, List.length_singleton, Nat.add_sub_cancel, List.getElem?_append_right (Nat.le_refl _), Nat.sub_self]; rfl
  rw [e, List.dropLast_concat]
theorem S_popV {es : List D} {y : D} (h : r[j]? = some (.own (es ++ [y]))) (k : W b A EX ((r.set j (.own es)).set i (.val y))) : W (ySeq (yPopV i j) b) A EX r := W_seq (W_popV h k)
theorem neX_sts0 {l : List Tx} (h : ∀ t ∈ l, Plain t) : neX (.lst (sts l)) (.lst []) = some (.bl (!decide (l = []))) := by
  show gd ((shpB (.lst (sts l)) && shpB (.lst [])) = true) (.bl (!eqb (.lst (sts l)) (.lst (sts [])))) = _
  rw [gd_pos (by rw [shp_lst h]; rfl), eqb_lst]
end DL
/-! An order for the facts; all that is better (plain Lean). -/
namespace TP
open DL
def upsF (F : List Fa) (x : Tx) : List Tx := (F.filter fun f => decide (f.1 = x)).map fun f => f.2
theorem mem_upsF {F : List Fa} {x u : Tx} : u ∈ upsF F x ↔ (x, u) ∈ F := by
  unfold upsF
  rw [List.mem_map]
  constructor
  · rintro ⟨f, hf, rfl⟩
    obtain ⟨h1, h2⟩ := List.mem_filter.mp hf
    have h3 : f.1 = x := by simpa using h2
    rw [← h3]; exact h1
  · intro h
    exact ⟨(x, u), List.mem_filter.mpr ⟨h, by simp⟩, rfl⟩
def free (w : List Tx) (F : List Fa) (P : List Tx) : List Tx := (sets w).filter fun x => !decide (x ∈ P) && (upsF F x).all fun u => decide (u ∈ P)
theorem mem_free {w : List Tx} {F : List Fa} {P : List Tx} {x : Tx} : x ∈ free w F P ↔ x ∈ sets w ∧ x ∉ P ∧ ∀ u ∈ upsF F x, u ∈ P := by
  unfold free
  rw [List.mem_filter, Bool.and_eq_true, List.all_eq_true]
  simp
/-- placed so far: each after all that is better -/
structure Plc (w : List Tx) (F : List Fa) (P : List Tx) : Prop where
  nd : P.Nodup
  sub : ∀ x ∈ P, x ∈ sets w
  up : ∀ p x q, P = p ++ x :: q → ∀ u ∈ upsF F x, u ∈ p
theorem Plc.nil {w : List Tx} {F : List Fa} : Plc w F [] := ⟨List.nodup_nil, (fun _ h => by cases h), fun p x q h => by simp at h⟩
theorem Plc.add {w : List Tx} {F : List Fa} {P : List Tx} (h : Plc w F P) {x : Tx} (hx : x ∈ free w F P) : Plc w F (P ++ [x]) := by
  obtain ⟨h1, h2, h3⟩ := mem_free.mp hx
  refine ⟨?_, ?_, ?_⟩
  · rw [List.nodup_append]
    exact ⟨h.nd, by simp, fun a ha c hc e => h2 (by rw [List.mem_singleton.mp hc] at e; exact e ▸ ha)⟩
  · intro y hy
    rcases List.mem_append.mp hy with q | q
    · exact h.sub y q
    · rw [List.mem_singleton.mp q]; exact h1
  · intro p y q e u hu
    rcases List.append_eq_append_iff.mp e with ⟨l, e1, e2⟩ | ⟨l, e1, e2⟩
    · -- p = P ++ l, [x] = l ++ y :: q
      cases l with
      | nil =>
        rw [List.nil_append] at e2
        injection e2 with e3 e4
        subst e3
        rw [List.append_nil] at e1
        rw [e1]
        exact h3 u hu
      | cons z l =>
        have := congrArg List.length e2
        simp at this
    · -- P = p ++ l, y :: q = l ++ [x]
      cases l with
      | nil =>
        rw [List.nil_append] at e2
        injection e2 with e3 e4
        subst e3
        rw [List.append_nil] at e1
        rw [← e1]
        exact h3 u hu
      | cons z l =>
        rw [List.cons_append] at e2
        injection e2 with e3 e4
        subst e3
        exact h.up p y l e1 u hu
theorem Plc.perm {w : List Tx} {F : List Fa} {P : List Tx} (h : Plc w F P) (hn : (sets w).Nodup) (hl : P.length = (sets w).length) : P.Perm (sets w) := by
  refine (List.perm_ext_iff_of_nodup h.nd hn).mpr fun x => ⟨h.sub x, fun hx => ?_⟩
  apply Classical.byContradiction
  intro q
  have := nodup_len (l := x :: P) (o := sets w) (List.nodup_cons.mpr ⟨q, h.nd⟩) fun y hy => by
    rcases List.mem_cons.mp hy with e | e
    · rw [e]; exact hx
    · exact h.sub y e
  rw [List.length_cons] at this
  omega
theorem Plc.agr {w : List Tx} {F : List Fa} {P : List Tx} (h : Plc w F P) (hall : ∀ f ∈ F, f.1 ∈ P) : Agr P.reverse F := by
  rintro ⟨x, u⟩ hf
  dsimp only
  obtain ⟨p, q, e⟩ := List.mem_iff_append.mp (hall _ hf)
  have hu := h.up p x q e u (mem_upsF.mpr hf)
  have nd := h.nd
  rw [e] at nd
  have er : P.reverse = (q.reverse ++ [x]) ++ p.reverse := by rw [e]; simp
  rw [er, idx_app_l (by simp)]
  have nu : u ∉ q.reverse ++ [x] := fun z => by
    rw [List.nodup_append] at nd
    have z2 : u ∈ x :: q := by
      rcases List.mem_append.mp z with z | z
      · exact List.mem_cons_of_mem _ (List.mem_reverse.mp z)
      · rw [List.mem_singleton.mp z]; exact List.mem_cons_self
    exact nd.2.2 u hu u z2 rfl
  rw [idx_app_r nu]
  have := idx_lt (show x ∈ q.reverse ++ [x] by simp)
  omega
end TP
/-! All orders (plain Lean). -/
namespace TP
open DL
def insAll (x : Tx) (l : List Tx) : List (List Tx) := (List.range (l.length + 1)).map fun k => l.take k ++ [x] ++ l.drop k
def linesF (found : List (List Tx)) : List Tx → List (List Tx)
  | [] => found
  | x :: xs => linesF (found.flatMap (insAll x)) xs
def lines (xs : List Tx) : List (List Tx) := linesF [[]] xs
end TP
/-! Facts as data, further; sorted(set(texts)); dict(pairs). -/
namespace DL
open PySem L2 PyProof.Rows TP
theorem fc_plain {s : List Int} {o : List Tx} {F : List Fa} (h : OkS s) (hp : o.Perm (sets (full s))) (hc : Fc (full s) o F) : ∀ f ∈ F, Plain f.1 ∧ Plain f.2 := fun f hf =>
  ⟨plain_sets h _ (hp.mem_iff.mp (hc.mem f hf).1), plain_sets h _ (hp.mem_iff.mp (hc.mem f hf).2)⟩
/-- all that is known to be better than x, ascending -/
noncomputable def abv (F : List Fa) (w : List Tx) (x : Tx) : List Tx := (sets w).filter fun y => !decide (y = x) && rch F x y
theorem mem_abv {F : List Fa} {w : List Tx} {x y : Tx} : y ∈ abv F w x ↔ y ∈ sets w ∧ y ≠ x ∧ Reach F x y := by
  unfold abv
  rw [List.mem_filter, Bool.and_eq_true, rch_iff, Bool.not_eq_true', decide_eq_false_iff_not]
theorem sset_asc {L xs : List Tx} (h : Asc L) (m : ∀ t, t ∈ L ↔ t ∈ xs) : sset (xs.map sx) = L.map sx := by
  symm
  have n : (L.map sx).Nodup := by
    have := h.nodup
    unfold List.Nodup at this ⊢
    rw [List.pairwise_map]
    exact this.imp fun hab e => hab (sx_inj e)
  refine sd_unique (((List.perm_ext_iff_of_nodup n nodup_ddp).mpr fun k => ?_).trans isort_perm.symm) ?_ (isort_sd ordTx) fun x _ y _ a b => ltTx_anti a b
  · rw [mem_ddp, List.mem_map, List.mem_map]
    exact ⟨fun ⟨t, h1, h2⟩ => ⟨t, (m t).mp h1, h2⟩, fun ⟨t, h1, h2⟩ => ⟨t, (m t).mpr h1, h2⟩⟩
  · unfold Sd
    rw [List.pairwise_map]
    exact h.sd
theorem E_sset {e : List Sl → R D} {r : List Sl} {xs L : List Tx} (h : e r = .ok (.lst (sts xs))) (hl : xs.length + 1 < 4000) (ha : Asc L) (m : ∀ t, t ∈ L ↔ t ∈ xs) : xSSet e r = .ok (sts L) := by
  unfold xSSet
  rw [h, bind_ok]
  dsimp only
  rw [strsOf_sts]
  dsimp only
  rw [if_pos (by rw [List.length_map, Nat.blt_eq]; exact hl), sset_asc ha m, List.map_map]; rfl
theorem fcts_snoc {F : List Fa} {f : Fa} : fcts F ++ [fct f] = fcts (F ++ [f]) := by rw [fcts_app]; rfl
end DL
/-! Runs that raise; values of any kind; the signs of what is shown. -/
namespace DL
open PySem L2 PyProof.Rows TP
/-! ### the signs of what is shown -/
def okT (t : Str) : Prop := ∀ c ∈ t.cps.toList, c < 1114112
/-! ### values of any kind -/
def isBase : D → Bool
  | .obj _ _ => false
  | .exc _ _ => false
  | .jar => false
  | .cel _ => false
  | _ => true
def isDic : D → Bool
  | .dic _ _ => true
  | _ => false
def smallT (d : D) : Prop := ∀ x, d = st x → okT (sx x) ∧ x.length ≤ 1677721
/-- of no own class, its texts small, to a depth -/
def deepT : Nat → D → Prop
  | 0, d => isBase d = true ∧ smallT d
  | n + 1, d => (isBase d = true ∧ smallT d) ∧ ∀ ds, d = .tup ds → ds.length ≤ 16777216 ∧ ∀ e ∈ ds, deepT n e
def DOk (d : D) : Prop := ∀ n, deepT n d
/-- a value that the laws draw: of no own class, it may be shown, what is shown are signs -/
structure VOk (d : D) : Prop where
  shp : isDic d = false → shpB d = true
  deep : DOk d
  base : isBase d = true
  shw : shwOK d
  sign : okT (DL.shw d)
  str : smallT d
  tup : ∀ ds, d = .tup ds → ds.length ≤ 16777216 ∧ ∀ e ∈ ds, isBase e = true ∧ smallT e
/-! ### runs that raise -/
section
variable {A : DP} {EX : XQ} {r : List Sl} {a b : List Sl → RS} {e e1 e2 : List Sl → R D} {i j : Nat} {x : XD}
end
section
variable {e e2 : List Sl → R D} {r : List Sl}
end
/-! ### tuples and lists of small things -/
structure Few (e : D) : Prop where
  d : okd 58 e = true
  q : okq 58 e = true
  w : wt e ≤ 1000
/-! ### one of several things, drawn -/
section
variable {sp : DSp} {X : FE} {c : List Sl → R D} {A : DE} {EX : XP} {r : List Sl} {i j : Nat} {d0 d : D} {σ : Sg}
end
end DL
/-! Refusals: a def's answer, whatever it is; orders with something otherwise. -/
namespace DL
open PySem L2 PyProof.Rows TP
/-- a value that may be asked for its kind, item by item -/
structure WOk (d : D) : Prop where
  base : isBase d = true
  tup : ∀ ds, d = .tup ds → ds.length ≤ 16777216 ∧ ∀ e ∈ ds, isBase e = true ∧ smallT e
theorem VOk.w {d : D} (h : VOk d) : WOk d := ⟨h.base, h.tup⟩
def intB : D → Bool
  | .bl _ => true
  | .int _ => true
  | _ => false
/-! ### a walk by places, with an early end -/
section
variable {σ : Type}
end
end DL
/-! Facts with something otherwise. -/
namespace DL
open PySem L2 PyProof.Rows TP
theorem DOk.base {d : D} (h : DOk d) : isBase d = true := (h 0).1
theorem DOk.small {d : D} (h : DOk d) : smallT d := (h 0).2
theorem DOk.items {ds : List D} (h : DOk (.tup ds)) : ds.length ≤ 16777216 ∧ ∀ e ∈ ds, DOk e := ⟨((h 1).2 _ rfl).1, fun e he n => ((h (n + 1)).2 _ rfl).2 e he⟩
theorem DOk.w {d : D} (h : DOk d) : WOk d := ⟨h.base, fun ds e => by
  subst e
  exact ⟨h.items.1, fun x hx => ⟨(h.items.2 x hx).base, (h.items.2 x hx).small⟩⟩⟩
/-- facts that some order agrees with -/
def FcE (s : List Int) (F : List Fa) : Prop := ∃ o, o.Perm (sets (full s)) ∧ Fc (full s) o F
theorem FcE.plain {s : List Int} {F : List Fa} (ok : OkS s) (h : FcE s F) : ∀ f ∈ F, Plain f.1 ∧ Plain f.2 := by
  obtain ⟨o, hp, hc⟩ := h
  exact fc_plain ok hp hc
theorem FcE.few {s : List Int} {F : List Fa} (h : FcE s F) : F.length ≤ 900 := by
  obtain ⟨o, hp, hc⟩ := h
  exact hc.few
end DL
/-! One peak in each part: no crossed square, no second peak. -/
namespace DL
open PySem L2 PyProof.Rows TP
section
variable {s : List Int} {o rs : List Tx}
end
end DL
/-! Sizes of boards, right and wrong ones; texts of boards. -/
namespace DL
open PySem L2 PyProof.Rows TP
end DL
/-! Own objects asked for equality; rankings of drawn lines; texts shown twice. -/
namespace DL
open PySem L2 PyProof.Rows TP
section
variable {e1 e2 : List Sl → R D} {r : List Sl}
end
end DL
/-! Shown answers side by side; texts of boards; tuples of ints. -/
namespace DL
open PySem L2 PyProof.Rows TP
section
variable {e1 e2 e3 : List Sl → R D} {r : List Sl}
end
end DL
/-! Texts of notes: lines of words, joined and split. -/
namespace DL
open PySem L2 PyProof.Rows TP TL
theorem joinL_len {p : Tx} : ∀ (L : List Tx), (joinL p L).length ≤ (L.map (·.length)).sum + L.length * p.length
  | [] => by simp [joinL]
  | [l] => by simp [joinL]
  | l :: q :: r => by
    have ih := joinL_len (p := p) (q :: r)
    show (l ++ (p ++ joinL p (q :: r))).length ≤ _
    simp only [List.length_append, List.map_cons, List.sum_cons, List.length_cons, Nat.succ_mul] at ih ⊢
    omega
/-- facts as texts: of the board's settings -/
def FcT (s : List Int) (F : List Fa) : Prop := (∀ f ∈ F, f.1 ∈ sets (full s) ∧ f.2 ∈ sets (full s)) ∧ F.length ≤ 900
section
variable {s : List Int} {F : List Fa}
end
section
variable {e e2 : List Sl → R D} {r : List Sl}
end
theorem FcT.plain {s : List Int} {F : List Fa} (ok : OkS s) (h : FcT s F) : ∀ f ∈ F, Plain f.1 ∧ Plain f.2 := fun f hf => ⟨plain_sets ok _ (h.1 f hf).1, plain_sets ok _ (h.1 f hf).2⟩
end DL
/-! Any text, cut into lines and words; what it tells of notes. -/
namespace DL
open PySem L2 PyProof.Rows TP TL
/-- a text cut at a sign -/
def cutAt (c : Nat) : Tx → List Tx
  | [] => [[]]
  | x :: v => if x = c then [] :: cutAt c v else match cutAt c v with
    | p :: ps => (x :: p) :: ps
    | [] => [[x]]
theorem cutAt_self {c : Nat} {v : Tx} : cutAt c (c :: v) = [] :: cutAt c v := by
  show (if c = c then _ else _) = _
  rw [if_pos rfl]
theorem cutAt_ne {c : Nat} : ∀ v : Tx, cutAt c v ≠ []
  | [] => by simp [cutAt]
  | x :: v => by
    unfold cutAt
    split
    · simp
    · split <;> simp
theorem cutAt_other {c x : Nat} {v : Tx} (h : x ≠ c) : ∃ p ps, cutAt c v = p :: ps ∧ cutAt c (x :: v) = (x :: p) :: ps := by
  cases e : cutAt c v with
  | nil => exact absurd e (cutAt_ne v)
  | cons p ps =>
    refine ⟨p, ps, rfl, ?_⟩
    show (if x = c then _ else _) = _
    rw [if_neg h, e]
theorem cutAt_no {c : Nat} : ∀ v : Tx, ∀ l ∈ cutAt c v, c ∉ l ∧ (∀ x ∈ l, x ∈ v) ∧ l.length ≤ v.length
  | [], l, h => by
    rw [List.mem_singleton.mp h]
    exact ⟨List.not_mem_nil, fun x hx => (by cases hx), Nat.le_refl _⟩
  | x :: v, l, hl => by
    have ih := cutAt_no (c := c) v
    have up : ∀ m ∈ cutAt c v, c ∉ m ∧ (∀ y ∈ m, y ∈ x :: v) ∧ m.length ≤ (x :: v).length := fun m hm => ⟨(ih m hm).1, fun y hy => List.mem_cons_of_mem _ ((ih m hm).2.1 y hy), Nat.le_succ_of_le (ih m hm).2.2⟩
    by_cases h : x = c
    · subst h
      rw [cutAt_self] at hl
      rcases List.mem_cons.mp hl with rfl | hl
      · exact ⟨List.not_mem_nil, fun y hy => (by cases hy), Nat.zero_le _⟩
      · exact up l hl
    · obtain ⟨p, ps, e1, e2⟩ := cutAt_other (v := v) h
      rw [e2] at hl
      have mp : p ∈ cutAt c v := by rw [e1]; exact List.mem_cons_self
      rcases List.mem_cons.mp hl with rfl | hl
      · refine ⟨fun z => ?_, fun y hy => ?_, ?_⟩
        · rcases List.mem_cons.mp z with z | z
          · exact h z.symm
          · exact (ih p mp).1 z
        · rcases List.mem_cons.mp hy with rfl | hy
          · exact List.mem_cons_self
          · exact List.mem_cons_of_mem _ ((ih p mp).2.1 y hy)
        · rw [List.length_cons, List.length_cons]
          exact Nat.succ_le_succ (ih p mp).2.2
      · exact up l (by rw [e1]; exact List.mem_cons_of_mem _ hl)
theorem cutAt_len {c : Nat} : ∀ v : Tx, (cutAt c v).length = v.count c + 1
  | [] => rfl
  | x :: v => by
    have ih := cutAt_len (c := c) v
    by_cases h : x = c
    · subst h
      rw [cutAt_self, List.length_cons, ih, List.count_cons_self]
    · obtain ⟨p, ps, e1, e2⟩ := cutAt_other (v := v) h
      rw [e1, List.length_cons] at ih
      rw [e2, List.length_cons, ih, List.count_cons_of_ne h]
/-! ### texts that may be read -/
structure OkV (v : Tx) : Prop where
  sign : ∀ c ∈ v, c < 1114112
  len : v.length ≤ 60000
  few : v.count 10 ≤ 890
theorem OkV.part {v l : Tx} {c : Nat} (h : OkV v) (hl : l ∈ cutAt c v) : (∀ x ∈ l, x < 1114112) ∧ l.length ≤ 60000 := ⟨fun x hx => h.sign x ((cutAt_no v l hl).2.1 x hx), Nat.le_trans (cutAt_no v l hl).2.2 h.len⟩
end DL
/-! Texts changed at a place: what stays true of them. -/
namespace DL
open PySem L2 PyProof.Rows TP TL
/-- signs, length, line ends -/
structure Bt (n m : Nat) (v : Tx) : Prop where
  sign : ∀ c ∈ v, c < 128
  len : v.length ≤ n
  few : v.count 10 ≤ m
theorem Bt.ok {n m : Nat} {v : Tx} (h : Bt n m v) (hn : n ≤ 60000) (hm : m ≤ 890) : OkV v := ⟨fun c hc => Nat.lt_trans (h.sign c hc) (by decide), Nat.le_trans h.len hn, Nat.le_trans h.few hm⟩
theorem Bt.take {n m k : Nat} {a : Tx} (h : Bt n m a) : Bt n m (a.take k) := ⟨fun c hc => h.sign c (List.mem_of_mem_take hc), by rw [List.length_take]; have := h.len; omega, Nat.le_trans ((List.take_sublist k a).count_le 10) h.few⟩
theorem Bt.drop {n m k : Nat} {a : Tx} (h : Bt n m a) : Bt n m (a.drop k) := ⟨fun c hc => h.sign c (List.mem_of_mem_drop hc), by rw [List.length_drop]; have := h.len; omega, Nat.le_trans ((List.drop_sublist k a).count_le 10) h.few⟩
theorem Bt.one {c : Nat} (h : c < 128) : Bt 1 1 [c] := ⟨fun d hd => by rw [List.mem_singleton.mp hd]; exact h, Nat.le_refl _, Nat.le_trans (List.count_le_length) (Nat.le_refl _)⟩
/-- parts without line ends -/
structure Pt (n : Nat) (l : Tx) : Prop where
  sign : ∀ c ∈ l, c < 128
  len : l.length ≤ n
  no : 10 ∉ l
theorem joinL_mem {p : Tx} : ∀ {L : List Tx} {x : Nat}, x ∈ joinL p L → x ∈ p ∨ ∃ l ∈ L, x ∈ l
  | [], x, h => by cases h
  | [l], x, h => .inr ⟨l, List.mem_cons_self, h⟩
  | l :: q :: r, x, h => by
    have h : x ∈ l ++ (p ++ joinL p (q :: r)) := h
    rcases List.mem_append.mp h with h | h
    · exact .inr ⟨l, List.mem_cons_self, h⟩
    rcases List.mem_append.mp h with h | h
    · exact .inl h
    · rcases joinL_mem h with h | ⟨m, hm, h⟩
      · exact .inl h
      · exact .inr ⟨m, List.mem_cons_of_mem _ hm, h⟩
theorem joinL_count : ∀ {L : List Tx}, (∀ l ∈ L, 10 ∉ l) → (joinL [10] L).count 10 ≤ L.length
  | [], _ => Nat.zero_le _
  | [l], h => by
    show l.count 10 ≤ 1
    rw [List.count_eq_zero_of_not_mem (h l List.mem_cons_self)]
    exact Nat.zero_le _
  | l :: q :: r, h => by
    have ih := joinL_count (L := q :: r) fun m hm => h m (List.mem_cons_of_mem _ hm)
    show (l ++ ([10] ++ joinL [10] (q :: r))).count 10 ≤ (q :: r).length + 1
    rw [List.count_append, List.count_append, List.count_eq_zero_of_not_mem (h l List.mem_cons_self), show ([10] : Tx).count 10 = 1 from rfl]
    omega
theorem sum_app {a b : List Nat} : (a ++ b).sum = a.sum + b.sum := by
  induction a with
  | nil => simp
  | cons x a ih => rw [List.cons_append, List.sum_cons, List.sum_cons, ih]; omega
theorem joinL_bt {n : Nat} {L : List Tx} (h : ∀ l ∈ L, (∀ c ∈ l, c < 128) ∧ 10 ∉ l) (hs : (L.map (·.length)).sum ≤ n) : Bt (n + L.length) L.length (joinL [10] L) := ⟨fun c hc => by
  rcases joinL_mem hc with hc | ⟨l, hl, hc⟩
  · rw [List.mem_singleton.mp hc]; decide
  · exact (h l hl).1 c hc, by
  have := joinL_len (p := [10]) L
  rw [List.length_singleton] at this
  omega, joinL_count fun l hl => (h l hl).2⟩
theorem cut_sum {c : Nat} : ∀ v : Tx, ((cutAt c v).map (·.length)).sum ≤ v.length
  | [] => by simp [cutAt]
  | x :: v => by
    have ih := cut_sum (c := c) v
    by_cases h : x = c
    · subst h
      rw [cutAt_self, List.map_cons, List.sum_cons, List.length_cons]
      show 0 + _ ≤ _
      omega
    · obtain ⟨p, ps, e1, e2⟩ := cutAt_other (v := v) h
      rw [e1, List.map_cons, List.sum_cons] at ih
      rw [e2, List.map_cons, List.sum_cons, List.length_cons, List.length_cons]
      omega
theorem sum_le_sub {f : Tx → Nat} : ∀ {a b : List Tx}, a.Sublist b → (a.map f).sum ≤ (b.map f).sum := fun h => by
  induction h with
  | slnil => exact Nat.le_refl _
  | cons x _ ih => rw [List.map_cons, List.sum_cons]; omega
  | cons_cons x _ ih => rw [List.map_cons, List.map_cons, List.sum_cons, List.sum_cons]; omega
section
variable {v : Tx} {n m : Nat}
theorem Bt.parts (h : Bt n m v) : ∀ l ∈ cutAt 10 v, ((∀ c ∈ l, c < 128) ∧ 10 ∉ l) ∧ l.length ≤ n := fun l hl => ⟨⟨fun c hc => h.sign c ((cutAt_no v l hl).2.1 c hc), (cutAt_no v l hl).1⟩, Nat.le_trans (cutAt_no v l hl).2.2 h.len⟩
theorem Bt.lines (h : Bt n m v) : (cutAt 10 v).length ≤ m + 1 := by
  rw [cutAt_len]
  have := h.few
  omega
/-- the words of a line turned round -/
theorem turned_ok {l : Tx} (h : (∀ c ∈ l, c < 128) ∧ 10 ∉ l) : ((∀ c ∈ joinL [32] (cutAt 32 l).reverse, c < 128) ∧ 10 ∉ joinL [32] (cutAt 32 l).reverse) ∧ (joinL [32] (cutAt 32 l).reverse).length ≤ l.length + l.length + 1 ∧ (((cutAt 32 l).reverse).map (·.length)).sum + (cutAt 32 l).reverse.length * 1 ≤ l.length + l.length + 1 := by
  have hm : ∀ x ∈ joinL [32] (cutAt 32 l).reverse, x = 32 ∨ x ∈ l := fun x hx => by
    rcases joinL_mem hx with hx | ⟨p, hp, hx⟩
    · exact .inl (List.mem_singleton.mp hx)
    · exact .inr ((cutAt_no l p (List.mem_reverse.mp hp)).2.1 x hx)
  have hs := cut_sum (c := 32) l
  have hc := cutAt_len (c := 32) l
  have hk := List.count_le_length (a := 32) (l := l)
  have e : (((cutAt 32 l).reverse).map (·.length)).sum = ((cutAt 32 l).map (·.length)).sum := by
    rw [List.map_reverse]
    exact (List.reverse_perm _).sum_nat
  have tot : (((cutAt 32 l).reverse).map (·.length)).sum + (cutAt 32 l).reverse.length * 1 ≤ l.length + l.length + 1 := by
    rw [e, List.length_reverse, hc]
    omega
  refine ⟨⟨fun c hc => ?_, fun z => ?_⟩, Nat.le_trans (joinL_len _) tot, tot⟩
  · rcases hm c hc with rfl | hc
    · decide
    · exact h.1 c hc
  · rcases hm 10 z with z | z
    · cases z
    · exact h.2 z
theorem Bt.turned (h : Bt n m v) {i : Nat} {l : Tx} (hi : l ∈ cutAt 10 v) : ((((cutAt 10 v).take i ++ [joinL [32] (cutAt 32 l).reverse] ++ (cutAt 10 v).drop (i + 1)).map (·.length)).sum ≤ 4 * n + 1 ∧ ((cutAt 10 v).take i ++ [joinL [32] (cutAt 32 l).reverse] ++ (cutAt 10 v).drop (i + 1)).length ≤ 2 * m + 3) ∧ Bt (4 * n + 1 + (2 * m + 3)) (2 * m + 3) (joinL [10] ((cutAt 10 v).take i ++ [joinL [32] (cutAt 32 l).reverse] ++ (cutAt 10 v).drop (i + 1))) := by
  have hp := h.parts
  have hs := cut_sum (c := 10) v
  have hl := h.lines
  have hn := h.len
  have tk := turned_ok (hp l hi).1
  have ll := (hp l hi).2
  have s1 := sum_le_sub (f := fun l => l.length) (List.take_sublist i (cutAt 10 v))
  have s2 := sum_le_sub (f := fun l => l.length) (List.drop_sublist (i + 1) (cutAt 10 v))
  have sum : (((cutAt 10 v).take i ++ [joinL [32] (cutAt 32 l).reverse] ++ (cutAt 10 v).drop (i + 1)).map (·.length)).sum ≤ 4 * n + 1 := by
    rw [List.map_append, List.map_append, sum_app, sum_app, List.map_singleton, List.sum_singleton]
    have := tk.2.1
    omega
  have len : ((cutAt 10 v).take i ++ [joinL [32] (cutAt 32 l).reverse] ++ (cutAt 10 v).drop (i + 1)).length ≤ 2 * m + 3 := by
    rw [List.length_append, List.length_append, List.length_take, List.length_drop, List.length_singleton]
    omega
  have b := joinL_bt (fun p hp' => ?_) sum
  · exact ⟨⟨sum, len⟩, b.sign, Nat.le_trans b.len (by omega), Nat.le_trans b.few len⟩
  · rcases List.mem_append.mp hp' with hp' | hp'
    · rcases List.mem_append.mp hp' with hp' | hp'
      · exact (hp p (List.mem_of_mem_take hp')).1
      · rw [List.mem_singleton.mp hp']; exact tk.1
    · exact (hp p (List.mem_of_mem_drop hp')).1
end
/-! ### slices of texts, parts of lists -/
section
variable {e e1 e2 e3 : List Sl → R D} {r : List Sl}
end
end DL
/-! Placing greedily: what may stand, may stand later, too (for order_for, order_with). -/
namespace DL
section
variable {α : Type} [DecidableEq α]
variable {V : List α} {up : α → List α} {may : α → List α → Bool}
end
end DL
/-! Open and sure settings, raised facts, orders that fit them (plain Lean; moved out of the pieces of k23, k29). -/
namespace TP
open DL
/-- settings of a part that can be peaks, that surely are -/
noncomputable def openIn (F : List Fa) (w part : List Tx) : List Tx := (sets part).filter fun x => !(beside part x).any fun y => decide (y ∈ abv F w x)
/-- facts, and the neighbours of some settings told to be worse -/
def rsd (w : List Tx) (F : List Fa) (L : List Tx) : List Fa := F ++ L.flatMap fun l => (beside w l).map fun y => (y, l)
theorem mem_rsd {w : List Tx} {F : List Fa} {L : List Tx} {f : Fa} : f ∈ rsd w F L ↔ f ∈ F ∨ (f.2 ∈ L ∧ f.1 ∈ beside w f.2) := by
  unfold rsd
  rw [List.mem_append, List.mem_flatMap]
  constructor
  · rintro (h | ⟨l, hl, h⟩)
    · exact .inl h
    · obtain ⟨y, hy, rfl⟩ := List.mem_map.mp h
      exact .inr ⟨hl, hy⟩
  · rintro (h | ⟨h1, h2⟩)
    · exact .inl h
    · exact .inr ⟨f.2, h1, List.mem_map.mpr ⟨f.1, h2, rfl⟩⟩
theorem lt_total (x y : Tx) : x < y ∨ x = y ∨ y < x := by
  by_cases h : x < y
  · exact .inl h
  · by_cases h2 : y < x
    · exact .inr (.inr h2)
    · exact .inr (.inl (ltN_anti (by rw [ltN_eq, decide_eq_false h]) (by rw [ltN_eq, decide_eq_false h2])))
/-! ### two peaks in a part -/
def Two (s : List Int) (F : List Fa) (room : List Tx) : Prop := ∃ a ∈ openIn F (full s) room, ∃ b ∈ openIn F (full s) room, a < b ∧ dif a b ≠ 1 ∧ ∃ m : List Tx, m.Perm (sets (full s)) ∧ Agr m (rsd room F [a, b])
end TP
/-! Boards called otherwise: what facts tell goes along (plain Lean). -/
namespace TP
open DL
/-- settings called otherwise: neighbours stay neighbours -/
structure Iso (s s2 : List Int) (φ : Tx → Tx) : Prop where
  to : ∀ x ∈ sets (full s), φ x ∈ sets (full s2)
  inj : ∀ x ∈ sets (full s), ∀ y ∈ sets (full s), φ x = φ y → x = y
  sur : ∀ z ∈ sets (full s2), ∃ x ∈ sets (full s), φ x = z
  dif : ∀ x ∈ sets (full s), ∀ y ∈ sets (full s), dif (φ x) (φ y) = 1 ↔ dif x y = 1
theorem Iso.back {s s2 : List Int} {φ : Tx → Tx} (h : Iso s s2 φ) : ∃ ψ, Iso s2 s ψ ∧ (∀ x ∈ sets (full s), ψ (φ x) = x) ∧ ∀ z ∈ sets (full s2), φ (ψ z) = z := by
  classical
  let ψ : Tx → Tx := fun z => if k : z ∈ sets (full s2) then Classical.choose (h.sur z k) else z
  have hψ : ∀ z ∈ sets (full s2), ψ z ∈ sets (full s) ∧ φ (ψ z) = z := fun z k => by
    show (if k : z ∈ sets (full s2) then Classical.choose (h.sur z k) else z) ∈ _ ∧ φ (if k : z ∈ sets (full s2) then Classical.choose (h.sur z k) else z) = z
    rw [dif_pos k]
    exact Classical.choose_spec (h.sur z k)
  have hb : ∀ x ∈ sets (full s), ψ (φ x) = x := fun x hx => by
    obtain ⟨a, b⟩ := hψ (φ x) (h.to x hx)
    exact h.inj _ a _ hx b
  refine ⟨ψ, ⟨fun z hz => (hψ z hz).1, fun x hx y hy e => ?_, fun x hx => ⟨φ x, h.to x hx, hb x hx⟩, fun x hx y hy => ?_⟩, hb, fun z hz => (hψ z hz).2⟩
  · rw [← (hψ x hx).2, ← (hψ y hy).2, e]
  · rw [← h.dif _ (hψ x hx).1 _ (hψ y hy).1, (hψ x hx).2, (hψ y hy).2]
/-- facts called otherwise -/
structure IsoF (s s2 : List Int) (φ : Tx → Tx) (F F2 : List Fa) : Prop where
  iso : Iso s s2 φ
  mem : ∀ f ∈ F, f.1 ∈ sets (full s) ∧ f.2 ∈ sets (full s)
  to : ∀ f ∈ F, (φ f.1, φ f.2) ∈ F2
  sur : ∀ g ∈ F2, ∃ f ∈ F, g = (φ f.1, φ f.2)
theorem IsoF.back {s s2 : List Int} {φ : Tx → Tx} {F F2 : List Fa} (h : IsoF s s2 φ F F2) : ∃ ψ, IsoF s2 s ψ F2 F ∧ (∀ x ∈ sets (full s), ψ (φ x) = x) ∧ ∀ z ∈ sets (full s2), φ (ψ z) = z := by
  obtain ⟨ψ, hi, h1, h2⟩ := h.iso.back
  refine ⟨ψ, ⟨hi, fun g hg => ?_, fun g hg => ?_, fun f hf => ?_⟩, h1, h2⟩
  · obtain ⟨f, hf, rfl⟩ := h.sur g hg
    exact ⟨h.iso.to _ (h.mem f hf).1, h.iso.to _ (h.mem f hf).2⟩
  · obtain ⟨f, hf, rfl⟩ := h.sur g hg
    dsimp only
    rw [h1 _ (h.mem f hf).1, h1 _ (h.mem f hf).2]
    exact hf
  · refine ⟨_, h.to f hf, ?_⟩
    dsimp only
    rw [h1 _ (h.mem f hf).1, h1 _ (h.mem f hf).2]
variable {s s2 : List Int} {φ : Tx → Tx} {F F2 : List Fa}
theorem IsoF.reach (h : IsoF s s2 φ F F2) {x y : Tx} (r : Reach F x y) : Reach F2 (φ x) (φ y) := by
  induction r with
  | refl => exact .refl
  | step _ hf ih => exact .step ih (h.to _ hf)
theorem IsoF.reach_iff (h : IsoF s s2 φ F F2) {x y : Tx} (hx : x ∈ sets (full s)) (hy : y ∈ sets (full s)) : Reach F2 (φ x) (φ y) ↔ Reach F x y := by
  obtain ⟨ψ, hb, h1, h2⟩ := h.back
  refine ⟨fun r => ?_, h.reach⟩
  have := hb.reach r
  rwa [h1 x hx, h1 y hy] at this
theorem IsoF.abv (h : IsoF s s2 φ F F2) {x y : Tx} (hx : x ∈ sets (full s)) (hy : y ∈ sets (full s)) : φ y ∈ abv F2 (full s2) (φ x) ↔ y ∈ abv F (full s) x := by
  rw [mem_abv, mem_abv, h.reach_iff hx hy]
  exact ⟨fun ⟨a, b, c⟩ => ⟨hy, fun e => b (by rw [e]), c⟩, fun ⟨a, b, c⟩ => ⟨h.iso.to y hy, fun e => b (h.iso.inj _ hy _ hx e), c⟩⟩
/-- parts called otherwise -/
structure IsoR (s s2 : List Int) (φ : Tx → Tx) (room room2 : List Tx) : Prop where
  a : IsPart s room
  b : IsPart s2 room2
  iff : ∀ x ∈ sets (full s), φ x ∈ sets room2 ↔ x ∈ sets room
variable {room room2 : List Tx}
theorem IsoR.whole (h : Iso s s2 φ) : IsoR s s2 φ (full s) (full s2) := ⟨isPart_full, isPart_full, fun x hx => ⟨fun _ => hx, fun _ => h.to x hx⟩⟩
theorem IsoR.back (h : IsoR s s2 φ room room2) {ψ : Tx → Tx} (hi : Iso s2 s ψ) (h2 : ∀ z ∈ sets (full s2), φ (ψ z) = z) : IsoR s2 s ψ room2 room := ⟨h.b, h.a, fun z hz => by rw [← h.iff _ (hi.to z hz), h2 z hz]⟩
theorem _root_.DL.IsPart.sub' {s : List Int} {room : List Tx} (h : IsPart s room) {x : Tx} (hx : x ∈ sets room) : x ∈ sets (full s) := mem_sets.mpr (h.fits (mem_sets.mp hx))
theorem IsoR.beside (h : IsoR s s2 φ room room2) (hi : Iso s s2 φ) {x y : Tx} (hx : x ∈ sets room) (hy : y ∈ sets (full s)) : φ y ∈ beside room2 (φ x) ↔ y ∈ beside room x := by
  have hxv := h.a.sub' hx
  rw [mem_beside_fits (mem_sets.mp hx), mem_beside_fits (mem_sets.mp ((h.iff x hxv).mpr hx)), ← mem_sets, ← mem_sets, h.iff y hy, hi.dif y hy x hxv]
theorem mem_open {s : List Int} {room : List Tx} {F : List Fa} {x : Tx} : x ∈ openIn F (full s) room ↔ x ∈ sets room ∧ ∀ y ∈ beside room x, y ∉ abv F (full s) x := by
  unfold openIn
  rw [List.mem_filter]
  simp only [Bool.not_eq_true', List.any_eq_false, decide_eq_true_eq]
theorem beside_in {s : List Int} {room : List Tx} (h : IsPart s room) {x y : Tx} (hx : x ∈ sets room) (hy : y ∈ beside room x) : y ∈ sets (full s) := mem_sets.mpr (h.fits ((mem_beside_fits (mem_sets.mp hx)).mp hy).1)
theorem IsoF.open1 (h : IsoF s s2 φ F F2) (hr : IsoR s s2 φ room room2) {x : Tx} (hx : x ∈ openIn F (full s) room) : φ x ∈ openIn F2 (full s2) room2 := by
  obtain ⟨h1, h2⟩ := mem_open.mp hx
  have hv := hr.a.sub' h1
  have hx2 := (hr.iff x hv).mpr h1
  refine mem_open.mpr ⟨hx2, fun z hz => ?_⟩
  obtain ⟨y, hy, rfl⟩ := h.iso.sur z (beside_in hr.b hx2 hz)
  rw [h.abv hv hy]
  exact h2 y ((hr.beside h.iso h1 hy).mp hz)
theorem nodup_map_on {α β : Type} {f : α → β} : ∀ {l : List α}, l.Nodup → (∀ x ∈ l, ∀ y ∈ l, f x = f y → x = y) → (l.map f).Nodup
  | [], _, _ => List.nodup_nil
  | a :: l, h, k => by
    obtain ⟨h1, h2⟩ := List.nodup_cons.mp h
    refine List.nodup_cons.mpr ⟨fun z => ?_, nodup_map_on h2 fun x hx y hy => k x (List.mem_cons_of_mem _ hx) y (List.mem_cons_of_mem _ hy)⟩
    obtain ⟨y, hy, e⟩ := List.mem_map.mp z
    exact h1 (k y (List.mem_cons_of_mem _ hy) a List.mem_cons_self e ▸ hy)
/-! ### orders called otherwise -/
theorem idx_moved : ∀ {o : List Tx} {x : Tx}, (∀ a ∈ o, ∀ b ∈ x :: o, φ a = φ b → a = b) → idx (o.map φ) (φ x) = idx o x
  | [], x, _ => rfl
  | a :: o, x, h => by
    unfold idx
    rw [List.map_cons, List.idxOf_cons, List.idxOf_cons]
    by_cases e : a = x
    · subst e
      rw [beq_self_eq_true, beq_self_eq_true]; rfl
    · have n1 : φ a ≠ φ x := fun z => e (h a List.mem_cons_self x List.mem_cons_self z)
      rw [beq_false_of_ne e, beq_false_of_ne n1]
      have := idx_moved (o := o) (x := x) fun c hc b hb => h c (List.mem_cons_of_mem _ hc) b (by
        rcases List.mem_cons.mp hb with hb | hb
        · rw [hb]; exact List.mem_cons_self
        · exact List.mem_cons_of_mem _ (List.mem_cons_of_mem _ hb))
      unfold idx at this
      rw [cond_false, cond_false, this]
theorem Iso.idx (h : Iso s s2 φ) {m : List Tx} (hm : m.Perm (sets (full s))) {x : Tx} (hx : x ∈ sets (full s)) : idx (m.map φ) (φ x) = idx m x :=
  idx_moved fun a ha b hb => h.inj a (hm.mem_iff.mp ha) b (by
    rcases List.mem_cons.mp hb with hb | hb
    · rw [hb]; exact hx
    · exact hm.mem_iff.mp hb)
theorem Iso.perm (h : Iso s s2 φ) {m : List Tx} (hm : m.Perm (sets (full s))) : (m.map φ).Perm (sets (full s2)) := by
  have hn := (asc_sets (full_asc (s := s))).nodup
  have hn2 := (asc_sets (full_asc (s := s2))).nodup
  refine (List.perm_ext_iff_of_nodup (nodup_map_on (hm.nodup_iff.mpr hn) fun x hx y hy => h.inj x (hm.mem_iff.mp hx) y (hm.mem_iff.mp hy)) hn2).mpr fun z => ?_
  rw [List.mem_map]
  constructor
  · rintro ⟨x, hx, rfl⟩; exact h.to x (hm.mem_iff.mp hx)
  · intro hz
    obtain ⟨x, hx, rfl⟩ := h.sur z hz
    exact ⟨x, hm.mem_iff.mpr hx, rfl⟩
theorem IsoF.rsd (h : IsoF s s2 φ F F2) (hr : IsoR s s2 φ room room2) {L L2 : List Tx} (hL : ∀ x ∈ L, x ∈ sets room) (h2 : ∀ z ∈ L2, ∃ x ∈ L, φ x = z) {m : List Tx} (hm : m.Perm (sets (full s))) (hA : Agr m (rsd room F L)) : Agr (m.map φ) (rsd room2 F2 L2) := fun g hg => by
  rcases mem_rsd.mp hg with k | ⟨k1, k2⟩
  · obtain ⟨f, hf, rfl⟩ := h.sur g k
    dsimp only
    rw [h.iso.idx hm (h.mem f hf).1, h.iso.idx hm (h.mem f hf).2]
    exact hA f (mem_rsd.mpr (.inl hf))
  · obtain ⟨g1, g2⟩ := g
    dsimp only at k1 k2 ⊢
    obtain ⟨x, hx, rfl⟩ := h2 g2 k1
    have mx := hL x hx
    obtain ⟨y, hy, rfl⟩ := h.iso.sur g1 (beside_in hr.b ((hr.iff x (hr.a.sub' mx)).mpr mx) k2)
    rw [h.iso.idx hm hy, h.iso.idx hm (hr.a.sub' mx)]
    exact hA (y, x) (mem_rsd.mpr (.inr ⟨hx, (hr.beside h.iso mx hy).mp k2⟩))
theorem IsoF.two1 (h : IsoF s s2 φ F F2) (hr : IsoR s s2 φ room room2) (ht : Two s F room) : Two s2 F2 room2 := by
  obtain ⟨a, ha, b, hb, hlt, hd, m, hm, hA⟩ := ht
  have av := hr.a.sub' (mem_open.mp ha).1
  have bv := hr.a.sub' (mem_open.mp hb).1
  have nd : dif (φ a) (φ b) ≠ 1 := fun z => hd ((h.iso.dif a av b bv).mp z)
  have inR : ∀ x ∈ [a, b], x ∈ sets room := fun x hx => by
    have : x = a ∨ x = b := by simpa using hx
    rcases this with rfl | rfl
    · exact (mem_open.mp ha).1
    · exact (mem_open.mp hb).1
  have hl : (φ a).length = (φ b).length := by rw [(mem_sets.mp (h.iso.to a av)).len, (mem_sets.mp (h.iso.to b bv)).len]
  rcases lt_total (φ a) (φ b) with k | k | k
  · exact ⟨φ a, h.open1 hr ha, φ b, h.open1 hr hb, k, nd, m.map φ, h.iso.perm hm, h.rsd hr inR (fun z hz => by
      have : z = φ a ∨ z = φ b := by simpa using hz
      rcases this with rfl | rfl
      · exact ⟨a, by simp, rfl⟩
      · exact ⟨b, by simp, rfl⟩) hm hA⟩
  · have := h.iso.inj a av b bv k
    rw [this] at hlt
    exact absurd hlt (List.lt_irrefl _)
  · exact ⟨φ b, h.open1 hr hb, φ a, h.open1 hr ha, k, fun z => nd (by rw [dif_comm hl]; exact z), m.map φ, h.iso.perm hm, h.rsd hr inR (fun z hz => by
      have : z = φ b ∨ z = φ a := by simpa using hz
      rcases this with rfl | rfl
      · exact ⟨b, by simp, rfl⟩
      · exact ⟨a, by simp, rfl⟩) hm hA⟩
theorem IsoF.two (h : IsoF s s2 φ F F2) (hr : IsoR s s2 φ room room2) : Two s2 F2 room2 ↔ Two s F room := by
  obtain ⟨ψ, hb, h1, h2⟩ := h.back
  exact ⟨hb.two1 (hr.back hb.iso h2), h.two1 hr⟩
end TP
/-! Switches in another order, their stands exchanged: a board called otherwise (plain Lean). -/
namespace TP
open DL
structure TabOk (s : List Int) (T : List Tx) : Prop where
  len : T.length = s.length
  pm : ∀ k, k < s.length → (T.getD k []).Perm (standsOf (s.getD k 0))
section
variable {s : List Int} {T : List Tx}
end
end TP
/-! Placing for the peaks of any part (plain Lean). -/
namespace TP
open DL
end TP
/-! What an urn's and a bag's cells keep. -/
namespace DL
/-- an urn: the third cell counts its draws, at most as many as the state says -/
def jpU : JP := fun n d s c => 0 ≤ c ∧ c ≤ n
theorem jpU_0 {m : Int} {n : Nat} : JpSet jpU 0 m n n := ⟨fun a b c h => h, fun a b c h => h⟩
theorem jpU_1 {m : Int} {n : Nat} : JpSet jpU 1 m n n := ⟨fun a b c h => h, fun a b c h => h⟩
theorem jpU_2 {m : Int} {n k : Nat} (h0 : 0 ≤ m) (h1 : m ≤ k) (hk : n ≤ k) : JpSet jpU 2 m n k := ⟨fun a b c h => ⟨h.1, by have := h.2; omega⟩, fun a b c h => ⟨h0, h1⟩⟩
end DL
/-! A shortest row by any table of next settings, found in waves; steps counted layer by layer (plain Lean). -/
namespace TP
open DL
/-- next settings that rise along an order -/
def Up (o : List Tx) (nx : Tx → List Tx) : Prop := ∀ x ∈ o, ∀ e ∈ nx x, e ∈ o ∧ idx o x < idx o e
theorem Up.pth {o : List Tx} {nx : Tx → List Tx} {b : Tx} (h : Up o nx) {r : List Tx} (hb : b ∈ o) (hr : Pth nx b r) : endOf r ∈ o ∧ r.length ≤ idx o (endOf r) + 1 ∧ ∀ x ∈ r, x ∈ o := by
  induction hr with
  | one => exact ⟨hb, by simp, fun x hx => by rw [List.mem_singleton.mp hx]; exact hb⟩
  | snoc h1 h2 ih =>
    obtain ⟨i1, i2, i3⟩ := ih
    obtain ⟨j1, j2⟩ := h _ i1 _ h2
    rw [endOf_snoc]
    refine ⟨j1, by rw [List.length_append, List.length_singleton]; omega, fun x hx => ?_⟩
    rcases List.mem_append.mp hx with hx | hx
    · exact i3 x hx
    · rw [List.mem_singleton.mp hx]; exact j1
theorem Fc.up {w o : List Tx} {F : List Fa} (h : Fc w o F) : Up o (upsF F) := fun x _ e he => ⟨(h.mem _ (mem_upsF.mp he)).2, h.agr _ (mem_upsF.mp he)⟩
theorem reach_pth {F : List Fa} {a b : Tx} : Reach F a b ↔ ∃ q, Pth (upsF F) a q ∧ endOf q = b := by
  constructor
  · intro h
    induction h with
    | refl => exact ⟨[a], .one, rfl⟩
    | step _ h2 ih =>
      obtain ⟨q, h3, h4⟩ := ih
      exact ⟨_, .snoc h3 (mem_upsF.mpr (h4 ▸ h2)), endOf_snoc⟩
  · rintro ⟨q, h, rfl⟩
    induction h with
    | one => exact .refl
    | snoc h1 h2 ih => rw [endOf_snoc]; exact .step ih (mem_upsF.mp h2)
section
variable {nx : Tx → List Tx} {o : List Tx} {b g : Tx} {k : Nat} {R L : List (List Tx)} {S S1 Dn : List Tx}
structure BfsN (nx : Tx → List Tx) (o : List Tx) (b g : Tx) (k : Nat) (R : List (List Tx)) (S Dn : List Tx) : Prop where
  row : ∀ r ∈ R, Pth nx b r ∧ r.length = k + 1
  seen : ∀ x, x ∈ S ↔ x ∈ Dn ∨ ∃ r ∈ R, endOf r = x
  goal : g ∉ Dn
  shut : ∀ x ∈ Dn, ∀ e ∈ nx x, e ∈ S
  start : b ∈ S
  far : ∀ p, Pth nx b p → p.length ≤ k → endOf p ∈ Dn
  nd : S.Nodup
  sub : ∀ x ∈ S, x ∈ o
structure WaveN (nx : Tx → List Tx) (o : List Tx) (b g : Tx) (k : Nat) (S : List Tx) (p : List (List Tx)) (S1 : List Tx) (L : List (List Tx)) : Prop where
  seen : ∀ x, x ∈ S1 ↔ x ∈ S ∨ ∃ r ∈ L, endOf r = x
  row : ∀ r ∈ L, Pth nx b r ∧ r.length = k + 2
  done : ∀ r ∈ p, endOf r ≠ g ∧ ∀ e ∈ nx (endOf r), e ∈ S1
  nd : S1.Nodup
  sub : ∀ x ∈ S1, x ∈ o
  few : L.length ≤ S1.length
structure ShortN (nx : Tx → List Tx) (o : List Tx) (b g : Tx) (x : List Tx) : Prop where
  pth : Pth nx b x
  fin : endOf x = g
  least : ∀ q, Pth nx b q → endOf q = g → x.length ≤ q.length
theorem BfsN.first (hb : b ∈ o) : BfsN nx o b g 0 [[b]] [b] [] where
  row r hr := by rw [List.mem_singleton.mp hr]; exact ⟨.one, rfl⟩
  seen x := by simp [endOf, eq_comm]
  goal h := by cases h
  shut x h := by cases h
  start := List.mem_singleton_self _
  far p h hl := by have := List.length_pos_iff.mpr h.ne; omega
  nd := by simp
  sub x hx := by rw [List.mem_singleton.mp hx]; exact hb
theorem BfsN.wave (h : BfsN nx o b g k R S Dn) : WaveN nx o b g k S [] S [] where
  seen x := by simp
  row r hr := by cases hr
  done r hr := by cases hr
  nd := h.nd
  sub := h.sub
  few := Nat.zero_le _
theorem WaveN.add {p : List (List Tx)} (ln : Up o nx) (hb : b ∈ o) (h : WaveN nx o b g k S p S1 L) {x : List Tx} {e : Tx} (hx : Pth nx b x) (hl : x.length = k + 1) (he : e ∈ nx (endOf x)) (hn : e ∉ S1) : WaveN nx o b g k S p (S1 ++ [e]) (L ++ [x ++ [e]]) where
  seen y := by
    rw [List.mem_append, h.seen, List.mem_singleton]
    constructor
    · rintro ((h1 | ⟨r, h1, h2⟩) | h1)
      · exact .inl h1
      · exact .inr ⟨r, List.mem_append_left _ h1, h2⟩
      · exact .inr ⟨x ++ [e], List.mem_append_right _ (List.mem_singleton_self _), by rw [endOf_snoc, h1]⟩
    · rintro (h1 | ⟨r, h1, h2⟩)
      · exact .inl (.inl h1)
      · rcases List.mem_append.mp h1 with h3 | h3
        · exact .inl (.inr ⟨r, h3, h2⟩)
        · rw [List.mem_singleton.mp h3, endOf_snoc] at h2
          exact .inr h2.symm
  row r hr := by
    rcases List.mem_append.mp hr with h3 | h3
    · exact h.row r h3
    · rw [List.mem_singleton.mp h3]
      exact ⟨.snoc hx he, by rw [List.length_append, hl]; rfl⟩
  done r hr := ⟨(h.done r hr).1, fun e he => List.mem_append_left _ ((h.done r hr).2 e he)⟩
  nd := by
    rw [List.nodup_append]
    exact ⟨h.nd, by simp, fun a ha c hc e2 => hn (by rw [List.mem_singleton.mp hc] at e2; exact e2 ▸ ha)⟩
  sub y hy := by
    rcases List.mem_append.mp hy with h3 | h3
    · exact h.sub y h3
    · rw [List.mem_singleton.mp h3]; exact (ln _ (ln.pth hb hx).1 _ he).1
  few := by
    rw [List.length_append, List.length_append]
    exact Nat.add_le_add h.few (Nat.le_refl _)
theorem WaveN.next {p : List (List Tx)} (h : WaveN nx o b g k S p S1 L) {x : List Tx} (hg : endOf x ≠ g) (hu : ∀ e ∈ nx (endOf x), e ∈ S1) : WaveN nx o b g k S (p ++ [x]) S1 L where
  seen := h.seen
  row := h.row
  done r hr := by
    rcases List.mem_append.mp hr with h3 | h3
    · exact h.done r h3
    · rw [List.mem_singleton.mp h3]; exact ⟨hg, hu⟩
  nd := h.nd
  sub := h.sub
  few := h.few
theorem WaveN.bfs (h : BfsN nx o b g k R S Dn) (hw : WaveN nx o b g k S R S1 L) : BfsN nx o b g (k + 1) L S1 S where
  row := hw.row
  seen := hw.seen
  goal hg := by
    rcases (h.seen g).mp hg with h1 | ⟨r, h1, h2⟩
    · exact h.goal h1
    · exact (hw.done r h1).1 h2
  shut x hx e he := by
    rcases (h.seen x).mp hx with h1 | ⟨r, h1, rfl⟩
    · exact (hw.seen e).mpr (.inl (h.shut x h1 e he))
    · exact (hw.done r h1).2 e he
  start := (hw.seen b).mpr (.inl h.start)
  far p hp hl := by
    cases hp with
    | one => exact h.start
    | snoc h1 h2 =>
      rename_i r e
      rw [endOf_snoc]
      rw [List.length_append, List.length_singleton] at hl
      exact h.shut _ (h.far r h1 (by omega)) e h2
  nd := hw.nd
  sub := hw.sub
theorem BfsN.found (h : BfsN nx o b g k R S Dn) {x : List Tx} (hx : x ∈ R) (he : endOf x = g) : ShortN nx o b g x where
  pth := (h.row x hx).1
  fin := he
  least q hq hg := by
    rw [(h.row x hx).2]
    by_cases hl : q.length ≤ k
    · exact absurd (hg ▸ h.far q hq hl) h.goal
    · omega
theorem BfsN.none (h : BfsN nx o b g k [] S Dn) {q : List Tx} (hq : Pth nx b q) : endOf q ≠ g := by
  have hs : ∀ x, x ∈ S → x ∈ Dn := fun x hx => by
    rcases (h.seen x).mp hx with h1 | ⟨r, h1, _⟩
    · exact h1
    · cases h1
  have : endOf q ∈ Dn := by
    induction hq with
    | one => exact hs _ h.start
    | snoc h1 h2 ih => rw [endOf_snoc]; exact hs _ (h.shut _ ih _ h2)
  exact fun e => h.goal (e ▸ this)
theorem BfsN.short (ln : Up o nx) (hb : b ∈ o) (h : BfsN nx o b g k R S Dn) (hne : R ≠ []) : k < o.length := by
  cases R with
  | nil => exact absurd rfl hne
  | cons r R =>
    obtain ⟨h1, h2⟩ := h.row r List.mem_cons_self
    obtain ⟨i1, i2, _⟩ := ln.pth hb h1
    have := idx_lt i1
    omega
end

/-- steps counted: the layer la after k steps, all reached re -/
structure Lay (F : List Fa) (b g : Tx) (k : Nat) (la re : List Tx) : Prop where
  mem : ∀ x ∈ la, ∃ q, Pth (upsF F) b q ∧ q.length = k + 1 ∧ endOf q = x
  all : ∀ q, Pth (upsF F) b q → q.length ≤ k + 1 → endOf q ∈ re
  far : ∀ q, Pth (upsF F) b q → q.length ≤ k → endOf q ∉ la
  goal : ∀ x ∈ re, x ∉ la → x ≠ g
  shut : ∀ x ∈ re, x ∉ la → ∀ e ∈ upsF F x, e ∈ re
  sub : ∀ x ∈ la, x ∈ re
  nd : re.Nodup
theorem Lay.first {F : List Fa} {b g : Tx} : Lay F b g 0 [b] [b] where
  mem x hx := by rw [List.mem_singleton.mp hx]; exact ⟨[b], .one, rfl, rfl⟩
  all q h hl := by
    cases h with
    | one => exact List.mem_singleton_self _
    | snoc h1 h2 =>
      have := List.length_pos_iff.mpr h1.ne
      rw [List.length_append, List.length_singleton] at hl
      omega
  far q h hl := by have := List.length_pos_iff.mpr h.ne; omega
  goal x h1 h2 := absurd h1 h2
  shut x h1 h2 := absurd h1 h2
  sub x h := h
  nd := by simp
theorem Lay.next {F : List Fa} {b g : Tx} {k : Nat} {la re lb : List Tx} (h : Lay F b g k la re) (hg : g ∉ la) (nd : lb.Nodup) (hl : ∀ x, x ∈ lb ↔ (∃ z ∈ la, (z, x) ∈ F) ∧ x ∉ re) : Lay F b g (k + 1) lb (re ++ lb) := by
  have key : ∀ x ∈ re, ∀ e ∈ upsF F x, e ∈ re ++ lb := fun x hx e he => by
    by_cases q : x ∈ la
    · by_cases q2 : e ∈ re
      · exact List.mem_append_left _ q2
      · exact List.mem_append_right _ ((hl e).mpr ⟨⟨x, q, mem_upsF.mp he⟩, q2⟩)
    · exact List.mem_append_left _ (h.shut x hx q e he)
  refine ⟨fun x hx => ?_, fun q hq hn => ?_, fun q hq hn hm => ?_, fun x hx hn => ?_, fun x hx hn e he => ?_, fun x hx => List.mem_append_right _ hx, ?_⟩
  · obtain ⟨⟨z, h1, h2⟩, _⟩ := (hl x).mp hx
    obtain ⟨q, h3, h4, h5⟩ := h.mem z h1
    exact ⟨q ++ [x], .snoc h3 (mem_upsF.mpr (h5 ▸ h2)), by rw [List.length_append, h4]; rfl, endOf_snoc⟩
  · cases hq with
    | one => exact List.mem_append_left _ (h.all [b] .one (by simp))
    | snoc h1 h2 =>
      rw [List.length_append, List.length_singleton] at hn
      rw [endOf_snoc]
      exact key _ (h.all _ h1 (by omega)) _ h2
  · exact ((hl _).mp hm).2 (h.all q hq hn)
  · have hr : x ∈ re := (List.mem_append.mp hx).resolve_right hn
    by_cases q : x ∈ la
    · exact fun e => hg (e ▸ q)
    · exact h.goal x hr q
  · exact key x ((List.mem_append.mp hx).resolve_right hn) e he
  · rw [List.nodup_append]
    exact ⟨h.nd, nd, fun a ha c hc e => ((hl c).mp hc).2 (e ▸ ha)⟩
theorem Lay.found {F : List Fa} {b g : Tx} {k : Nat} {la re : List Tx} (h : Lay F b g k la re) (hg : g ∈ la) : ∃ q, Pth (upsF F) b q ∧ q.length = k + 1 ∧ endOf q = g ∧ ∀ p, Pth (upsF F) b p → endOf p = g → q.length ≤ p.length := by
  obtain ⟨q, h1, h2, h3⟩ := h.mem g hg
  refine ⟨q, h1, h2, h3, fun p hp he => ?_⟩
  by_cases hl : p.length ≤ k
  · exact absurd (he ▸ hg) (h.far p hp hl)
  · omega
theorem Lay.none {F : List Fa} {b g : Tx} {k : Nat} {re : List Tx} (h : Lay F b g k [] re) : ∀ p, Pth (upsF F) b p → endOf p ≠ g := fun p hp => by
  have : endOf p ∈ re := by
    induction hp with
    | one => exact h.all [b] .one (by simp)
    | snoc h1 h2 ih => rw [endOf_snoc]; exact h.shut _ ih (by simp) _ h2
  exact h.goal _ this (by simp)
/-- the sides of a board: pairs of neighbours, the lesser first -/
def sidesOf (w : List Tx) : List Fa := (sets w).flatMap fun x => ((near w x).filter fun y => ltN x y).map fun y => (x, y)
theorem mem_sidesOf {w : List Tx} {f : Fa} : f ∈ sidesOf w ↔ f.1 ∈ sets w ∧ f.2 ∈ near w f.1 ∧ f.1 < f.2 := by
  unfold sidesOf
  rw [List.mem_flatMap]
  constructor
  · rintro ⟨x, hx, h⟩
    obtain ⟨y, hy, rfl⟩ := List.mem_map.mp h
    obtain ⟨h1, h2⟩ := List.mem_filter.mp hy
    rw [ltN_eq, decide_eq_true_iff] at h2
    exact ⟨hx, h1, h2⟩
  · rintro ⟨h1, h2, h3⟩
    exact ⟨f.1, h1, List.mem_map.mpr ⟨f.2, List.mem_filter.mpr ⟨h2, by rw [ltN_eq, decide_eq_true h3]⟩, rfl⟩⟩
end TP
namespace K45
open PySem L2 DL PyProof.Rows
abbrev fl_Board : List Str := ["both"]
abbrev fl_Notes : List Str := ["both"]
def D_STANDS : D := .dic [.inl 2, .inl 3] [(.str "01"), (.str "012")]
def isi_Board : Tag → Option Bool
  | .non => some false
  | .bl => some false
  | .int => some false
  | .str => some false
  | .tup => some false
  | .lst => some false
  | .dic => some false
  | .obj 1 => some true
  | .obj 3 => some false
  | .obj _ => none
  | .exc _ => none
def isi_Notes : Tag → Option Bool
  | .non => some false
  | .bl => some false
  | .int => some false
  | .str => some false
  | .tup => some false
  | .lst => some false
  | .dic => some false
  | .obj 1 => some false
  | .obj 3 => some true
  | .obj _ => none
  | .exc _ => none
def isi_bool : Tag → Option Bool
  | .non => some false
  | .bl => some true
  | .int => some false
  | .str => some false
  | .tup => some false
  | .lst => some false
  | .dic => some false
  | .obj _ => none
  | .exc _ => none
def isi_int : Tag → Option Bool
  | .non => some false
  | .bl => some true
  | .int => some true
  | .str => some false
  | .tup => some false
  | .lst => some false
  | .dic => some false
  | .obj _ => none
  | .exc _ => none
def isi_str : Tag → Option Bool
  | .non => some false
  | .bl => some false
  | .int => some false
  | .str => some true
  | .tup => some false
  | .lst => some false
  | .dic => some false
  | .obj _ => none
  | .exc _ => none
def isi_tuple : Tag → Option Bool
  | .non => some false
  | .bl => some false
  | .int => some false
  | .str => some false
  | .tup => some true
  | .lst => some false
  | .dic => some false
  | .obj _ => none
  | .exc _ => none
/-! _law_pull -/
abbrev N_law_pull : List Str := ["urn", "size", "stirred", "figure"]
def R_law_pull : FS := (sSeq (sIf (fTb (f2 gtD (fJar jpU 1 (fVar 0)) (fC (.int 0)))) (sSeq (sJarDM jpU 0 3 (fVar 1))
    (sRet (fVar 3))) sNext)
    (sSeq (sJar jpU 2 0 (f2 addD (fJar jpU 2 (fVar 0)) (fC (.int 1))))
    (sSeq (sSet 2 (f2 modD (fCa intC (fCons (f2 addD (f2 addD (f2 mulAD (fJar jpU 0 (fVar 0)) (fC (.int 42013))) (f2 mulAD (f2 mulAD (fJar jpU 2 (fVar 0)) (fJar jpU 2 (fVar 0))) (fC (.int 47)))) (fC (.int 29))) fNil)) (fC (.int 2147483179))))
    (sSeq (sJar jpU 0 0 (f2 modD (fCa intC (fCons (f2 addD (f2 mulAD (fVar 2) (f2 addD (fC (.int 26003)) (f2 modD (fCa intC (fCons (fVar 2) fNil)) (fC (.int 4001))))) (fC (.int 31))) fNil)) (fC (.int 2147483171))))
    (sRet (f2 modD (fCa intC (fCons (f2 divD (fJar jpU 0 (fVar 0)) (fC (.int 1024))) fNil)) (fVar 1)))))))
def sp_law_pull : DSp := fun ds Q _ σ => ∃ m : Int, ds = [.jar, .int m] ∧ 0 < m ∧ m < 1073741824 ∧ σ.n < 1000000000 ∧ ∀ (n : Int) (k : Nat), 0 ≤ n → n < m → σ.n ≤ k → k ≤ σ.n + 1 → Q (.int n) ⟨k, σ.cs⟩
/-! _law_one_of -/
abbrev N_law_one_of : List Str := ["urn", "menu"]
def R_law_one_of : FS := (sRet (f2 ixD (fVar 1) (fCall sp_law_pull (fCons (fVar 0) (fCons (fCa lenD (fCons (fVar 1) fNil)) fNil)))))
def sp_law_one_of : DSp := fun ds Q _ σ => ∃ (xs : List D) (d : D), ds = [.jar, d] ∧ (d = .lst xs ∨ d = .tup xs) ∧ xs ≠ [] ∧ xs.length < 1000000 ∧ σ.n < 1000000000 ∧ ∀ d ∈ xs, ∀ k : Nat, σ.n ≤ k → k ≤ σ.n + 1 → Q d ⟨k, σ.cs⟩
/-! _law_mixed -/
abbrev N_law_mixed : List Str := ["urn", "things", "found", "thing"]
def P_law_mixed_0 : FS := (sSetOwn 2 (fLst fNil))
def yP_law_mixed_0 : DL.Env → RS := (ySetOwn 2 (xLst xNil))
theorem lP_law_mixed_0 : CS P_law_mixed_0 yP_law_mixed_0 := (s_setOwn (f_lst f_nil))
def L_law_mixed_0 : FS := (sIns 2 (fCall sp_law_pull (fCons (fVar 0) (fCons (f2 addD (fCa lenD (fCons (fSee 2) fNil)) (fC (.int 1))) fNil))) (fVar 3))
def R_law_mixed : FS := (sSeq P_law_mixed_0
    (sSeq (sFor (fItA (fVar 1)) (gVar 3)
      L_law_mixed_0)
    (sRet (fSee 2))))
def sp_law_mixed : DSp := fun ds Q _ σ => ∃ (xs : List D) (d : D), ds = [.jar, d] ∧ (d = .lst xs ∨ d = .tup xs) ∧ xs.length ≤ 1000 ∧ σ.n < 900000000 ∧ ∀ ys : List D, ys.Perm xs → ∀ k : Nat, σ.n ≤ k → k ≤ σ.n + xs.length → Q (.lst ys) ⟨k, σ.cs⟩
/-! _law_spots -/
abbrev N_law_spots : List Str := ["sizes", "found", "size", "longer", "begun", "stand"]
def R_law_spots : FS := (sSeq (sSetOwn 1 (fLst (fCons (fC (.str "")) fNil)))
    (sSeq (sFor (fItA (fVar 0)) (gVar 2)
      (sSeq (sSetOwn 3 (fLst fNil))
    (sSeq (sOff [1] (sFor (fItA (fVar 1)) (gVar 4)
      (sSetOwn 3 (fAddN (fSee 3) (fL (fLc (fItA (fSlice (fC (.str "012")) fNone (fSome (fVar 2)))) [5] (gVar 5) fYes (f2 addD (fVar 4) (fVar 5))))))))
    (sMove 1 3))))
    (sRetNew 1)))
def x_law_spots : DL.Env → RS := (ySeq (ySetOwn 1 (xLst (xCons (xC (.str "")) xNil)))
    (ySeq (yFor (iA (xVar 0)) (yVar 2)
      (ySeq (ySetOwn 3 (xLst xNil))
    (ySeq (yOff [1] (yFor (iA (xVar 1)) (yVar 4)
      (ySetOwn 3 (xAddN (xSee 3) (xL (xLc (iA (xSlice (xC (.str "012")) oNone (oSome (xVar 2)))) [5] (yVar 5) xYes (x2 addX (xVar 4) (xVar 5))))))))
    (yMove 1 3))))
    (yRetNew 1)))
theorem l_law_spots : CS R_law_spots x_law_spots := (s_seq (s_setOwn (f_lst (f_cons f_c f_nil)))
    (s_seq (s_for (f_itA f_var) t_var
      (s_seq (s_setOwn (f_lst f_nil))
    (s_seq (s_off (s_for (f_itA f_var) t_var
      (s_setOwn (f_addN f_see (f_L (f_lc (f_itA (f_slice f_c f_oNone (f_oSome f_var))) t_var f_yes (f_2 g_add f_var f_var)))))))
    s_move)))
    s_retNew))
def cf_law_spots : List D → R (List D) := cfN N_law_spots 1 x_law_spots
def sp_law_spots : List D → (List D → Pr) → XP → Pr := spNOf cf_law_spots
/-! _law_near -/
abbrev N_law_near : List Str := ["sizes", "one", "found", "at", "stand"]
def R_law_near : FS := (sSeq (sSet 2 (fL (fLst fNil)))
    (sSeq (sFor (fRng1 (fCons (fCa lenD (fCons (fVar 0) fNil)) fNil)) (gVar 3)
      (sSet 2 (fL (fAddN (fVar 2) (fL (fLc (fItA (fSlice (fC (.str "012")) fNone (fSome (f2 ixD (fVar 0) (fVar 3))))) [4] (gVar 4) (fTb (f2 neD (fVar 4) (f2 ixD (fVar 1) (fVar 3)))) (f2 addD (f2 addD (fSlice (fVar 1) fNone (fSome (fVar 3))) (fVar 4)) (fSlice (fVar 1) (fSome (f2 addD (fVar 3) (fC (.int 1)))) fNone))))))))
    (sRet (fL (fCaF sortC (fCons (fVar 2) fNil))))))
def x_law_near : DL.Env → RS := (ySeq (ySet 2 (xL (xLst xNil)))
    (ySeq (yFor (iRng1 (xCons (xCa lenX (xCons (xVar 0) xNil)) xNil)) (yVar 3)
      (ySet 2 (xL (xAddN (xVar 2) (xL (xLc (iA (xSlice (xC (.str "012")) oNone (oSome (x2 ixX (xVar 0) (xVar 3))))) [4] (yVar 4) (xTb (x2 neX (xVar 4) (x2 ixX (xVar 1) (xVar 3)))) (x2 addX (x2 addX (xSlice (xVar 1) oNone (oSome (xVar 3))) (xVar 4)) (xSlice (xVar 1) (oSome (x2 addX (xVar 3) (xC (.int 1)))) oNone))))))))
    (yRet (xL (xCa sortX (xCons (xVar 2) xNil))))))
theorem l_law_near : CS R_law_near x_law_near := (s_seq (s_set (f_L (f_lst f_nil)))
    (s_seq (s_for (f_rng1 (f_cons (f_ca g_len (f_cons f_var f_nil)) f_nil)) t_var
      (s_set (f_L (f_addN f_var (f_L (f_lc (f_itA (f_slice f_c f_oNone (f_oSome (f_2 g_ix f_var f_var)))) t_var (f_tb (f_2 g_ne f_var (f_2 g_ix f_var f_var))) (f_2 g_add (f_2 g_add (f_slice f_var f_oNone (f_oSome f_var)) f_var) (f_slice f_var (f_oSome (f_2 g_add f_var f_c)) f_oNone))))))))
    (s_ret (f_L (f_caF g_sort (f_cons f_var f_nil))))))
def cf_law_near : List D → R D := cfOf N_law_near 2 x_law_near
def sp_law_near : DSp := spOf cf_law_near
/-! _law_sides -/
abbrev N_law_sides : List Str := ["sizes", "found", "one", "two"]
def R_law_sides : FS := (sSeq (sSet 1 (fL (fLst fNil)))
    (sSeq (sFor (fItA (fL (fCallN sp_law_spots (fCons (fVar 0) fNil)))) (gVar 2)
      (sSet 1 (fL (fAddN (fVar 1) (fL (fLc (fItA (fCall sp_law_near (fCons (fVar 0) (fCons (fVar 2) fNil)))) [3] (gVar 3) (fTb (f2 ltD (fVar 2) (fVar 3))) (fTup (fCons (fVar 2) (fCons (fVar 3) fNil)))))))))
    (sRet (fVar 1))))
def x_law_sides : DL.Env → RS := (ySeq (ySet 1 (xL (xLst xNil)))
    (ySeq (yFor (iA (xL (xCallN cf_law_spots (xCons (xVar 0) xNil)))) (yVar 2)
      (ySet 1 (xL (xAddN (xVar 1) (xL (xLc (iA (xCall cf_law_near (xCons (xVar 0) (xCons (xVar 2) xNil)))) [3] (yVar 3) (xTb (x2 ltX (xVar 2) (xVar 3))) (xTup (xCons (xVar 2) (xCons (xVar 3) xNil)))))))))
    (yRet (xVar 1))))
theorem l_law_sides : CS R_law_sides x_law_sides := (s_seq (s_set (f_L (f_lst f_nil)))
    (s_seq (s_for (f_itA (f_L (f_callN (f_cons f_var f_nil)))) t_var
      (s_set (f_L (f_addN f_var (f_L (f_lc (f_itA (f_call (f_cons f_var (f_cons f_var f_nil)))) t_var (f_tb (f_2 g_lt f_var f_var)) (f_tup (f_cons f_var (f_cons f_var f_nil)))))))))
    (s_ret f_var)))
def cf_law_sides : List D → R D := cfOf N_law_sides 1 x_law_sides
def sp_law_sides : DSp := spOf cf_law_sides
/-! _law_seen -/
abbrev N_law_seen : List Str := ["urn", "sizes", "share", "order", "found", "low", "high"]
def P_law_seen_0 : FS := (sAppC 4 (fIf (fTb (f2 ltD (fIxL (fVar 3) (fVar 5)) (fIxL (fVar 3) (fVar 6)))) (fTup (fCons (fVar 5) (fCons (fVar 6) fNil))) (fTup (fCons (fVar 6) (fCons (fVar 5) fNil)))))
def yP_law_seen_0 : DL.Env → RS := (yApp 4 (xIf (xTb (x2 ltX (xIxL (xVar 3) (xVar 5)) (xIxL (xVar 3) (xVar 6)))) (xTup (xCons (xVar 5) (xCons (xVar 6) xNil))) (xTup (xCons (xVar 6) (xCons (xVar 5) xNil)))))
theorem lP_law_seen_0 : CS P_law_seen_0 yP_law_seen_0 := (s_app (f_if (f_tb (f_2 g_lt (f_ixL f_var f_var) (f_ixL f_var f_var))) (f_tup (f_cons f_var (f_cons f_var f_nil))) (f_tup (f_cons f_var (f_cons f_var f_nil)))))
def L_law_seen_0 : FS := (sIf (fTb (f2 ltD (fCall sp_law_pull (fCons (fVar 0) (fCons (fC (.int 4)) fNil))) (fVar 2))) P_law_seen_0 sNext)
def R_law_seen : FS := (sSeq (sParO 3 4 (fCall sp_law_mixed (fCons (fVar 0) (fCons (fL (fCallN sp_law_spots (fCons (fVar 1) fNil))) fNil))) (fLst fNil))
    (sSeq (sFor (fItA (fCall sp_law_mixed (fCons (fVar 0) (fCons (fCall sp_law_sides (fCons (fVar 1) fNil)) fNil)))) (gTupD 2 (gsCons (gVar 5) (gsCons (gVar 6) gsNil)))
      L_law_seen_0)
    (sRet (fCa tupC (fCons (fSee 4) fNil)))))
def sp_law_seen : DSp := fun ds Q _ σ => ∃ (s : List Int) (n : Int), ds = [.jar, .tup (s.map D.int), .int n] ∧ s ∈ spansOf 48 ∧ σ.n < 800000000 ∧ ∀ (o : List TP.Tx) (F : List TP.Fa), o.Perm (TP.sets (full s)) → TP.Fc (full s) o F → ∀ k : Nat, σ.n ≤ k → k ≤ σ.n + 3000 → Q (.tup (fcts F)) ⟨k, σ.cs⟩
/-! check_board -/
abbrev N_check_board : List Str := ["value"]
def R_check_board : FS := (sIf (fNotT (fTb (isiD isi_Board (fVar 0)))) sNever sNext)
def x_check_board : DL.Env → RS := (yIf (xNotT (xTb (isiX isi_Board (xVar 0)))) yNever yNext)
theorem l_check_board : CS R_check_board x_check_board := (s_if (f_notT (f_tb (f_isi f_var))) s_never s_next)
def cf_check_board : List D → R D := cfOf N_check_board 1 x_check_board
def sp_check_board : DSp := spOf cf_check_board
/-! Board.__contains__ -/
abbrev N_Board_contains : List Str := ["self", "value"]
def R_Board_contains : FS := (sRet (fAnd (isiD isi_str (fVar 1)) (f2 (inD false) (fVar 1) (f2 ixD (fFld 1 0 (fVar 0)) (fC (.int 1))))))
def x_Board_contains : DL.Env → RS := (yRet (xAnd (isiX isi_str (xVar 1)) (x2 (inX false) (xVar 1) (x2 ixX (xFld 1 0 (xVar 0)) (xC (.int 1))))))
theorem l_Board_contains : CS R_Board_contains x_Board_contains := (s_ret (f_and (f_isi f_var) (f_2 g_in f_var (f_2 g_ix (f_fld f_var) f_c))))
def cf_Board_contains : List D → R D := cfOf N_Board_contains 2 x_Board_contains
def sp_Board_contains : DSp := spOf cf_Board_contains
/-! are_neighbours -/
abbrev N_are_neighbours : List Str := ["one", "other", "k"]
def R_are_neighbours : FS := (sRet (f2 eqD (fCa lenD (fCons (fL (fLc (fRng1 (fCons (fCa lenD (fCons (fVar 0) fNil)) fNil)) [2] (gVar 2) (fTb (f2 neD (f2 ixD (fVar 0) (fVar 2)) (f2 ixD (fVar 1) (fVar 2)))) (fVar 2))) fNil)) (fC (.int 1))))
def x_are_neighbours : DL.Env → RS := (yRet (x2 eqX (xCa lenX (xCons (xL (xLc (iRng1 (xCons (xCa lenX (xCons (xVar 0) xNil)) xNil)) [2] (yVar 2) (xTb (x2 neX (x2 ixX (xVar 0) (xVar 2)) (x2 ixX (xVar 1) (xVar 2)))) (xVar 2))) xNil)) (xC (.int 1))))
theorem l_are_neighbours : CS R_are_neighbours x_are_neighbours := (s_ret (f_2 g_eq (f_ca g_len (f_cons (f_L (f_lc (f_rng1 (f_cons (f_ca g_len (f_cons f_var f_nil)) f_nil)) t_var (f_tb (f_2 g_ne (f_2 g_ix f_var f_var) (f_2 g_ix f_var f_var))) f_var)) f_nil)) f_c))
def cf_are_neighbours : List D → R D := cfOf N_are_neighbours 2 x_are_neighbours
def sp_are_neighbours : DSp := spOf cf_are_neighbours
/-! is_fact -/
abbrev N_is_fact : List Str := ["board", "value"]
def R_is_fact : FS := (sSeq (sIf (fOrT (fNotT (fTb (isiD isi_tuple (fVar 1)))) (fTb (f2 neD (fCa lenD (fCons (fVar 1) fNil)) (fC (.int 2))))) (sRet (fC (.bl false))) sNext)
    (sRet (fAnd (f2 (inO 1 sp_Board_contains false) (f2 ixD (fVar 1) (fC (.int 0))) (fVar 0)) (fAnd (f2 (inO 1 sp_Board_contains false) (f2 ixD (fVar 1) (fC (.int 1))) (fVar 0)) (fCall sp_are_neighbours (fCons (f2 ixD (fVar 1) (fC (.int 0))) (fCons (f2 ixD (fVar 1) (fC (.int 1))) fNil)))))))
def x_is_fact : DL.Env → RS := (ySeq (yIf (xOrT (xNotT (xTb (isiX isi_tuple (xVar 1)))) (xTb (x2 neX (xCa lenX (xCons (xVar 1) xNil)) (xC (.int 2))))) (yRet (xC (.bl false))) yNext)
    (yRet (xAnd (x2 (inOX 1 cf_Board_contains false) (x2 ixX (xVar 1) (xC (.int 0))) (xVar 0)) (xAnd (x2 (inOX 1 cf_Board_contains false) (x2 ixX (xVar 1) (xC (.int 1))) (xVar 0)) (xCall cf_are_neighbours (xCons (x2 ixX (xVar 1) (xC (.int 0))) (xCons (x2 ixX (xVar 1) (xC (.int 1))) xNil)))))))
theorem l_is_fact : CS R_is_fact x_is_fact := (s_seq (s_if (f_orT (f_notT (f_tb (f_isi f_var))) (f_tb (f_2 g_ne (f_ca g_len (f_cons f_var f_nil)) f_c))) (s_ret f_c) s_next)
    (s_ret (f_and (f_2 g_inO (f_2 g_ix f_var f_c) f_var) (f_and (f_2 g_inO (f_2 g_ix f_var f_c) f_var) (f_call (f_cons (f_2 g_ix f_var f_c) (f_cons (f_2 g_ix f_var f_c) f_nil)))))))
def cf_is_fact : List D → R D := cfOf N_is_fact 2 x_is_fact
def sp_is_fact : DSp := spOf cf_is_fact
/-! leads -/
abbrev N_leads : List Str := ["facts", "start", "goal", "seen", "waiting", "place", "worse", "better"]
def R_leads : FS := (sSeq (sParOO 3 4 (fLst (fCons (fVar 1) fNil)) (fLst (fCons (fVar 1) fNil)))
    (sSeq (sWhile (fTb (f2 neD (fSee 4) (fL (fLst fNil)))) (sSeq (sPopV 5 4)
    (sFor (fItA (fVar 0)) (gTupD 2 (gsCons (gVar 6) (gsCons (gVar 7) gsNil)))
      (sIf (fAndT (fTb (f2 eqD (fVar 6) (fVar 5))) (fTb (f2 (inD true) (fVar 7) (fSee 3)))) (sSeq (sAppC 3 (fVar 7))
    (sAppC 4 (fVar 7))) sNext))))
    (sRet (f2 (inD false) (fVar 2) (fSee 3)))))
def x_leads : DL.Env → RS := (ySeq (yParOO 3 4 (xLst (xCons (xVar 1) xNil)) (xLst (xCons (xVar 1) xNil)))
    (ySeq (yWhile 1000 (xTb (x2 neX (xSee 4) (xL (xLst xNil)))) (ySeq (yPopV 5 4)
    (yFor (iA (xVar 0)) (yTup 2 (ysCons (yVar 6) (ysCons (yVar 7) ysNil)))
      (yIf (xAndT (xTb (x2 eqX (xVar 6) (xVar 5))) (xTb (x2 (inX true) (xVar 7) (xSee 3)))) (ySeq (yApp 3 (xVar 7))
    (yApp 4 (xVar 7))) yNext))))
    (yRet (x2 (inX false) (xVar 2) (xSee 3)))))
theorem l_leads : CS R_leads x_leads := (s_seq (s_parOO (f_lst (f_cons f_var f_nil)) (f_lst (f_cons f_var f_nil)))
    (s_seq (s_while (f_tb (f_2 g_ne f_see (f_L (f_lst f_nil)))) (s_seq s_popV
    (s_for (f_itA f_var) (t_tup (ts_cons t_var (ts_cons t_var ts_nil)))
      (s_if (f_andT (f_tb (f_2 g_eq f_var f_var)) (f_tb (f_2 g_in f_var f_see))) (s_seq (s_app f_var)
    (s_app f_var)) s_next))))
    (s_ret (f_2 g_in f_var f_see))))
def cf_leads : List D → R D := cfOf N_leads 3 x_leads
def sp_leads : DSp := spOf cf_leads
/-! is_let -/
abbrev N_is_let : List Str := ["facts", "fact"]
def R_is_let : FS := (sRet (fAnd (f2 (inTD true) (fVar 1) (fVar 0)) (fNot (fCall sp_leads (fCons (fVar 0) (fCons (f2 ixD (fVar 1) (fC (.int 1))) (fCons (f2 ixD (fVar 1) (fC (.int 0))) fNil)))))))
def x_is_let : DL.Env → RS := (yRet (xAnd (x2 (inTX true) (xVar 1) (xVar 0)) (xNot (xCall cf_leads (xCons (xVar 0) (xCons (x2 ixX (xVar 1) (xC (.int 1))) (xCons (x2 ixX (xVar 1) (xC (.int 0))) xNil)))))))
theorem l_is_let : CS R_is_let x_is_let := (s_ret (f_and (f_2 g_inT f_var f_var) (f_not (f_call (f_cons f_var (f_cons (f_2 g_ix f_var f_c) (f_cons (f_2 g_ix f_var f_c) f_nil)))))))
def cf_is_let : List D → R D := cfOf N_is_let 2 x_is_let
def sp_is_let : DSp := spOf cf_is_let
/-! check_facts -/
abbrev N_check_facts : List Str := ["board", "facts", "index"]
def R_check_facts : FS := (sSeq (sIf (fNotT (fTb (isiD isi_tuple (fVar 1)))) sNever sNext)
    (sFor (fRng1 (fCons (fCa lenD (fCons (fVar 1) fNil)) fNil)) (gVar 2)
      (sIf (fOrT (fNotT (fTb (fCall sp_is_fact (fCons (fVar 0) (fCons (f2 ixD (fVar 1) (fVar 2)) fNil))))) (fNotT (fTb (fCall sp_is_let (fCons (fSlice (fVar 1) fNone (fSome (fVar 2))) (fCons (f2 ixD (fVar 1) (fVar 2)) fNil)))))) sNever sNext)))
def x_check_facts : DL.Env → RS := (ySeq (yIf (xNotT (xTb (isiX isi_tuple (xVar 1)))) yNever yNext)
    (yFor (iRng1 (xCons (xCa lenX (xCons (xVar 1) xNil)) xNil)) (yVar 2)
      (yIf (xOrT (xNotT (xTb (xCall cf_is_fact (xCons (xVar 0) (xCons (x2 ixX (xVar 1) (xVar 2)) xNil))))) (xNotT (xTb (xCall cf_is_let (xCons (xSlice (xVar 1) oNone (oSome (xVar 2))) (xCons (x2 ixX (xVar 1) (xVar 2)) xNil)))))) yNever yNext)))
theorem l_check_facts : CS R_check_facts x_check_facts := (s_seq (s_if (f_notT (f_tb (f_isi f_var))) s_never s_next)
    (s_for (f_rng1 (f_cons (f_ca g_len (f_cons f_var f_nil)) f_nil)) t_var
      (s_if (f_orT (f_notT (f_tb (f_call (f_cons f_var (f_cons (f_2 g_ix f_var f_var) f_nil))))) (f_notT (f_tb (f_call (f_cons (f_slice f_var f_oNone (f_oSome f_var)) (f_cons (f_2 g_ix f_var f_var) f_nil)))))) s_never s_next)))
def cf_check_facts : List D → R D := cfOf N_check_facts 2 x_check_facts
def sp_check_facts : DSp := spOf cf_check_facts
/-! Notes.__init__ -/
abbrev N_Notes_init : List Str := ["self", "board", "facts"]
def R_Notes_init : FS := (sSeq (sExpr (fCall sp_check_board (fCons (fVar 1) fNil)))
    (sSeq (sExpr (fCall sp_check_facts (fCons (fVar 1) (fCons (fVar 2) fNil))))
    (sFldI 0 3 fl_Notes "both" (fTup (fCons (fVar 1) (fCons (fVar 2) fNil))))))
def x_Notes_init : DL.Env → RS := (ySeq (yExpr (xCall cf_check_board (xCons (xVar 1) xNil)))
    (ySeq (yExpr (xCall cf_check_facts (xCons (xVar 1) (xCons (xVar 2) xNil))))
    (yFldI 0 3 fl_Notes "both" (xTup (xCons (xVar 1) (xCons (xVar 2) xNil))))))
theorem l_Notes_init : CS R_Notes_init x_Notes_init := (s_seq (s_expr (f_call (f_cons f_var f_nil)))
    (s_seq (s_expr (f_call (f_cons f_var (f_cons f_var f_nil))))
    (s_fldI (f_tup (f_cons f_var (f_cons f_var f_nil))))))
def cf_Notes_init : List D → R D := cfI N_Notes_init 2 1 3 x_Notes_init
/-! is_within -/
abbrev N_is_within : List Str := ["value", "least", "most"]
def R_is_within : FS := (sRet (fAnd (isiD isi_int (fVar 0)) (fAnd (fNot (isiD isi_bool (fVar 0))) (fChain leD leD (fVar 1) (fVar 0) (fVar 2)))))
def x_is_within : DL.Env → RS := (yRet (xAnd (isiX isi_int (xVar 0)) (xAnd (xNot (isiX isi_bool (xVar 0))) (xChain leX leX (xVar 1) (xVar 0) (xVar 2)))))
theorem l_is_within : CS R_is_within x_is_within := (s_ret (f_and (f_isi f_var) (f_and (f_not (f_isi f_var)) (f_chain g_le g_le f_var f_var f_var))))
def cf_is_within : List D → R D := cfOf N_is_within 3 x_is_within
def sp_is_within : DSp := spOf cf_is_within
/-! check_sizes -/
abbrev N_check_sizes : List Str := ["sizes", "many", "index"]
def R_check_sizes : FS := (sSeq (sIf (fOrT (fNotT (fTb (isiD isi_tuple (fVar 0)))) (fTb (f2 eqD (fVar 0) (fTup fNil)))) sNever sNext)
    (sSeq (sSet 1 (fC (.int 1)))
    (sFor (fRng1 (fCons (fCa lenD (fCons (fVar 0) fNil)) fNil)) (gVar 2)
      (sSeq (sIf (fOrT (fTb (f2 eqD (fVar 2) (fC (.int 5)))) (fOrT (fNotT (fTb (fCall sp_is_within (fCons (f2 ixD (fVar 0) (fVar 2)) (fCons (fC (.int 2)) (fCons (fC (.int 3)) fNil)))))) (fTb (f2 gtD (f2 mulAD (fVar 1) (f2 ixD (fVar 0) (fVar 2))) (fC (.int 48)))))) sNever sNext)
    (sSet 1 (f2 mulAD (fVar 1) (f2 ixD (fVar 0) (fVar 2))))))))
def x_check_sizes : DL.Env → RS := (ySeq (yIf (xOrT (xNotT (xTb (isiX isi_tuple (xVar 0)))) (xTb (x2 eqX (xVar 0) (xTup xNil)))) yNever yNext)
    (ySeq (ySet 1 (xC (.int 1)))
    (yFor (iRng1 (xCons (xCa lenX (xCons (xVar 0) xNil)) xNil)) (yVar 2)
      (ySeq (yIf (xOrT (xTb (x2 eqX (xVar 2) (xC (.int 5)))) (xOrT (xNotT (xTb (xCall cf_is_within (xCons (x2 ixX (xVar 0) (xVar 2)) (xCons (xC (.int 2)) (xCons (xC (.int 3)) xNil)))))) (xTb (x2 gtX (x2 mulAX (xVar 1) (x2 ixX (xVar 0) (xVar 2))) (xC (.int 48)))))) yNever yNext)
    (ySet 1 (x2 mulAX (xVar 1) (x2 ixX (xVar 0) (xVar 2))))))))
theorem l_check_sizes : CS R_check_sizes x_check_sizes := (s_seq (s_if (f_orT (f_notT (f_tb (f_isi f_var))) (f_tb (f_2 g_eq f_var (f_tup f_nil)))) s_never s_next)
    (s_seq (s_set f_c)
    (s_for (f_rng1 (f_cons (f_ca g_len (f_cons f_var f_nil)) f_nil)) t_var
      (s_seq (s_if (f_orT (f_tb (f_2 g_eq f_var f_c)) (f_orT (f_notT (f_tb (f_call (f_cons (f_2 g_ix f_var f_var) (f_cons f_c (f_cons f_c f_nil)))))) (f_tb (f_2 g_gt (f_2 g_mulA f_var (f_2 g_ix f_var f_var)) f_c)))) s_never s_next)
    (s_set (f_2 g_mulA f_var (f_2 g_ix f_var f_var)))))))
def cf_check_sizes : List D → R D := cfOf N_check_sizes 1 x_check_sizes
def sp_check_sizes : DSp := spOf cf_check_sizes
/-! settings_in -/
abbrev N_settings_in : List Str := ["part", "found", "stands", "begun", "stand"]
def R_settings_in : FS := (sSeq (sSet 1 (fL (fLst (fCons (fC (.str "")) fNil))))
    (sSeq (sFor (fItA (fVar 0)) (gVar 2)
      (sSet 1 (fL (fLc2 (fItA (fVar 1)) [3, 4] (gVar 3) fYes (fItA (fVar 2)) [4] (gVar 4) fYes (f2 addD (fVar 3) (fVar 4))))))
    (sRet (fVar 1))))
def x_settings_in : DL.Env → RS := (ySeq (ySet 1 (xL (xLst (xCons (xC (.str "")) xNil))))
    (ySeq (yFor (iA (xVar 0)) (yVar 2)
      (ySet 1 (xL (xLc2 (iA (xVar 1)) [3, 4] (yVar 3) xYes (iA (xVar 2)) [4] (yVar 4) xYes (x2 addX (xVar 3) (xVar 4))))))
    (yRet (xVar 1))))
theorem l_settings_in : CS R_settings_in x_settings_in := (s_seq (s_set (f_L (f_lst (f_cons f_c f_nil))))
    (s_seq (s_for (f_itA f_var) t_var
      (s_set (f_L (f_lc2 (f_itA f_var) t_var f_yes (f_itA f_var) t_var f_yes (f_2 g_add f_var f_var)))))
    (s_ret f_var)))
def cf_settings_in : List D → R D := cfOf N_settings_in 1 x_settings_in
def sp_settings_in : DSp := spOf cf_settings_in
/-! Board.__init__ -/
abbrev N_Board_init : List Str := ["self", "sizes", "size"]
def R_Board_init : FS := (sSeq (sExpr (fCall sp_check_sizes (fCons (fVar 1) fNil)))
    (sFldI 0 1 fl_Board "both" (fTup (fCons (fVar 1) (fCons (fCa tupC (fCons (fCall sp_settings_in (fCons (fL (fLc (fItA (fVar 1)) [2] (gVar 2) fYes (f2 ixD (fC D_STANDS) (fVar 2)))) fNil)) fNil)) fNil)))))
def x_Board_init : DL.Env → RS := (ySeq (yExpr (xCall cf_check_sizes (xCons (xVar 1) xNil)))
    (yFldI 0 1 fl_Board "both" (xTup (xCons (xVar 1) (xCons (xCa tupCX (xCons (xCall cf_settings_in (xCons (xL (xLc (iA (xVar 1)) [2] (yVar 2) xYes (x2 ixX (xC D_STANDS) (xVar 2)))) xNil)) xNil)) xNil)))))
theorem l_Board_init : CS R_Board_init x_Board_init := (s_seq (s_expr (f_call (f_cons f_var f_nil)))
    (s_fldI (f_tup (f_cons f_var (f_cons (f_ca g_tupC (f_cons (f_call (f_cons (f_L (f_lc (f_itA f_var) t_var f_yes (f_2 g_ix f_c f_var))) f_nil)) f_nil)) f_nil)))))
def cf_Board_init : List D → R D := cfI N_Board_init 1 1 1 x_Board_init
/-! _law_steps -/
abbrev N_law_steps : List Str := ["facts", "first", "last", "layer", "reached", "many_here", "later", "one", "fact"]
def R_law_steps : FS := (sSeq (sAsg (gTupD 3 (gsCons (gVar 3) (gsCons (gVar 4) (gsCons (gVar 5) gsNil)))) (fTup (fCons (fL (fLst (fCons (fVar 1) fNil))) (fCons (fL (fLst (fCons (fVar 1) fNil))) (fCons (fC (.int 0)) fNil)))))
    (sSeq (sWhile (fTb (f2 neD (fVar 3) (fL (fLst fNil)))) (sSeq (sIf (fTb (f2 (inD false) (fVar 2) (fVar 3))) (sRet (fVar 5)) sNext)
    (sSeq (sSet 6 (fL (fSSet (fL (fLc (fItA (fVar 0)) [8] (gVar 8) (fTb (f2 (inD false) (f2 ixD (fVar 8) (fC (.int 0))) (fVar 3))) (f2 ixD (fVar 8) (fC (.int 1))))))))
    (sSeq (sSet 3 (fL (fLc (fItA (fVar 6)) [7] (gVar 7) (fTb (f2 (inD true) (fVar 7) (fVar 4))) (fVar 7))))
    (sAsg (gTupD 2 (gsCons (gVar 4) (gsCons (gVar 5) gsNil))) (fTup (fCons (fL (fAddN (fVar 4) (fVar 3))) (fCons (f2 addD (fVar 5) (fC (.int 1))) fNil))))))))
    (sRet (fC .non))))
def x_law_steps : DL.Env → RS := (ySeq (yAsg (yTup 3 (ysCons (yVar 3) (ysCons (yVar 4) (ysCons (yVar 5) ysNil)))) (xTup (xCons (xL (xLst (xCons (xVar 1) xNil))) (xCons (xL (xLst (xCons (xVar 1) xNil))) (xCons (xC (.int 0)) xNil)))))
    (ySeq (yWhile 1000 (xTb (x2 neX (xVar 3) (xL (xLst xNil)))) (ySeq (yIf (xTb (x2 (inX false) (xVar 2) (xVar 3))) (yRet (xVar 5)) yNext)
    (ySeq (ySet 6 (xL (xSSet (xL (xLc (iA (xVar 0)) [8] (yVar 8) (xTb (x2 (inX false) (x2 ixX (xVar 8) (xC (.int 0))) (xVar 3))) (x2 ixX (xVar 8) (xC (.int 1))))))))
    (ySeq (ySet 3 (xL (xLc (iA (xVar 6)) [7] (yVar 7) (xTb (x2 (inX true) (xVar 7) (xVar 4))) (xVar 7))))
    (yAsg (yTup 2 (ysCons (yVar 4) (ysCons (yVar 5) ysNil))) (xTup (xCons (xL (xAddN (xVar 4) (xVar 3))) (xCons (x2 addX (xVar 5) (xC (.int 1))) xNil))))))))
    (yRet (xC .non))))
theorem l_law_steps : CS R_law_steps x_law_steps := (s_seq (s_asg (t_tup (ts_cons t_var (ts_cons t_var (ts_cons t_var ts_nil)))) (f_tup (f_cons (f_L (f_lst (f_cons f_var f_nil))) (f_cons (f_L (f_lst (f_cons f_var f_nil))) (f_cons f_c f_nil)))))
    (s_seq (s_while (f_tb (f_2 g_ne f_var (f_L (f_lst f_nil)))) (s_seq (s_if (f_tb (f_2 g_in f_var f_var)) (s_ret f_var) s_next)
    (s_seq (s_set (f_L (f_sset (f_L (f_lc (f_itA f_var) t_var (f_tb (f_2 g_in (f_2 g_ix f_var f_c) f_var)) (f_2 g_ix f_var f_c))))))
    (s_seq (s_set (f_L (f_lc (f_itA f_var) t_var (f_tb (f_2 g_in f_var f_var)) f_var)))
    (s_asg (t_tup (ts_cons t_var (ts_cons t_var ts_nil))) (f_tup (f_cons (f_L (f_addN f_var f_var)) (f_cons (f_2 g_add f_var f_c) f_nil))))))))
    (s_ret f_c)))
def cf_law_steps : List D → R D := cfOf N_law_steps 3 x_law_steps
def sp_law_steps : DSp := spOf cf_law_steps
/-! check_notes -/
abbrev N_check_notes : List Str := ["value"]
def R_check_notes : FS := (sIf (fNotT (fTb (isiD isi_Notes (fVar 0)))) sNever sNext)
def x_check_notes : DL.Env → RS := (yIf (xNotT (xTb (isiX isi_Notes (xVar 0)))) yNever yNext)
theorem l_check_notes : CS R_check_notes x_check_notes := (s_if (f_notT (f_tb (f_isi f_var))) s_never s_next)
def cf_check_notes : List D → R D := cfOf N_check_notes 1 x_check_notes
def sp_check_notes : DSp := spOf cf_check_notes
/-! check_setting -/
abbrev N_check_setting : List Str := ["board", "setting"]
def R_check_setting : FS := (sIf (fTb (f2 (inO 1 sp_Board_contains true) (fVar 1) (fVar 0))) sNever sNext)
def x_check_setting : DL.Env → RS := (yIf (xTb (x2 (inOX 1 cf_Board_contains true) (xVar 1) (xVar 0))) yNever yNext)
theorem l_check_setting : CS R_check_setting x_check_setting := (s_if (f_tb (f_2 g_inO f_var f_var)) s_never s_next)
def cf_check_setting : List D → R D := cfOf N_check_setting 2 x_check_setting
def sp_check_setting : DSp := spOf cf_check_setting
/-! Notes.board -/
abbrev N_Notes_board : List Str := ["self"]
def R_Notes_board : FS := (sRet (f2 ixD (fFld 3 0 (fVar 0)) (fC (.int 0))))
def x_Notes_board : DL.Env → RS := (yRet (x2 ixX (xFld 3 0 (xVar 0)) (xC (.int 0))))
theorem l_Notes_board : CS R_Notes_board x_Notes_board := (s_ret (f_2 g_ix (f_fld f_var) f_c))
def cf_Notes_board : List D → R D := cfOf N_Notes_board 1 x_Notes_board
def sp_Notes_board : DSp := spOf cf_Notes_board
/-! shortest_rows -/
abbrev N_shortest_rows : List Str := ["beside", "start", "goal", "rows", "seen", "later", "row", "setting"]
def R_shortest_rows : FS := (sSeq (sParO 3 4 (fL (fLst (fCons (fTup (fCons (fVar 1) fNil)) fNil))) (fLst (fCons (fVar 1) fNil)))
    (sSeq (sWhile (fTb (f2 neD (fVar 3) (fL (fLst fNil)))) (sSeq (sSetOwn 5 (fLst fNil))
    (sSeq (sFor (fItA (fVar 3)) (gVar 6)
      (sSeq (sIf (fTb (f2 eqD (f2 ixD (fVar 6) (fNeg (fC (.int 1)))) (fVar 2))) (sRet (fVar 6)) sNext)
    (sFor (fItA (f2 ixD (fVar 0) (f2 ixD (fVar 6) (fNeg (fC (.int 1)))))) (gVar 7)
      (sIf (fTb (f2 (inD true) (fVar 7) (fSee 4))) (sSeq (sAppC 4 (fVar 7))
    (sAppC 5 (f2 addD (fVar 6) (fTup (fCons (fVar 7) fNil))))) sNext))))
    (sOff [5] (sSet 3 (fVar 5))))))
    (sRet (fC .non))))
def x_shortest_rows : DL.Env → RS := (ySeq (yParO 3 4 (xL (xLst (xCons (xTup (xCons (xVar 1) xNil)) xNil))) (xLst (xCons (xVar 1) xNil)))
    (ySeq (yWhile 1000 (xTb (x2 neX (xVar 3) (xL (xLst xNil)))) (ySeq (ySetOwn 5 (xLst xNil))
    (ySeq (yFor (iA (xVar 3)) (yVar 6)
      (ySeq (yIf (xTb (x2 eqX (x2 ixX (xVar 6) (xNeg (xC (.int 1)))) (xVar 2))) (yRet (xVar 6)) yNext)
    (yFor (iA (x2 ixX (xVar 0) (x2 ixX (xVar 6) (xNeg (xC (.int 1)))))) (yVar 7)
      (yIf (xTb (x2 (inX true) (xVar 7) (xSee 4))) (ySeq (yApp 4 (xVar 7))
    (yApp 5 (x2 addX (xVar 6) (xTup (xCons (xVar 7) xNil))))) yNext))))
    (yOff [5] (ySet 3 (xVar 5))))))
    (yRet (xC .non))))
theorem l_shortest_rows : CS R_shortest_rows x_shortest_rows := (s_seq (s_parO (f_L (f_lst (f_cons (f_tup (f_cons f_var f_nil)) f_nil))) (f_lst (f_cons f_var f_nil)))
    (s_seq (s_while (f_tb (f_2 g_ne f_var (f_L (f_lst f_nil)))) (s_seq (s_setOwn (f_lst f_nil))
    (s_seq (s_for (f_itA f_var) t_var
      (s_seq (s_if (f_tb (f_2 g_eq (f_2 g_ix f_var (f_neg f_c)) f_var)) (s_ret f_var) s_next)
    (s_for (f_itA (f_2 g_ix f_var (f_2 g_ix f_var (f_neg f_c)))) t_var
      (s_if (f_tb (f_2 g_in f_var f_see)) (s_seq (s_app f_var)
    (s_app (f_2 g_add f_var (f_tup (f_cons f_var f_nil))))) s_next))))
    (s_off (s_set f_var)))))
    (s_ret f_c)))
def cf_shortest_rows : List D → R D := cfOf N_shortest_rows 3 x_shortest_rows
def sp_shortest_rows : DSp := spOf cf_shortest_rows
/-! Board.settings -/
abbrev N_Board_settings : List Str := ["self"]
def R_Board_settings : FS := (sRet (f2 ixD (fFld 1 0 (fVar 0)) (fC (.int 1))))
def x_Board_settings : DL.Env → RS := (yRet (x2 ixX (xFld 1 0 (xVar 0)) (xC (.int 1))))
theorem l_Board_settings : CS R_Board_settings x_Board_settings := (s_ret (f_2 g_ix (f_fld f_var) f_c))
def cf_Board_settings : List D → R D := cfOf N_Board_settings 1 x_Board_settings
def sp_Board_settings : DSp := spOf cf_Board_settings
/-! ups -/
abbrev N_ups : List Str := ["board", "facts", "found", "setting", "worse", "better"]
def R_ups : FS := (sSeq (sSetOwnD 2 fNewD)
    (sSeq (sFor (fItA (fProp 1 sp_Board_settings (fVar 0))) (gVar 3)
      (sPutK 2 (fVar 3) (fL (fLc (fItA (fVar 1)) [4, 5] (gTupD 2 (gsCons (gVar 4) (gsCons (gVar 5) gsNil))) (fTb (f2 eqD (fVar 4) (fVar 3))) (fVar 5)))))
    (sRet (fSee 2))))
def x_ups : DL.Env → RS := (ySeq (ySetOwnD 2 xNewD)
    (ySeq (yFor (iA (xProp 1 cf_Board_settings (xVar 0))) (yVar 3)
      (yPutK 2 (xVar 3) (xL (xLc (iA (xVar 1)) [4, 5] (yTup 2 (ysCons (yVar 4) (ysCons (yVar 5) ysNil))) (xTb (x2 eqX (xVar 4) (xVar 3))) (xVar 5)))))
    (yRet (xSee 2))))
theorem l_ups : CS R_ups x_ups := (s_seq (s_setOwnD g_newD)
    (s_seq (s_for (f_itA (f_prop f_var)) t_var
      (s_putK f_var (f_L (f_lc (f_itA f_var) (t_tup (ts_cons t_var (ts_cons t_var ts_nil))) (f_tb (f_2 g_eq f_var f_var)) f_var))))
    (s_ret f_see)))
def cf_ups : List D → R D := cfOf N_ups 2 x_ups
def sp_ups : DSp := spOf cf_ups
/-! Notes.facts -/
abbrev N_Notes_facts : List Str := ["self"]
def R_Notes_facts : FS := (sRet (f2 ixD (fFld 3 0 (fVar 0)) (fC (.int 1))))
def x_Notes_facts : DL.Env → RS := (yRet (x2 ixX (xFld 3 0 (xVar 0)) (xC (.int 1))))
theorem l_Notes_facts : CS R_Notes_facts x_Notes_facts := (s_ret (f_2 g_ix (f_fld f_var) f_c))
def cf_Notes_facts : List D → R D := cfOf N_Notes_facts 1 x_Notes_facts
def sp_Notes_facts : DSp := spOf cf_Notes_facts
/-! sure_way -/
abbrev N_sure_way : List Str := ["notes", "start", "goal"]
def R_sure_way : FS := (sSeq (sExpr (fCall sp_check_notes (fCons (fVar 0) fNil)))
    (sSeq (sExpr (fCall sp_check_setting (fCons (fProp 3 sp_Notes_board (fVar 0)) (fCons (fVar 1) fNil))))
    (sSeq (sExpr (fCall sp_check_setting (fCons (fProp 3 sp_Notes_board (fVar 0)) (fCons (fVar 2) fNil))))
    (sRet (fCall sp_shortest_rows (fCons (fCall sp_ups (fCons (fProp 3 sp_Notes_board (fVar 0)) (fCons (fProp 3 sp_Notes_facts (fVar 0)) fNil))) (fCons (fVar 1) (fCons (fVar 2) fNil))))))))
def x_sure_way : DL.Env → RS := (ySeq (yExpr (xCall cf_check_notes (xCons (xVar 0) xNil)))
    (ySeq (yExpr (xCall cf_check_setting (xCons (xProp 3 cf_Notes_board (xVar 0)) (xCons (xVar 1) xNil))))
    (ySeq (yExpr (xCall cf_check_setting (xCons (xProp 3 cf_Notes_board (xVar 0)) (xCons (xVar 2) xNil))))
    (yRet (xCall cf_shortest_rows (xCons (xCall cf_ups (xCons (xProp 3 cf_Notes_board (xVar 0)) (xCons (xProp 3 cf_Notes_facts (xVar 0)) xNil))) (xCons (xVar 1) (xCons (xVar 2) xNil))))))))
theorem l_sure_way : CS R_sure_way x_sure_way := (s_seq (s_expr (f_call (f_cons f_var f_nil)))
    (s_seq (s_expr (f_call (f_cons (f_prop f_var) (f_cons f_var f_nil))))
    (s_seq (s_expr (f_call (f_cons (f_prop f_var) (f_cons f_var f_nil))))
    (s_ret (f_call (f_cons (f_call (f_cons (f_prop f_var) (f_cons (f_prop f_var) f_nil))) (f_cons f_var (f_cons f_var f_nil))))))))
def cf_sure_way : List D → R D := cfOf N_sure_way 3 x_sure_way
def sp_sure_way : DSp := spOf cf_sure_way
/-! Notes.known -/
abbrev N_Notes_known : List Str := ["self", "start", "goal"]
def R_Notes_known : FS := (sSeq (sExpr (fCall sp_check_setting (fCons (fProp 3 sp_Notes_board (fVar 0)) (fCons (fVar 1) fNil))))
    (sSeq (sExpr (fCall sp_check_setting (fCons (fProp 3 sp_Notes_board (fVar 0)) (fCons (fVar 2) fNil))))
    (sSeq (sIf (fTb (f2 eqD (fVar 1) (fVar 2))) (sRet (fC (.str "same"))) sNext)
    (sSeq (sIf (fTb (fCall sp_leads (fCons (fProp 3 sp_Notes_facts (fVar 0)) (fCons (fVar 1) (fCons (fVar 2) fNil))))) (sRet (fC (.str "worse"))) sNext)
    (sRet (fIf (fTb (fCall sp_leads (fCons (fProp 3 sp_Notes_facts (fVar 0)) (fCons (fVar 2) (fCons (fVar 1) fNil))))) (fC (.str "better")) (fC (.str "open"))))))))
def x_Notes_known : DL.Env → RS := (ySeq (yExpr (xCall cf_check_setting (xCons (xProp 3 cf_Notes_board (xVar 0)) (xCons (xVar 1) xNil))))
    (ySeq (yExpr (xCall cf_check_setting (xCons (xProp 3 cf_Notes_board (xVar 0)) (xCons (xVar 2) xNil))))
    (ySeq (yIf (xTb (x2 eqX (xVar 1) (xVar 2))) (yRet (xC (.str "same"))) yNext)
    (ySeq (yIf (xTb (xCall cf_leads (xCons (xProp 3 cf_Notes_facts (xVar 0)) (xCons (xVar 1) (xCons (xVar 2) xNil))))) (yRet (xC (.str "worse"))) yNext)
    (yRet (xIf (xTb (xCall cf_leads (xCons (xProp 3 cf_Notes_facts (xVar 0)) (xCons (xVar 2) (xCons (xVar 1) xNil))))) (xC (.str "better")) (xC (.str "open"))))))))
theorem l_Notes_known : CS R_Notes_known x_Notes_known := (s_seq (s_expr (f_call (f_cons (f_prop f_var) (f_cons f_var f_nil))))
    (s_seq (s_expr (f_call (f_cons (f_prop f_var) (f_cons f_var f_nil))))
    (s_seq (s_if (f_tb (f_2 g_eq f_var f_var)) (s_ret f_c) s_next)
    (s_seq (s_if (f_tb (f_call (f_cons (f_prop f_var) (f_cons f_var (f_cons f_var f_nil))))) (s_ret f_c) s_next)
    (s_ret (f_if (f_tb (f_call (f_cons (f_prop f_var) (f_cons f_var (f_cons f_var f_nil))))) f_c f_c))))))
def cf_Notes_known : List D → R D := cfOf N_Notes_known 3 x_Notes_known
def sp_Notes_known : DSp := spOf cf_Notes_known
/-! _law_right -/
abbrev N_law_right : List Str := ["urn", "lap", "sizes", "facts", "spots", "here", "turn", "first", "last", "steps", "found", "k"]
def P_law_right_0 : FS := (sSet 5 (fMakeK 3 3 0 [.p 0, .p 1] [(.tup [])] (spIn cf_Notes_init) (fKw (fCons (fMake 1 (spIn cf_Board_init) (fCons (fVar 2) fNil)) (fCons (fVar 3) fNil)) fNil)))
def yP_law_right_0 : DL.Env → RS := (ySet 5 (xMakeK 3 3 0 [.p 0, .p 1] [(.tup [])] cf_Notes_init (xKw (xCons (xMake 1 cf_Board_init (xCons (xVar 2) xNil)) (xCons (xVar 3) xNil)) xNil)))
theorem lP_law_right_0 : CS P_law_right_0 yP_law_right_0 := (s_set (f_makeK (f_kw (f_cons (f_make (f_cons f_var f_nil)) (f_cons f_var f_nil)) f_nil)))
def P_law_right_1 : FS := (sAsg (gTupD 2 (gsCons (gVar 9) (gsCons (gVar 10) gsNil))) (fTup (fCons (fCall sp_law_steps (fCons (fVar 3) (fCons (fVar 7) (fCons (fVar 8) fNil)))) (fCons (fCall sp_sure_way (fCons (fVar 5) (fCons (fVar 7) (fCons (fVar 8) fNil)))) fNil))))
def yP_law_right_1 : DL.Env → RS := (yAsg (yTup 2 (ysCons (yVar 9) (ysCons (yVar 10) ysNil))) (xTup (xCons (xCall cf_law_steps (xCons (xVar 3) (xCons (xVar 7) (xCons (xVar 8) xNil)))) (xCons (xCall cf_sure_way (xCons (xVar 5) (xCons (xVar 7) (xCons (xVar 8) xNil)))) xNil))))
theorem lP_law_right_1 : CS P_law_right_1 yP_law_right_1 := (s_asg (t_tup (ts_cons t_var (ts_cons t_var ts_nil))) (f_tup (f_cons (f_call (f_cons f_var (f_cons f_var (f_cons f_var f_nil)))) (f_cons (f_call (f_cons f_var (f_cons f_var (f_cons f_var f_nil)))) f_nil))))
def P_law_right_2 : FS := (sIf (fOrT (fTb (f2 neD (fCallK 0 3 [.k 2, .k 1, .k 0] [] sp_sure_way (fKw fNil (fCons (fVar 8) (fCons (fVar 7) (fCons (fVar 5) fNil))))) (fVar 10))) (fTb (f2 neD (f2 isAD (fVar 10) (fC .non)) (f2 isAD (fVar 9) (fC .non))))) (sRet (fC (.bl false))) sNext)
def yP_law_right_2 : DL.Env → RS := (yIf (xOrT (xTb (x2 neX (xCallK 0 3 [.k 2, .k 1, .k 0] [] cf_sure_way (xKw xNil (xCons (xVar 8) (xCons (xVar 7) (xCons (xVar 5) xNil))))) (xVar 10))) (xTb (x2 neX (x2 isAX (xVar 10) (xC .non)) (x2 isAX (xVar 9) (xC .non))))) (yRet (xC (.bl false))) yNext)
theorem lP_law_right_2 : CS P_law_right_2 yP_law_right_2 := (s_if (f_orT (f_tb (f_2 g_ne (f_callK (f_kw f_nil (f_cons f_var (f_cons f_var (f_cons f_var f_nil))))) f_var)) (f_tb (f_2 g_ne (f_2 g_isA f_var f_c) (f_2 g_isA f_var f_c)))) (s_ret f_c) s_next)
def P_law_right_3 : FS := (sIf (fTb (f2 neD (f2 (inD false) (fMeth 3 sp_Notes_known (fVar 5) (fCons (fVar 7) (fCons (fVar 8) fNil))) (fL (fLst (fCons (fC (.str "worse")) (fCons (fC (.str "same")) fNil))))) (f2 isnAD (fVar 9) (fC .non)))) (sRet (fC (.bl false))) sNext)
def yP_law_right_3 : DL.Env → RS := (yIf (xTb (x2 neX (x2 (inX false) (xMeth 3 cf_Notes_known (xVar 5) (xCons (xVar 7) (xCons (xVar 8) xNil))) (xL (xLst (xCons (xC (.str "worse")) (xCons (xC (.str "same")) xNil))))) (x2 isnAX (xVar 9) (xC .non)))) (yRet (xC (.bl false))) yNext)
theorem lP_law_right_3 : CS P_law_right_3 yP_law_right_3 := (s_if (f_tb (f_2 g_ne (f_2 g_in (f_meth f_var (f_cons f_var (f_cons f_var f_nil))) (f_L (f_lst (f_cons f_c (f_cons f_c f_nil))))) (f_2 g_isnA f_var f_c))) (s_ret f_c) s_next)
def P_law_right_4 : FS := (sIf (fOrT (fNotT (fTb (isiD isi_tuple (fVar 10)))) (fOrT (fTb (f2 neD (fCa lenD (fCons (fVar 10) fNil)) (f2 addD (fVar 9) (fC (.int 1))))) (fTb (f2 neD (fL (fLst (fCons (f2 ixD (fVar 10) (fC (.int 0))) (fCons (f2 ixD (fVar 10) (fNeg (fC (.int 1)))) fNil)))) (fL (fLst (fCons (fVar 7) (fCons (fVar 8) fNil)))))))) (sRet (fC (.bl false))) sNext)
def yP_law_right_4 : DL.Env → RS := (yIf (xOrT (xNotT (xTb (isiX isi_tuple (xVar 10)))) (xOrT (xTb (x2 neX (xCa lenX (xCons (xVar 10) xNil)) (x2 addX (xVar 9) (xC (.int 1))))) (xTb (x2 neX (xL (xLst (xCons (x2 ixX (xVar 10) (xC (.int 0))) (xCons (x2 ixX (xVar 10) (xNeg (xC (.int 1)))) xNil)))) (xL (xLst (xCons (xVar 7) (xCons (xVar 8) xNil)))))))) (yRet (xC (.bl false))) yNext)
theorem lP_law_right_4 : CS P_law_right_4 yP_law_right_4 := (s_if (f_orT (f_notT (f_tb (f_isi f_var))) (f_orT (f_tb (f_2 g_ne (f_ca g_len (f_cons f_var f_nil)) (f_2 g_add f_var f_c))) (f_tb (f_2 g_ne (f_L (f_lst (f_cons (f_2 g_ix f_var f_c) (f_cons (f_2 g_ix f_var (f_neg f_c)) f_nil)))) (f_L (f_lst (f_cons f_var (f_cons f_var f_nil)))))))) (s_ret f_c) s_next)
def P_law_right_5 : FS := (sIf (fNotT (fTb (fCa (blsD fun bs => .bl (bs.all id)) (fCons (fL (fLc (fRng1 (fCons (fVar 9) fNil)) [11] (gVar 11) fYes (f2 (inTD false) (fTup (fCons (f2 ixD (fVar 10) (fVar 11)) (fCons (f2 ixD (fVar 10) (f2 addD (fVar 11) (fC (.int 1)))) fNil))) (fVar 3)))) fNil)))) (sRet (fC (.bl false))) sNext)
def yP_law_right_5 : DL.Env → RS := (yIf (xNotT (xTb (xCa (blsX fun bs => .bl (bs.all id)) (xCons (xL (xLc (iRng1 (xCons (xVar 9) xNil)) [11] (yVar 11) xYes (x2 (inTX false) (xTup (xCons (x2 ixX (xVar 10) (xVar 11)) (xCons (x2 ixX (xVar 10) (x2 addX (xVar 11) (xC (.int 1)))) xNil))) (xVar 3)))) xNil)))) (yRet (xC (.bl false))) yNext)
theorem lP_law_right_5 : CS P_law_right_5 yP_law_right_5 := (s_if (f_notT (f_tb (f_ca g_bls (f_cons (f_L (f_lc (f_rng1 (f_cons f_var f_nil)) t_var f_yes (f_2 g_inT (f_tup (f_cons (f_2 g_ix f_var f_var) (f_cons (f_2 g_ix f_var (f_2 g_add f_var f_c)) f_nil))) f_var))) f_nil)))) (s_ret f_c) s_next)
def P_law_right_6 : FS := (sIf (fTb (f2 isnAD (fVar 10) (fC .non))) (sSeq P_law_right_4
    P_law_right_5) sNext)
def yP_law_right_6 : DL.Env → RS := (yIf (xTb (x2 isnAX (xVar 10) (xC .non))) (ySeq yP_law_right_4
    yP_law_right_5) yNext)
theorem lP_law_right_6 : CS P_law_right_6 yP_law_right_6 := (s_if (f_tb (f_2 g_isnA f_var f_c)) (s_seq lP_law_right_4
    lP_law_right_5) s_next)
def L_law_right_0 : FS := (sSeq (sPar 7 8 (fCons (fCall sp_law_one_of (fCons (fVar 0) (fCons (fVar 4) fNil))) (fCons (fCall sp_law_one_of (fCons (fVar 0) (fCons (fVar 4) fNil))) fNil)))
    (sSeq P_law_right_1
    (sSeq P_law_right_2
    (sSeq P_law_right_3
    P_law_right_6))))
def L_law_right_1 : FS := (sSeq (sSet 2 (fCall sp_law_one_of (fCons (fVar 0) (fCons (fL (fLst (fCons (fTup (fCons (fC (.int 2)) (fCons (fC (.int 2)) (fCons (fC (.int 2)) (fCons (fC (.int 2)) fNil))))) (fCons (fTup (fCons (fC (.int 3)) (fCons (fC (.int 2)) (fCons (fC (.int 2)) fNil)))) (fCons (fTup (fCons (fC (.int 3)) (fCons (fC (.int 3)) fNil))) (fCons (fTup (fCons (fC (.int 2)) (fCons (fC (.int 2)) fNil))) (fCons (fTup (fCons (fC (.int 2)) (fCons (fC (.int 2)) (fCons (fC (.int 2)) fNil)))) (fCons (fTup (fCons (fC (.int 2)) (fCons (fC (.int 2)) (fCons (fC (.int 2)) (fCons (fC (.int 2)) (fCons (fC (.int 2)) fNil)))))) (fCons (fTup (fCons (fC (.int 3)) (fCons (fC (.int 3)) (fCons (fC (.int 2)) (fCons (fC (.int 2)) fNil))))) fNil))))))))) fNil))))
    (sSeq (sAsg (gTupD 2 (gsCons (gVar 3) (gsCons (gVar 4) gsNil))) (fTup (fCons (fCall sp_law_seen (fCons (fVar 0) (fCons (fVar 2) (fCons (fCall sp_law_one_of (fCons (fVar 0) (fCons (fL (fLst (fCons (fC (.int 1)) (fCons (fC (.int 2)) (fCons (fC (.int 3)) (fCons (fC (.int 4)) fNil)))))) fNil))) fNil)))) (fCons (fL (fCallN sp_law_spots (fCons (fVar 2) fNil))) fNil))))
    (sSeq P_law_right_0
    (sFor (fRng1 (fCons (fC (.int 8)) fNil)) (gVar 6)
      L_law_right_0))))
def R_law_right : FS := (sSeq (sFor (fRng1 (fCons (fC (.int 2)) fNil)) (gVar 1)
      L_law_right_1)
    (sRet (fC (.bl true))))
def sp_law_right : DSp := fun ds Q _ σ => ds = [.jar] ∧ σ.n ≤ 100000000 ∧ ∀ k : Nat, σ.n ≤ k → k ≤ σ.n + 10000000 → Q (.bl true) ⟨k, σ.cs⟩
/-! _law_urn -/
abbrev N_law_urn : List Str := ["script", "lap", "stirred", "cell", "own"]
def P_law_urn_0 : FS := (sSet 2 (f2 addD (fC (.int 40009)) (f2 mulAD (fC (.int 1709)) (fVar 1))))
def P_law_urn_1 : FS := (sSet 2 (f2 modD (fCa intC (fCons (f2 addD (f2 mulAD (fVar 2) (fC (.int 43019))) (fVar 3)) fNil)) (fC (.int 2147483179))))
def L_law_urn_0 : FS := P_law_urn_1
def P_law_urn_2 : FS := (sFor (fItA (fSlice (fVar 0) fNone (fSome (fC (.int 5))))) (gVar 3)
      L_law_urn_0)
def P_law_urn_3 : FS := (sSet 4 (fIf (fTb (f2 ltD (fVar 1) (fCa lenD (fCons (fVar 0) fNil)))) (f2 ixD (fVar 0) (fVar 1)) (f2 addD (f2 mulAD (fC (.int 19)) (fVar 1)) (fC (.int 4)))))
def R_law_urn : FS := (sSeq P_law_urn_0
    (sSeq P_law_urn_2
    (sSeq P_law_urn_3
    (sRetJar jpU (fLst (fCons (f2 modD (fCa intC (fCons (f2 addD (f2 addD (f2 mulAD (fVar 2) (fC (.int 31))) (f2 mulAD (fVar 4) (fC (.int 67)))) (fC (.int 23))) fNil)) (fC (.int 2147483179))) (fCons (fIf (fTb (f2 geD (fCa (i1D fun i => .int (if i < 0 then -i else i)) (fCons (fVar 4) fNil)) (f2 powD (fC (.int 10)) (fC (.int 17))))) (fCa (i1D fun i => .int (if i < 0 then -i else i)) (fCons (fVar 4) fNil)) (fC (.int 0))) (fCons (fC (.int 0)) fNil))))))))
def sp_law_urn : DSp := fun ds Q _ σ => ∃ (ns : List Int) (k : Int), ds = [.lst (ns.map D.int), .int k] ∧ 0 ≤ k ∧ k < 1000 ∧ ns.length ≤ 63 ∧ Q .jar σ
/-! law -/
abbrev N_law : List Str := ["script", "lap"]
def R_law : FS := (sRet (fCa (blsD fun bs => .bl (bs.all id)) (fCons (fL (fLc (fRng1 (fCons (fCa (i2D fun i j => .int (if j > i then j else i)) (fCons (fC (.int 2)) (fCons (fCa (i2D fun i j => .int (if j < i then j else i)) (fCons (fCa lenD (fCons (fVar 0) fNil)) (fCons (fC (.int 5)) fNil))) fNil))) fNil)) [1] (gVar 1) fYes (fCall sp_law_right (fCons (fCall sp_law_urn (fCons (fVar 0) (fCons (fVar 1) fNil))) fNil)))) fNil)))
def sp_law : DSp := fun ds Q _ σ => ∃ ns : List Int, ds = [.lst (ns.map D.int)] ∧ ns.length ≤ 63 ∧ σ.n = 0 ∧ ∀ k : Nat, Q (.bl true) ⟨k, σ.cs⟩
end K45
namespace K45
open PySem L2 DL PyProof.Rows TP
theorem cmul_pull {i x : Int} : CMul i (26003 + x.fmod 4001) := .inr (by
  have h := fmod_lt x (m := 4001) (by decide)
  constructor <;> omega)
theorem len_law_pull : ∀ ds Q EX σ, sp_law_pull ds Q EX σ → ds.length = 2 := by
  rintro _ Q EX σ ⟨m, rfl, _⟩; rfl
theorem pure_law_pull : ∀ ds Q EX σ, sp_law_pull ds Q EX σ → R_law_pull { nx := fun _ => Q .non, rt := Q } EX (startD N_law_pull ds) σ := by
  rintro _ Q EX σ ⟨m, rfl, h0, h1, hσ, k⟩
  have hm : m ≠ 0 := by omega
  have fin : ∀ n : Int, Q (.int (n.fmod m)) ⟨σ.n + 1, σ.cs⟩ := fun n => k _ _ (fmod_lt n h0).1 (fmod_lt n h0).2 (Nat.le_succ _) (Nat.le_refl _)
  intro a1 b1 c1 j1
  refine ⟨_, rfl, ?_⟩
  refine ite2 (fun _ => ?_) (fun _ => ?_)
  · intro a2 b2 c2 j2
    refine ⟨b2, m, rfl, h0, h1, rfl, jpU_1, fun n h2 h3 => ?_⟩
    exact k n σ.n h2 h3 (Nat.le_refl _) (Nat.le_succ _)
  · intro a2 b2 c2 j2
    have hc0 : 0 ≤ c2 := j2.1
    have hc1 : c2 ≤ (σ.n : Int) := j2.2
    refine ⟨σ.n + 1, jpU_2 (m := c2 + 1) (by omega) (by omega) (Nat.le_succ _), ?_⟩
    intro a3 b3 c3 j3
    refine ⟨.inr (by decide), ?_⟩
    intro a4 b4 c4 j4
    have hd0 : 0 ≤ c4 := j4.1
    have hd1 : c4 ≤ ((σ.n + 1 : Nat) : Int) := j4.2
    intro a5 b5 c5 j5
    refine ⟨show CMul c4 c5 from .inl (by omega), ?_⟩
    refine ⟨.inr (by decide), ?_⟩
    refine ⟨(by decide : (2147483179 : Int) ≠ 0), ?_⟩
    refine ⟨(by decide : (4001 : Int) ≠ 0), ?_⟩
    refine ⟨cmul_pull, ?_⟩
    refine ⟨(by decide : (2147483171 : Int) ≠ 0), ?_⟩
    refine ⟨σ.n + 1, jpU_0, ?_⟩
    intro a6 b6 c6 j6
    refine ⟨⟨(by decide : (1024 : Int) ≠ 0), by decide⟩, ?_⟩
    refine ⟨hm, ?_⟩
    exact fin _
theorem len_law_one_of : ∀ ds Q EX σ, sp_law_one_of ds Q EX σ → ds.length = 2 := by
  rintro _ Q EX σ ⟨xs, d, rfl, _⟩; rfl
theorem pure_law_one_of : ∀ ds Q EX σ, sp_law_one_of ds Q EX σ → R_law_one_of { nx := fun _ => Q .non, rt := Q } EX (startD N_law_one_of ds) σ := by
  rintro _ Q EX σ ⟨xs, d, rfl, hd, hne, hz, hσ, k⟩
  have hl : 0 < xs.length := List.length_pos_iff.mpr hne
  have fin : ∀ (n : Int) (kk : Nat), 0 ≤ n → n < xs.length → σ.n ≤ kk → kk ≤ σ.n + 1 → ∃ i : Nat, n = (i : Int) ∧ ∃ h : i < xs.length, Q xs[i] ⟨kk, σ.cs⟩ := fun n kk h1 h2 h3 h4 => by
    obtain ⟨i, rfl⟩ := Int.eq_ofNat_of_zero_le h1
    have hi : i < xs.length := by omega
    exact ⟨i, rfl, hi, k _ (List.getElem_mem hi) kk h3 h4⟩
  rcases hd with rfl | rfl
  · refine ⟨(xs.length : Int), rfl, by omega, by omega, hσ, fun n kk h1 h2 h3 h4 => ?_⟩
    obtain ⟨i, rfl, hi, q⟩ := fin n kk h1 h2 h3 h4
    exact ⟨(i : Int), xs[i], rfl, atI_nat hi, q⟩
  · refine ⟨(xs.length : Int), rfl, by omega, by omega, hσ, fun n kk h1 h2 h3 h4 => ?_⟩
    obtain ⟨i, rfl, hi, q⟩ := fin n kk h1 h2 h3 h4
    exact ⟨(i : Int), xs[i], rfl, atI_nat hi, q⟩
theorem perm_map_inv {α : Type} {f : α → D} {ys zs : List D} (h : ys.Perm zs) : ∀ {l : List α}, zs = l.map f → ∃ o : List α, ys = o.map f ∧ o.Perm l := by
  induction h with
  | nil =>
    intro l e
    cases l with
    | nil => exact ⟨[], rfl, .nil⟩
    | cons a l => cases e
  | cons x _ ih =>
    intro l e
    cases l with
    | nil => cases e
    | cons a l =>
      rw [List.map_cons] at e
      injection e with e1 e2
      obtain ⟨o, h1, h2⟩ := ih e2
      exact ⟨a :: o, by rw [List.map_cons, h1, e1], h2.cons a⟩
  | swap x y t =>
    intro l e
    cases l with
    | nil => cases e
    | cons a l =>
      rw [List.map_cons] at e
      injection e with e1 e2
      cases l with
      | nil => cases e2
      | cons b l =>
        rw [List.map_cons] at e2
        injection e2 with e2 e3
        exact ⟨b :: a :: l, by rw [List.map_cons, List.map_cons, e1, e2, e3], .swap a b l⟩
  | trans _ _ ih1 ih2 =>
    intro l e
    obtain ⟨o, h1, h2⟩ := ih2 e
    obtain ⟨o2, h3, h4⟩ := ih1 h1
    exact ⟨o2, h3, h4.trans h2⟩
theorem ins_perm {ys zs : List D} {z : D} {i : Nat} : ((ys.take i ++ [z] ++ ys.drop i) ++ zs).Perm (ys ++ z :: zs) := by
  have p1 : (ys.take i ++ [z] ++ ys.drop i).Perm (z :: ys) := by
    rw [List.append_assoc]
    refine List.perm_middle.trans ?_
    show (z :: (ys.take i ++ ys.drop i)).Perm (z :: ys)
    rw [List.take_append_drop]
  exact (p1.append_right zs).trans List.perm_middle.symm
theorem loop_mixed {A : DE} {EX : XP} {v : D} {cs : List (Nat × List D)} {all : List D} {n0 : Nat} (hl : all.length ≤ 1000) (hn : n0 < 900000000) (hA : ∀ (ws : List D) (k : Nat) (x : Option D), ws.Perm all → n0 ≤ k → k ≤ n0 + all.length → A.nx [.val .jar, .val v, .own ws, jk x] ⟨k, cs⟩) :
    ∀ (zs ys : List D) (x : Option D) (k : Nat), (ys ++ zs).Perm all → n0 ≤ k → k ≤ n0 + ys.length → forD (gVar 3) L_law_mixed_0 zs A EX [.val .jar, .val v, .own ys, jk x] ⟨k, cs⟩
  | [], ys, x, k, hp, h1, h2 => by
    rw [List.append_nil] at hp
    have := hp.length_eq
    exact hA ys k x hp h1 (by omega)
  | z :: zs, ys, x, k, hp, h1, h2 => by
    have hll := hp.length_eq
    rw [List.length_append, List.length_cons] at hll
    refine ⟨by rw [sl_eq]; omega, (ys.length : Int) + 1, rfl, by omega, by omega, by show k < 1000000000; omega, fun m k2 h3 h4 h5 h6 => ?_⟩
    obtain ⟨i, rfl⟩ := Int.eq_ofNat_of_zero_le h3
    have h5 : k ≤ k2 := h5
    have h6 : k2 ≤ k + 1 := h6
    refine ⟨i, rfl, by omega, ?_⟩
    refine loop_mixed (EX := EX) hl hn hA zs (ys.take i ++ [z] ++ ys.drop i) (some z) k2 (ins_perm.trans hp) (by omega) ?_
    rw [List.length_append, List.length_append, List.length_take, List.length_drop, List.length_singleton]
    omega
theorem len_law_mixed : ∀ ds Q EX σ, sp_law_mixed ds Q EX σ → ds.length = 2 := by
  rintro _ Q EX σ ⟨xs, d, rfl, _⟩; rfl
theorem pure_law_mixed : ∀ ds Q EX σ, sp_law_mixed ds Q EX σ → R_law_mixed { nx := fun _ => Q .non, rt := Q } EX (startD N_law_mixed ds) σ := by
  rintro _ Q EX ⟨n0, cs⟩ ⟨xs, d, rfl, hd, hl, hσ, k⟩
  have hσ : n0 < 900000000 := hσ
  refine lP_law_mixed_0.goW (EX := EX) (r := [.val .jar, .val d, .un, .un]) ?_ ?_; exact (by first | rfl | (simp only [List.set_cons_zero, List.set_cons_succ, List.map_cons, List.map_nil, adr_jk, adr_jo, adr_val, adr_un, adr_own]; done))
  refine W_setOwn (ds := []) (E_lst E_nil (Nat.zero_le _)) ⟨(by first | rfl | (simp only [List.set_cons_zero, List.set_cons_succ, List.map_cons, List.map_nil, adr_jk, adr_jo, adr_val, adr_un, adr_own]; done)), ?_⟩
  have go := loop_mixed (A := { nx := fun r σ => sRet (fSee 2) { nx := fun _ => Q .non, rt := Q } EX r σ, rt := Q }) (EX := EX) (v := d) (cs := cs) hl hσ (fun ws kk x hp h1 h2 => k ws hp kk h1 h2) xs [] none n0 (by rw [List.nil_append]) (Nat.le_refl _) (Nat.le_add_right _ _)
  rcases hd with rfl | rfl
  · exact ⟨_, rfl, go⟩
  · exact ⟨_, rfl, go⟩
theorem t_law_spots {s : List Int} (h : OkS s) : cf_law_spots [.tup (s.map D.int)] = .ok (sts (sets (full s))) := by
  have hsm := h.small
  refine cfN_ok (by rfl) ?_; simp only [x_law_spots, DL.startD, N_law_spots, List.map_cons, List.map_nil, List.length_cons, List.length_nil, Nat.reduceAdd, Nat.reduceSub, List.replicate_succ, List.replicate_zero, List.cons_append, List.nil_append]
  refine S_setOwn (ds := sts (sets [])) (by simp (disch := (first | assumption | omega | (simp only [List.length_append, List.length_take, List.length_drop, List.length_cons, List.length_nil, List.length_map, List.length_range, sts_len, sl_eq, sx_len] <;> omega))) only [cfOf, cfN, DL.startD, ySeq, yIf, yRet, yRetN, ySet, ySetOwn, yOff, offs, Sl.off, yApp, yFor, yExpr, yNext, yNever, yPar, yParO, yParOO, yAsg, yRetNew, yRetF, yMove, bind_ok, st_ok, ofO_some, cut_ok, xVar, xSee, xC, x2, xTb, xAndT, xOrT, xNotT, xAnd, xOr, xNot, xIf, xNil, xCons, xTup, xLst, xL, xCa, xSlice, oNone, oSome, xFld, xProp, xCall, xCallN, xMeth, xNeg, xAddN, isiX, tagD, iA, seqD_lst, seqD_tup, seqD_st, yVar, ysNil, ysCons, yTup, wipeD, frc_eq, frcs_eq, frcp_eq, List.getElem?_cons_zero, List.getElem?_cons_succ, List.set_cons_zero, List.set_cons_succ, List.map_cons, List.map_nil, List.length_cons, List.length_nil, List.replicate_succ, List.replicate_zero, List.cons_append, List.nil_append, Nat.reduceAdd, Nat.reduceSub, Nat.reduceEqDiff, Bool.false_eq_true, Nat.zero_add, eq_self, if_true, if_pos, if_neg, reduceCtorEq, Option.map_some, Option.bind_some, addX_int, natc1, cutS_sx, cutD_sts, cutN_to, cutN_from, cutN_mid, addX_st, eqX_st, neX_st, ltX_st, ltX_int, leX_int, gtX_int, geX_int, eqX_int, neX_int, sl_eq, sx_len, signs_sx, lenX_st, lenX_lst, lenX_tup, gd_pos, sts_len, tupCX, listX, inX_tup, inX_one, ixX_st, ixX_sts, ixX_stsL, lit_empty] <;> rfl) ?_
  refine S_for (em := D.int) (xs := s) (fun p r => ∃ a b c d, r = [.val (.tup (s.map D.int)), .own (sts (sets (full p))), a, b, c, d]) (iA_ok rfl rfl) ⟨_, _, _, _, rfl⟩ ?_ ?_
  · rintro p z q rfl r ⟨a, b, c, d, rfl⟩
    have hp : Small (full p) := by
      have : full (p ++ z :: q) = full p ++ full (z :: q) := List.map_append
      rw [this] at hsm
      exact hsm.pre
    have hz : z = 2 ∨ z = 3 := h.two z (by simp)
    refine ⟨_, rfl, S_setOwn (E_lst E_nil (by exact Nat.zero_le _)) ?_⟩
    refine W_seq (W_off (W_for (em := st) (xs := sets (full p)) (fun pre r => ∃ c d, r = [.val (.tup ((p ++ z :: q).map D.int)), .val (.lst (sts (sets (full p)))), .val (.int z), .own (sts (grow pre (standsOf z))), c, d]) (iA_ok rfl rfl) ⟨_, _, rfl⟩ ?_ ?_))
    · rintro pre x post hx r ⟨c, d, rfl⟩
      have mx : x ∈ sets (full p) := by rw [hx]; simp
      have lx : x.length ≤ 5 := (mem_sets.mp mx).len5 hp
      have h9 : (grow pre (standsOf z)).length ≤ 243 * 3 := by
        rw [grow_len]
        have : pre.length + (post.length + 1) = (sets (full p)).length := by rw [hx]; simp
        have := hp.sets
        exact Nat.mul_le_mul (by omega) standsOf_len
      refine ⟨_, rfl, W_setOwn (ds := sts (grow (pre ++ [x]) (standsOf z))) ((E_addN rfl (E_L (xLc_ok (e := fun c => st [c]) (xs := standsOf z) (fun _ => true) (fun c => st (x ++ [c])) (iA_ok (d := st (standsOf z)) ?_ seqD_st) (Nat.le_trans standsOf_len (by decide)) ?_)) ?_).trans ?_) ⟨_, _, rfl⟩⟩
      · rcases hz with rfl | rfl
        · show xSlice (xC _) oNone (oSome (xVar 2)) _ = _
          have e : (2 : Int) = ((2 : Nat) : Int) := rfl
          simp (disch := (first | assumption | omega | (simp only [List.length_append, List.length_take, List.length_drop, List.length_cons, List.length_nil, List.length_map, List.length_range, sts_len, sl_eq, sx_len] <;> omega))) only [cfOf, cfN, DL.startD, ySeq, yIf, yRet, yRetN, ySet, ySetOwn, yOff, offs, Sl.off, yApp, yFor, yExpr, yNext, yNever, yPar, yParO, yParOO, yAsg, yRetNew, yRetF, yMove, bind_ok, st_ok, ofO_some, cut_ok, xVar, xSee, xC, x2, xTb, xAndT, xOrT, xNotT, xAnd, xOr, xNot, xIf, xNil, xCons, xTup, xLst, xL, xCa, xSlice, oNone, oSome, xFld, xProp, xCall, xCallN, xMeth, xNeg, xAddN, isiX, tagD, iA, seqD_lst, seqD_tup, seqD_st, yVar, ysNil, ysCons, yTup, wipeD, frc_eq, frcs_eq, frcp_eq, List.getElem?_cons_zero, List.getElem?_cons_succ, List.set_cons_zero, List.set_cons_succ, List.map_cons, List.map_nil, List.length_cons, List.length_nil, List.replicate_succ, List.replicate_zero, List.cons_append, List.nil_append, Nat.reduceAdd, Nat.reduceSub, Nat.reduceEqDiff, Bool.false_eq_true, Nat.zero_add, eq_self, if_true, if_pos, if_neg, reduceCtorEq, Option.map_some, Option.bind_some, addX_int, natc1, cutS_sx, cutD_sts, cutN_to, cutN_from, cutN_mid, addX_st, eqX_st, neX_st, ltX_st, ltX_int, leX_int, gtX_int, geX_int, eqX_int, neX_int, sl_eq, sx_len, signs_sx, lenX_st, lenX_lst, lenX_tup, gd_pos, sts_len, tupCX, listX, inX_tup, inX_one, ixX_st, ixX_sts, ixX_stsL, lit012, e]
          rfl
        · show xSlice (xC _) oNone (oSome (xVar 2)) _ = _
          have e : (3 : Int) = ((3 : Nat) : Int) := rfl
          simp (disch := (first | assumption | omega | (simp only [List.length_append, List.length_take, List.length_drop, List.length_cons, List.length_nil, List.length_map, List.length_range, sts_len, sl_eq, sx_len] <;> omega))) only [cfOf, cfN, DL.startD, ySeq, yIf, yRet, yRetN, ySet, ySetOwn, yOff, offs, Sl.off, yApp, yFor, yExpr, yNext, yNever, yPar, yParO, yParOO, yAsg, yRetNew, yRetF, yMove, bind_ok, st_ok, ofO_some, cut_ok, xVar, xSee, xC, x2, xTb, xAndT, xOrT, xNotT, xAnd, xOr, xNot, xIf, xNil, xCons, xTup, xLst, xL, xCa, xSlice, oNone, oSome, xFld, xProp, xCall, xCallN, xMeth, xNeg, xAddN, isiX, tagD, iA, seqD_lst, seqD_tup, seqD_st, yVar, ysNil, ysCons, yTup, wipeD, frc_eq, frcs_eq, frcp_eq, List.getElem?_cons_zero, List.getElem?_cons_succ, List.set_cons_zero, List.set_cons_succ, List.map_cons, List.map_nil, List.length_cons, List.length_nil, List.replicate_succ, List.replicate_zero, List.cons_append, List.nil_append, Nat.reduceAdd, Nat.reduceSub, Nat.reduceEqDiff, Bool.false_eq_true, Nat.zero_add, eq_self, if_true, if_pos, if_neg, reduceCtorEq, Option.map_some, Option.bind_some, addX_int, natc1, cutS_sx, cutD_sts, cutN_to, cutN_from, cutN_mid, addX_st, eqX_st, neX_st, ltX_st, ltX_int, leX_int, gtX_int, geX_int, eqX_int, neX_int, sl_eq, sx_len, signs_sx, lenX_st, lenX_lst, lenX_tup, gd_pos, sts_len, tupCX, listX, inX_tup, inX_one, ixX_st, ixX_sts, ixX_stsL, lit012, e]
          rfl
      · intro c hc
        refine ⟨_, rfl, rfl, fun _ => ?_⟩
        simp (disch := (first | assumption | omega | (simp only [List.length_append, List.length_take, List.length_drop, List.length_cons, List.length_nil, List.length_map, List.length_range, sts_len, sl_eq, sx_len] <;> omega))) only [cfOf, cfN, DL.startD, ySeq, yIf, yRet, yRetN, ySet, ySetOwn, yOff, offs, Sl.off, yApp, yFor, yExpr, yNext, yNever, yPar, yParO, yParOO, yAsg, yRetNew, yRetF, yMove, bind_ok, st_ok, ofO_some, cut_ok, xVar, xSee, xC, x2, xTb, xAndT, xOrT, xNotT, xAnd, xOr, xNot, xIf, xNil, xCons, xTup, xLst, xL, xCa, xSlice, oNone, oSome, xFld, xProp, xCall, xCallN, xMeth, xNeg, xAddN, isiX, tagD, iA, seqD_lst, seqD_tup, seqD_st, yVar, ysNil, ysCons, yTup, wipeD, frc_eq, frcs_eq, frcp_eq, List.getElem?_cons_zero, List.getElem?_cons_succ, List.set_cons_zero, List.set_cons_succ, List.map_cons, List.map_nil, List.length_cons, List.length_nil, List.replicate_succ, List.replicate_zero, List.cons_append, List.nil_append, Nat.reduceAdd, Nat.reduceSub, Nat.reduceEqDiff, Bool.false_eq_true, Nat.zero_add, eq_self, if_true, if_pos, if_neg, reduceCtorEq, Option.map_some, Option.bind_some, addX_int, natc1, cutS_sx, cutD_sts, cutN_to, cutN_from, cutN_mid, addX_st, eqX_st, neX_st, ltX_st, ltX_int, leX_int, gtX_int, geX_int, eqX_int, neX_int, sl_eq, sx_len, signs_sx, lenX_st, lenX_lst, lenX_tup, gd_pos, sts_len, tupCX, listX, inX_tup, inX_one, ixX_st, ixX_sts, ixX_stsL]
      · rw [sts_len, filter_tt, List.length_map]
        have := standsOf_len (z := z)
        omega
      · rw [filter_tt, grow_app, grow_one, sts_app]
        simp [sts]
    · rintro r ⟨c, d, rfl⟩
      have e : sets (full (p ++ [z])) = grow (sets (full p)) (standsOf z) := by
        have e : full (p ++ [z]) = full p ++ [standsOf z] := by unfold full; simp
        rw [e, sets_grow]
      refine W_move rfl ?_
      show ∃ a b c d, _ = _
      rw [e]
      exact ⟨_, _, _, _, rfl⟩
  · rintro r ⟨a, b, c, d, rfl⟩
    exact W_retNew rfl rfl
theorem sl012 {z : Int} {e : List Sl → R D} {r : List Sl} (hz : z = 2 ∨ z = 3) (he : e r = .ok (.int z)) : xSlice (xC (.str "012")) oNone (oSome e) r = .ok (st (standsOf z)) := by
  rcases hz with rfl | rfl
  · rw [show (2 : Int) = ((2 : Nat) : Int) from rfl] at he
    simp (disch := (first | assumption | omega | (simp only [List.length_append, List.length_take, List.length_drop, List.length_cons, List.length_nil, List.length_map, List.length_range, sts_len, sl_eq, sx_len] <;> omega))) only [cfOf, cfN, DL.startD, ySeq, yIf, yRet, yRetN, ySet, ySetOwn, yOff, offs, Sl.off, yApp, yFor, yExpr, yNext, yNever, yPar, yParO, yParOO, yAsg, yRetNew, yRetF, yMove, bind_ok, st_ok, ofO_some, cut_ok, xVar, xSee, xC, x2, xTb, xAndT, xOrT, xNotT, xAnd, xOr, xNot, xIf, xNil, xCons, xTup, xLst, xL, xCa, xSlice, oNone, oSome, xFld, xProp, xCall, xCallN, xMeth, xNeg, xAddN, isiX, tagD, iA, seqD_lst, seqD_tup, seqD_st, yVar, ysNil, ysCons, yTup, wipeD, frc_eq, frcs_eq, frcp_eq, List.getElem?_cons_zero, List.getElem?_cons_succ, List.set_cons_zero, List.set_cons_succ, List.map_cons, List.map_nil, List.length_cons, List.length_nil, List.replicate_succ, List.replicate_zero, List.cons_append, List.nil_append, Nat.reduceAdd, Nat.reduceSub, Nat.reduceEqDiff, Bool.false_eq_true, Nat.zero_add, eq_self, if_true, if_pos, if_neg, reduceCtorEq, Option.map_some, Option.bind_some, addX_int, natc1, cutS_sx, cutD_sts, cutN_to, cutN_from, cutN_mid, addX_st, eqX_st, neX_st, ltX_st, ltX_int, leX_int, gtX_int, geX_int, eqX_int, neX_int, sl_eq, sx_len, signs_sx, lenX_st, lenX_lst, lenX_tup, gd_pos, sts_len, tupCX, listX, inX_tup, inX_one, ixX_st, ixX_sts, ixX_stsL, lit012, he]
    rfl
  · rw [show (3 : Int) = ((3 : Nat) : Int) from rfl] at he
    simp (disch := (first | assumption | omega | (simp only [List.length_append, List.length_take, List.length_drop, List.length_cons, List.length_nil, List.length_map, List.length_range, sts_len, sl_eq, sx_len] <;> omega))) only [cfOf, cfN, DL.startD, ySeq, yIf, yRet, yRetN, ySet, ySetOwn, yOff, offs, Sl.off, yApp, yFor, yExpr, yNext, yNever, yPar, yParO, yParOO, yAsg, yRetNew, yRetF, yMove, bind_ok, st_ok, ofO_some, cut_ok, xVar, xSee, xC, x2, xTb, xAndT, xOrT, xNotT, xAnd, xOr, xNot, xIf, xNil, xCons, xTup, xLst, xL, xCa, xSlice, oNone, oSome, xFld, xProp, xCall, xCallN, xMeth, xNeg, xAddN, isiX, tagD, iA, seqD_lst, seqD_tup, seqD_st, yVar, ysNil, ysCons, yTup, wipeD, frc_eq, frcs_eq, frcp_eq, List.getElem?_cons_zero, List.getElem?_cons_succ, List.set_cons_zero, List.set_cons_succ, List.map_cons, List.map_nil, List.length_cons, List.length_nil, List.replicate_succ, List.replicate_zero, List.cons_append, List.nil_append, Nat.reduceAdd, Nat.reduceSub, Nat.reduceEqDiff, Bool.false_eq_true, Nat.zero_add, eq_self, if_true, if_pos, if_neg, reduceCtorEq, Option.map_some, Option.bind_some, addX_int, natc1, cutS_sx, cutD_sts, cutN_to, cutN_from, cutN_mid, addX_st, eqX_st, neX_st, ltX_st, ltX_int, leX_int, gtX_int, geX_int, eqX_int, neX_int, sl_eq, sx_len, signs_sx, lenX_st, lenX_lst, lenX_tup, gd_pos, sts_len, tupCX, listX, inX_tup, inX_one, ixX_st, ixX_sts, ixX_stsL, lit012, he]
    rfl
theorem t_law_near {s : List Int} {x : Tx} (h : OkS s) (hx : fits x (full s)) : cf_law_near [.tup (s.map D.int), st x] = .ok (.lst (sts (near (full s) x))) := by
  have hsm := h.small
  have hl := hsm.len
  have lx := hx.len5 hsm
  have hxl := hx.len
  have lf : (full s).length = s.length := List.length_map _
  rw [near_eq full_asc hx]
  refine cf_ok (by rfl) ?_; simp only [x_law_near, DL.startD, N_law_near, List.map_cons, List.map_nil, List.length_cons, List.length_nil, Nat.reduceAdd, Nat.reduceSub, List.replicate_succ, List.replicate_zero, List.cons_append, List.nil_append]
  refine S_set (E_L (E_lst E_nil (by exact Nat.zero_le _))) ?_
  refine S_for (em := fun i : Nat => .int i) (xs := List.range (full s).length) (fun p r => ∃ a b, r = [.val (.tup (s.map D.int)), .val (st x), .val (.lst (sts (p.flatMap fun k => side (full s) x k))), a, b])
    (by rw [rng1_ok (n := (full s).length) (by rw [lf]; simp (disch := (first | assumption | omega | (simp only [List.length_append, List.length_take, List.length_drop, List.length_cons, List.length_nil, List.length_map, List.length_range, sts_len, sl_eq, sx_len] <;> omega))) only [cfOf, cfN, DL.startD, ySeq, yIf, yRet, yRetN, ySet, ySetOwn, yOff, offs, Sl.off, yApp, yFor, yExpr, yNext, yNever, yPar, yParO, yParOO, yAsg, yRetNew, yRetF, yMove, bind_ok, st_ok, ofO_some, cut_ok, xVar, xSee, xC, x2, xTb, xAndT, xOrT, xNotT, xAnd, xOr, xNot, xIf, xNil, xCons, xTup, xLst, xL, xCa, xSlice, oNone, oSome, xFld, xProp, xCall, xCallN, xMeth, xNeg, xAddN, isiX, tagD, iA, seqD_lst, seqD_tup, seqD_st, yVar, ysNil, ysCons, yTup, wipeD, frc_eq, frcs_eq, frcp_eq, List.getElem?_cons_zero, List.getElem?_cons_succ, List.set_cons_zero, List.set_cons_succ, List.map_cons, List.map_nil, List.length_cons, List.length_nil, List.replicate_succ, List.replicate_zero, List.cons_append, List.nil_append, Nat.reduceAdd, Nat.reduceSub, Nat.reduceEqDiff, Bool.false_eq_true, Nat.zero_add, eq_self, if_true, if_pos, if_neg, reduceCtorEq, Option.map_some, Option.bind_some, addX_int, natc1, cutS_sx, cutD_sts, cutN_to, cutN_from, cutN_mid, addX_st, eqX_st, neX_st, ltX_st, ltX_int, leX_int, gtX_int, geX_int, eqX_int, neX_int, sl_eq, sx_len, signs_sx, lenX_st, lenX_lst, lenX_tup, gd_pos, sts_len, tupCX, listX, inX_tup, inX_one, ixX_st, ixX_sts, ixX_stsL, List.length_map]) (by omega), rangeD_nat]) ⟨_, _, rfl⟩ ?_ ?_
  · rintro p k q hq r ⟨a, b, rfl⟩
    have hk : k < (full s).length := by
      have : k ∈ List.range (full s).length := by rw [hq]; simp
      simpa using this
    have hks : k < s.length := by omega
    have h3 : ((full s).getD k []).length ≤ 3 := hsm.three _ (by rw [List.getD_eq_getElem?_getD, List.getElem?_eq_getElem hk]; exact List.getElem_mem hk)
    have hz : s[k] = 2 ∨ s[k] = 3 := h.two _ (List.getElem_mem hks)
    have eg : (full s).getD k [] = standsOf s[k] := by
      unfold full
      rw [List.getD_eq_getElem?_getD, List.getElem?_map, List.getElem?_eq_getElem hks]; rfl
    refine ⟨_, rfl, W_set (d := .lst (sts ((p ++ [k]).flatMap fun k => side (full s) x k))) ((E_L (E_addN rfl (E_L (xLc_ok (e := fun c => st [c]) (xs := (full s).getD k []) (fun c => decide (c ≠ x.getD k 0)) (fun c => st (turned x k [c])) (iA_ok (d := st ((full s).getD k [])) ?_ seqD_st) (by omega) ?_)) ?_)).trans ?_) ⟨_, _, rfl⟩⟩
    · rw [eg]
      exact sl012 hz (E_2 rfl rfl (ixX_tup (by rw [List.getElem?_map, List.getElem?_eq_getElem hks]; rfl)))
    · intro c hc
      refine ⟨_, rfl, ?_, fun _ => ?_⟩
      · simp (disch := (first | assumption | omega | (simp only [List.length_append, List.length_take, List.length_drop, List.length_cons, List.length_nil, List.length_map, List.length_range, sts_len, sl_eq, sx_len] <;> omega))) only [cfOf, cfN, DL.startD, ySeq, yIf, yRet, yRetN, ySet, ySetOwn, yOff, offs, Sl.off, yApp, yFor, yExpr, yNext, yNever, yPar, yParO, yParOO, yAsg, yRetNew, yRetF, yMove, bind_ok, st_ok, ofO_some, cut_ok, xVar, xSee, xC, x2, xTb, xAndT, xOrT, xNotT, xAnd, xOr, xNot, xIf, xNil, xCons, xTup, xLst, xL, xCa, xSlice, oNone, oSome, xFld, xProp, xCall, xCallN, xMeth, xNeg, xAddN, isiX, tagD, iA, seqD_lst, seqD_tup, seqD_st, yVar, ysNil, ysCons, yTup, wipeD, frc_eq, frcs_eq, frcp_eq, List.getElem?_cons_zero, List.getElem?_cons_succ, List.set_cons_zero, List.set_cons_succ, List.map_cons, List.map_nil, List.length_cons, List.length_nil, List.replicate_succ, List.replicate_zero, List.cons_append, List.nil_append, Nat.reduceAdd, Nat.reduceSub, Nat.reduceEqDiff, Bool.false_eq_true, Nat.zero_add, eq_self, if_true, if_pos, if_neg, reduceCtorEq, Option.map_some, Option.bind_some, addX_int, natc1, cutS_sx, cutD_sts, cutN_to, cutN_from, cutN_mid, addX_st, eqX_st, neX_st, ltX_st, ltX_int, leX_int, gtX_int, geX_int, eqX_int, neX_int, sl_eq, sx_len, signs_sx, lenX_st, lenX_lst, lenX_tup, gd_pos, sts_len, tupCX, listX, inX_tup, inX_one, ixX_st, ixX_sts, ixX_stsL]
        simp
      · simp (disch := (first | assumption | omega | (simp only [List.length_append, List.length_take, List.length_drop, List.length_cons, List.length_nil, List.length_map, List.length_range, sts_len, sl_eq, sx_len] <;> omega))) only [cfOf, cfN, DL.startD, ySeq, yIf, yRet, yRetN, ySet, ySetOwn, yOff, offs, Sl.off, yApp, yFor, yExpr, yNext, yNever, yPar, yParO, yParOO, yAsg, yRetNew, yRetF, yMove, bind_ok, st_ok, ofO_some, cut_ok, xVar, xSee, xC, x2, xTb, xAndT, xOrT, xNotT, xAnd, xOr, xNot, xIf, xNil, xCons, xTup, xLst, xL, xCa, xSlice, oNone, oSome, xFld, xProp, xCall, xCallN, xMeth, xNeg, xAddN, isiX, tagD, iA, seqD_lst, seqD_tup, seqD_st, yVar, ysNil, ysCons, yTup, wipeD, frc_eq, frcs_eq, frcp_eq, List.getElem?_cons_zero, List.getElem?_cons_succ, List.set_cons_zero, List.set_cons_succ, List.map_cons, List.map_nil, List.length_cons, List.length_nil, List.replicate_succ, List.replicate_zero, List.cons_append, List.nil_append, Nat.reduceAdd, Nat.reduceSub, Nat.reduceEqDiff, Bool.false_eq_true, Nat.zero_add, eq_self, if_true, if_pos, if_neg, reduceCtorEq, Option.map_some, Option.bind_some, addX_int, natc1, cutS_sx, cutD_sts, cutN_to, cutN_from, cutN_mid, addX_st, eqX_st, neX_st, ltX_st, ltX_int, leX_int, gtX_int, geX_int, eqX_int, neX_int, sl_eq, sx_len, signs_sx, lenX_st, lenX_lst, lenX_tup, gd_pos, sts_len, tupCX, listX, inX_tup, inX_one, ixX_st, ixX_sts, ixX_stsL]
        rfl
    · rw [sts_len, List.length_map]
      have h4 := Nat.le_trans (List.length_filter_le (fun c => decide (c ≠ x.getD k 0)) ((full s).getD k [])) h3
      have h5 := besideLen (s := x) hsm p
      have h6 : p.length + (q.length + 1) = (full s).length := by
        have := congrArg List.length hq
        simpa using this.symm
      omega
    · rw [List.flatMap_append, sts_app]
      simp [side, sts]
  · rintro r ⟨a, b, rfl⟩
    refine W_ret (E_L (E_ca rfl (sortX_sts ?_))) ?_
    · rw [show (List.range (full s).length).flatMap (fun k => side (full s) x k) = besideRaw (full s) x from rfl]
      have h5 := besideLen (s := x) hsm (List.range (full s).length)
      rw [List.length_range] at h5
      exact Nat.le_trans h5 (by omega)
    · rfl
theorem near_len {s : List Int} {x : Tx} (h : OkS s) (hx : fits x (full s)) : (near (full s) x).length ≤ 15 := by
  rw [near_eq full_asc hx]
  have := besideLen (s := x) h.small (List.range (full s).length)
  rw [List.length_range] at this
  have h5 := h.small.len
  unfold beside
  rw [isort_perm.length_eq]
  exact Nat.le_trans this (by omega)
def sideAt (w : List Tx) (x : Tx) : List Fa := ((near w x).filter fun y => ltN x y).map fun y => (x, y)
theorem sidesOf_eq {w : List Tx} : sidesOf w = (sets w).flatMap (sideAt w) := rfl
theorem sides_len {s : List Int} (h : OkS s) : ∀ p : List Tx, (∀ x ∈ p, x ∈ sets (full s)) → (p.flatMap (sideAt (full s))).length ≤ p.length * 15
  | [], _ => Nat.zero_le _
  | x :: p, hx => by
    have h1 := sides_len h p fun y hy => hx y (List.mem_cons_of_mem _ hy)
    have h2 := near_len h (mem_sets.mp (hx x List.mem_cons_self))
    have h3 := List.length_filter_le (fun y => ltN x y) (near (full s) x)
    rw [List.flatMap_cons, List.length_append, List.length_cons]
    unfold sideAt at h1 ⊢
    rw [List.length_map]
    omega
theorem t_law_sides {s : List Int} (h : OkS s) : cf_law_sides [.tup (s.map D.int)] = .ok (.lst (fcts (sidesOf (full s)))) := by
  have hsm := h.small
  have hall := hsm.sets
  rw [sidesOf_eq]
  refine cf_ok (by rfl) ?_; simp only [x_law_sides, DL.startD, N_law_sides, List.map_cons, List.map_nil, List.length_cons, List.length_nil, Nat.reduceAdd, Nat.reduceSub, List.replicate_succ, List.replicate_zero, List.cons_append, List.nil_append]
  refine S_set (d := .lst (fcts [])) (E_L (E_lst E_nil (by exact Nat.zero_le _))) ?_
  refine S_for (em := st) (xs := sets (full s)) (fun p r => ∃ a b, r = [.val (.tup (s.map D.int)), .val (.lst (fcts (p.flatMap (sideAt (full s))))), a, b]) (iA_ok (E_L (E_callN (E_cons rfl E_nil) (t_law_spots h))) rfl) ⟨_, _, rfl⟩ ?_ ?_
  · rintro p x q hq r ⟨a, b, rfl⟩
    have mx : x ∈ sets (full s) := by rw [hq]; simp
    have fx := mem_sets.mp mx
    have nl := near_len h fx
    have pl := sides_len h p fun y hy => by rw [hq]; exact List.mem_append_left _ hy
    have hpl := pre_len hq
    refine ⟨_, rfl, W_set (d := .lst (fcts ((p ++ [x]).flatMap (sideAt (full s))))) ((E_L (E_addN rfl (E_L (xLc_ok (e := st) (xs := near (full s) x) (fun y => ltN x y) (fun y => fct (x, y)) (iA_ok (E_call (E_cons rfl (E_cons rfl E_nil)) (t_law_near h fx)) rfl) (by omega) fun y hy => ⟨_, rfl, E_tb (E_2 rfl rfl ltX_st), fun _ => E_tup (E_cons rfl (E_cons rfl E_nil)) (Nat.le_of_ble_eq_true rfl)⟩)) ?_)).trans ?_) ⟨_, _, rfl⟩⟩
    · rw [fcts_len, List.length_map]
      refine Nat.le_trans (Nat.add_le_add_left (List.length_filter_le _ _) _) ?_
      omega
    · rw [List.flatMap_append, fcts_app]
      unfold sideAt fcts
      rw [List.flatMap_cons, List.flatMap_nil, List.append_nil, List.map_map]; rfl
  · rintro r ⟨a, b, rfl⟩
    exact W_ret rfl rfl
theorem xIxL_ok {a b : List Sl → R D} {r : List Sl} {o : List Tx} {s : Tx} (ha : a r = .ok (.lst (sts o))) (hb : b r = .ok (st s)) (h : s ∈ o) : xIxL a b r = .ok (.int (idx o s)) := by
  unfold xIxL
  rw [ha, hb]
  show (match strsOf (sts o) with
    | some ys => (match ys.findIdx? (fun t : Str => decide (t.cps.toList = (sx s).cps.toList)) with
      | some j => R.ok (D.int (j : Nat))
      | none => R.no)
    | none => R.no) = _
  rw [strsOf_sts]
  show (match (o.map sx).findIdx? (fun t : Str => decide (t.cps.toList = (sx s).cps.toList)) with
      | some j => R.ok (D.int (j : Nat))
      | none => R.no) = _
  rw [findIdx_sts h]
theorem nd_flat {α β : Type} {f : α → List β} : ∀ {l : List α}, l.Nodup → (∀ x ∈ l, (f x).Nodup) → (∀ x ∈ l, ∀ y ∈ l, ∀ b, b ∈ f x → b ∈ f y → x = y) → (l.flatMap f).Nodup
  | [], _, _, _ => List.nodup_nil
  | x :: l, h, h1, h2 => by
    obtain ⟨hx, hl⟩ := List.nodup_cons.mp h
    rw [List.flatMap_cons, List.nodup_append]
    refine ⟨h1 x List.mem_cons_self, nd_flat hl (fun y hy => h1 y (List.mem_cons_of_mem _ hy)) (fun y hy z hz => h2 y (List.mem_cons_of_mem _ hy) z (List.mem_cons_of_mem _ hz)), fun a ha b hb e => ?_⟩
    subst e
    obtain ⟨y, hy, hb⟩ := List.mem_flatMap.mp hb
    have := h2 x List.mem_cons_self y (List.mem_cons_of_mem _ hy) a ha hb
    exact hx (this ▸ hy)
def orient (o : List Tx) (f : Fa) : Fa := if idx o f.1 < idx o f.2 then f else (f.2, f.1)
theorem fc_sides {s : List Int} {o : List Tx} {S F : List Fa} (h : OkS s) (h48 : (sets (full s)).length ≤ 48) (hp : o.Perm (sets (full s))) (hS : S.Perm (sidesOf (full s))) (hF : F.Sublist (S.map (orient o))) : Fc (full s) o F := by
  have hn := (asc_sets (full_asc (s := s))).nodup
  have hin : ∀ t, t ∈ sets (full s) → t ∈ o := fun t => hp.mem_iff.mpr
  have key : ∀ f ∈ S, f.1 ∈ sets (full s) ∧ f.2 ∈ sets (full s) ∧ dif f.1 f.2 = 1 ∧ f.1 < f.2 := fun f hf => by
    obtain ⟨h1, h2, h3⟩ := mem_sidesOf.mp (hS.mem_iff.mp hf)
    obtain ⟨h4, h5⟩ := mem_near.mp h2
    exact ⟨h1, mem_sets.mpr h4, by rw [dif_comm (by rw [(mem_sets.mp h1).len, h4.len])]; exact h5, h3⟩
  have key2 : ∀ f ∈ F, f.1 ∈ sets (full s) ∧ f.2 ∈ sets (full s) ∧ dif f.1 f.2 = 1 ∧ idx o f.1 < idx o f.2 := fun f hf => by
    obtain ⟨g, hg, rfl⟩ := List.mem_map.mp (hF.subset hf)
    obtain ⟨h1, h2, h3, h4⟩ := key g hg
    unfold orient
    split
    · exact ⟨h1, h2, h3, by assumption⟩
    · rename_i hlt
      have hne : idx o g.1 ≠ idx o g.2 := fun e => by
        have := idx_inj (hin _ h1) (hin _ h2) e
        rw [this] at h3
        have : dif g.2 g.2 = 0 := by unfold dif; simp
        omega
      refine ⟨h2, h1, ?_, by dsimp only; omega⟩
      dsimp only
      rw [dif_comm (by rw [(mem_sets.mp h1).len, (mem_sets.mp h2).len])]
      exact h3
  have ndS : (sidesOf (full s)).Nodup := by
    unfold sidesOf
    refine nd_flat hn (fun x hx => ?_) fun x hx y hy f h1 h2 => ?_
    · refine List.Pairwise.map _ (R := fun a b => a ≠ b) (fun a b hab e => hab (Prod.mk.inj e).2) ?_
      exact (hn.filter _).filter _
    · obtain ⟨_, _, rfl⟩ := List.mem_map.mp h1
      obtain ⟨_, _, e⟩ := List.mem_map.mp h2
      exact (Prod.mk.inj e).1.symm
  have asym : ∀ {x y : Tx}, x < y → ¬ y < x := fun {x y} h1 h2 => List.lt_asymm h1 h2
  have ndM : (S.map (orient o)).Nodup := by
    refine List.Pairwise.map _ (R := fun a b => a ∈ S ∧ b ∈ S ∧ a ≠ b) (fun a b hab e => ?_) ?_
    · obtain ⟨ha, hb, hne⟩ := hab
      obtain ⟨a1, a2, a3, a4⟩ := key a ha
      obtain ⟨b1, b2, b3, b4⟩ := key b hb
      unfold orient at e
      split at e <;> split at e
      · exact hne e
      · rw [e] at a4; exact asym a4 b4
      · rw [← e] at b4; exact asym a4 b4
      · exact hne (Prod.ext (Prod.mk.inj e).2 (Prod.mk.inj e).1)
    · have nd2 : S.Nodup := hS.nodup_iff.mpr ndS
      exact List.Pairwise.imp_of_mem (fun {a b} ha hb hne => ⟨ha, hb, hne⟩) nd2
  have hlen : (sidesOf (full s)).length ≤ 720 := by
    have := sides_len h (sets (full s)) fun x hx => hx
    rw [sidesOf_eq]
    omega
  refine ⟨ndM.sublist hF, fun f hf => ⟨hin _ (key2 f hf).1, hin _ (key2 f hf).2.1⟩, fun f hf => (key2 f hf).2.2.1, fun f hf => (key2 f hf).2.2.2, ?_⟩
  have := hF.length_le
  rw [List.length_map, hS.length_eq] at this
  omega
theorem loop_seen {s : List Int} {o : List Tx} {n : Int} {A : DE} {EX : XP} {cs : List (Nat × List D)} {S : List Fa} {n0 : Nat} (hz : S.length ≤ 1000) (hn : n0 < 900000000) (hS : ∀ f ∈ S, f.1 ∈ o ∧ f.2 ∈ o) (hA : ∀ (F : List Fa) (k : Nat) (a b : Option D), F.Sublist (S.map (orient o)) → n0 ≤ k → k ≤ n0 + S.length → A.nx [.val .jar, .val (.tup (s.map D.int)), .val (.int n), .val (.lst (sts o)), .own (fcts F), jk a, jk b] ⟨k, cs⟩) :
    ∀ (V P F : List Fa) (a b : Option D) (k : Nat), S = P ++ V → F.Sublist (P.map (orient o)) → n0 ≤ k → k ≤ n0 + P.length → forD (gTupD 2 (gsCons (gVar 5) (gsCons (gVar 6) gsNil))) L_law_seen_0 (fcts V) A EX [.val .jar, .val (.tup (s.map D.int)), .val (.int n), .val (.lst (sts o)), .own (fcts F), jk a, jk b] ⟨k, cs⟩
  | [], P, F, a, b, k, e, h, h1, h2 => by
    rw [List.append_nil] at e
    subst e
    exact hA F k a b h h1 h2
  | f :: V, P, F, a, b, k, e, h, h1, h2 => by
    obtain ⟨f1, f2⟩ := hS f (by rw [e]; simp)
    have hlen := congrArg List.length e
    rw [List.length_append, List.length_cons] at hlen
    have hFl := h.length_le
    rw [List.length_map] at hFl
    refine ⟨[st f.1, st f.2], rfl, rfl, _, _, rfl, _, _, rfl, rfl, ?_⟩
    refine ⟨4, rfl, by decide, by decide, by show k < 1000000000; omega, fun m k2 h3 h4 h5 h6 => ?_⟩
    have h5 : k ≤ k2 := h5
    have h6 : k2 ≤ k + 1 := h6
    refine ⟨_, rfl, ?_⟩
    refine ite2 (fun _ => ?_) (fun _ => ?_)
    · refine lP_law_seen_0.goW (EX := EX) (r := [.val .jar, .val (.tup (s.map D.int)), .val (.int n), .val (.lst (sts o)), .own (fcts F), .val (st f.1), .val (st f.2)]) ?_ ?_; exact (by first | rfl | (simp only [List.set_cons_zero, List.set_cons_succ, List.map_cons, List.map_nil, adr_jk, adr_jo, adr_val, adr_un, adr_own]; done))
      refine W_app2 (ds := fcts F) (d := fct (orient o f)) (es := fcts (F ++ [orient o f])) rfl (by rw [fcts_len]; omega) (E_if (v := decide (idx o f.1 < idx o f.2)) ((E_tb (E_2 (xIxL_ok rfl rfl f1) (xIxL_ok rfl rfl f2) ltX_int)).trans (by simp)) (fun hv => ?_) (fun hv => ?_)) fcts_snoc ⟨(by first | rfl | (simp only [List.set_cons_zero, List.set_cons_succ, List.map_cons, List.map_nil, adr_jk, adr_jo, adr_val, adr_un, adr_own]; done)), ?_⟩
      · unfold orient
        rw [if_pos (of_decide_eq_true hv)]
        exact E_tup (E_cons rfl (E_cons rfl E_nil)) (Nat.le_of_ble_eq_true rfl)
      · unfold orient
        rw [if_neg (of_decide_eq_false hv)]
        exact E_tup (E_cons rfl (E_cons rfl E_nil)) (Nat.le_of_ble_eq_true rfl)
      · exact loop_seen (EX := EX) hz hn hS hA V (P ++ [f]) (F ++ [orient o f]) (some _) (some _) k2 (by rw [e]; simp) (by rw [List.map_append]; exact h.append (List.Sublist.refl _)) (by omega) (by rw [List.length_append, List.length_singleton]; omega)
    · exact loop_seen (EX := EX) hz hn hS hA V (P ++ [f]) F (some _) (some _) k2 (by rw [e]; simp) (by rw [List.map_append]; exact h.trans (List.sublist_append_left _ _)) (by omega) (by rw [List.length_append, List.length_singleton]; omega)
theorem len_law_seen : ∀ ds Q EX σ, sp_law_seen ds Q EX σ → ds.length = 3 := by
  rintro _ Q EX σ ⟨s, n, rfl, _⟩; rfl
theorem pure_law_seen : ∀ ds Q EX σ, sp_law_seen ds Q EX σ → R_law_seen { nx := fun _ => Q .non, rt := Q } EX (startD N_law_seen ds) σ := by
  rintro _ Q EX ⟨n0, cs⟩ ⟨s, n, rfl, hs, hσ, k⟩
  have hσ : n0 < 800000000 := hσ
  have ok := okS_of hs
  have h48 : (sets (full s)).length ≤ 48 := sets_le hs
  have hlen : (sidesOf (full s)).length ≤ 720 := by
    have := sides_len ok (sets (full s)) fun x hx => hx
    rw [sidesOf_eq]
    omega
  show (cf_law_spots [.tup (s.map D.int)]).hold _ _
  rw [t_law_spots ok]
  refine ⟨sts (sets (full s)), _, rfl, .inl rfl, by rw [sts_len]; omega, by show n0 < 900000000; omega, fun ys hy k1 p1 q1 => ?_⟩
  have p1 : n0 ≤ k1 := p1
  have q1 : k1 ≤ n0 + (sts (sets (full s))).length := q1
  rw [sts_len] at q1
  obtain ⟨o, rfl, ho⟩ := perm_map_inv (f := st) hy rfl
  refine ⟨Nat.zero_le _, ?_⟩
  show (cf_law_sides [.tup (s.map D.int)]).hold _ _
  rw [t_law_sides ok]
  refine ⟨fcts (sidesOf (full s)), _, rfl, .inl rfl, by rw [fcts_len]; omega, by show k1 < 900000000; omega, fun ys hy k2 p2 q2 => ?_⟩
  have p2 : k1 ≤ k2 := p2
  have q2 : k2 ≤ k1 + (fcts (sidesOf (full s))).length := q2
  rw [fcts_len] at q2
  obtain ⟨S, rfl, hS⟩ := perm_map_inv (f := fct) hy rfl
  have hSl := hS.length_eq
  refine ⟨_, rfl, ?_⟩
  refine loop_seen (s := s) (o := o) (n := n) (EX := EX) (S := S) (n0 := k2) (by omega) (by omega) (fun f hf => ?_) (fun F k3 a b hF p3 q3 => ?_) S [] [] none none k2 rfl (List.Sublist.refl _) (Nat.le_refl _) (Nat.le_add_right _ _)
  · obtain ⟨h1, h2, _⟩ := mem_sidesOf.mp (hS.mem_iff.mp hf)
    exact ⟨ho.mem_iff.mpr h1, ho.mem_iff.mpr (mem_sets.mpr (mem_near.mp h2).1)⟩
  · exact k o F ho (fc_sides ok h48 ho hS hF) k3 (show n0 ≤ k3 by omega) (show k3 ≤ n0 + 3000 by omega)
theorem t_check_board {s : List Int} : cf_check_board [bd s] = .ok .non := by
  refine cf_ok (by rfl) ?_; simp only [x_check_board, DL.startD, N_check_board, List.map_cons, List.map_nil, List.length_cons, List.length_nil, Nat.reduceAdd, Nat.reduceSub, List.replicate_succ, List.replicate_zero, List.cons_append, List.nil_append]
  exact W_if (E_notT (E_tb (E_isi rfl rfl rfl))) (fun z => nomatch z) fun _ => W_next (by first | rfl | trivial)
theorem t_Board_contains {s : List Int} {x : Tx} : cf_Board_contains [bd s, st x] = .ok (.bl (decide (x ∈ sets (full s)))) := by
  refine cf_ok (by rfl) ?_; simp only [x_Board_contains, DL.startD, N_Board_contains, List.map_cons, List.map_nil, List.length_cons, List.length_nil, Nat.reduceAdd, Nat.reduceSub, List.replicate_succ, List.replicate_zero, List.cons_append, List.nil_append]
  refine W_ret (E_and (a := true) (E_isi rfl rfl rfl) fun _ => E_2 rfl (E_2 (E_fld rfl rfl) rfl rfl) inX_tup) ?_
  simp
theorem t_are_neighbours {x y : Tx} (hx : x.length ≤ 5) (hl : x.length = y.length) : cf_are_neighbours [st x, st y] = .ok (.bl (decide (dif x y = 1))) := by
  refine cf_ok (by rfl) ?_; simp only [x_are_neighbours, DL.startD, N_are_neighbours, List.map_cons, List.map_nil, List.length_cons, List.length_nil, Nat.reduceAdd, Nat.reduceSub, List.replicate_succ, List.replicate_zero, List.cons_append, List.nil_append]
  refine W_ret ((E_2 (x := .int (dif x y : Nat)) (E_ca (ds := [.lst (((List.range x.length).filter fun k => decide (x.getD k 0 ≠ y.getD k 0)).map fun k : Nat => .int k)]) (E_cons (E_L (xLc_ok (e := fun k : Nat => .int k) (xs := List.range x.length) (fun k => decide (x.getD k 0 ≠ y.getD k 0)) (fun k : Nat => .int k) ?_ (by rw [List.length_range]; omega) ?_)) E_nil) ?_) rfl eqX_int).trans ?_) rfl
  · rw [rng1_ok (n := x.length) (by simp (disch := (first | assumption | omega | (simp only [List.length_append, List.length_take, List.length_drop, List.length_cons, List.length_nil, List.length_map, List.length_range, sts_len, sl_eq, sx_len] <;> omega))) only [cfOf, cfN, DL.startD, ySeq, yIf, yRet, yRetN, ySet, ySetOwn, yOff, offs, Sl.off, yApp, yFor, yExpr, yNext, yNever, yPar, yParO, yParOO, yAsg, yRetNew, yRetF, yMove, bind_ok, st_ok, ofO_some, cut_ok, xVar, xSee, xC, x2, xTb, xAndT, xOrT, xNotT, xAnd, xOr, xNot, xIf, xNil, xCons, xTup, xLst, xL, xCa, xSlice, oNone, oSome, xFld, xProp, xCall, xCallN, xMeth, xNeg, xAddN, isiX, tagD, iA, seqD_lst, seqD_tup, seqD_st, yVar, ysNil, ysCons, yTup, wipeD, frc_eq, frcs_eq, frcp_eq, List.getElem?_cons_zero, List.getElem?_cons_succ, List.set_cons_zero, List.set_cons_succ, List.map_cons, List.map_nil, List.length_cons, List.length_nil, List.replicate_succ, List.replicate_zero, List.cons_append, List.nil_append, Nat.reduceAdd, Nat.reduceSub, Nat.reduceEqDiff, Bool.false_eq_true, Nat.zero_add, eq_self, if_true, if_pos, if_neg, reduceCtorEq, Option.map_some, Option.bind_some, addX_int, natc1, cutS_sx, cutD_sts, cutN_to, cutN_from, cutN_mid, addX_st, eqX_st, neX_st, ltX_st, ltX_int, leX_int, gtX_int, geX_int, eqX_int, neX_int, sl_eq, sx_len, signs_sx, lenX_st, lenX_lst, lenX_tup, gd_pos, sts_len, tupCX, listX, inX_tup, inX_one, ixX_st, ixX_sts, ixX_stsL]) (by omega), rangeD_nat]
  · intro k hk
    have hk' : k < x.length := by simpa using hk
    have hk2 : k < y.length := by omega
    refine ⟨_, rfl, ?_, fun _ => rfl⟩
    simp (disch := (first | assumption | omega | (simp only [List.length_append, List.length_take, List.length_drop, List.length_cons, List.length_nil, List.length_map, List.length_range, sts_len, sl_eq, sx_len] <;> omega))) only [cfOf, cfN, DL.startD, ySeq, yIf, yRet, yRetN, ySet, ySetOwn, yOff, offs, Sl.off, yApp, yFor, yExpr, yNext, yNever, yPar, yParO, yParOO, yAsg, yRetNew, yRetF, yMove, bind_ok, st_ok, ofO_some, cut_ok, xVar, xSee, xC, x2, xTb, xAndT, xOrT, xNotT, xAnd, xOr, xNot, xIf, xNil, xCons, xTup, xLst, xL, xCa, xSlice, oNone, oSome, xFld, xProp, xCall, xCallN, xMeth, xNeg, xAddN, isiX, tagD, iA, seqD_lst, seqD_tup, seqD_st, yVar, ysNil, ysCons, yTup, wipeD, frc_eq, frcs_eq, frcp_eq, List.getElem?_cons_zero, List.getElem?_cons_succ, List.set_cons_zero, List.set_cons_succ, List.map_cons, List.map_nil, List.length_cons, List.length_nil, List.replicate_succ, List.replicate_zero, List.cons_append, List.nil_append, Nat.reduceAdd, Nat.reduceSub, Nat.reduceEqDiff, Bool.false_eq_true, Nat.zero_add, eq_self, if_true, if_pos, if_neg, reduceCtorEq, Option.map_some, Option.bind_some, addX_int, natc1, cutS_sx, cutD_sts, cutN_to, cutN_from, cutN_mid, addX_st, eqX_st, neX_st, ltX_st, ltX_int, leX_int, gtX_int, geX_int, eqX_int, neX_int, sl_eq, sx_len, signs_sx, lenX_st, lenX_lst, lenX_tup, gd_pos, sts_len, tupCX, listX, inX_tup, inX_one, ixX_st, ixX_sts, ixX_stsL]
    simp
  · show some (D.int _) = _
    rw [List.length_map]
    unfold dif
    rw [hl]
  · have : (((dif x y : Nat) : Int) = 1) ↔ dif x y = 1 := by omega
    simp only [this]
theorem t_is_fact {s : List Int} {f : Fa} (h : OkS s) (h1 : f.1 ∈ sets (full s)) (h2 : f.2 ∈ sets (full s)) (hd : dif f.1 f.2 = 1) : cf_is_fact [bd s, fct f] = .ok (.bl true) := by
  have l1 := (mem_sets.mp h1).len5 h.small
  have e1 : f.1.length = f.2.length := by rw [(mem_sets.mp h1).len, (mem_sets.mp h2).len]
  refine cf_ok (by rfl) ?_; simp only [x_is_fact, DL.startD, N_is_fact, List.map_cons, List.map_nil, List.length_cons, List.length_nil, Nat.reduceAdd, Nat.reduceSub, List.replicate_succ, List.replicate_zero, List.cons_append, List.nil_append]
  refine S_skip (E_orT (b := false) (c := false) (E_notT (E_tb (b := true) (E_isi rfl rfl rfl))) fun _ => E_tb ((E_2 (E_ca (E_cons rfl E_nil) lenX_tup) rfl neX_int).trans rfl)) ?_
  refine W_ret (E_and (a := true) ((E_2 (x := st f.1) rfl rfl ((inOX_ok rfl t_Board_contains).trans ?_))) fun _ => E_and (a := true) ((E_2 (x := st f.2) rfl rfl ((inOX_ok rfl t_Board_contains).trans ?_))) fun _ => E_call (E_cons (d := st f.1) rfl (E_cons (d := st f.2) rfl E_nil)) (t_are_neighbours l1 e1)) ?_
  · rw [decide_eq_true h1]; rfl
  · rw [decide_eq_true h2]; rfl
  · rw [decide_eq_true hd]; rfl
theorem t_leads {F : List Fa} {a b : Tx} (ha : Plain a) (hb : Plain b) (hF : ∀ f ∈ F, Plain f.1 ∧ Plain f.2) (hl : F.length ≤ 900) : cf_leads [.tup (fcts F), st a, st b] = .ok (.bl (rch F a b)) := by
  refine cf_ok (by rfl) ?_; simp only [x_leads, DL.startD, N_leads, List.map_cons, List.map_nil, List.length_cons, List.length_nil, Nat.reduceAdd, Nat.reduceSub, List.replicate_succ, List.replicate_zero, List.cons_append, List.nil_append]
  refine S_parOO (d := sts [a]) (ds := sts [a]) (E_lst (E_cons rfl E_nil) (Nat.le_of_ble_eq_true rfl)) (E_lst (E_cons rfl E_nil) (Nat.le_of_ble_eq_true rfl)) ?_
  refine S_while (fun m r => ∃ S W0 x y z, r = [.val (.tup (fcts F)), .val (st a), .val (st b), .own (sts S), .own (sts W0), x, y, z] ∧ Seek F a S W0 ∧ (∀ t ∈ S, Plain t) ∧ left F S + W0.length = m ∧ S.length + left F S ≤ F.length + 1 ∧ m ≤ F.length + 1) (left F [a] + 1) ?_ ⟨[a], [a], _, _, _, rfl, ?_, ?_, rfl, ?_, ?_⟩ ?_
  · have : left F [a] ≤ F.length := List.length_filter_le _ _
    omega
  · exact ⟨by simp, fun x hx => by rw [List.mem_singleton.mp hx]; exact .refl, fun x hx => hx, fun x hx hn => absurd hx hn⟩
  · intro t ht
    rw [List.mem_singleton.mp ht]; exact ha
  · have : left F [a] ≤ F.length := List.length_filter_le _ _
    simp only [List.length_cons, List.length_nil]
    omega
  · have : left F [a] ≤ F.length := List.length_filter_le _ _
    omega
  rintro m r ⟨S, W0, x, y, z, rfl, K, pS, hm, hS, hmF⟩
  have pW : ∀ t ∈ W0, Plain t := fun t ht => pS t (K.wait t ht)
  refine ⟨!decide (W0 = []), E_tb (E_2 rfl (E_L (E_lst E_nil (Nat.zero_le _))) (neX_sts0 pW)), fun hv => ?_, fun hv => ?_⟩
  · have hne : W0 ≠ [] := by simpa using hv
    obtain ⟨W1, p, rfl⟩ : ∃ l t, W0 = l ++ [t] := ⟨W0.dropLast, W0.getLast hne, (List.dropLast_concat_getLast hne).symm⟩
    have hpS : p ∈ S := K.wait p (by simp)
    refine S_popV (es := sts W1) (y := st p) (by rw [sts_app]; rfl) ?_
    refine W_for (em := fct) (xs := F) (fun u r => ∃ S1 W2 y z, r = [.val (.tup (fcts F)), .val (st a), .val (st b), .own (sts S1), .own (sts W2), .val (st p), y, z] ∧ a ∈ S1 ∧ (∀ x ∈ S1, Reach F a x) ∧ (∀ x ∈ W2, x ∈ S1) ∧ (∀ x ∈ S1, x ∉ W2 → x ≠ p → ∀ f ∈ F, f.1 = x → f.2 ∈ S1) ∧ (∀ f ∈ u, f.1 = p → f.2 ∈ S1) ∧ p ∈ S1 ∧ (∀ t ∈ S1, Plain t) ∧ left F S1 + W2.length + 1 ≤ m ∧ S1.length + left F S1 ≤ F.length + 1) (iA_ok rfl rfl) ⟨S, W1, y, z, rfl, K.start, K.from_, fun x hx => K.wait x (by simp [hx]), ?_, fun f hf => (by cases hf), hpS, pS, ?_, hS⟩ ?_ ?_
    · intro x hx hn hp f hf e
      exact K.shut x hx (by simp [hn, hp]) f hf e
    · rw [List.length_append, List.length_singleton] at hm
      omega
    · rintro u f v hu r ⟨S1, W2, y, z, rfl, h1, h2, h3, h4, h5, h6, h7, h8, h9⟩
      have mf : f ∈ F := by rw [hu]; simp
      obtain ⟨p1, p2⟩ := hF f mf
      refine ⟨_, rfl, W_if (E_andT (E_tb (E_2 rfl rfl eqX_st)) fun _ => E_tb (E_2 rfl rfl (inX_lst (neg := true) p2 h7))) (fun hv => ?_) fun hv => ?_⟩
      · rw [Bool.and_eq_true] at hv
        have e1 : f.1 = p := by simpa using hv.1
        have n1 : f.2 ∉ S1 := by simpa using hv.2
        have hla := left_add mf n1
        refine S_app (es := sts (S1 ++ [f.2])) rfl (by rw [sts_len]; omega) rfl (by rw [sts_app]; rfl) ?_
        refine W_app2 (es := sts (W2 ++ [f.2])) rfl (by rw [sts_len]; omega) rfl (by rw [sts_app]; rfl) ⟨S1 ++ [f.2], W2 ++ [f.2], _, _, rfl, List.mem_append_left _ h1, ?_, ?_, ?_, ?_, List.mem_append_left _ h6, ?_, ?_, ?_⟩
        · intro x hx
          rcases List.mem_append.mp hx with q | q
          · exact h2 x q
          · rw [List.mem_singleton.mp q]
            exact .step (h2 p h6) (e1 ▸ mf)
        · intro x hx
          rcases List.mem_append.mp hx with q | q
          · exact List.mem_append_left _ (h3 x q)
          · exact List.mem_append_right _ q
        · intro x hx hn hp g hg e
          rcases List.mem_append.mp hx with q | q
          · exact List.mem_append_left _ (h4 x q (fun w => hn (List.mem_append_left _ w)) hp g hg e)
          · exact absurd (List.mem_append_right _ q) hn
        · intro g hg e
          rcases List.mem_append.mp hg with q | q
          · exact List.mem_append_left _ (h5 g q e)
          · rw [List.mem_singleton.mp q]; exact List.mem_append_right _ (List.mem_singleton_self _)
        · intro t ht
          rcases List.mem_append.mp ht with q | q
          · exact h7 t q
          · rw [List.mem_singleton.mp q]; exact p2
        · rw [List.length_append, List.length_singleton]; omega
        · rw [List.length_append, List.length_singleton]; omega
      · refine W_next ⟨S1, W2, _, _, rfl, h1, h2, h3, h4, ?_, h6, h7, h8, h9⟩
        intro g hg e
        rcases List.mem_append.mp hg with q | q
        · exact h5 g q e
        · have e2 := List.mem_singleton.mp q
          subst e2
          have q3 : decide (g.1 = p) = true := by simpa using e
          rw [q3, Bool.true_and] at hv
          simpa using hv
    · rintro r ⟨S1, W2, y, z, rfl, h1, h2, h3, h4, h5, h6, h7, h8, h9⟩
      refine ⟨left F S1 + W2.length, by omega, S1, W2, _, _, _, rfl, ⟨h1, h2, h3, fun x hx hn f hf e => ?_⟩, h7, rfl, h9, by omega⟩
      by_cases q : x = p
      · exact h5 f hf (e.trans q)
      · exact h4 x hx hn q f hf e
  · have he : W0 = [] := by simpa using hv
    subst he
    refine W_ret ((E_2 rfl rfl (inX_lst (neg := false) hb pS)).trans ?_) rfl
    have e : decide (b ∈ S) = rch F a b := by
      rw [Bool.eq_iff_iff, decide_eq_true_iff, rch_iff]
      exact K.done
    rw [e, Bool.false_bne]
theorem t_is_let {F : List Fa} {f : Fa} (hf : Plain f.1 ∧ Plain f.2) (hF : ∀ f ∈ F, Plain f.1 ∧ Plain f.2) (hl : F.length ≤ 900) : cf_is_let [.tup (fcts F), fct f] = .ok (.bl (!decide (f ∈ F) && !rch F f.2 f.1)) := by
  refine cf_ok (by rfl) ?_; simp only [x_is_let, DL.startD, N_is_let, List.map_cons, List.map_nil, List.length_cons, List.length_nil, Nat.reduceAdd, Nat.reduceSub, List.replicate_succ, List.replicate_zero, List.cons_append, List.nil_append]
  refine W_ret (E_and ((E_2 rfl rfl (inTX_fct (neg := true) hf hF)).trans (by rw [Bool.true_bne])) fun _ => E_not (E_call (E_cons rfl (E_cons (d := st f.2) rfl (E_cons (d := st f.1) rfl E_nil))) (t_leads hf.2 hf.1 hF hl))) rfl
theorem t_check_facts {s : List Int} {o : List Tx} {F : List Fa} (h : OkS s) (hp : o.Perm (sets (full s))) (hc : Fc (full s) o F) : cf_check_facts [bd s, .tup (fcts F)] = .ok .non := by
  have ms : ∀ t, t ∈ o → t ∈ sets (full s) := fun t => hp.mem_iff.mp
  have pl : ∀ f ∈ F, Plain f.1 ∧ Plain f.2 := fun f hf => ⟨plain_sets h _ (ms _ (hc.mem f hf).1), plain_sets h _ (ms _ (hc.mem f hf).2)⟩
  have hl := hc.few
  refine cf_ok (by rfl) ?_; simp only [x_check_facts, DL.startD, N_check_facts, List.map_cons, List.map_nil, List.length_cons, List.length_nil, Nat.reduceAdd, Nat.reduceSub, List.replicate_succ, List.replicate_zero, List.cons_append, List.nil_append]
  refine S_skip (E_notT (E_tb (b := true) (E_isi rfl rfl rfl))) ?_
  refine W_for (em := fun i : Nat => .int i) (xs := List.range F.length) (fun p r => ∃ a, r = [.val (bd s), .val (.tup (fcts F)), a]) ?_ ⟨_, rfl⟩ ?_ ?_
  · rw [rng1_ok (n := F.length) (E_cons (E_ca (E_cons rfl E_nil) (lenX_tup.trans (by rw [fcts_len]))) E_nil) (by omega), rangeD_nat]
  · rintro p k q hq r ⟨a, rfl⟩
    have hk := range_pre hq
    have mk : F[k] ∈ F := List.getElem_mem hk
    have hix : ixX (.tup (fcts F)) (.int (k : Nat)) = some (fct F[k]) := ixX_tup (by unfold fcts; rw [List.getElem?_map, List.getElem?_eq_getElem hk]; rfl)
    obtain ⟨l1, l2⟩ := hc.let hk
    have hcut : xSlice (xVar 1) oNone (oSome (xVar 2)) [.val (bd s), .val (.tup (fcts F)), .val (.int (k : Nat))] = .ok (.tup (fcts (F.take k))) := by
      show R.ok (D.tup (cutD (fcts F) none (some (k : Int)))) = _
      unfold fcts
      rw [cutD_map, cutN_to]
    refine ⟨_, rfl, W_if (v := false) (E_orT (b := false) (c := false) (E_notT (E_tb (b := true) (E_call (E_cons rfl (E_cons (E_2 rfl rfl hix) E_nil)) (t_is_fact h (ms _ (hc.mem _ mk).1) (ms _ (hc.mem _ mk).2) (hc.near _ mk))))) fun _ => E_notT (E_tb (b := true) (E_call (E_cons hcut (E_cons (E_2 rfl rfl hix) E_nil)) ((t_is_let (pl _ mk) (fun f hf => pl f (List.mem_of_mem_take hf)) (by rw [List.length_take]; omega)).trans ?_)))) (fun z => nomatch z) fun _ => W_next ⟨_, rfl⟩⟩
    rw [decide_eq_false l1, l2]; rfl
  · rintro r ⟨a, rfl⟩
    exact (by first | rfl | trivial)
theorem t_Notes_init {s : List Int} {o : List Tx} {F : List Fa} (h : OkS s) (hp : o.Perm (sets (full s))) (hc : Fc (full s) o F) : cf_Notes_init [bd s, .tup (fcts F)] = .ok (.tup [.tup [bd s, .tup (fcts F)]]) := by
  refine cfI_ok (by rfl) ?_
  simp only [x_Notes_init, DL.startI, N_Notes_init, List.map_cons, List.map_nil, List.length_cons, List.length_nil, Nat.reduceAdd, Nat.reduceSub, List.replicate_succ, List.replicate_zero, List.cons_append, List.nil_append]
  refine S_expr (E_call rfl t_check_board) ?_
  refine S_expr (E_call rfl (t_check_facts h hp hc)) ?_
  exact W_fldI (E_tup (ds := [bd s, .tup (fcts F)]) rfl (by simp)) rfl rfl ⟨_, _, rfl, by first | rfl | trivial⟩
def chkB (s : List Int) : Bool := match cf_Board_init [.tup (s.map D.int)] with
  | .ok (.tup [.tup [.tup a, .tup b]]) => eqDBs a (s.map D.int) && eqDBs b (sts (sets (full s)))
  | _ => false
theorem all_boards : ∀ s ∈ spansOf 48, chkB s = true := by decide +kernel
theorem t_Board_init {s : List Int} (h : s ∈ spansOf 48) : cf_Board_init [.tup (s.map D.int)] = .ok (.tup [.tup [.tup (s.map D.int), .tup (sts (sets (full s)))]]) := by
  have z := all_boards s h
  unfold chkB at z
  split at z
  · rename_i a b e
    rw [Bool.and_eq_true] at z
    rw [e, eqDBs_eq _ _ z.1, eqDBs_eq _ _ z.2]
  · cases z
def nxF (F : List Fa) (la : List Tx) : List Tx := (F.filter fun f => decide (f.1 ∈ la)).map fun f => f.2
theorem mem_nxF {F : List Fa} {la : List Tx} {u : Tx} : u ∈ nxF F la ↔ ∃ z ∈ la, (z, u) ∈ F := by
  unfold nxF
  rw [List.mem_map]
  constructor
  · rintro ⟨f, hf, rfl⟩
    obtain ⟨h1, h2⟩ := List.mem_filter.mp hf
    exact ⟨f.1, by simpa using h2, h1⟩
  · rintro ⟨z, h1, h2⟩
    exact ⟨(z, u), List.mem_filter.mpr ⟨h2, by simpa using h1⟩, rfl⟩
theorem t_law_steps {s : List Int} {o : List Tx} {F : List Fa} {a b : Tx} (h : OkS s) (hp : o.Perm (sets (full s))) (hc : Fc (full s) o F) (h48 : (sets (full s)).length ≤ 48) (ha : a ∈ sets (full s)) (hb : b ∈ sets (full s)) :
    ∃ d, cf_law_steps [.tup (fcts F), st a, st b] = .ok d ∧ ((d = .non ∧ ∀ p, Pth (upsF F) a p → endOf p ≠ b) ∨ ∃ (k : Nat) (q : List Tx), d = .int k ∧ q.length = k + 1 ∧ k < 1000 ∧ Pth (upsF F) a q ∧ endOf q = b ∧ ∀ p, Pth (upsF F) a p → endOf p = b → q.length ≤ p.length) := by
  have hn := (asc_sets (full_asc (s := s))).nodup
  have pls := plain_sets h
  have pF := fc_plain h hp hc
  have pb := pls b hb
  refine cf_ex (by rfl) ?_
  simp only [x_law_steps, DL.startD, N_law_steps, List.map_cons, List.map_nil, List.length_cons, List.length_nil, Nat.reduceAdd, Nat.reduceSub, List.replicate_succ, List.replicate_zero, List.cons_append, List.nil_append]
  refine S_asg (d := .tup [.lst (sts [a]), .lst (sts [a]), .int 0]) (E_tup (E_cons (E_L (E_lst (E_cons rfl E_nil) (Nat.le_of_ble_eq_true rfl))) (E_cons (E_L (E_lst (E_cons rfl E_nil) (Nat.le_of_ble_eq_true rfl))) (E_cons rfl E_nil))) (Nat.le_of_ble_eq_true rfl)) rfl ?_
  refine S_while (fun m r => ∃ la re k a6 a7 a8, r = [.val (.tup (fcts F)), .val (st a), .val (st b), .val (.lst (sts la)), .val (.lst (sts re)), .val (.int (k : Nat)), a6, a7, a8] ∧ Lay F a b k la re ∧ (∀ x ∈ re, x ∈ sets (full s)) ∧ k + m = 2 * (sets (full s)).length + 1 ∧ k + 1 ≤ re.length + (if la = [] then 1 else 0)) (2 * (sets (full s)).length + 1) (by omega) ⟨[a], [a], 0, _, _, _, rfl, Lay.first, (fun x hx => by rw [List.mem_singleton.mp hx]; exact ha), by omega, by simp⟩ ?_
  rintro m r ⟨la, re, k, a6, a7, a8, rfl, K, hre, hm, hk⟩
  have pre : ∀ t ∈ re, Plain t := fun t ht => pls t (hre t ht)
  have pla : ∀ t ∈ la, Plain t := fun t ht => pre t (K.sub t ht)
  have hrl : re.length ≤ (sets (full s)).length := nodup_len K.nd hre
  refine ⟨!decide (la = []), E_tb (E_2 rfl (E_L (E_lst E_nil (Nat.zero_le _))) (neX_sts0 pla)), fun hv => ?_, fun hv => ?_⟩
  · have hne : la ≠ [] := by simpa using hv
    rw [if_neg hne] at hk
    refine S_if (E_tb (E_2 rfl rfl (inX_lst (neg := false) pb pla))) (fun hw => ?_) fun hw => W_next ?_
    · rw [Bool.false_bne, decide_eq_true_iff] at hw
      obtain ⟨q, q1, q2, q3, q4⟩ := K.found hw
      exact W_ret rfl (.inr ⟨k, q, rfl, q2, by omega, q1, q3, q4⟩)
    · rw [Bool.false_bne, decide_eq_false_iff_not] at hw
      have hll : (nxF F la).length ≤ 900 := by
        unfold nxF
        rw [List.length_map]
        exact Nat.le_trans (List.length_filter_le _ _) hc.few
      have asc : Asc ((sets (full s)).filter fun t => decide (t ∈ nxF F la)) := List.Pairwise.filter _ (asc_sets full_asc)
      have memL : ∀ t, t ∈ ((sets (full s)).filter fun t => decide (t ∈ nxF F la)) ↔ t ∈ nxF F la := fun t => by
        rw [List.mem_filter, decide_eq_true_iff]
        refine ⟨fun z => z.2, fun z => ⟨?_, z⟩⟩
        obtain ⟨_, _, h1⟩ := mem_nxF.mp z
        exact hp.mem_iff.mp (hc.mem _ h1).2
      have hfl := List.length_filter_le (fun t => decide (t ∈ nxF F la)) (sets (full s))
      refine S_set (d := .lst (sts ((sets (full s)).filter fun t => decide (t ∈ nxF F la)))) (E_L (E_sset (xs := nxF F la) ((E_L (xLc_ok (e := fct) (xs := F) (fun f => decide (f.1 ∈ la)) (fun f => st f.2) (iA_ok rfl rfl) (by have := hc.few; omega) fun f hf => ⟨_, rfl, (E_tb (E_2 (E_2 rfl rfl rfl) rfl (inX_lst (neg := false) (pF f hf).1 pla))).trans (by rw [Bool.false_bne]), fun _ => E_2 rfl rfl rfl⟩)).trans (by unfold nxF sts; rw [List.map_map]; rfl)) (by omega) asc memL)) ?_
      have hlb : ∀ x, x ∈ (((sets (full s)).filter fun t => decide (t ∈ nxF F la)).filter fun t => !decide (t ∈ re)) ↔ (∃ z ∈ la, (z, x) ∈ F) ∧ x ∉ re := fun x => by
        rw [List.mem_filter, memL, mem_nxF]
        simp
      have ndb : (((sets (full s)).filter fun t => decide (t ∈ nxF F la)).filter fun t => !decide (t ∈ re)).Nodup := (hn.filter _).filter _
      have K2 := K.next hw ndb hlb
      have hl2 := List.length_filter_le (fun t => !decide (t ∈ re)) ((sets (full s)).filter fun t => decide (t ∈ nxF F la))
      have hre2 : ∀ x ∈ re ++ (((sets (full s)).filter fun t => decide (t ∈ nxF F la)).filter fun t => !decide (t ∈ re)), x ∈ sets (full s) := fun x hx => (List.mem_append.mp hx).elim (hre x) fun z => (List.mem_filter.mp (List.mem_filter.mp z).1).1
      refine S_set (d := .lst (sts (((sets (full s)).filter fun t => decide (t ∈ nxF F la)).filter fun t => !decide (t ∈ re)))) (E_L (xLc_ok (e := st) (xs := (sets (full s)).filter fun t => decide (t ∈ nxF F la)) (fun t => !decide (t ∈ re)) st (iA_ok rfl rfl) (by omega) fun t ht => ⟨_, rfl, (E_tb (E_2 rfl rfl (inX_lst (neg := true) (pls t (List.mem_filter.mp ht).1) pre))).trans (by rw [Bool.true_bne]), fun _ => rfl⟩)) ?_
      refine W_asg (d := .tup [.lst (sts (re ++ (((sets (full s)).filter fun t => decide (t ∈ nxF F la)).filter fun t => !decide (t ∈ re)))), .int ((k + 1 : Nat))]) ((E_tup (E_cons (E_L (E_addN rfl rfl ?_)) (E_cons (E_2 rfl rfl addX_int) E_nil)) (Nat.le_of_ble_eq_true rfl)).trans (by rw [sts_app]; rfl)) rfl ⟨m - 1, ?_, _, _, k + 1, _, _, _, rfl, K2, hre2, ?_, ?_⟩
      · rw [sts_len, sts_len]; omega
      · omega
      · omega
      · rw [List.length_append]
        split
        · omega
        · rename_i hq
          have := List.length_pos_iff.mpr hq
          omega
  · have e : la = [] := by simpa using hv
    subst e
    exact W_ret rfl (.inl ⟨rfl, K.none⟩)
theorem t_check_notes {s : List Int} {F : List Fa} : cf_check_notes [nt s F] = .ok .non := rfl
theorem t_check_setting {s : List Int} {x : Tx} (h : x ∈ sets (full s)) : cf_check_setting [bd s, st x] = .ok .non := by
  refine cf_ok (by rfl) ?_; simp only [x_check_setting, DL.startD, N_check_setting, List.map_cons, List.map_nil, List.length_cons, List.length_nil, Nat.reduceAdd, Nat.reduceSub, List.replicate_succ, List.replicate_zero, List.cons_append, List.nil_append]
  refine W_if (v := false) (E_tb ((E_2 rfl rfl (inOX_ok rfl t_Board_contains)).trans ?_)) (fun z => nomatch z) fun _ => W_next (by first | rfl | trivial)
  rw [decide_eq_true h]; rfl
theorem t_Notes_board {s : List Int} {F : List Fa} : cf_Notes_board [nt s F] = .ok (bd s) := rfl
theorem t_shortest_rows {s : List Int} {o : List Tx} {F : List Fa} {b g : Tx} (h : OkS s) (hp : o.Perm (sets (full s))) (hc : Fc (full s) o F) (hb : b ∈ o) (hg : g ∈ o) : ∃ d, cf_shortest_rows [.dic (kx (sets (full s))) ((sets (full s)).map fun x => .lst (sts (upsF F x))), st b, st g] = .ok d ∧ ((d = .non ∧ ∀ q, Pth (upsF F) b q → endOf q ≠ g) ∨ ∃ x, d = .tup (sts x) ∧ ShortN (upsF F) o b g x) := by
  have ln := hc.up
  have hsm := h.small
  have hlo : o.length ≤ 243 := by rw [hp.length_eq]; exact hsm.sets
  have ms : ∀ t, t ∈ o → t ∈ sets (full s) := fun t => hp.mem_iff.mp
  have plo : ∀ t, t ∈ o → Plain t := fun t ht => plain_sets h t (ms t ht)
  refine cf_ex (by rfl) ?_
  simp only [x_shortest_rows, DL.startD, N_shortest_rows, List.map_cons, List.map_nil, List.length_cons, List.length_nil, Nat.reduceAdd, Nat.reduceSub, List.replicate_succ, List.replicate_zero, List.cons_append, List.nil_append]
  refine S_parO (d := .lst (tps [[b]])) (ds := sts [b]) (E_L (E_lst (E_cons (E_tup (E_cons rfl E_nil) (Nat.le_of_ble_eq_true rfl)) E_nil) (Nat.le_of_ble_eq_true rfl))) (E_lst (E_cons rfl E_nil) (Nat.le_of_ble_eq_true rfl)) ?_
  refine S_while (fun m r => ∃ R S Dn k a c e, r = [.val (.dic (kx (sets (full s))) ((sets (full s)).map fun x => .lst (sts (upsF F x)))), .val (st b), .val (st g), .val (.lst (tps R)), .own (sts S), a, c, e] ∧ BfsN (upsF F) o b g k R S Dn ∧ k + m = o.length ∧ R.length ≤ 243) o.length (by omega) ⟨[[b]], [b], [], 0, _, _, _, rfl, BfsN.first hb, by omega, by simp⟩ ?_
  rintro m r ⟨R, S, Dn, k, a, c, e, rfl, B, hk, hR⟩
  have plR : ∀ q ∈ R, ∀ t ∈ q, Plain t := fun q hq t ht => plo t ((ln.pth hb (B.row q hq).1).2.2 t ht)
  refine ⟨!decide (R = []), E_tb (E_2 rfl (E_L (E_lst E_nil (by simp))) (neX_tps0 plR)), fun hv => ?_, fun hv => ?_⟩
  · have hne : R ≠ [] := by simpa using hv
    have hkn := B.short ln hb hne
    refine S_setOwn (E_lst E_nil (by simp)) ?_
    refine S_for (em := fun q : List Tx => .tup (sts q)) (xs := R) (fun p r => ∃ S1 L c e, r = [.val (.dic (kx (sets (full s))) ((sets (full s)).map fun x => .lst (sts (upsF F x)))), .val (st b), .val (st g), .val (.lst (tps R)), .own (sts S1), .own (tps L), c, e] ∧ WaveN (upsF F) o b g k S p S1 L) (iA_ok rfl rfl) ⟨S, [], _, _, rfl, B.wave⟩ ?_ ?_
    · rintro p x q hq r ⟨S1, L, c, e, rfl, Wv⟩
      have mx : x ∈ R := by rw [hq]; simp
      obtain ⟨px, lx⟩ := B.row x mx
      obtain ⟨ex, _, _⟩ := ln.pth hb px
      refine ⟨_, rfl, S_if (E_tb (E_2 (E_end rfl px.ne) rfl eqX_st)) (fun hv => ?_) fun hv => ?_⟩
      · exact W_ret rfl (.inr ⟨x, rfl, B.found mx (by simpa using hv)⟩)
      · have hxg : endOf x ≠ g := by simpa using hv
        refine W_next ?_
        refine W_for (em := st) (xs := upsF F (endOf x)) (fun u r => ∃ S1 L e, r = [.val (.dic (kx (sets (full s))) ((sets (full s)).map fun x => .lst (sts (upsF F x)))), .val (st b), .val (st g), .val (.lst (tps R)), .own (sts S1), .own (tps L), .val (.tup (sts x)), e] ∧ WaveN (upsF F) o b g k S p S1 L ∧ ∀ e ∈ u, e ∈ S1) (iA_ok (E_2 rfl (E_end rfl px.ne) (ixX_dic (ms _ ex))) rfl) ⟨S1, L, e, rfl, Wv, fun _ z => by cases z⟩ ?_ ?_
        · rintro u y v hu r ⟨S2, L2, e2, rfl, W2, hS⟩
          have my : y ∈ upsF F (endOf x) := by rw [hu]; simp
          obtain ⟨y1, _⟩ := ln _ ex _ my
          have lS := nodup_len W2.nd W2.sub
          have lL := W2.few
          refine ⟨_, rfl, W_if (E_tb (E_2 rfl rfl (inX_lst (neg := true) (plo y y1) fun t ht => plo t (W2.sub t ht)))) (fun hv => ?_) fun hv => ?_⟩
          · have hny : y ∉ S2 := by simpa using hv
            refine S_app (es := sts (S2 ++ [y])) rfl (by rw [sts_len]; omega) rfl (by rw [sts_app]; rfl) ?_
            refine W_app2 (es := tps (L2 ++ [x ++ [y]])) (d := .tup (sts x ++ [st y])) rfl (by rw [tps_len]; omega) (E_2 rfl (E_tup (E_cons rfl E_nil) (by simp)) (addX_tup ?_)) ?_ ⟨S2 ++ [y], L2 ++ [x ++ [y]], _, rfl, W2.add ln hb px lx my hny, ?_⟩
            · rw [sts_len, lx]; simp only [List.length_cons, List.length_nil]; omega
            · rw [tps_app]
              show _ = tps L2 ++ [.tup (sts (x ++ [y]))]
              rw [sts_app]; rfl
            · intro z hz
              rcases List.mem_append.mp hz with hz | hz
              · exact List.mem_append_left _ (hS z hz)
              · exact List.mem_append_right _ hz
          · have hy : y ∈ S2 := by simpa using hv
            refine W_next ⟨S2, L2, _, rfl, W2, fun z hz => ?_⟩
            rcases List.mem_append.mp hz with hz | hz
            · exact hS z hz
            · rw [List.mem_singleton.mp hz]; exact hy
        · rintro r ⟨S2, L2, e2, rfl, W2, hS⟩
          exact ⟨S2, L2, _, _, rfl, W2.next hxg hS⟩
    · rintro r ⟨S1, L, c, e, rfl, Wv⟩
      have lS := nodup_len Wv.nd Wv.sub
      have lL := Wv.few
      refine W_off (W_set rfl ?_)
      exact ⟨m - 1, by omega, L, S1, S, k + 1, _, _, _, rfl, Wv.bfs B, by omega, by omega⟩
  · have he : R = [] := by simpa using hv
    subst he
    exact W_ret rfl (.inl ⟨rfl, fun q hq => B.none hq⟩)
theorem t_Board_settings {s : List Int} : cf_Board_settings [bd s] = .ok (.tup (sts (sets (full s)))) := rfl
def upsD (s : List Int) (F : List Fa) : D := .dic (kx (sets (full s))) ((sets (full s)).map fun x => .lst (sts (upsF F x)))
theorem t_ups {s : List Int} {F : List Fa} (h : OkS s) (hl : F.length ≤ 900) : cf_ups [bd s, .tup (fcts F)] = .ok (upsD s F) := by
  have hs0 := h.small.sets
  refine cf_ok (by rfl) ?_; simp only [x_ups, DL.startD, N_ups, List.map_cons, List.map_nil, List.length_cons, List.length_nil, Nat.reduceAdd, Nat.reduceSub, List.replicate_succ, List.replicate_zero, List.cons_append, List.nil_append]
  refine S_setOwnD rfl ?_
  refine S_for (em := st) (xs := sets (full s)) (fun p r => ∃ a b c, r = [.val (bd s), .val (.tup (fcts F)), .ownd (kx p) (p.map fun x => .lst (sts (upsF F x))), a, b, c]) (iA_ok (E_prop rfl t_Board_settings) rfl) ⟨_, _, _, rfl⟩ ?_ ?_
  · rintro p x q hq r ⟨a, b, c, rfl⟩
    have hnp : x ∉ p := fun z => by
      have := (asc_sets (full_asc (s := s))).nodup
      rw [hq, List.nodup_append] at this
      exact this.2.2 x z x List.mem_cons_self rfl
    have hlp : p.length ≤ (sets (full s)).length := pre_len hq
    refine ⟨_, rfl, W_putK (d := .lst (sts (upsF F x))) rfl (by omega) ((E_L (xLc_ok (e := fct) (xs := F) (fun f => decide (f.1 = x)) (fun f => st f.2) (iA_ok rfl rfl) (by omega) ?_)).trans ?_) rfl hnp (by rw [List.map_append]; rfl) ⟨_, _, _, rfl⟩⟩
    · intro f hf
      exact ⟨_, rfl, E_tb (E_2 rfl rfl eqX_st), fun _ => rfl⟩
    · unfold upsF sts
      rw [List.map_map]; rfl
  · rintro r ⟨a, b, c, rfl⟩
    exact W_ret rfl rfl
theorem t_Notes_facts {s : List Int} {F : List Fa} : cf_Notes_facts [nt s F] = .ok (.tup (fcts F)) := rfl
theorem t_sure_way {s : List Int} {o : List Tx} {F : List Fa} {a b : Tx} (h : OkS s) (hp : o.Perm (sets (full s))) (hc : Fc (full s) o F) (ha : a ∈ sets (full s)) (hb : b ∈ sets (full s)) :
    ∃ d, cf_sure_way [nt s F, st a, st b] = .ok d ∧ ((d = .non ∧ ∀ q, Pth (upsF F) a q → endOf q ≠ b) ∨ ∃ x, d = .tup (sts x) ∧ ShortN (upsF F) o a b x) := by
  obtain ⟨d, h1, h2⟩ := t_shortest_rows (g := b) h hp hc (hp.mem_iff.mpr ha) (hp.mem_iff.mpr hb)
  refine ⟨d, ?_, h2⟩
  refine cf_ok (by rfl) ?_; simp only [x_sure_way, DL.startD, N_sure_way, List.map_cons, List.map_nil, List.length_cons, List.length_nil, Nat.reduceAdd, Nat.reduceSub, List.replicate_succ, List.replicate_zero, List.cons_append, List.nil_append]
  refine S_expr (E_call (E_cons rfl E_nil) t_check_notes) ?_
  refine S_expr (E_call (E_cons (E_prop rfl t_Notes_board) (E_cons rfl E_nil)) (t_check_setting ha)) ?_
  refine S_expr (E_call (E_cons (E_prop rfl t_Notes_board) (E_cons rfl E_nil)) (t_check_setting hb)) ?_
  exact W_ret (E_call (E_cons (E_call (E_cons (E_prop rfl t_Notes_board) (E_cons (E_prop rfl t_Notes_facts) E_nil)) (t_ups h hc.few)) (E_cons rfl (E_cons rfl E_nil))) h1) rfl
/-- what the facts tell of a and b -/
noncomputable def known (F : List Fa) (a b : Tx) : Str := if a = b then "same" else if rch F a b = true then "worse" else if rch F b a = true then "better" else "open"
theorem t_Notes_known {s : List Int} {o : List Tx} {F : List Fa} {a b : Tx} (h : OkS s) (hp : o.Perm (sets (full s))) (hc : Fc (full s) o F) (ha : a ∈ sets (full s)) (hb : b ∈ sets (full s)) : cf_Notes_known [nt s F, st a, st b] = .ok (.str (known F a b)) := by
  have pl := fc_plain h hp hc
  have pa := plain_sets h a ha
  have pb := plain_sets h b hb
  refine cf_ok (by rfl) ?_; simp only [x_Notes_known, DL.startD, N_Notes_known, List.map_cons, List.map_nil, List.length_cons, List.length_nil, Nat.reduceAdd, Nat.reduceSub, List.replicate_succ, List.replicate_zero, List.cons_append, List.nil_append]
  refine S_expr (E_call (E_cons (E_prop rfl t_Notes_board) (E_cons rfl E_nil)) (t_check_setting ha)) ?_
  refine S_expr (E_call (E_cons (E_prop rfl t_Notes_board) (E_cons rfl E_nil)) (t_check_setting hb)) ?_
  unfold known
  refine S_if (E_tb (E_2 rfl rfl eqX_st)) (fun hv => ?_) fun hv => W_next ?_
  · have e : a = b := by simpa using hv
    exact W_ret rfl (by rw [if_pos e])
  have e : a ≠ b := by simpa using hv
  rw [if_neg e]
  refine S_if (E_tb (E_call (E_cons (E_prop rfl t_Notes_facts) (E_cons rfl (E_cons rfl E_nil))) (t_leads pa pb pl hc.few))) (fun hv => ?_) fun hv => W_next ?_
  · exact W_ret rfl (by rw [if_pos hv])
  rw [hv, if_neg Bool.false_ne_true]
  refine W_ret (E_if (E_tb (E_call (E_cons (E_prop rfl t_Notes_facts) (E_cons rfl (E_cons rfl E_nil))) (t_leads pb pa pl hc.few))) (fun hw => ?_) fun hw => ?_) rfl
  · rw [if_pos hw]; rfl
  · rw [hw, if_neg Bool.false_ne_true]; rfl
theorem neX_tupS {a b : List Tx} (ha : ∀ t ∈ a, Plain t) (hb : ∀ t ∈ b, Plain t) : neX (.tup (sts a)) (.tup (sts b)) = some (.bl (!decide (a = b))) := by
  show gd ((shpB (.tup (sts a)) && shpB (.tup (sts b))) = true) (.bl (!eqb (.tup (sts a)) (.tup (sts b)))) = _
  rw [gd_pos (by rw [shp_tup ha, shp_tup hb]; rfl), eqb_tup]
theorem neX_stsL {a b : List Tx} (ha : ∀ t ∈ a, Plain t) (hb : ∀ t ∈ b, Plain t) : neX (.lst (sts a)) (.lst (sts b)) = some (.bl (!decide (a = b))) := by
  show gd ((shpB (.lst (sts a)) && shpB (.lst (sts b))) = true) (.bl (!eqb (.lst (sts a)) (.lst (sts b)))) = _
  rw [gd_pos (by rw [shp_lst ha, shp_lst hb]; rfl), eqb_lst]
theorem pth_head {nx : Tx → List Tx} {b : Tx} {r : List Tx} (h : Pth nx b r) : r.getD 0 [] = b := by
  induction h with
  | one => rfl
  | snoc h1 h2 ih =>
    have := List.length_pos_iff.mpr h1.ne
    rw [List.getD_eq_getElem?_getD, List.getElem?_append_left this, ← List.getD_eq_getElem?_getD]
    exact ih
theorem pth_pair {F : List Fa} {b : Tx} {r : List Tx} (h : Pth (upsF F) b r) : ∀ i, i + 1 < r.length → (r.getD i [], r.getD (i + 1) []) ∈ F := by
  induction h with
  | one => intro i hi; simp at hi
  | snoc h1 h2 ih =>
    rename_i r e
    intro i hi
    rw [List.length_append, List.length_singleton] at hi
    have g : ∀ j, j < r.length → (r ++ [e]).getD j [] = r.getD j [] := fun j hj => by
      rw [List.getD_eq_getElem?_getD, List.getElem?_append_left hj, ← List.getD_eq_getElem?_getD]
    by_cases q : i + 1 < r.length
    · rw [g i (by omega), g (i + 1) q]
      exact ih i q
    · have e1 : i = r.length - 1 := by omega
      have e2 : (r ++ [e]).getD (i + 1) [] = e := by
        rw [show i + 1 = r.length by omega, List.getD_eq_getElem?_getD, List.getElem?_append_right (Nat.le_refl _), Nat.sub_self]; rfl
      rw [g i (by omega), e2, e1]
      exact mem_upsF.mp h2
theorem known_in {F : List Fa} {a b : Tx} (h : ∃ q, Pth (upsF F) a q ∧ endOf q = b) : inX false (.str (known F a b)) (.lst [.str "worse", .str "same"]) = some (.bl true) := by
  unfold known
  split
  · kernel_rfl
  · rw [if_pos (rch_iff.mpr (reach_pth.mpr h))]
    kernel_rfl
theorem known_out {F : List Fa} {a b : Tx} (h : ∀ q, Pth (upsF F) a q → endOf q ≠ b) : inX false (.str (known F a b)) (.lst [.str "worse", .str "same"]) = some (.bl false) := by
  unfold known
  rw [if_neg (show ¬ a = b from fun e => h [a] .one e), if_neg (show ¬ rch F a b = true from fun z => by
    obtain ⟨q, h1, h2⟩ := reach_pth.mp (rch_iff.mp z)
    exact h q h1 h2)]
  split <;> kernel_rfl
theorem loop_turns {s : List Int} {o : List Tx} {F : List Fa} (ok : OkS s) (hp : o.Perm (sets (full s))) (hc : Fc (full s) o F) (h48 : (sets (full s)).length ≤ 48) (hne : sets (full s) ≠ []) {A : DE} {EX : XP} {a1 : Option D} {cs : List (Nat × List D)} {k0 k9 : Nat} (h9 : k9 < 900000000) (hA : ∀ (a6 a7 a8 a9 a10 a11 : Option D) (k : Nat), k0 ≤ k → k ≤ k9 → A.nx [.val .jar, jk a1, .val (.tup (s.map D.int)), .val (.tup (fcts F)), .val (.lst (sts (sets (full s)))), .val (nt s F), jk a6, jk a7, jk a8, jk a9, jk a10, jk a11] ⟨k, cs⟩) :
    ∀ (ds : List D) (a6 a7 a8 a9 a10 a11 : Option D) (k : Nat), k0 ≤ k → k + 2 * ds.length ≤ k9 → forD (gVar 6) L_law_right_0 ds A EX [.val .jar, jk a1, .val (.tup (s.map D.int)), .val (.tup (fcts F)), .val (.lst (sts (sets (full s)))), .val (nt s F), jk a6, jk a7, jk a8, jk a9, jk a10, jk a11] ⟨k, cs⟩
  | [], a6, a7, a8, a9, a10, a11, k, h1, h2 => hA a6 a7 a8 a9 a10 a11 k h1 (by rw [List.length_nil] at h2; omega)
  | d :: ds, a6, a7, a8, a9, a10, a11, k, h1, h2 => by
    rw [List.length_cons] at h2
    have pls := plain_sets ok
    have hs0 : sts (sets (full s)) ≠ [] := fun z => hne (List.map_eq_nil_iff.mp z)
    have hsl : (sts (sets (full s))).length < 1000000 := by rw [sts_len]; omega
    refine ⟨sts (sets (full s)), _, rfl, .inl rfl, hs0, hsl, by show k < 1000000000; omega, fun d1 hd1 k1 p1 q1 => ?_⟩
    have p1 : k ≤ k1 := p1
    have q1 : k1 ≤ k + 1 := q1
    obtain ⟨a, ha, rfl⟩ := List.mem_map.mp hd1
    refine ⟨sts (sets (full s)), _, rfl, .inl rfl, hs0, hsl, by show k1 < 1000000000; omega, fun d2 hd2 k2 p2 q2 => ?_⟩
    have p2 : k1 ≤ k2 := p2
    have q2 : k2 ≤ k1 + 1 := q2
    obtain ⟨b, hb, rfl⟩ := List.mem_map.mp hd2
    refine ⟨_, _, rfl, ?_⟩
    obtain ⟨v1, hS, cS⟩ := t_law_steps ok hp hc h48 ha hb
    obtain ⟨v2, hW, cW⟩ := t_sure_way ok hp hc ha hb
    have hK := t_Notes_known ok hp hc ha hb
    have go := fun (b9 b10 b11 : Option D) => loop_turns (EX := EX) (a1 := a1) ok hp hc h48 hne h9 hA ds (some d) (some (st a)) (some (st b)) b9 b10 b11 k2 (by omega) (by omega)
    refine lP_law_right_1.goW (EX := EX) (r := [.val .jar, jk a1, .val (.tup (s.map D.int)), .val (.tup (fcts F)), .val (.lst (sts (sets (full s)))), .val (nt s F), .val d, .val (st a), .val (st b), jk a9, jk a10, jk a11]) ?_ ?_; exact (by first | rfl | (simp only [List.set_cons_zero, List.set_cons_succ, List.map_cons, List.map_nil, adr_jk, adr_jo, adr_val, adr_un, adr_own]; done))
    refine W_asg (d := .tup [v1, v2]) (E_tup (E_cons (E_call (E_cons rfl (E_cons rfl (E_cons rfl E_nil))) hS) (E_cons (E_call (E_cons rfl (E_cons rfl (E_cons rfl E_nil))) hW) E_nil)) (Nat.le_of_ble_eq_true rfl)) rfl ⟨(by first | rfl | (simp only [List.set_cons_zero, List.set_cons_succ, List.map_cons, List.map_nil, adr_jk, adr_jo, adr_val, adr_un, adr_own]; done)), ?_⟩
    rcases cS with ⟨rfl, hn⟩ | ⟨kk, q, rfl, hq, hkk, pq, eq, lq⟩
    · have e2 : v2 = .non := by
        rcases cW with ⟨e, _⟩ | ⟨x, _, sx⟩
        · exact e
        · exact absurd sx.fin (hn x sx.pth)
      subst e2
      (try dsimp only); refine lP_law_right_2.goW ?_ ?_; exact (by first | rfl | (simp only [List.set_cons_zero, List.set_cons_succ, List.map_cons, List.map_nil, adr_jk, adr_jo, adr_val, adr_un, adr_own]; done))
      refine W_if (v := false) (E_orT (b := false) (c := false) (E_tb (E_2 (E_callK (E_kw E_nil (E_cons rfl (E_cons rfl (E_cons rfl E_nil)))) ⟨rfl, rfl⟩ rfl hW) rfl rfl)) fun _ => E_tb (E_2 (x := .bl true) (y := .bl true) (E_2 rfl rfl rfl) (E_2 rfl rfl rfl) rfl)) (fun z => nomatch z) fun _ => W_next ⟨(by first | rfl | (simp only [List.set_cons_zero, List.set_cons_succ, List.map_cons, List.map_nil, adr_jk, adr_jo, adr_val, adr_un, adr_own]; done)), ?_⟩
      (try dsimp only); refine lP_law_right_3.goW ?_ ?_; exact (by first | rfl | (simp only [List.set_cons_zero, List.set_cons_succ, List.map_cons, List.map_nil, adr_jk, adr_jo, adr_val, adr_un, adr_own]; done))
      refine W_if (v := false) (E_tb (E_2 (x := .bl false) (y := .bl false) (E_2 (E_meth rfl (E_cons rfl (E_cons rfl E_nil)) hK) (E_L (E_lst (E_cons rfl (E_cons rfl E_nil)) (Nat.le_of_ble_eq_true rfl))) (known_out hn)) (E_2 rfl rfl rfl) rfl)) (fun z => nomatch z) fun _ => W_next ⟨(by first | rfl | (simp only [List.set_cons_zero, List.set_cons_succ, List.map_cons, List.map_nil, adr_jk, adr_jo, adr_val, adr_un, adr_own]; done)), ?_⟩
      (try dsimp only); refine lP_law_right_6.goW ?_ ?_; exact (by first | rfl | (simp only [List.set_cons_zero, List.set_cons_succ, List.map_cons, List.map_nil, adr_jk, adr_jo, adr_val, adr_un, adr_own]; done))
      refine W_if (v := false) (E_tb (E_2 rfl rfl rfl)) (fun z => nomatch z) fun _ => W_next ⟨(by first | rfl | (simp only [List.set_cons_zero, List.set_cons_succ, List.map_cons, List.map_nil, adr_jk, adr_jo, adr_val, adr_un, adr_own]; done)), ?_⟩
      exact go (some _) (some _) a11
    · rcases cW with ⟨_, hn⟩ | ⟨x, rfl, sx⟩
      · exact absurd eq (hn q pq)
      have hx1 := sx.least q pq eq
      have hx2 := lq x sx.pth sx.fin
      have hxl : x.length = kk + 1 := by omega
      have hxo := (hc.up.pth (hp.mem_iff.mpr ha) sx.pth).2.2
      have plx : ∀ t ∈ x, Plain t := fun t ht => pls t (hp.mem_iff.mp (hxo t ht))
      have n1 : neX (.tup (sts x)) (.tup (sts x)) = some (.bl false) := by rw [neX_tupS plx plx, decide_eq_true rfl] <;> rfl
      have n2 : neX (.int (x.length : Nat)) (.int ((kk : Int) + 1)) = some (.bl false) := by rw [neX_int, decide_eq_true (by omega)] <;> rfl
      have n3 : neX (.lst (sts [a, endOf x])) (.lst (sts [a, b])) = some (.bl false) := by
        have pa : ∀ t ∈ [a, b], Plain t := fun t ht => by
          rcases List.mem_cons.mp ht with rfl | ht
          · exact pls _ ha
          · rw [List.mem_singleton.mp ht]; exact pls _ hb
        rw [sx.fin, neX_stsL pa pa, decide_eq_true rfl] <;> rfl
      have x0 : ixX (.tup (sts x)) (.int 0) = some (st a) := by
        have := ixX_sts (a := x) (n := 0) (by omega)
        rw [pth_head sx.pth] at this
        exact this
      (try dsimp only); refine lP_law_right_2.goW ?_ ?_; exact (by first | rfl | (simp only [List.set_cons_zero, List.set_cons_succ, List.map_cons, List.map_nil, adr_jk, adr_jo, adr_val, adr_un, adr_own]; done))
      refine W_if (v := false) (E_orT (b := false) (c := false) (E_tb (E_2 (E_callK (E_kw E_nil (E_cons rfl (E_cons rfl (E_cons rfl E_nil)))) ⟨rfl, rfl⟩ rfl hW) rfl n1)) fun _ => E_tb (E_2 (x := .bl false) (y := .bl false) (E_2 rfl rfl rfl) (E_2 rfl rfl rfl) rfl)) (fun z => nomatch z) fun _ => W_next ⟨(by first | rfl | (simp only [List.set_cons_zero, List.set_cons_succ, List.map_cons, List.map_nil, adr_jk, adr_jo, adr_val, adr_un, adr_own]; done)), ?_⟩
      (try dsimp only); refine lP_law_right_3.goW ?_ ?_; exact (by first | rfl | (simp only [List.set_cons_zero, List.set_cons_succ, List.map_cons, List.map_nil, adr_jk, adr_jo, adr_val, adr_un, adr_own]; done))
      refine W_if (v := false) (E_tb (E_2 (x := .bl true) (y := .bl true) (E_2 (E_meth rfl (E_cons rfl (E_cons rfl E_nil)) hK) (E_L (E_lst (E_cons rfl (E_cons rfl E_nil)) (Nat.le_of_ble_eq_true rfl))) (known_in ⟨q, pq, eq⟩)) (E_2 rfl rfl rfl) rfl)) (fun z => nomatch z) fun _ => W_next ⟨(by first | rfl | (simp only [List.set_cons_zero, List.set_cons_succ, List.map_cons, List.map_nil, adr_jk, adr_jo, adr_val, adr_un, adr_own]; done)), ?_⟩
      (try dsimp only); refine lP_law_right_6.goW ?_ ?_; exact (by first | rfl | (simp only [List.set_cons_zero, List.set_cons_succ, List.map_cons, List.map_nil, adr_jk, adr_jo, adr_val, adr_un, adr_own]; done))
      refine W_if (v := true) (E_tb (E_2 rfl rfl rfl)) (fun _ => ?_) (fun z => nomatch z)
      unfold yP_law_right_4 yP_law_right_5
      refine S_if (v := false) (E_orT (b := false) (c := false) (E_notT (b := true) (E_tb (E_isi rfl rfl rfl))) fun _ => E_orT (b := false) (c := false) (E_tb (E_2 (E_ca (E_cons rfl E_nil) (lenX_tup.trans (by rw [sts_len]))) (E_2 rfl rfl addX_int) n2)) fun _ => E_tb (E_2 (E_L (E_lst (E_cons (E_2 rfl rfl x0) (E_cons (E_2 rfl (E_neg rfl) (ixX_end sx.pth.ne)) E_nil)) (Nat.le_of_ble_eq_true rfl))) (E_L (E_lst (E_cons rfl (E_cons rfl E_nil)) (Nat.le_of_ble_eq_true rfl))) n3)) (fun z => nomatch z) fun _ => W_next ?_
      have hall : xNotT (xTb (xCa (blsX fun bs => .bl (bs.all id)) (xCons (xL (xLc (iRng1 (xCons (xVar 9) xNil)) [11] (yVar 11) xYes (x2 (inTX false) (xTup (xCons (x2 ixX (xVar 10) (xVar 11)) (xCons (x2 ixX (xVar 10) (x2 addX (xVar 11) (xC (.int 1)))) xNil))) (xVar 3)))) xNil))) [.val .jar, jk a1, .val (.tup (s.map D.int)), .val (.tup (fcts F)), .val (.lst (sts (sets (full s)))), .val (nt s F), .val d, .val (st a), .val (st b), .val (.int (kk : Nat)), .val (.tup (sts x)), jk a11] = .ok false := by
        refine (E_notT (b := true) (E_tb ((E_all (xs := (List.range kk).map fun _ => true) ((xLc_ok (e := fun i : Nat => .int i) (xs := List.range kk) (fun _ => true) (fun _ => .bl true) (by rw [rng1_ok (n := kk) rfl (by omega), rangeD_nat]) (by rw [List.length_range]; omega) fun i hi => ?_).trans ?_)).trans ?_)))
        · have hi : i < kk := List.mem_range.mp hi
          refine ⟨_, rfl, rfl, fun _ => ?_⟩
          have m := pth_pair sx.pth i (by omega)
          refine (E_2 (x := fct (x.getD i [], x.getD (i + 1) [])) (E_tup (E_cons (E_2 rfl rfl (ixX_sts (by omega))) (E_cons (E_2 (y := .int ((i + 1 : Nat) : Int)) rfl (E_2 rfl rfl rfl) (ixX_sts (by omega))) E_nil)) (Nat.le_of_ble_eq_true rfl)) rfl (inTX_fct (neg := false) (fc_plain ok hp hc _ m) (fc_plain ok hp hc))).trans ?_
          rw [decide_eq_true m]; rfl
        · rw [filter_tt, List.map_map]; rfl
        · rw [show ((List.range kk).map fun _ => true).all id = true by simp]
      refine W_if (v := false) hall (fun z => nomatch z) fun _ => W_next ⟨(by first | rfl | (simp only [List.set_cons_zero, List.set_cons_succ, List.map_cons, List.map_nil, adr_jk, adr_jo, adr_val, adr_un, adr_own]; done)), ?_⟩
      exact go (some _) (some _) a11
theorem loop_right {A : DE} {EX : XP} {cs : List (Nat × List D)} {k0 k9 : Nat} (h9 : k9 < 700000000) (hA : ∀ (a1 a2 a3 a4 a5 a6 a7 a8 a9 a10 a11 : Option D) (k : Nat), k0 ≤ k → k ≤ k9 → A.nx [.val .jar, jk a1, jk a2, jk a3, jk a4, jk a5, jk a6, jk a7, jk a8, jk a9, jk a10, jk a11] ⟨k, cs⟩) :
    ∀ (ds : List D) (a1 a2 a3 a4 a5 a6 a7 a8 a9 a10 a11 : Option D) (k : Nat), k0 ≤ k → k + 4000 * ds.length ≤ k9 → forD (gVar 1) L_law_right_1 ds A EX [.val .jar, jk a1, jk a2, jk a3, jk a4, jk a5, jk a6, jk a7, jk a8, jk a9, jk a10, jk a11] ⟨k, cs⟩
  | [], a1, a2, a3, a4, a5, a6, a7, a8, a9, a10, a11, k, h1, h2 => hA a1 a2 a3 a4 a5 a6 a7 a8 a9 a10 a11 k h1 (by rw [List.length_nil] at h2; omega)
  | d :: ds, a1, a2, a3, a4, a5, a6, a7, a8, a9, a10, a11, k, h1, h2 => by
    rw [List.length_cons] at h2
    refine ⟨by decide, by decide, by decide, by decide, by decide, by decide, by decide, by decide, [.tup [.int 2, .int 2, .int 2, .int 2], .tup [.int 3, .int 2, .int 2], .tup [.int 3, .int 3], .tup [.int 2, .int 2], .tup [.int 2, .int 2, .int 2], .tup [.int 2, .int 2, .int 2, .int 2, .int 2], .tup [.int 3, .int 3, .int 2, .int 2]], _, rfl, .inl rfl, by simp, by simp, by show k < 1000000000; omega, fun v hv k1 p1 q1 => ?_⟩
    have p1 : k ≤ k1 := p1
    have q1 : k1 ≤ k + 1 := q1
    obtain ⟨s, rfl, hs, hne⟩ : ∃ s : List Int, v = .tup (s.map D.int) ∧ s ∈ spansOf 48 ∧ sets (full s) ≠ [] := by
      simp only [List.mem_cons, List.not_mem_nil, or_false] at hv
      rcases hv with rfl | rfl | rfl | rfl | rfl | rfl | rfl
      · exact ⟨[2, 2, 2, 2], rfl, by decide +kernel, by decide +kernel⟩
      · exact ⟨[3, 2, 2], rfl, by decide +kernel, by decide +kernel⟩
      · exact ⟨[3, 3], rfl, by decide +kernel, by decide +kernel⟩
      · exact ⟨[2, 2], rfl, by decide +kernel, by decide +kernel⟩
      · exact ⟨[2, 2, 2], rfl, by decide +kernel, by decide +kernel⟩
      · exact ⟨[2, 2, 2, 2, 2], rfl, by decide +kernel, by decide +kernel⟩
      · exact ⟨[3, 3, 2, 2], rfl, by decide +kernel, by decide +kernel⟩
    have ok := okS_of hs
    have h48 : (sets (full s)).length ≤ 48 := sets_le hs
    refine ⟨by decide, [.int 1, .int 2, .int 3, .int 4], _, rfl, .inl rfl, by simp, by simp, by show k1 < 1000000000; omega, fun v hv k2 p2 q2 => ?_⟩
    have p2 : k1 ≤ k2 := p2
    have q2 : k2 ≤ k1 + 1 := q2
    obtain ⟨n, rfl⟩ : ∃ n : Int, v = .int n := by
      simp only [List.mem_cons, List.not_mem_nil, or_false] at hv
      rcases hv with rfl | rfl | rfl | rfl <;> exact ⟨_, rfl⟩
    refine ⟨s, n, rfl, hs, by show k2 < 800000000; omega, fun o F hp hc k3 p3 q3 => ?_⟩
    have p3 : k2 ≤ k3 := p3
    have q3 : k3 ≤ k2 + 3000 := q3
    show (cf_law_spots [.tup (s.map D.int)]).hold _ _
    rw [t_law_spots ok]
    refine ⟨(by decide : 2 ≤ sizeLine), _, rfl, rfl, _, _, rfl, _, _, rfl, rfl, ?_⟩
    refine lP_law_right_0.goW (EX := EX) (r := [.val .jar, .val d, .val (.tup (s.map D.int)), .val (.tup (fcts F)), .val (.lst (sts (sets (full s)))), jk a5, jk a6, jk a7, jk a8, jk a9, jk a10, jk a11]) ?_ ?_; exact (by first | rfl | (simp only [List.set_cons_zero, List.set_cons_succ, List.map_cons, List.map_nil, adr_jk, adr_jo, adr_val, adr_un, adr_own]; done))
    refine W_set (d := nt s F) (E_makeK (E_kw (E_cons (E_make (E_cons rfl E_nil) (t_Board_init hs)) (E_cons rfl E_nil)) E_nil) ⟨rfl, rfl⟩ rfl (t_Notes_init ok hp hc)) ⟨(by first | rfl | (simp only [List.set_cons_zero, List.set_cons_succ, List.map_cons, List.map_nil, adr_jk, adr_jo, adr_val, adr_un, adr_own]; done)), ?_⟩
    refine ⟨8, rfl, by decide, ?_⟩
    exact loop_turns (EX := EX) (a1 := some d) (k0 := k3) (k9 := k3 + 16) ok hp hc h48 hne (by omega) (fun b6 b7 b8 b9 b10 b11 k4 p4 q4 => loop_right (EX := EX) h9 hA ds (some d) (some _) (some _) (some _) (some _) b6 b7 b8 b9 b10 b11 k4 (by omega) (by omega)) (rangeD 0 8) a6 a7 a8 a9 a10 a11 k3 (Nat.le_refl _) (by rw [rangeD_len]; omega)
theorem len_law_right : ∀ ds Q EX σ, sp_law_right ds Q EX σ → ds.length = 1 := by
  rintro _ Q EX σ ⟨rfl, _⟩; rfl
theorem pure_law_right : ∀ ds Q EX σ, sp_law_right ds Q EX σ → R_law_right { nx := fun _ => Q .non, rt := Q } EX (startD N_law_right ds) σ := by
  rintro _ Q EX ⟨n0, cs⟩ ⟨rfl, hσ, k⟩
  have hσ : n0 ≤ 100000000 := hσ
  refine ⟨2, rfl, by decide, ?_⟩
  exact loop_right (k0 := n0) (k9 := n0 + 8000) (by omega) (fun _ _ _ _ _ _ _ _ _ _ _ kk p q => k kk p (by show kk ≤ n0 + 10000000; omega)) (rangeD 0 2) none none none none none none none none none none none n0 (Nat.le_refl _) (by rw [rangeD_len]; omega)
theorem loop_urn {A : DE} {EX : XP} {a k : D} {σ : Sg} (hA : ∀ (m : Int) x y, A.nx [.val a, .val k, .val (.int m), x, y] σ) : ∀ (ds : List D) (m : Int) (x y : Sl), (∀ d ∈ ds, ∃ n : Int, d = .int n) → forD (gVar 3) L_law_urn_0 ds A EX [.val a, .val k, .val (.int m), x, y] σ
  | [], m, x, y, _ => hA m x y
  | d :: ds, m, x, y, h => by
    obtain ⟨n, rfl⟩ := h d List.mem_cons_self
    refine ⟨.inr (by decide), ?_⟩
    refine ⟨(by decide : (2147483179 : Int) ≠ 0), ?_⟩
    exact loop_urn (EX := EX) hA ds _ _ _ fun d hd => h d (List.mem_cons_of_mem _ hd)
theorem cut_mem {ds : List D} {lo hi : Option Int} {d : D} (h : d ∈ cutD ds lo hi) : d ∈ ds := List.mem_of_mem_drop (List.mem_of_mem_take h)
theorem len_law_urn : ∀ ds Q EX σ, sp_law_urn ds Q EX σ → ds.length = 2 := by
  rintro _ Q EX σ ⟨ns, k, rfl, _⟩; rfl
theorem pure_law_urn : ∀ ds Q EX σ, sp_law_urn ds Q EX σ → R_law_urn { nx := fun _ => Q .non, rt := Q } EX (startD N_law_urn ds) σ := by
  rintro _ Q EX σ ⟨ns, k, rfl, h0, h1, hl, q⟩
  refine ⟨.inl (by decide), ?_⟩
  refine ⟨_, rfl, ?_⟩
  refine ⟨_, rfl, ?_⟩
  refine loop_urn (fun m x y => ?_) _ _ _ _ (fun d hd => ?_)
  · have rest : ∀ own : Int, (sRetJar jpU (fLst (fCons (f2 modD (fCa intC (fCons (f2 addD (f2 addD (f2 mulAD (fVar 2) (fC (.int 31))) (f2 mulAD (fVar 4) (fC (.int 67)))) (fC (.int 23))) fNil)) (fC (.int 2147483179))) (fCons (fIf (fTb (f2 geD (fCa (i1D fun i => .int (if i < 0 then -i else i)) (fCons (fVar 4) fNil)) (f2 powD (fC (.int 10)) (fC (.int 17))))) (fCa (i1D fun i => .int (if i < 0 then -i else i)) (fCons (fVar 4) fNil)) (fC (.int 0))) (fCons (fC (.int 0)) fNil))))) { nx := fun _ => Q .non, rt := Q } EX [.val (.lst (ns.map D.int)), .val (.int k), .val (.int m), x, .val (.int own)] σ := by
      intro own
      have jp0 : ∀ a b : Int, jpU σ.n a b 0 := fun a b => ⟨Int.le_refl 0, Int.natCast_nonneg _⟩
      refine ⟨.inr (by decide), ?_⟩
      refine ⟨.inr (by decide), ?_⟩
      refine ⟨(by decide : (2147483179 : Int) ≠ 0), ?_⟩
      refine ⟨⟨by decide, by decide, by decide⟩, ?_⟩
      refine ⟨_, rfl, ?_⟩
      refine ite2 (fun _ => ?_) (fun _ => ?_)
      · exact ⟨(by decide : 3 ≤ sizeLine), jp0 _ _, q⟩
      · exact ⟨(by decide : 3 ≤ sizeLine), jp0 _ _, q⟩
    refine ⟨_, rfl, ?_⟩
    refine ite2 (fun hb => ?_) (fun _ => ?_)
    · have hk : k < (ns.length : Int) := by
        have := of_decide_eq_true hb
        simpa using this
      obtain ⟨i, rfl⟩ := Int.eq_ofNat_of_zero_le h0
      have hi : i < (ns.map D.int).length := by simp; omega
      refine ⟨(i : Int), _, rfl, atI_nat hi, ?_⟩
      rw [List.getElem_map]
      exact rest _
    · refine ⟨.inl (by decide), ?_⟩
      exact rest _
  · obtain ⟨n, _, e⟩ := List.mem_map.mp (cut_mem hd)
    exact ⟨n, e.symm⟩
theorem loop_law {ns : List Int} (hl : ns.length ≤ 63) {Q : List D → Pr} {cs : List (Nat × List D)} : ∀ (ds : List D) (n k : Nat), (∀ d ∈ ds, ∃ k : Int, d = .int k ∧ 0 ≤ k ∧ k < 1000) → ds.length + n ≤ 10000 → k + 10000000 * ds.length ≤ 100000000 → (∀ k, Q (List.replicate (ds.length + n) (.bl true)) ⟨k, cs⟩) →
    lcD (gVar 1) fYes (fCall sp_law_right (fCons (fCall sp_law_urn (fCons (fVar 0) (fCons (fVar 1) fNil))) fNil)) [.val (.lst (ns.map D.int)), .un] ds (List.replicate n (.bl true)) Q ⟨k, cs⟩
  | [], n, k, _, _, _, q => by
    have q' := q k
    rw [List.length_nil, Nat.zero_add] at q'
    exact q'
  | d :: ds, n, k, h, hz, hk, q => by
    obtain ⟨m, rfl, h0, h1⟩ := h d List.mem_cons_self
    rw [List.length_cons] at hz hk q
    unfold lcD gVar fYes
    dsimp only
    rw [if_pos rfl]
    refine ⟨ns, m, rfl, h0, h1, hl, rfl, by show k ≤ 100000000; omega, fun k2 h2 h3 => ?_⟩
    have h2 : k ≤ k2 := h2
    have h3 : k2 ≤ k + 10000000 := h3
    refine ⟨by rw [List.length_replicate, sl_eq]; omega, ?_⟩
    rw [← List.replicate_succ']
    exact loop_law hl ds (n + 1) k2 (fun d hd => h d (List.mem_cons_of_mem _ hd)) (by omega) (by omega) (by rw [show ds.length + (n + 1) = ds.length + 1 + n by omega]; exact q)
theorem all_true : ∀ n : Nat, (List.replicate n true).all id = true
  | 0 => rfl
  | n + 1 => by rw [List.replicate_succ, List.all_cons, all_true n]; rfl
theorem bools_rep : ∀ n : Nat, blsOf (List.replicate n (D.bl true)) = some (List.replicate n true)
  | 0 => rfl
  | n + 1 => by
    rw [List.replicate_succ, List.replicate_succ]
    unfold blsOf
    rw [bools_rep n]; rfl
theorem len_law : ∀ ds Q EX σ, sp_law ds Q EX σ → ds.length = 1 := by
  rintro _ Q EX σ ⟨ns, rfl, _⟩; rfl
theorem pure_law : ∀ ds Q EX σ, sp_law ds Q EX σ → R_law { nx := fun _ => Q .non, rt := Q } EX (startD N_law ds) σ := by
  rintro _ Q EX ⟨n0, cs⟩ ⟨ns, rfl, hl, hn, q⟩
  have hn : n0 = 0 := hn
  subst hn
  have h63 : (ns.map D.int).length ≤ 63 := by simpa using hl
  refine ⟨_, rfl, ?_, ?_⟩
  · constructor
    · split <;> omega
    · split <;> split <;> omega
  · refine loop_law hl _ 0 0 (fun d hd => ?_) ?_ ?_ (fun k => ?_)
    · obtain ⟨k, e, h0, h1⟩ := rangeD_int hd
      refine ⟨k, e, h0, ?_⟩
      revert h1
      split <;> split <;> omega
    · rw [rangeD_len]
      split <;> (try split) <;> omega
    · rw [rangeD_len]
      split <;> (try split) <;> omega
    · show (match blsOf (List.replicate _ (D.bl true)) with | some bs => _ | none => False)
      rw [bools_rep]
      show Q (.bl ((List.replicate _ true).all id)) _
      rw [all_true]
      exact q k
theorem law_asks (ns : List Int) (h1 : ns.length ≤ 63) (_ : ∀ z ∈ ns, Builtin.Int.intBits z ≤ 1048576) : sp_law [.lst (ns.map D.int)] (fun d _ => d = .bl true) NoX ⟨0, []⟩ := ⟨ns, rfl, h1, rfl, fun _ => rfl⟩
end K45
namespace K45
open PySem L2 DL PyProof.Rows
def top (i : Nat) : Stmt := PySem.Challenge.pw_switchhills_k45_whole_sure_ways.main.body.getD i (.Pass ⟨0, 0, 0, 0⟩)
abbrev s_law_pull : Stmt := top 43
abbrev s_law_one_of : Stmt := top 44
abbrev s_law_mixed : Stmt := top 48
abbrev s_law_spots : Stmt := top 45
abbrev s_law_near : Stmt := top 46
abbrev s_law_sides : Stmt := top 47
abbrev s_law_seen : Stmt := top 49
abbrev s_check_board : Stmt := top 21
abbrev s_Board_contains : Stmt := inClass (top 20) 7
abbrev s_are_neighbours : Stmt := top 25
abbrev s_is_fact : Stmt := top 31
abbrev s_leads : Stmt := top 32
abbrev s_is_let : Stmt := top 33
abbrev s_check_facts : Stmt := top 34
abbrev s_Notes_init : Stmt := inClass (top 36) 0
abbrev s_is_within : Stmt := top 16
abbrev s_check_sizes : Stmt := top 17
abbrev s_settings_in : Stmt := top 18
abbrev s_Board_init : Stmt := inClass (top 20) 0
abbrev s_law_steps : Stmt := top 50
abbrev s_check_notes : Stmt := top 38
abbrev s_check_setting : Stmt := top 22
abbrev s_Notes_board : Stmt := inClass (top 36) 2
abbrev s_shortest_rows : Stmt := top 27
abbrev s_Board_settings : Stmt := inClass (top 20) 3
abbrev s_ups : Stmt := top 35
abbrev s_Notes_facts : Stmt := inClass (top 36) 3
abbrev s_sure_way : Stmt := top 40
abbrev s_Notes_known : Stmt := inClass (top 36) 11
abbrev s_law_right : Stmt := top 51
abbrev s_law_urn : Stmt := top 42
abbrev s_law : Stmt := top 52
structure Ad where
  f_law_pull : Addr
  f_law_one_of : Addr
  f_law_mixed : Addr
  f_law_spots : Addr
  f_law_near : Addr
  f_law_sides : Addr
  f_law_seen : Addr
  f_check_board : Addr
  f_Board_contains : Addr
  f_are_neighbours : Addr
  f_is_fact : Addr
  f_leads : Addr
  f_is_let : Addr
  f_check_facts : Addr
  f_Notes_init : Addr
  f_is_within : Addr
  f_check_sizes : Addr
  f_settings_in : Addr
  f_Board_init : Addr
  f_law_steps : Addr
  f_check_notes : Addr
  f_check_setting : Addr
  f_Notes_board : Addr
  f_shortest_rows : Addr
  f_Board_settings : Addr
  f_ups : Addr
  f_Notes_facts : Addr
  f_sure_way : Addr
  f_Notes_known : Addr
  f_law_right : Addr
  f_law_urn : Addr
  f_law : Addr
  C_Board : Addr
  C_Notes : Addr
  P_Notes_board : Addr
  P_Board_settings : Addr
  P_Notes_facts : Addr
  A_STANDS : Addr
  E_Notes_init_0 : Addr
def gm (K : PySem.W.Frag) (w : World) (ad : Ad) : Gm where
  K := K
  pw := w
  jp := jpU
  cls := fun c => match c with
    | 1 => ad.C_Board
    | 3 => ad.C_Notes
    | _ => 0
  fld := fun c => match c with
    | 1 => fl_Board
    | 3 => fl_Notes
    | _ => []
abbrev V_STANDS (ad : Ad) : V := .ref ad.A_STANDS
structure Txt (K : PySem.W.Frag) (w : World) (mg : Str → Option Value) (ad : Ad) : Prop where
  F_law_pull : ∃ fd, Fun K "_law_pull" "_law_pull" s_law_pull ad.f_law_pull fd
  m_law_pull : mg "_law_pull" = some (.ref ad.f_law_pull)
  k_law_pull : PySem.W.keepIn K (.ref ad.f_law_pull) = true
  F_law_one_of : ∃ fd, Fun K "_law_one_of" "_law_one_of" s_law_one_of ad.f_law_one_of fd
  m_law_one_of : mg "_law_one_of" = some (.ref ad.f_law_one_of)
  k_law_one_of : PySem.W.keepIn K (.ref ad.f_law_one_of) = true
  F_law_mixed : ∃ fd, Fun K "_law_mixed" "_law_mixed" s_law_mixed ad.f_law_mixed fd
  m_law_mixed : mg "_law_mixed" = some (.ref ad.f_law_mixed)
  k_law_mixed : PySem.W.keepIn K (.ref ad.f_law_mixed) = true
  F_law_spots : ∃ fd, Fun K "_law_spots" "_law_spots" s_law_spots ad.f_law_spots fd
  m_law_spots : mg "_law_spots" = some (.ref ad.f_law_spots)
  k_law_spots : PySem.W.keepIn K (.ref ad.f_law_spots) = true
  F_law_near : ∃ fd, Fun K "_law_near" "_law_near" s_law_near ad.f_law_near fd
  m_law_near : mg "_law_near" = some (.ref ad.f_law_near)
  k_law_near : PySem.W.keepIn K (.ref ad.f_law_near) = true
  F_law_sides : ∃ fd, Fun K "_law_sides" "_law_sides" s_law_sides ad.f_law_sides fd
  m_law_sides : mg "_law_sides" = some (.ref ad.f_law_sides)
  k_law_sides : PySem.W.keepIn K (.ref ad.f_law_sides) = true
  F_law_seen : ∃ fd, Fun K "_law_seen" "_law_seen" s_law_seen ad.f_law_seen fd
  m_law_seen : mg "_law_seen" = some (.ref ad.f_law_seen)
  k_law_seen : PySem.W.keepIn K (.ref ad.f_law_seen) = true
  F_check_board : ∃ fd, Fun K "check_board" "check_board" s_check_board ad.f_check_board fd
  m_check_board : mg "check_board" = some (.ref ad.f_check_board)
  k_check_board : PySem.W.keepIn K (.ref ad.f_check_board) = true
  F_Board_contains : ∃ fd, Fun K "__contains__" "Board.__contains__" s_Board_contains ad.f_Board_contains fd
  h_Board_contains : Meth K ad.C_Board "__contains__" ad.f_Board_contains
  F_are_neighbours : ∃ fd, Fun K "are_neighbours" "are_neighbours" s_are_neighbours ad.f_are_neighbours fd
  m_are_neighbours : mg "are_neighbours" = some (.ref ad.f_are_neighbours)
  k_are_neighbours : PySem.W.keepIn K (.ref ad.f_are_neighbours) = true
  F_is_fact : ∃ fd, Fun K "is_fact" "is_fact" s_is_fact ad.f_is_fact fd
  m_is_fact : mg "is_fact" = some (.ref ad.f_is_fact)
  k_is_fact : PySem.W.keepIn K (.ref ad.f_is_fact) = true
  F_leads : ∃ fd, Fun K "leads" "leads" s_leads ad.f_leads fd
  m_leads : mg "leads" = some (.ref ad.f_leads)
  k_leads : PySem.W.keepIn K (.ref ad.f_leads) = true
  F_is_let : ∃ fd, Fun K "is_let" "is_let" s_is_let ad.f_is_let fd
  m_is_let : mg "is_let" = some (.ref ad.f_is_let)
  k_is_let : PySem.W.keepIn K (.ref ad.f_is_let) = true
  F_check_facts : ∃ fd, Fun K "check_facts" "check_facts" s_check_facts ad.f_check_facts fd
  m_check_facts : mg "check_facts" = some (.ref ad.f_check_facts)
  k_check_facts : PySem.W.keepIn K (.ref ad.f_check_facts) = true
  F_Notes_init : ∃ fd, FunF K "__init__" "Notes.__init__" s_Notes_init [.ref ad.E_Notes_init_0] ad.f_Notes_init fd
  mk_Notes : Mk K ad.C_Notes ad.f_Notes_init
  g_Notes : mg "Notes" = some (.ref ad.C_Notes)
  F_is_within : ∃ fd, Fun K "is_within" "is_within" s_is_within ad.f_is_within fd
  m_is_within : mg "is_within" = some (.ref ad.f_is_within)
  k_is_within : PySem.W.keepIn K (.ref ad.f_is_within) = true
  F_check_sizes : ∃ fd, Fun K "check_sizes" "check_sizes" s_check_sizes ad.f_check_sizes fd
  m_check_sizes : mg "check_sizes" = some (.ref ad.f_check_sizes)
  k_check_sizes : PySem.W.keepIn K (.ref ad.f_check_sizes) = true
  F_settings_in : ∃ fd, Fun K "settings_in" "settings_in" s_settings_in ad.f_settings_in fd
  m_settings_in : mg "settings_in" = some (.ref ad.f_settings_in)
  k_settings_in : PySem.W.keepIn K (.ref ad.f_settings_in) = true
  F_Board_init : ∃ fd, Fun K "__init__" "Board.__init__" s_Board_init ad.f_Board_init fd
  mk_Board : Mk K ad.C_Board ad.f_Board_init
  g_Board : mg "Board" = some (.ref ad.C_Board)
  F_law_steps : ∃ fd, Fun K "_law_steps" "_law_steps" s_law_steps ad.f_law_steps fd
  m_law_steps : mg "_law_steps" = some (.ref ad.f_law_steps)
  k_law_steps : PySem.W.keepIn K (.ref ad.f_law_steps) = true
  F_check_notes : ∃ fd, Fun K "check_notes" "check_notes" s_check_notes ad.f_check_notes fd
  m_check_notes : mg "check_notes" = some (.ref ad.f_check_notes)
  k_check_notes : PySem.W.keepIn K (.ref ad.f_check_notes) = true
  F_check_setting : ∃ fd, Fun K "check_setting" "check_setting" s_check_setting ad.f_check_setting fd
  m_check_setting : mg "check_setting" = some (.ref ad.f_check_setting)
  k_check_setting : PySem.W.keepIn K (.ref ad.f_check_setting) = true
  F_Notes_board : ∃ fd, Fun K "board" "Notes.board" s_Notes_board ad.f_Notes_board fd
  p_Notes_board : PropOf K ad.C_Notes "board" ad.P_Notes_board ad.f_Notes_board
  F_shortest_rows : ∃ fd, Fun K "shortest_rows" "shortest_rows" s_shortest_rows ad.f_shortest_rows fd
  m_shortest_rows : mg "shortest_rows" = some (.ref ad.f_shortest_rows)
  k_shortest_rows : PySem.W.keepIn K (.ref ad.f_shortest_rows) = true
  F_Board_settings : ∃ fd, Fun K "settings" "Board.settings" s_Board_settings ad.f_Board_settings fd
  p_Board_settings : PropOf K ad.C_Board "settings" ad.P_Board_settings ad.f_Board_settings
  F_ups : ∃ fd, Fun K "ups" "ups" s_ups ad.f_ups fd
  m_ups : mg "ups" = some (.ref ad.f_ups)
  k_ups : PySem.W.keepIn K (.ref ad.f_ups) = true
  F_Notes_facts : ∃ fd, Fun K "facts" "Notes.facts" s_Notes_facts ad.f_Notes_facts fd
  p_Notes_facts : PropOf K ad.C_Notes "facts" ad.P_Notes_facts ad.f_Notes_facts
  F_sure_way : ∃ fd, Fun K "sure_way" "sure_way" s_sure_way ad.f_sure_way fd
  m_sure_way : mg "sure_way" = some (.ref ad.f_sure_way)
  k_sure_way : PySem.W.keepIn K (.ref ad.f_sure_way) = true
  F_Notes_known : ∃ fd, Fun K "known" "Notes.known" s_Notes_known ad.f_Notes_known fd
  h_Notes_known : Meth K ad.C_Notes "known" ad.f_Notes_known
  F_law_right : ∃ fd, Fun K "_law_right" "_law_right" s_law_right ad.f_law_right fd
  m_law_right : mg "_law_right" = some (.ref ad.f_law_right)
  k_law_right : PySem.W.keepIn K (.ref ad.f_law_right) = true
  F_law_urn : ∃ fd, Fun K "_law_urn" "_law_urn" s_law_urn ad.f_law_urn fd
  m_law_urn : mg "_law_urn" = some (.ref ad.f_law_urn)
  k_law_urn : PySem.W.keepIn K (.ref ad.f_law_urn) = true
  F_law : ∃ fd, Fun K "law" "law" s_law ad.f_law fd
  m_law : mg "law" = some (.ref ad.f_law)
  k_law : PySem.W.keepIn K (.ref ad.f_law) = true
  c_Board : ClsG K ad.C_Board
  n_Board_both : NoAttr K ad.C_Board "both"
  c_Notes : ClsG K ad.C_Notes
  n_Notes_both : NoAttr K ad.C_Notes "both"
  g_MOST_SETTINGS : ∃ u, mg "MOST_SETTINGS" = some u ∧ RelV (.int 48) u
  g_MOST_SWITCHES : ∃ u, mg "MOST_SWITCHES" = some u ∧ RelV (.int 5) u
  g_STANDS : ∃ u, mg "STANDS" = some u ∧ RelV (V_STANDS ad) u
  r_STANDS : ∀ w', Rep (gm K w ad) w' D_STANDS (V_STANDS ad)
  isi_Board_t : ∀ t b, isi_Board t = some b → PySem.W.kitOne K (tagV (gm K w ad) t) (.ref ad.C_Board) = some b
  isi_Board_c : ∀ c b, isi_Board (.obj c) = some b → ClsG K ((gm K w ad).cls c)
  isi_Notes_t : ∀ t b, isi_Notes t = some b → PySem.W.kitOne K (tagV (gm K w ad) t) (.ref ad.C_Notes) = some b
  isi_Notes_c : ∀ c b, isi_Notes (.obj c) = some b → ClsG K ((gm K w ad).cls c)
  z_abs : mg "abs" = none
  z_all : mg "all" = none
  z_bool : mg "bool" = none
  z_divmod : mg "divmod" = none
  z_int : mg "int" = none
  z_isinstance : mg "isinstance" = none
  z_len : mg "len" = none
  z_max : mg "max" = none
  z_min : mg "min" = none
  z_range : mg "range" = none
  z_set : mg "set" = none
  z_sorted : mg "sorted" = none
  z_str : mg "str" = none
  z_tuple : mg "tuple" = none
  e_Notes_init_0 : ∀ G : Gm, G.K = K → ∀ w : Wd, Rep G w (.tup []) (.ref ad.E_Notes_init_0)
theorem isi_bool_t {K : PySem.W.Frag} {w : World} {ad : Ad} : ∀ t b, isi_bool t = some b → PySem.W.kitOne K (tagV (gm K w ad) t) (.type "bool") = some b := by
  intro t b h
  cases t <;> cases h <;> (first | kernel_rfl | rfl)
theorem isi_bool_c {G : Gm} : ∀ c b, isi_bool (.obj c) = some b → ClsG G.K (G.cls c) := fun _ _ h => by cases h
theorem isi_int_t {K : PySem.W.Frag} {w : World} {ad : Ad} : ∀ t b, isi_int t = some b → PySem.W.kitOne K (tagV (gm K w ad) t) (.type "int") = some b := by
  intro t b h
  cases t <;> cases h <;> (first | kernel_rfl | rfl)
theorem isi_int_c {G : Gm} : ∀ c b, isi_int (.obj c) = some b → ClsG G.K (G.cls c) := fun _ _ h => by cases h
theorem isi_str_t {K : PySem.W.Frag} {w : World} {ad : Ad} : ∀ t b, isi_str t = some b → PySem.W.kitOne K (tagV (gm K w ad) t) (.type "str") = some b := by
  intro t b h
  cases t <;> cases h <;> (first | kernel_rfl | rfl)
theorem isi_str_c {G : Gm} : ∀ c b, isi_str (.obj c) = some b → ClsG G.K (G.cls c) := fun _ _ h => by cases h
theorem isi_tuple_t {K : PySem.W.Frag} {w : World} {ad : Ad} : ∀ t b, isi_tuple t = some b → PySem.W.kitOne K (tagV (gm K w ad) t) (.type "tuple") = some b := by
  intro t b h
  cases t <;> cases h <;> (first | kernel_rfl | rfl)
theorem isi_tuple_c {G : Gm} : ∀ c b, isi_tuple (.obj c) = some b → ClsG G.K (G.cls c) := fun _ _ h => by cases h
section
variable {P : Program} {w : World} {K : PySem.W.Frag} {mg : Str → Option Value} {base : Heap} {ad : Ad}
theorem sc_law_pull : FnScope N_law_pull ["urn", "size"] (defScope s_law_pull) := ⟨rfl, rfl, rfl, by decide +kernel, rfl, by decide +kernel, by decide +kernel⟩
theorem ok_law_pull (T : Txt K w mg ad) : DefU P w (gm K w ad) mg base 1 ad.f_law_pull ["urn", "size"] (fun fd => Fun K "_law_pull" "_law_pull" s_law_pull ad.f_law_pull fd) (lift (gm K w ad) sp_law_pull) := by
  obtain ⟨fd, F⟩ := T.F_law_pull
  refine ⟨fd, okD (B := R_law_pull) F sc_law_pull len_law_pull (fun cdv A outer s H E hg hr => ?_) pure_law_pull, F⟩
  have hg0 : (A.deeper (envOfC "_law_pull" (defScope s_law_pull) s.heap.objs.size ad.f_law_pull cdv)).guards = some [] := hg
  have hx0 : PassX (cxOf (L2.CX P w) P w K mg base N_law_pull "_law_pull" (defScope s_law_pull) ad.f_law_pull cdv A outer s H E) E := L2.passes_call (L2.takes_of rfl rfl rfl rfl) fun _ _ _ _ h => h
  exact (css_cons (cs_if (ct_cmp opl_gt (see (ce_jar (ce_var 0) (by decide))) (see ce_int)) (css_cons (cs_jarDM (i := 0) (j := 3) (ca_cons (ce_jar (ce_var 0) (by decide)) (ca_cons (ce_var 1) ca_nil)) T.z_divmod (pg_name (i := 3) sc_law_pull.nd rfl (by first | exact Or.inl rfl | exact Or.inr rfl)) (tg_var (i := 3)))
    (css_one (cs_ret (see (ce_var 3))))) css_nil)
    (css_cons (cs_jar (i := 0) (ce_bin opl_add (see (ce_jar (ce_var 0) (by decide))) (see ce_int)) (by decide))
    (css_cons (cs_set (i := 2) (ce_bin opl_mod (see (ce_callTy cal_int T.z_int (cab_cons (see (ce_bin opl_add (see (ce_bin opl_add (see (ce_bin opl_mulA (see (ce_jar (ce_var 0) (by decide))) (see ce_int))) (see (ce_bin opl_mulA (see (ce_bin opl_mulA (see (ce_jar (ce_var 0) (by decide))) (see (ce_jar (ce_var 0) (by decide))))) (see ce_int))))) (see ce_int))) cab_nil))) (see ce_int)) sc_law_pull.nd)
    (css_cons (cs_jar (i := 0) (ce_bin opl_mod (see (ce_callTy cal_int T.z_int (cab_cons (see (ce_bin opl_add (see (ce_bin opl_mulA (see (ce_var 2)) (see (ce_bin opl_add (see ce_int) (see (ce_bin opl_mod (see (ce_callTy cal_int T.z_int (cab_cons (see (ce_var 2)) cab_nil))) (see ce_int))))))) (see ce_int))) cab_nil))) (see ce_int)) (by decide))
    (css_one (cs_ret (see (ce_bin opl_mod (see (ce_callTy cal_int T.z_int (cab_cons (see (ce_bin opl_div (see (ce_jar (ce_var 0) (by decide))) (see ce_int))) cab_nil))) (see (ce_var 1))))))))))
theorem sc_law_one_of : FnScope N_law_one_of ["urn", "menu"] (defScope s_law_one_of) := ⟨rfl, rfl, rfl, by decide +kernel, rfl, by decide +kernel, by decide +kernel⟩
theorem ok_law_one_of (T : Txt K w mg ad) : DefU P w (gm K w ad) mg base 2 ad.f_law_one_of ["urn", "menu"] (fun fd => Fun K "_law_one_of" "_law_one_of" s_law_one_of ad.f_law_one_of fd) (lift (gm K w ad) sp_law_one_of) := by
  obtain ⟨fd_law_pull, F_law_pull, U_law_pull⟩ := ok_law_pull (P := P) (base := base) T
  have b_law_pull : Binds K fd_law_pull ["urn", "size"] [] := U_law_pull.binds (ps := ["urn", "size"]) fun _ _ _ _ _ _ us hl => match us, hl with | [_, _], _ => rfl
  obtain ⟨fd, F⟩ := T.F_law_one_of
  refine ⟨fd, okD (B := R_law_one_of) F sc_law_one_of len_law_one_of (fun cdv A outer s H E hg hr => ?_) pure_law_one_of, F⟩
  have hg0 : (A.deeper (envOfC "_law_one_of" (defScope s_law_one_of) s.heap.objs.size ad.f_law_one_of cdv)).guards = some [] := hg
  have hx0 : PassX (cxOf (L2.CX P w) P w K mg base N_law_one_of "_law_one_of" (defScope s_law_one_of) ad.f_law_one_of cdv A outer s H E) E := L2.passes_call (L2.takes_of rfl rfl rfl rfl) fun _ _ _ _ h => h
  exact (css_one (cs_ret (see (ce_ix (hu1 hr) (see (ce_var 1)) (see (ce_call F_law_pull T.m_law_pull T.k_law_pull b_law_pull hg0 (hr.mono (by decide)) hx0 (ca_cons (ce_var 0) (ca_cons (ce_callB cal_len T.z_len (cab_cons (see (ce_var 1)) cab_nil)) ca_nil))))))))
theorem sc_law_mixed : FnScope N_law_mixed ["urn", "things"] (defScope s_law_mixed) := ⟨rfl, rfl, rfl, by decide +kernel, rfl, by decide +kernel, by decide +kernel⟩
theorem ok_law_mixed (T : Txt K w mg ad) : DefU P w (gm K w ad) mg base 2 ad.f_law_mixed ["urn", "things"] (fun fd => Fun K "_law_mixed" "_law_mixed" s_law_mixed ad.f_law_mixed fd) (lift (gm K w ad) sp_law_mixed) := by
  obtain ⟨fd_law_pull, F_law_pull, U_law_pull⟩ := ok_law_pull (P := P) (base := base) T
  have b_law_pull : Binds K fd_law_pull ["urn", "size"] [] := U_law_pull.binds (ps := ["urn", "size"]) fun _ _ _ _ _ _ us hl => match us, hl with | [_, _], _ => rfl
  obtain ⟨fd, F⟩ := T.F_law_mixed
  refine ⟨fd, okD (B := R_law_mixed) F sc_law_mixed len_law_mixed (fun cdv A outer s H E hg hr => ?_) pure_law_mixed, F⟩
  have hg0 : (A.deeper (envOfC "_law_mixed" (defScope s_law_mixed) s.heap.objs.size ad.f_law_mixed cdv)).guards = some [] := hg
  have hx0 : PassX (cxOf (L2.CX P w) P w K mg base N_law_mixed "_law_mixed" (defScope s_law_mixed) ad.f_law_mixed cdv A outer s H E) E := L2.passes_call (L2.takes_of rfl rfl rfl rfl) fun _ _ _ _ h => h
  exact (css_cons (cs_setOwn (i := 2) (cf_lst ca_nil) sc_law_mixed.nd)
    (css_cons (cs_for (vs := [3]) (L2.passes_of rfl) (cis_any (ce_var 1)) (pg_name (i := 3) sc_law_mixed.nd rfl (by first | exact Or.inl rfl | exact Or.inr rfl)) (tg_var (i := 3))
      (css_one (cs_ins (i := 2) (ce_call F_law_pull T.m_law_pull T.k_law_pull b_law_pull hg0 (hr.mono (by decide)) hx0 (ca_cons (ce_var 0) (ca_cons (ce_bin opl_add (see (ce_callB cal_len T.z_len (cab_cons (cb_var 2) cab_nil))) (see ce_int)) ca_nil))) (ce_var 3))))
    (css_one (cs_ret (cb_var 2)))))
theorem sc_law_spots : FnScope N_law_spots ["sizes"] (defScope s_law_spots) := ⟨rfl, rfl, rfl, by decide +kernel, rfl, by decide +kernel, by decide +kernel⟩
theorem ok_law_spots (T : Txt K w mg ad) : DefU P w (gm K w ad) mg base 1 ad.f_law_spots ["sizes"] (fun fd => Fun K "_law_spots" "_law_spots" s_law_spots ad.f_law_spots fd) (liftN (gm K w ad) sp_law_spots) := by
  obtain ⟨fd, F⟩ := T.F_law_spots
  refine ⟨fd, okN (B := R_law_spots) F sc_law_spots (fun ds Q EX σ h => spN_len h) (fun cdv A outer s H E hg hr => ?_) (fun ds Q EX σ h => spN_pure l_law_spots h), F⟩
  have hg0 : (A.deeper (envOfC "_law_spots" (defScope s_law_spots) s.heap.objs.size ad.f_law_spots cdv)).guards = some [] := hg
  have hx0 : PassX (cxOf (L2.CX P w) P w K mg base N_law_spots "_law_spots" (defScope s_law_spots) ad.f_law_spots cdv A outer s H E) E := L2.passes_call (L2.takes_of rfl rfl rfl rfl) fun _ _ _ _ h => h
  exact (css_cons (cs_setOwn (i := 1) (cf_lst (ca_cons ce_str ca_nil)) sc_law_spots.nd)
    (css_cons (cs_for (vs := [2]) (L2.passes_of rfl) (cis_any (ce_var 0)) (pg_name (i := 2) sc_law_spots.nd rfl (by first | exact Or.inl rfl | exact Or.inr rfl)) (tg_var (i := 2))
      (css_cons (cs_setOwn (i := 3) (cf_lst ca_nil) sc_law_spots.nd)
    (css_cons (cs_off [1] (cs_for (vs := [4]) (L2.passes_of rfl) (cis_any (ce_var 1)) (pg_name (i := 4) sc_law_spots.nd rfl (by first | exact Or.inl rfl | exact Or.inr rfl)) (tg_var (i := 4))
      (css_one (cs_setOwn (i := 3) (cf_add (cb_var 3) (see (val (cf_lc (own := [("stand", 5)]) sc_law_spots.nd (cie_any (see (ce_slice (see ce_str) co_none (co_some (ce_var 2))))) (blk_mk (by rfl)) (fun _ _ _ _ _ => (pg_name (i := 5) sc_law_spots.nd rfl (by first | exact Or.inl rfl | exact Or.inr rfl))) (tg_var (i := 5)) (fun _ _ _ _ _ => cts_nil) (fun _ _ _ _ _ => (ce_bin opl_add (see (ce_var 4)) (see (ce_var 5)))))))) sc_law_spots.nd))))
    (css_one (cs_move 1 3 sc_law_spots.nd)))))
    (css_one (cs_retNew 1))))
theorem sc_law_near : FnScope N_law_near ["sizes", "one"] (defScope s_law_near) := ⟨rfl, rfl, rfl, by decide +kernel, rfl, by decide +kernel, by decide +kernel⟩
theorem ok_law_near (T : Txt K w mg ad) : DefU P w (gm K w ad) mg base 1 ad.f_law_near ["sizes", "one"] (fun fd => Fun K "_law_near" "_law_near" s_law_near ad.f_law_near fd) (lift (gm K w ad) sp_law_near) := by
  obtain ⟨fd, F⟩ := T.F_law_near
  refine ⟨fd, okD (B := R_law_near) F sc_law_near (fun ds Q EX σ h => spOf_len h) (fun cdv A outer s H E hg hr => ?_) (fun ds Q EX σ h => spOf_pure l_law_near h), F⟩
  have hg0 : (A.deeper (envOfC "_law_near" (defScope s_law_near) s.heap.objs.size ad.f_law_near cdv)).guards = some [] := hg
  have hx0 : PassX (cxOf (L2.CX P w) P w K mg base N_law_near "_law_near" (defScope s_law_near) ad.f_law_near cdv A outer s H E) E := L2.passes_call (L2.takes_of rfl rfl rfl rfl) fun _ _ _ _ h => h
  exact (css_cons (cs_set (i := 2) (val (cf_lst ca_nil)) sc_law_near.nd)
    (css_cons (cs_for (vs := [3]) (L2.passes_of rfl) (cis_rng1 T.z_range (ca_cons (ce_callB cal_len T.z_len (cab_cons (see (ce_var 0)) cab_nil)) ca_nil)) (pg_name (i := 3) sc_law_near.nd rfl (by first | exact Or.inl rfl | exact Or.inr rfl)) (tg_var (i := 3))
      (css_one (cs_set (i := 2) (val (cf_add (see (ce_var 2)) (see (val (cf_lc (own := [("stand", 4)]) sc_law_near.nd (cie_any (see (ce_slice (see ce_str) co_none (co_some (ce_ix (hu1 hr) (see (ce_var 0)) (see (ce_var 3))))))) (blk_mk (by rfl)) (fun _ _ _ _ _ => (pg_name (i := 4) sc_law_near.nd rfl (by first | exact Or.inl rfl | exact Or.inr rfl))) (tg_var (i := 4)) (fun _ _ _ _ _ => (cts_one (ct_cmp (opl_ne (hu64 hr)) (see (ce_var 4)) (see (ce_ix (hu1 hr) (see (ce_var 1)) (see (ce_var 3))))))) (fun _ _ _ _ _ => (ce_bin opl_add (see (ce_bin opl_add (see (ce_slice (see (ce_var 1)) co_none (co_some (ce_var 3)))) (see (ce_var 4)))) (see (ce_slice (see (ce_var 1)) (co_some (ce_bin opl_add (see (ce_var 3)) (see ce_int))) co_none))))))))) sc_law_near.nd)))
    (css_one (cs_ret (see (val (cf_callB caf_sorted T.z_sorted (cab_cons (see (ce_var 2)) cab_nil))))))))
theorem sc_law_sides : FnScope N_law_sides ["sizes"] (defScope s_law_sides) := ⟨rfl, rfl, rfl, by decide +kernel, rfl, by decide +kernel, by decide +kernel⟩
theorem ok_law_sides (T : Txt K w mg ad) : DefU P w (gm K w ad) mg base 2 ad.f_law_sides ["sizes"] (fun fd => Fun K "_law_sides" "_law_sides" s_law_sides ad.f_law_sides fd) (lift (gm K w ad) sp_law_sides) := by
  obtain ⟨fd_law_spots, F_law_spots, U_law_spots⟩ := ok_law_spots (P := P) (base := base) T
  have b_law_spots : Binds K fd_law_spots ["sizes"] [] := U_law_spots.binds (ps := ["sizes"]) fun _ _ _ _ _ _ us hl => match us, hl with | [_], _ => rfl
  obtain ⟨fd_law_near, F_law_near, U_law_near⟩ := ok_law_near (P := P) (base := base) T
  have b_law_near : Binds K fd_law_near ["sizes", "one"] [] := U_law_near.binds (ps := ["sizes", "one"]) fun _ _ _ _ _ _ us hl => match us, hl with | [_, _], _ => rfl
  obtain ⟨fd, F⟩ := T.F_law_sides
  refine ⟨fd, okD (B := R_law_sides) F sc_law_sides (fun ds Q EX σ h => spOf_len h) (fun cdv A outer s H E hg hr => ?_) (fun ds Q EX σ h => spOf_pure l_law_sides h), F⟩
  have hg0 : (A.deeper (envOfC "_law_sides" (defScope s_law_sides) s.heap.objs.size ad.f_law_sides cdv)).guards = some [] := hg
  have hx0 : PassX (cxOf (L2.CX P w) P w K mg base N_law_sides "_law_sides" (defScope s_law_sides) ad.f_law_sides cdv A outer s H E) E := L2.passes_call (L2.takes_of rfl rfl rfl rfl) fun _ _ _ _ h => h
  exact (css_cons (cs_set (i := 1) (val (cf_lst ca_nil)) sc_law_sides.nd)
    (css_cons (cs_for (vs := [2]) (L2.passes_of rfl) (cis_any (val (cf_call F_law_spots T.m_law_spots T.k_law_spots b_law_spots hg0 (hr.mono (by decide)) hx0 (ca_cons (ce_var 0) ca_nil)))) (pg_name (i := 2) sc_law_sides.nd rfl (by first | exact Or.inl rfl | exact Or.inr rfl)) (tg_var (i := 2))
      (css_one (cs_set (i := 1) (val (cf_add (see (ce_var 1)) (see (val (cf_lc (own := [("two", 3)]) sc_law_sides.nd (cie_any (see (ce_call F_law_near T.m_law_near T.k_law_near b_law_near hg0 (hr.mono (by decide)) hx0 (ca_cons (ce_var 0) (ca_cons (ce_var 2) ca_nil))))) (blk_mk (by rfl)) (fun _ _ _ _ _ => (pg_name (i := 3) sc_law_sides.nd rfl (by first | exact Or.inl rfl | exact Or.inr rfl))) (tg_var (i := 3)) (fun _ _ _ _ _ => (cts_one (ct_cmp opl_lt (see (ce_var 2)) (see (ce_var 3))))) (fun _ _ _ _ _ => (ce_tup (ca_cons (ce_var 2) (ca_cons (ce_var 3) ca_nil))))))))) sc_law_sides.nd)))
    (css_one (cs_ret (see (ce_var 1))))))
theorem sc_law_seen : FnScope N_law_seen ["urn", "sizes", "share"] (defScope s_law_seen) := ⟨rfl, rfl, rfl, by decide +kernel, rfl, by decide +kernel, by decide +kernel⟩
theorem ok_law_seen (T : Txt K w mg ad) : DefU P w (gm K w ad) mg base 3 ad.f_law_seen ["urn", "sizes", "share"] (fun fd => Fun K "_law_seen" "_law_seen" s_law_seen ad.f_law_seen fd) (lift (gm K w ad) sp_law_seen) := by
  obtain ⟨fd_law_mixed, F_law_mixed, U_law_mixed⟩ := ok_law_mixed (P := P) (base := base) T
  have b_law_mixed : Binds K fd_law_mixed ["urn", "things"] [] := U_law_mixed.binds (ps := ["urn", "things"]) fun _ _ _ _ _ _ us hl => match us, hl with | [_, _], _ => rfl
  obtain ⟨fd_law_spots, F_law_spots, U_law_spots⟩ := ok_law_spots (P := P) (base := base) T
  have b_law_spots : Binds K fd_law_spots ["sizes"] [] := U_law_spots.binds (ps := ["sizes"]) fun _ _ _ _ _ _ us hl => match us, hl with | [_], _ => rfl
  obtain ⟨fd_law_sides, F_law_sides, U_law_sides⟩ := ok_law_sides (P := P) (base := base) T
  have b_law_sides : Binds K fd_law_sides ["sizes"] [] := U_law_sides.binds (ps := ["sizes"]) fun _ _ _ _ _ _ us hl => match us, hl with | [_], _ => rfl
  obtain ⟨fd_law_pull, F_law_pull, U_law_pull⟩ := ok_law_pull (P := P) (base := base) T
  have b_law_pull : Binds K fd_law_pull ["urn", "size"] [] := U_law_pull.binds (ps := ["urn", "size"]) fun _ _ _ _ _ _ us hl => match us, hl with | [_, _], _ => rfl
  obtain ⟨fd, F⟩ := T.F_law_seen
  refine ⟨fd, okD (B := R_law_seen) F sc_law_seen len_law_seen (fun cdv A outer s H E hg hr => ?_) pure_law_seen, F⟩
  have hg0 : (A.deeper (envOfC "_law_seen" (defScope s_law_seen) s.heap.objs.size ad.f_law_seen cdv)).guards = some [] := hg
  have hx0 : PassX (cxOf (L2.CX P w) P w K mg base N_law_seen "_law_seen" (defScope s_law_seen) ad.f_law_seen cdv A outer s H E) E := L2.passes_call (L2.takes_of rfl rfl rfl rfl) fun _ _ _ _ h => h
  exact (css_cons (cs_parO (i := 3) (j := 4) (ce_call F_law_mixed T.m_law_mixed T.k_law_mixed b_law_mixed hg0 (hr.mono (by decide)) hx0 (ca_cons (ce_var 0) (ca_cons (val (cf_call F_law_spots T.m_law_spots T.k_law_spots b_law_spots hg0 (hr.mono (by decide)) hx0 (ca_cons (ce_var 1) ca_nil))) ca_nil))) (cf_lst ca_nil) sc_law_seen.nd)
    (css_cons (cs_for (vs := [5, 6]) (L2.passes_of rfl) (cis_any (ce_call F_law_mixed T.m_law_mixed T.k_law_mixed b_law_mixed hg0 (hr.mono (by decide)) hx0 (ca_cons (ce_var 0) (ca_cons (ce_call F_law_sides T.m_law_sides T.k_law_sides b_law_sides hg0 (hr.mono (by decide)) hx0 (ca_cons (ce_var 1) ca_nil)) ca_nil)))) (pg_tup (n := 2) rfl (pgs_cons (pg_name (i := 5) sc_law_seen.nd rfl (by first | exact Or.inl rfl | exact Or.inr rfl)) (pgs_cons (pg_name (i := 6) sc_law_seen.nd rfl (by first | exact Or.inl rfl | exact Or.inr rfl)) pgs_nil))) (tg_tup (tgs_cons (tg_var (i := 5)) (tgs_cons (tg_var (i := 6)) tgs_nil)))
      (css_one (cs_if (ct_cmp opl_lt (see (ce_call F_law_pull T.m_law_pull T.k_law_pull b_law_pull hg0 (hr.mono (by decide)) hx0 (ca_cons (ce_var 0) (ca_cons ce_int ca_nil)))) (see (ce_var 2))) (css_one (cs_app (i := 4) (ce_if (ct_cmp opl_lt (see (ce_ixL (see (ce_var 3)) (ce_var 5))) (see (ce_ixL (see (ce_var 3)) (ce_var 6)))) (ce_tup (ca_cons (ce_var 5) (ca_cons (ce_var 6) ca_nil))) (ce_tup (ca_cons (ce_var 6) (ca_cons (ce_var 5) ca_nil)))))) css_nil)))
    (css_one (cs_ret (see (ce_callTy cal_tuple T.z_tuple (cab_cons (cb_var 4) cab_nil)))))))
theorem sc_check_board : FnScope N_check_board ["value"] (defScope s_check_board) := ⟨rfl, rfl, rfl, by decide +kernel, rfl, by decide +kernel, by decide +kernel⟩
theorem ok_check_board (T : Txt K w mg ad) : DefU P w (gm K w ad) mg base 1 ad.f_check_board ["value"] (fun fd => Fun K "check_board" "check_board" s_check_board ad.f_check_board fd) (lift (gm K w ad) sp_check_board) := by
  obtain ⟨fd, F⟩ := T.F_check_board
  refine ⟨fd, okD (B := R_check_board) F sc_check_board (fun ds Q EX σ h => spOf_len h) (fun cdv A outer s H E hg hr => ?_) (fun ds Q EX σ h => spOf_pure l_check_board h), F⟩
  have hg0 : (A.deeper (envOfC "check_board" (defScope s_check_board) s.heap.objs.size ad.f_check_board cdv)).guards = some [] := hg
  have hx0 : PassX (cxOf (L2.CX P w) P w K mg base N_check_board "check_board" (defScope s_check_board) ad.f_check_board cdv A outer s H E) E := L2.passes_call (L2.takes_of rfl rfl rfl rfl) fun _ _ _ _ h => h
  exact (css_one (cs_if (ct_not (ct_val (ce_isi (see (ce_var 0)) (by exact pe_glob (v := .ref ad.C_Board) (by rfl) T.g_Board (by rfl)) T.z_isinstance (.own _) T.isi_Board_c T.isi_Board_t))) (css_one cs_never) css_nil))
theorem sc_Board_contains : FnScope N_Board_contains ["self", "value"] (defScope s_Board_contains) := ⟨rfl, rfl, rfl, by decide +kernel, rfl, by decide +kernel, by decide +kernel⟩
theorem ok_Board_contains (T : Txt K w mg ad) : DefU P w (gm K w ad) mg base 1 ad.f_Board_contains ["self", "value"] (fun fd => Fun K "__contains__" "Board.__contains__" s_Board_contains ad.f_Board_contains fd) (lift (gm K w ad) sp_Board_contains) := by
  obtain ⟨fd, F⟩ := T.F_Board_contains
  refine ⟨fd, okD (B := R_Board_contains) F sc_Board_contains (fun ds Q EX σ h => spOf_len h) (fun cdv A outer s H E hg hr => ?_) (fun ds Q EX σ h => spOf_pure l_Board_contains h), F⟩
  have hg0 : (A.deeper (envOfC "Board.__contains__" (defScope s_Board_contains) s.heap.objs.size ad.f_Board_contains cdv)).guards = some [] := hg
  have hx0 : PassX (cxOf (L2.CX P w) P w K mg base N_Board_contains "Board.__contains__" (defScope s_Board_contains) ad.f_Board_contains cdv A outer s H E) E := L2.passes_call (L2.takes_of rfl rfl rfl rfl) fun _ _ _ _ h => h
  exact (css_one (cs_ret (see (ce_and (ce_isi (see (ce_var 1)) (by exact pe_bltn (v := .ty "str") (u := .type "str") (by rfl) T.z_str (by decide +kernel) (by rfl)) T.z_isinstance (.ty _) isi_str_c isi_str_t) (ce_one (ce_cmp (opl_in (hu65 hr)) (see (ce_var 1)) (see (ce_ix (hu1 hr) (see (ce_fld (c := 1) (i := 0) (ce_var 0) T.c_Board.cl T.n_Board_both (by rfl))) (see ce_int)))))))))
theorem sc_are_neighbours : FnScope N_are_neighbours ["one", "other"] (defScope s_are_neighbours) := ⟨rfl, rfl, rfl, by decide +kernel, rfl, by decide +kernel, by decide +kernel⟩
theorem ok_are_neighbours (T : Txt K w mg ad) : DefU P w (gm K w ad) mg base 1 ad.f_are_neighbours ["one", "other"] (fun fd => Fun K "are_neighbours" "are_neighbours" s_are_neighbours ad.f_are_neighbours fd) (lift (gm K w ad) sp_are_neighbours) := by
  obtain ⟨fd, F⟩ := T.F_are_neighbours
  refine ⟨fd, okD (B := R_are_neighbours) F sc_are_neighbours (fun ds Q EX σ h => spOf_len h) (fun cdv A outer s H E hg hr => ?_) (fun ds Q EX σ h => spOf_pure l_are_neighbours h), F⟩
  have hg0 : (A.deeper (envOfC "are_neighbours" (defScope s_are_neighbours) s.heap.objs.size ad.f_are_neighbours cdv)).guards = some [] := hg
  have hx0 : PassX (cxOf (L2.CX P w) P w K mg base N_are_neighbours "are_neighbours" (defScope s_are_neighbours) ad.f_are_neighbours cdv A outer s H E) E := L2.passes_call (L2.takes_of rfl rfl rfl rfl) fun _ _ _ _ h => h
  exact (css_one (cs_ret (see (ce_cmp (opl_eq (hu64 hr)) (see (ce_callB cal_len T.z_len (cab_cons (see (val (cf_lc (own := [("k", 2)]) sc_are_neighbours.nd (iE_of (cis_rng1 T.z_range (ca_cons (ce_callB cal_len T.z_len (cab_cons (see (ce_var 0)) cab_nil)) ca_nil))) (blk_mk (by rfl)) (fun _ _ _ _ _ => (pg_name (i := 2) sc_are_neighbours.nd rfl (by first | exact Or.inl rfl | exact Or.inr rfl))) (tg_var (i := 2)) (fun _ _ _ _ _ => (cts_one (ct_cmp (opl_ne (hu64 hr)) (see (ce_ix (hu1 hr) (see (ce_var 0)) (see (ce_var 2)))) (see (ce_ix (hu1 hr) (see (ce_var 1)) (see (ce_var 2))))))) (fun _ _ _ _ _ => (ce_var 2))))) cab_nil))) (see ce_int)))))
theorem sc_is_fact : FnScope N_is_fact ["board", "value"] (defScope s_is_fact) := ⟨rfl, rfl, rfl, by decide +kernel, rfl, by decide +kernel, by decide +kernel⟩
theorem ok_is_fact (T : Txt K w mg ad) : DefU P w (gm K w ad) mg base 2 ad.f_is_fact ["board", "value"] (fun fd => Fun K "is_fact" "is_fact" s_is_fact ad.f_is_fact fd) (lift (gm K w ad) sp_is_fact) := by
  obtain ⟨fd_Board_contains, F_Board_contains, U_Board_contains⟩ := ok_Board_contains (P := P) (base := base) T
  have b_Board_contains : Binds K fd_Board_contains ["self", "value"] [] := U_Board_contains.binds (ps := ["self", "value"]) fun _ _ _ _ _ _ us hl => match us, hl with | [_, _], _ => rfl
  obtain ⟨fd_are_neighbours, F_are_neighbours, U_are_neighbours⟩ := ok_are_neighbours (P := P) (base := base) T
  have b_are_neighbours : Binds K fd_are_neighbours ["one", "other"] [] := U_are_neighbours.binds (ps := ["one", "other"]) fun _ _ _ _ _ _ us hl => match us, hl with | [_, _], _ => rfl
  obtain ⟨fd, F⟩ := T.F_is_fact
  refine ⟨fd, okD (B := R_is_fact) F sc_is_fact (fun ds Q EX σ h => spOf_len h) (fun cdv A outer s H E hg hr => ?_) (fun ds Q EX σ h => spOf_pure l_is_fact h), F⟩
  have hg0 : (A.deeper (envOfC "is_fact" (defScope s_is_fact) s.heap.objs.size ad.f_is_fact cdv)).guards = some [] := hg
  have hx0 : PassX (cxOf (L2.CX P w) P w K mg base N_is_fact "is_fact" (defScope s_is_fact) ad.f_is_fact cdv A outer s H E) E := L2.passes_call (L2.takes_of rfl rfl rfl rfl) fun _ _ _ _ h => h
  exact (css_cons (cs_if (PW.pt (cw_or (ct_not (ct_val (ce_isi (see (ce_var 1)) (by exact pe_bltn (v := .ty "tuple") (u := .type "tuple") (by rfl) T.z_tuple (by decide +kernel) (by rfl)) T.z_isinstance (.ty _) isi_tuple_c isi_tuple_t))) (cw_or1 (ct_cmp (opl_ne (hu64 hr)) (see (ce_callB cal_len T.z_len (cab_cons (see (ce_var 1)) cab_nil))) (see ce_int))))) (css_one (cs_ret (see ce_bl))) css_nil)
    (css_one (cs_ret (see (ce_and (ce_cmp (opl_inO (c := 1) (neg := false) rfl F_Board_contains b_Board_contains hg0 (hr.mono (by decide)) T.h_Board_contains.at_ T.h_Board_contains.fn) (see (ce_ix (hu1 hr) (see (ce_var 1)) (see ce_int))) (see (ce_var 0))) (ce_and (ce_cmp (opl_inO (c := 1) (neg := false) rfl F_Board_contains b_Board_contains hg0 (hr.mono (by decide)) T.h_Board_contains.at_ T.h_Board_contains.fn) (see (ce_ix (hu1 hr) (see (ce_var 1)) (see ce_int))) (see (ce_var 0))) (ce_one (ce_call F_are_neighbours T.m_are_neighbours T.k_are_neighbours b_are_neighbours hg0 (hr.mono (by decide)) hx0 (ca_cons (ce_ix (hu1 hr) (see (ce_var 1)) (see ce_int)) (ca_cons (ce_ix (hu1 hr) (see (ce_var 1)) (see ce_int)) ca_nil))))))))))
theorem sc_leads : FnScope N_leads ["facts", "start", "goal"] (defScope s_leads) := ⟨rfl, rfl, rfl, by decide +kernel, rfl, by decide +kernel, by decide +kernel⟩
theorem ok_leads (T : Txt K w mg ad) : DefU P w (gm K w ad) mg base 1 ad.f_leads ["facts", "start", "goal"] (fun fd => Fun K "leads" "leads" s_leads ad.f_leads fd) (lift (gm K w ad) sp_leads) := by
  obtain ⟨fd, F⟩ := T.F_leads
  refine ⟨fd, okD (B := R_leads) F sc_leads (fun ds Q EX σ h => spOf_len h) (fun cdv A outer s H E hg hr => ?_) (fun ds Q EX σ h => spOf_pure l_leads h), F⟩
  have hg0 : (A.deeper (envOfC "leads" (defScope s_leads) s.heap.objs.size ad.f_leads cdv)).guards = some [] := hg
  have hx0 : PassX (cxOf (L2.CX P w) P w K mg base N_leads "leads" (defScope s_leads) ad.f_leads cdv A outer s H E) E := L2.passes_call (L2.takes_of rfl rfl rfl rfl) fun _ _ _ _ h => h
  exact (css_cons (cs_parOO (i := 3) (j := 4) (cf_lst (ca_cons (ce_var 1) ca_nil)) (cf_lst (ca_cons (ce_var 1) ca_nil)) sc_leads.nd)
    (css_cons (cs_while (L2.passes_of rfl) (ct_cmp (opl_ne (hu64 hr)) (cb_var 4) (see (val (cf_lst ca_nil)))) (css_cons (cs_popV (i := 5) (j := 4) sc_leads.nd)
    (css_one (cs_for (vs := [6, 7]) (L2.passes_of rfl) (cis_any (ce_var 0)) (pg_tup (n := 2) rfl (pgs_cons (pg_name (i := 6) sc_leads.nd rfl (by first | exact Or.inl rfl | exact Or.inr rfl)) (pgs_cons (pg_name (i := 7) sc_leads.nd rfl (by first | exact Or.inl rfl | exact Or.inr rfl)) pgs_nil))) (tg_tup (tgs_cons (tg_var (i := 6)) (tgs_cons (tg_var (i := 7)) tgs_nil)))
      (css_one (cs_if (PW.pt (cw_and (ct_cmp (opl_eq (hu64 hr)) (see (ce_var 6)) (see (ce_var 5))) (cw_and1 (ct_cmp (opl_notin (hu65 hr)) (see (ce_var 7)) (cb_var 3))))) (css_cons (cs_app (i := 3) (ce_var 7))
    (css_one (cs_app (i := 4) (ce_var 7)))) css_nil))))))
    (css_one (cs_ret (see (ce_cmp (opl_in (hu65 hr)) (see (ce_var 2)) (cb_var 3)))))))
theorem sc_is_let : FnScope N_is_let ["facts", "fact"] (defScope s_is_let) := ⟨rfl, rfl, rfl, by decide +kernel, rfl, by decide +kernel, by decide +kernel⟩
theorem ok_is_let (T : Txt K w mg ad) : DefU P w (gm K w ad) mg base 2 ad.f_is_let ["facts", "fact"] (fun fd => Fun K "is_let" "is_let" s_is_let ad.f_is_let fd) (lift (gm K w ad) sp_is_let) := by
  obtain ⟨fd_leads, F_leads, U_leads⟩ := ok_leads (P := P) (base := base) T
  have b_leads : Binds K fd_leads ["facts", "start", "goal"] [] := U_leads.binds (ps := ["facts", "start", "goal"]) fun _ _ _ _ _ _ us hl => match us, hl with | [_, _, _], _ => rfl
  obtain ⟨fd, F⟩ := T.F_is_let
  refine ⟨fd, okD (B := R_is_let) F sc_is_let (fun ds Q EX σ h => spOf_len h) (fun cdv A outer s H E hg hr => ?_) (fun ds Q EX σ h => spOf_pure l_is_let h), F⟩
  have hg0 : (A.deeper (envOfC "is_let" (defScope s_is_let) s.heap.objs.size ad.f_is_let cdv)).guards = some [] := hg
  have hx0 : PassX (cxOf (L2.CX P w) P w K mg base N_is_let "is_let" (defScope s_is_let) ad.f_is_let cdv A outer s H E) E := L2.passes_call (L2.takes_of rfl rfl rfl rfl) fun _ _ _ _ h => h
  exact (css_one (cs_ret (see (ce_and (ce_cmp (opl_notinT (hu65 hr)) (see (ce_var 1)) (see (ce_var 0))) (ce_one (ce_not (ce_call F_leads T.m_leads T.k_leads b_leads hg0 (hr.mono (by decide)) hx0 (ca_cons (ce_var 0) (ca_cons (ce_ix (hu1 hr) (see (ce_var 1)) (see ce_int)) (ca_cons (ce_ix (hu1 hr) (see (ce_var 1)) (see ce_int)) ca_nil))))))))))
theorem sc_check_facts : FnScope N_check_facts ["board", "facts"] (defScope s_check_facts) := ⟨rfl, rfl, rfl, by decide +kernel, rfl, by decide +kernel, by decide +kernel⟩
theorem ok_check_facts (T : Txt K w mg ad) : DefU P w (gm K w ad) mg base 3 ad.f_check_facts ["board", "facts"] (fun fd => Fun K "check_facts" "check_facts" s_check_facts ad.f_check_facts fd) (lift (gm K w ad) sp_check_facts) := by
  obtain ⟨fd_is_fact, F_is_fact, U_is_fact⟩ := ok_is_fact (P := P) (base := base) T
  have b_is_fact : Binds K fd_is_fact ["board", "value"] [] := U_is_fact.binds (ps := ["board", "value"]) fun _ _ _ _ _ _ us hl => match us, hl with | [_, _], _ => rfl
  obtain ⟨fd_is_let, F_is_let, U_is_let⟩ := ok_is_let (P := P) (base := base) T
  have b_is_let : Binds K fd_is_let ["facts", "fact"] [] := U_is_let.binds (ps := ["facts", "fact"]) fun _ _ _ _ _ _ us hl => match us, hl with | [_, _], _ => rfl
  obtain ⟨fd, F⟩ := T.F_check_facts
  refine ⟨fd, okD (B := R_check_facts) F sc_check_facts (fun ds Q EX σ h => spOf_len h) (fun cdv A outer s H E hg hr => ?_) (fun ds Q EX σ h => spOf_pure l_check_facts h), F⟩
  have hg0 : (A.deeper (envOfC "check_facts" (defScope s_check_facts) s.heap.objs.size ad.f_check_facts cdv)).guards = some [] := hg
  have hx0 : PassX (cxOf (L2.CX P w) P w K mg base N_check_facts "check_facts" (defScope s_check_facts) ad.f_check_facts cdv A outer s H E) E := L2.passes_call (L2.takes_of rfl rfl rfl rfl) fun _ _ _ _ h => h
  exact (css_cons (cs_if (ct_not (ct_val (ce_isi (see (ce_var 1)) (by exact pe_bltn (v := .ty "tuple") (u := .type "tuple") (by rfl) T.z_tuple (by decide +kernel) (by rfl)) T.z_isinstance (.ty _) isi_tuple_c isi_tuple_t))) (css_one cs_never) css_nil)
    (css_one (cs_for (vs := [2]) (L2.passes_of rfl) (cis_rng1 T.z_range (ca_cons (ce_callB cal_len T.z_len (cab_cons (see (ce_var 1)) cab_nil)) ca_nil)) (pg_name (i := 2) sc_check_facts.nd rfl (by first | exact Or.inl rfl | exact Or.inr rfl)) (tg_var (i := 2))
      (css_one (cs_if (PW.pt (cw_or (ct_not (ct_val (ce_call F_is_fact T.m_is_fact T.k_is_fact b_is_fact hg0 (hr.mono (by decide)) hx0 (ca_cons (ce_var 0) (ca_cons (ce_ix (hu1 hr) (see (ce_var 1)) (see (ce_var 2))) ca_nil))))) (cw_or1 (ct_not (ct_val (ce_call F_is_let T.m_is_let T.k_is_let b_is_let hg0 (hr.mono (by decide)) hx0 (ca_cons (ce_slice (see (ce_var 1)) co_none (co_some (ce_var 2))) (ca_cons (ce_ix (hu1 hr) (see (ce_var 1)) (see (ce_var 2))) ca_nil)))))))) (css_one cs_never) css_nil)))))
theorem sc_Notes_init : FnScope N_Notes_init ["self", "board", "facts"] (defScope s_Notes_init) := ⟨rfl, rfl, rfl, by decide +kernel, rfl, by decide +kernel, by decide +kernel⟩
theorem ok_Notes_init (T : Txt K w mg ad) : DefU P w (gm K w ad) mg base 4 ad.f_Notes_init ["self", "board", "facts"] (fun fd => FunF K "__init__" "Notes.__init__" s_Notes_init [.ref ad.E_Notes_init_0] ad.f_Notes_init fd) (liftI (gm K w ad) 3 (spIn cf_Notes_init)) := by
  obtain ⟨fd_check_board, F_check_board, U_check_board⟩ := ok_check_board (P := P) (base := base) T
  have b_check_board : Binds K fd_check_board ["value"] [] := U_check_board.binds (ps := ["value"]) fun _ _ _ _ _ _ us hl => match us, hl with | [_], _ => rfl
  obtain ⟨fd_check_facts, F_check_facts, U_check_facts⟩ := ok_check_facts (P := P) (base := base) T
  have b_check_facts : Binds K fd_check_facts ["board", "facts"] [] := U_check_facts.binds (ps := ["board", "facts"]) fun _ _ _ _ _ _ us hl => match us, hl with | [_, _], _ => rfl
  obtain ⟨fd, F⟩ := T.F_Notes_init
  refine ⟨fd, okID (B := R_Notes_init) (sp := spOf cf_Notes_init) (c := 3) F sc_Notes_init (fun ds Q EX σ h => by rw [spI_len h]; rfl) (fun cdv A outer s H E hg hr => ?_) (fun ds Q EX x σ h => spI_pure l_Notes_init rfl h), F⟩
  have hg0 : (A.deeper (envOfC "Notes.__init__" (defScope s_Notes_init) s.heap.objs.size ad.f_Notes_init cdv)).guards = some [] := hg
  have hx0 : PassX (cxOf (L2.CX P w) P w K mg base N_Notes_init "Notes.__init__" (defScope s_Notes_init) ad.f_Notes_init cdv A outer s H E) E := L2.passes_call (L2.takes_of rfl rfl rfl rfl) fun _ _ _ _ h => h
  exact (css_cons (cs_expr (ce_call F_check_board T.m_check_board T.k_check_board b_check_board hg0 (hr.mono (by decide)) hx0 (ca_cons (ce_var 1) ca_nil)))
    (css_cons (cs_expr (ce_call F_check_facts T.m_check_facts T.k_check_facts b_check_facts hg0 (hr.mono (by decide)) hx0 (ca_cons (ce_var 1) (ca_cons (ce_var 2) ca_nil))))
    (css_one (cs_fldI (i := 0) (c := 3) (ce_tup (ca_cons (ce_var 1) (ca_cons (ce_var 2) ca_nil))) T.c_Notes.cl T.n_Notes_both rfl (by decide +kernel)))))
theorem sc_is_within : FnScope N_is_within ["value", "least", "most"] (defScope s_is_within) := ⟨rfl, rfl, rfl, by decide +kernel, rfl, by decide +kernel, by decide +kernel⟩
theorem ok_is_within (T : Txt K w mg ad) : DefU P w (gm K w ad) mg base 1 ad.f_is_within ["value", "least", "most"] (fun fd => Fun K "is_within" "is_within" s_is_within ad.f_is_within fd) (lift (gm K w ad) sp_is_within) := by
  obtain ⟨fd, F⟩ := T.F_is_within
  refine ⟨fd, okD (B := R_is_within) F sc_is_within (fun ds Q EX σ h => spOf_len h) (fun cdv A outer s H E hg hr => ?_) (fun ds Q EX σ h => spOf_pure l_is_within h), F⟩
  have hg0 : (A.deeper (envOfC "is_within" (defScope s_is_within) s.heap.objs.size ad.f_is_within cdv)).guards = some [] := hg
  have hx0 : PassX (cxOf (L2.CX P w) P w K mg base N_is_within "is_within" (defScope s_is_within) ad.f_is_within cdv A outer s H E) E := L2.passes_call (L2.takes_of rfl rfl rfl rfl) fun _ _ _ _ h => h
  exact (css_one (cs_ret (see (ce_and (ce_isi (see (ce_var 0)) (by exact pe_bltn (v := .ty "int") (u := .type "int") (by rfl) T.z_int (by decide +kernel) (by rfl)) T.z_isinstance (.ty _) isi_int_c isi_int_t) (ce_and (ce_not (ce_isi (see (ce_var 0)) (by exact pe_bltn (v := .ty "bool") (u := .type "bool") (by rfl) T.z_bool (by decide +kernel) (by rfl)) T.z_isinstance (.ty _) isi_bool_c isi_bool_t)) (ce_one (ce_chain opl_le opl_le (see (ce_var 1)) (see (ce_var 0)) (see (ce_var 2)))))))))
theorem sc_check_sizes : FnScope N_check_sizes ["sizes"] (defScope s_check_sizes) := ⟨rfl, rfl, rfl, by decide +kernel, rfl, by decide +kernel, by decide +kernel⟩
theorem ok_check_sizes (T : Txt K w mg ad) : DefU P w (gm K w ad) mg base 2 ad.f_check_sizes ["sizes"] (fun fd => Fun K "check_sizes" "check_sizes" s_check_sizes ad.f_check_sizes fd) (lift (gm K w ad) sp_check_sizes) := by
  obtain ⟨fd_is_within, F_is_within, U_is_within⟩ := ok_is_within (P := P) (base := base) T
  have b_is_within : Binds K fd_is_within ["value", "least", "most"] [] := U_is_within.binds (ps := ["value", "least", "most"]) fun _ _ _ _ _ _ us hl => match us, hl with | [_, _, _], _ => rfl
  obtain ⟨fd, F⟩ := T.F_check_sizes
  refine ⟨fd, okD (B := R_check_sizes) F sc_check_sizes (fun ds Q EX σ h => spOf_len h) (fun cdv A outer s H E hg hr => ?_) (fun ds Q EX σ h => spOf_pure l_check_sizes h), F⟩
  have hg0 : (A.deeper (envOfC "check_sizes" (defScope s_check_sizes) s.heap.objs.size ad.f_check_sizes cdv)).guards = some [] := hg
  have hx0 : PassX (cxOf (L2.CX P w) P w K mg base N_check_sizes "check_sizes" (defScope s_check_sizes) ad.f_check_sizes cdv A outer s H E) E := L2.passes_call (L2.takes_of rfl rfl rfl rfl) fun _ _ _ _ h => h
  exact (css_cons (cs_if (PW.pt (cw_or (ct_not (ct_val (ce_isi (see (ce_var 0)) (by exact pe_bltn (v := .ty "tuple") (u := .type "tuple") (by rfl) T.z_tuple (by decide +kernel) (by rfl)) T.z_isinstance (.ty _) isi_tuple_c isi_tuple_t))) (cw_or1 (ct_cmp (opl_eq (hu64 hr)) (see (ce_var 0)) (see (ce_tup ca_nil)))))) (css_one cs_never) css_nil)
    (css_cons (cs_set (i := 1) ce_int sc_check_sizes.nd)
    (css_one (cs_for (vs := [2]) (L2.passes_of rfl) (cis_rng1 T.z_range (ca_cons (ce_callB cal_len T.z_len (cab_cons (see (ce_var 0)) cab_nil)) ca_nil)) (pg_name (i := 2) sc_check_sizes.nd rfl (by first | exact Or.inl rfl | exact Or.inr rfl)) (tg_var (i := 2))
      (css_cons (cs_if (PW.pt (cw_or (ct_cmp (opl_eq (hu64 hr)) (see (ce_var 2)) (see (ce_gint T.g_MOST_SWITCHES.choose_spec.1 T.g_MOST_SWITCHES.choose_spec.2))) (cw_or (ct_not (ct_val (ce_call F_is_within T.m_is_within T.k_is_within b_is_within hg0 (hr.mono (by decide)) hx0 (ca_cons (ce_ix (hu1 hr) (see (ce_var 0)) (see (ce_var 2))) (ca_cons ce_int (ca_cons ce_int ca_nil)))))) (cw_or1 (ct_cmp opl_gt (see (ce_bin opl_mulA (see (ce_var 1)) (see (ce_ix (hu1 hr) (see (ce_var 0)) (see (ce_var 2)))))) (see (ce_gint T.g_MOST_SETTINGS.choose_spec.1 T.g_MOST_SETTINGS.choose_spec.2))))))) (css_one cs_never) css_nil)
    (css_one (cs_set (i := 1) (ce_bin opl_mulA (see (ce_var 1)) (see (ce_ix (hu1 hr) (see (ce_var 0)) (see (ce_var 2))))) sc_check_sizes.nd)))))))
theorem sc_settings_in : FnScope N_settings_in ["part"] (defScope s_settings_in) := ⟨rfl, rfl, rfl, by decide +kernel, rfl, by decide +kernel, by decide +kernel⟩
theorem ok_settings_in (T : Txt K w mg ad) : DefU P w (gm K w ad) mg base 1 ad.f_settings_in ["part"] (fun fd => Fun K "settings_in" "settings_in" s_settings_in ad.f_settings_in fd) (lift (gm K w ad) sp_settings_in) := by
  obtain ⟨fd, F⟩ := T.F_settings_in
  refine ⟨fd, okD (B := R_settings_in) F sc_settings_in (fun ds Q EX σ h => spOf_len h) (fun cdv A outer s H E hg hr => ?_) (fun ds Q EX σ h => spOf_pure l_settings_in h), F⟩
  have hg0 : (A.deeper (envOfC "settings_in" (defScope s_settings_in) s.heap.objs.size ad.f_settings_in cdv)).guards = some [] := hg
  have hx0 : PassX (cxOf (L2.CX P w) P w K mg base N_settings_in "settings_in" (defScope s_settings_in) ad.f_settings_in cdv A outer s H E) E := L2.passes_call (L2.takes_of rfl rfl rfl rfl) fun _ _ _ _ h => h
  exact (css_cons (cs_set (i := 1) (val (cf_lst (ca_cons ce_str ca_nil))) sc_settings_in.nd)
    (css_cons (cs_for (vs := [2]) (L2.passes_of rfl) (cis_any (ce_var 0)) (pg_name (i := 2) sc_settings_in.nd rfl (by first | exact Or.inl rfl | exact Or.inr rfl)) (tg_var (i := 2))
      (css_one (cs_setLc2 (i := 1) (own := [("begun", 3), ("stand", 4)]) (vs1 := [4]) sc_settings_in.nd (cie_any (see (ce_var 1))) (blk_mk (by rfl)) (fun _ _ _ _ _ => (pg_name (i := 3) sc_settings_in.nd rfl (by first | exact Or.inl rfl | exact Or.inr rfl))) (tg_var (i := 3)) (fun _ _ _ _ _ => cts_nil) (fun _ _ _ _ _ => (cis_any (ce_var 2))) (fun _ _ _ _ _ => (pg_name (i := 4) sc_settings_in.nd rfl (by first | exact Or.inl rfl | exact Or.inr rfl))) (tg_var (i := 4)) (fun _ _ _ _ _ => cts_nil) (fun _ _ _ _ _ => (ce_bin opl_add (see (ce_var 3)) (see (ce_var 4)))))))
    (css_one (cs_ret (see (ce_var 1))))))
theorem sc_Board_init : FnScope N_Board_init ["self", "sizes"] (defScope s_Board_init) := ⟨rfl, rfl, rfl, by decide +kernel, rfl, by decide +kernel, by decide +kernel⟩
theorem ok_Board_init (T : Txt K w mg ad) : DefU P w (gm K w ad) mg base 3 ad.f_Board_init ["self", "sizes"] (fun fd => Fun K "__init__" "Board.__init__" s_Board_init ad.f_Board_init fd) (liftI (gm K w ad) 1 (spIn cf_Board_init)) := by
  obtain ⟨fd_check_sizes, F_check_sizes, U_check_sizes⟩ := ok_check_sizes (P := P) (base := base) T
  have b_check_sizes : Binds K fd_check_sizes ["sizes"] [] := U_check_sizes.binds (ps := ["sizes"]) fun _ _ _ _ _ _ us hl => match us, hl with | [_], _ => rfl
  obtain ⟨fd_settings_in, F_settings_in, U_settings_in⟩ := ok_settings_in (P := P) (base := base) T
  have b_settings_in : Binds K fd_settings_in ["part"] [] := U_settings_in.binds (ps := ["part"]) fun _ _ _ _ _ _ us hl => match us, hl with | [_], _ => rfl
  obtain ⟨fd, F⟩ := T.F_Board_init
  refine ⟨fd, okI (B := R_Board_init) (sp := spOf cf_Board_init) (c := 1) F sc_Board_init (fun ds Q EX σ h => by rw [spI_len h]; rfl) (fun cdv A outer s H E hg hr => ?_) (fun ds Q EX x σ h => spI_pure l_Board_init rfl h), F⟩
  have hg0 : (A.deeper (envOfC "Board.__init__" (defScope s_Board_init) s.heap.objs.size ad.f_Board_init cdv)).guards = some [] := hg
  have hx0 : PassX (cxOf (L2.CX P w) P w K mg base N_Board_init "Board.__init__" (defScope s_Board_init) ad.f_Board_init cdv A outer s H E) E := L2.passes_call (L2.takes_of rfl rfl rfl rfl) fun _ _ _ _ h => h
  exact (css_cons (cs_expr (ce_call F_check_sizes T.m_check_sizes T.k_check_sizes b_check_sizes hg0 (hr.mono (by decide)) hx0 (ca_cons (ce_var 1) ca_nil)))
    (css_one (cs_fldI (i := 0) (c := 1) (ce_tup (ca_cons (ce_var 1) (ca_cons (ce_callTy cal_tuple T.z_tuple (cab_cons (see (ce_call F_settings_in T.m_settings_in T.k_settings_in b_settings_in hg0 (hr.mono (by decide)) hx0 (ca_cons (val (cf_lc (own := [("size", 2)]) sc_Board_init.nd (cie_any (see (ce_var 1))) (blk_mk (by rfl)) (fun _ _ _ _ _ => (pg_name (i := 2) sc_Board_init.nd rfl (by first | exact Or.inl rfl | exact Or.inr rfl))) (tg_var (i := 2)) (fun _ _ _ _ _ => cts_nil) (fun _ _ _ _ _ => (ce_ix (hu1 hr) (see (ce_gval (v := V_STANDS ad) T.g_STANDS.choose_spec.1 T.g_STANDS.choose_spec.2 T.r_STANDS)) (see (ce_var 2)))))) ca_nil))) cab_nil)) ca_nil))) T.c_Board.cl T.n_Board_both rfl (by decide +kernel))))
theorem sc_law_steps : FnScope N_law_steps ["facts", "first", "last"] (defScope s_law_steps) := ⟨rfl, rfl, rfl, by decide +kernel, rfl, by decide +kernel, by decide +kernel⟩
theorem ok_law_steps (T : Txt K w mg ad) : DefU P w (gm K w ad) mg base 1 ad.f_law_steps ["facts", "first", "last"] (fun fd => Fun K "_law_steps" "_law_steps" s_law_steps ad.f_law_steps fd) (lift (gm K w ad) sp_law_steps) := by
  obtain ⟨fd, F⟩ := T.F_law_steps
  refine ⟨fd, okD (B := R_law_steps) F sc_law_steps (fun ds Q EX σ h => spOf_len h) (fun cdv A outer s H E hg hr => ?_) (fun ds Q EX σ h => spOf_pure l_law_steps h), F⟩
  have hg0 : (A.deeper (envOfC "_law_steps" (defScope s_law_steps) s.heap.objs.size ad.f_law_steps cdv)).guards = some [] := hg
  have hx0 : PassX (cxOf (L2.CX P w) P w K mg base N_law_steps "_law_steps" (defScope s_law_steps) ad.f_law_steps cdv A outer s H E) E := L2.passes_call (L2.takes_of rfl rfl rfl rfl) fun _ _ _ _ h => h
  exact (css_cons (cs_asg (vs := [3, 4, 5]) (ce_tup (ca_cons (val (cf_lst (ca_cons (ce_var 1) ca_nil))) (ca_cons (val (cf_lst (ca_cons (ce_var 1) ca_nil))) (ca_cons ce_int ca_nil)))) (pg_tup (n := 3) rfl (pgs_cons (pg_name (i := 3) sc_law_steps.nd rfl (by first | exact Or.inl rfl | exact Or.inr rfl)) (pgs_cons (pg_name (i := 4) sc_law_steps.nd rfl (by first | exact Or.inl rfl | exact Or.inr rfl)) (pgs_cons (pg_name (i := 5) sc_law_steps.nd rfl (by first | exact Or.inl rfl | exact Or.inr rfl)) pgs_nil)))) (tg_tup (tgs_cons (tg_var (i := 3)) (tgs_cons (tg_var (i := 4)) (tgs_cons (tg_var (i := 5)) tgs_nil)))))
    (css_cons (cs_while (L2.passes_of rfl) (ct_cmp (opl_ne (hu64 hr)) (see (ce_var 3)) (see (val (cf_lst ca_nil)))) (css_cons (cs_if (ct_cmp (opl_in (hu65 hr)) (see (ce_var 2)) (see (ce_var 3))) (css_one (cs_ret (see (ce_var 5)))) css_nil)
    (css_cons (cs_set (i := 6) (val (cf_sset (see (val (cf_lc (own := [("fact", 8)]) sc_law_steps.nd (cie_any (see (ce_var 0))) (blk_mk (by rfl)) (fun _ _ _ _ _ => (pg_name (i := 8) sc_law_steps.nd rfl (by first | exact Or.inl rfl | exact Or.inr rfl))) (tg_var (i := 8)) (fun _ _ _ _ _ => (cts_one (ct_cmp (opl_in (hu65 hr)) (see (ce_ix (hu1 hr) (see (ce_var 8)) (see ce_int))) (see (ce_var 3))))) (fun _ _ _ _ _ => (ce_ix (hu1 hr) (see (ce_var 8)) (see ce_int)))))) T.z_sorted T.z_set)) sc_law_steps.nd)
    (css_cons (cs_set (i := 3) (val (cf_lc (own := [("one", 7)]) sc_law_steps.nd (cie_any (see (ce_var 6))) (blk_mk (by rfl)) (fun _ _ _ _ _ => (pg_name (i := 7) sc_law_steps.nd rfl (by first | exact Or.inl rfl | exact Or.inr rfl))) (tg_var (i := 7)) (fun _ _ _ _ _ => (cts_one (ct_cmp (opl_notin (hu65 hr)) (see (ce_var 7)) (see (ce_var 4))))) (fun _ _ _ _ _ => (ce_var 7)))) sc_law_steps.nd)
    (css_one (cs_asg (vs := [4, 5]) (ce_tup (ca_cons (val (cf_add (see (ce_var 4)) (see (ce_var 3)))) (ca_cons (ce_bin opl_add (see (ce_var 5)) (see ce_int)) ca_nil))) (pg_tup (n := 2) rfl (pgs_cons (pg_name (i := 4) sc_law_steps.nd rfl (by first | exact Or.inl rfl | exact Or.inr rfl)) (pgs_cons (pg_name (i := 5) sc_law_steps.nd rfl (by first | exact Or.inl rfl | exact Or.inr rfl)) pgs_nil))) (tg_tup (tgs_cons (tg_var (i := 4)) (tgs_cons (tg_var (i := 5)) tgs_nil)))))))))
    (css_one (cs_ret (see ce_non)))))
theorem sc_check_notes : FnScope N_check_notes ["value"] (defScope s_check_notes) := ⟨rfl, rfl, rfl, by decide +kernel, rfl, by decide +kernel, by decide +kernel⟩
theorem ok_check_notes (T : Txt K w mg ad) : DefU P w (gm K w ad) mg base 1 ad.f_check_notes ["value"] (fun fd => Fun K "check_notes" "check_notes" s_check_notes ad.f_check_notes fd) (lift (gm K w ad) sp_check_notes) := by
  obtain ⟨fd, F⟩ := T.F_check_notes
  refine ⟨fd, okD (B := R_check_notes) F sc_check_notes (fun ds Q EX σ h => spOf_len h) (fun cdv A outer s H E hg hr => ?_) (fun ds Q EX σ h => spOf_pure l_check_notes h), F⟩
  have hg0 : (A.deeper (envOfC "check_notes" (defScope s_check_notes) s.heap.objs.size ad.f_check_notes cdv)).guards = some [] := hg
  have hx0 : PassX (cxOf (L2.CX P w) P w K mg base N_check_notes "check_notes" (defScope s_check_notes) ad.f_check_notes cdv A outer s H E) E := L2.passes_call (L2.takes_of rfl rfl rfl rfl) fun _ _ _ _ h => h
  exact (css_one (cs_if (ct_not (ct_val (ce_isi (see (ce_var 0)) (by exact pe_glob (v := .ref ad.C_Notes) (by rfl) T.g_Notes (by rfl)) T.z_isinstance (.own _) T.isi_Notes_c T.isi_Notes_t))) (css_one cs_never) css_nil))
theorem sc_check_setting : FnScope N_check_setting ["board", "setting"] (defScope s_check_setting) := ⟨rfl, rfl, rfl, by decide +kernel, rfl, by decide +kernel, by decide +kernel⟩
theorem ok_check_setting (T : Txt K w mg ad) : DefU P w (gm K w ad) mg base 2 ad.f_check_setting ["board", "setting"] (fun fd => Fun K "check_setting" "check_setting" s_check_setting ad.f_check_setting fd) (lift (gm K w ad) sp_check_setting) := by
  obtain ⟨fd_Board_contains, F_Board_contains, U_Board_contains⟩ := ok_Board_contains (P := P) (base := base) T
  have b_Board_contains : Binds K fd_Board_contains ["self", "value"] [] := U_Board_contains.binds (ps := ["self", "value"]) fun _ _ _ _ _ _ us hl => match us, hl with | [_, _], _ => rfl
  obtain ⟨fd, F⟩ := T.F_check_setting
  refine ⟨fd, okD (B := R_check_setting) F sc_check_setting (fun ds Q EX σ h => spOf_len h) (fun cdv A outer s H E hg hr => ?_) (fun ds Q EX σ h => spOf_pure l_check_setting h), F⟩
  have hg0 : (A.deeper (envOfC "check_setting" (defScope s_check_setting) s.heap.objs.size ad.f_check_setting cdv)).guards = some [] := hg
  have hx0 : PassX (cxOf (L2.CX P w) P w K mg base N_check_setting "check_setting" (defScope s_check_setting) ad.f_check_setting cdv A outer s H E) E := L2.passes_call (L2.takes_of rfl rfl rfl rfl) fun _ _ _ _ h => h
  exact (css_one (cs_if (ct_cmp (opl_inO (c := 1) (neg := true) rfl F_Board_contains b_Board_contains hg0 (hr.mono (by decide)) T.h_Board_contains.at_ T.h_Board_contains.fn) (see (ce_var 1)) (see (ce_var 0))) (css_one cs_never) css_nil))
theorem sc_Notes_board : FnScope N_Notes_board ["self"] (defScope s_Notes_board) := ⟨rfl, rfl, rfl, by decide +kernel, rfl, by decide +kernel, by decide +kernel⟩
theorem ok_Notes_board (T : Txt K w mg ad) : DefU P w (gm K w ad) mg base 1 ad.f_Notes_board ["self"] (fun fd => Fun K "board" "Notes.board" s_Notes_board ad.f_Notes_board fd) (lift (gm K w ad) sp_Notes_board) := by
  obtain ⟨fd, F⟩ := T.F_Notes_board
  refine ⟨fd, okD (B := R_Notes_board) F sc_Notes_board (fun ds Q EX σ h => spOf_len h) (fun cdv A outer s H E hg hr => ?_) (fun ds Q EX σ h => spOf_pure l_Notes_board h), F⟩
  have hg0 : (A.deeper (envOfC "Notes.board" (defScope s_Notes_board) s.heap.objs.size ad.f_Notes_board cdv)).guards = some [] := hg
  have hx0 : PassX (cxOf (L2.CX P w) P w K mg base N_Notes_board "Notes.board" (defScope s_Notes_board) ad.f_Notes_board cdv A outer s H E) E := L2.passes_call (L2.takes_of rfl rfl rfl rfl) fun _ _ _ _ h => h
  exact (css_one (cs_ret (see (ce_ix (hu1 hr) (see (ce_fld (c := 3) (i := 0) (ce_var 0) T.c_Notes.cl T.n_Notes_both (by rfl))) (see ce_int)))))
theorem sc_shortest_rows : FnScope N_shortest_rows ["beside", "start", "goal"] (defScope s_shortest_rows) := ⟨rfl, rfl, rfl, by decide +kernel, rfl, by decide +kernel, by decide +kernel⟩
theorem ok_shortest_rows (T : Txt K w mg ad) : DefU P w (gm K w ad) mg base 1 ad.f_shortest_rows ["beside", "start", "goal"] (fun fd => Fun K "shortest_rows" "shortest_rows" s_shortest_rows ad.f_shortest_rows fd) (lift (gm K w ad) sp_shortest_rows) := by
  obtain ⟨fd, F⟩ := T.F_shortest_rows
  refine ⟨fd, okD (B := R_shortest_rows) F sc_shortest_rows (fun ds Q EX σ h => spOf_len h) (fun cdv A outer s H E hg hr => ?_) (fun ds Q EX σ h => spOf_pure l_shortest_rows h), F⟩
  have hg0 : (A.deeper (envOfC "shortest_rows" (defScope s_shortest_rows) s.heap.objs.size ad.f_shortest_rows cdv)).guards = some [] := hg
  have hx0 : PassX (cxOf (L2.CX P w) P w K mg base N_shortest_rows "shortest_rows" (defScope s_shortest_rows) ad.f_shortest_rows cdv A outer s H E) E := L2.passes_call (L2.takes_of rfl rfl rfl rfl) fun _ _ _ _ h => h
  exact (css_cons (cs_parO (i := 3) (j := 4) (val (cf_lst (ca_cons (ce_tup (ca_cons (ce_var 1) ca_nil)) ca_nil))) (cf_lst (ca_cons (ce_var 1) ca_nil)) sc_shortest_rows.nd)
    (css_cons (cs_while (L2.passes_of rfl) (ct_cmp (opl_ne (hu64 hr)) (see (ce_var 3)) (see (val (cf_lst ca_nil)))) (css_cons (cs_setOwn (i := 5) (cf_lst ca_nil) sc_shortest_rows.nd)
    (css_cons (cs_for (vs := [6]) (L2.passes_of rfl) (cis_any (ce_var 3)) (pg_name (i := 6) sc_shortest_rows.nd rfl (by first | exact Or.inl rfl | exact Or.inr rfl)) (tg_var (i := 6))
      (css_cons (cs_if (ct_cmp (opl_eq (hu64 hr)) (see (ce_ix (hu1 hr) (see (ce_var 6)) (see (ce_neg ce_int)))) (see (ce_var 2))) (css_one (cs_ret (see (ce_var 6)))) css_nil)
    (css_one (cs_for (vs := [7]) (L2.passes_of rfl) (cis_any (ce_ix (hu1 hr) (see (ce_var 0)) (see (ce_ix (hu1 hr) (see (ce_var 6)) (see (ce_neg ce_int)))))) (pg_name (i := 7) sc_shortest_rows.nd rfl (by first | exact Or.inl rfl | exact Or.inr rfl)) (tg_var (i := 7))
      (css_one (cs_if (ct_cmp (opl_notin (hu65 hr)) (see (ce_var 7)) (cb_var 4)) (css_cons (cs_app (i := 4) (ce_var 7))
    (css_one (cs_app (i := 5) (ce_bin opl_add (see (ce_var 6)) (see (ce_tup (ca_cons (ce_var 7) ca_nil))))))) css_nil))))))
    (css_one (cs_off [5] (cs_set (i := 3) (ce_var 5) sc_shortest_rows.nd))))))
    (css_one (cs_ret (see ce_non)))))
theorem sc_Board_settings : FnScope N_Board_settings ["self"] (defScope s_Board_settings) := ⟨rfl, rfl, rfl, by decide +kernel, rfl, by decide +kernel, by decide +kernel⟩
theorem ok_Board_settings (T : Txt K w mg ad) : DefU P w (gm K w ad) mg base 1 ad.f_Board_settings ["self"] (fun fd => Fun K "settings" "Board.settings" s_Board_settings ad.f_Board_settings fd) (lift (gm K w ad) sp_Board_settings) := by
  obtain ⟨fd, F⟩ := T.F_Board_settings
  refine ⟨fd, okD (B := R_Board_settings) F sc_Board_settings (fun ds Q EX σ h => spOf_len h) (fun cdv A outer s H E hg hr => ?_) (fun ds Q EX σ h => spOf_pure l_Board_settings h), F⟩
  have hg0 : (A.deeper (envOfC "Board.settings" (defScope s_Board_settings) s.heap.objs.size ad.f_Board_settings cdv)).guards = some [] := hg
  have hx0 : PassX (cxOf (L2.CX P w) P w K mg base N_Board_settings "Board.settings" (defScope s_Board_settings) ad.f_Board_settings cdv A outer s H E) E := L2.passes_call (L2.takes_of rfl rfl rfl rfl) fun _ _ _ _ h => h
  exact (css_one (cs_ret (see (ce_ix (hu1 hr) (see (ce_fld (c := 1) (i := 0) (ce_var 0) T.c_Board.cl T.n_Board_both (by rfl))) (see ce_int)))))
theorem sc_ups : FnScope N_ups ["board", "facts"] (defScope s_ups) := ⟨rfl, rfl, rfl, by decide +kernel, rfl, by decide +kernel, by decide +kernel⟩
theorem ok_ups (T : Txt K w mg ad) : DefU P w (gm K w ad) mg base 3 ad.f_ups ["board", "facts"] (fun fd => Fun K "ups" "ups" s_ups ad.f_ups fd) (lift (gm K w ad) sp_ups) := by
  obtain ⟨fd_Board_settings, F_Board_settings, U_Board_settings⟩ := ok_Board_settings (P := P) (base := base) T
  have b_Board_settings : Binds K fd_Board_settings ["self"] [] := U_Board_settings.binds (ps := ["self"]) fun _ _ _ _ _ _ us hl => match us, hl with | [_], _ => rfl
  obtain ⟨fd, F⟩ := T.F_ups
  refine ⟨fd, okD (B := R_ups) F sc_ups (fun ds Q EX σ h => spOf_len h) (fun cdv A outer s H E hg hr => ?_) (fun ds Q EX σ h => spOf_pure l_ups h), F⟩
  have hg0 : (A.deeper (envOfC "ups" (defScope s_ups) s.heap.objs.size ad.f_ups cdv)).guards = some [] := hg
  have hx0 : PassX (cxOf (L2.CX P w) P w K mg base N_ups "ups" (defScope s_ups) ad.f_ups cdv A outer s H E) E := L2.passes_call (L2.takes_of rfl rfl rfl rfl) fun _ _ _ _ h => h
  exact (css_cons (cs_setOwnD (i := 2) cg_new sc_ups.nd)
    (css_cons (cs_for (vs := [3]) (L2.passes_of rfl) (cis_any (ce_prop (c := 1) (ce_var 0) T.c_Board.cl T.p_Board_settings F_Board_settings b_Board_settings hg0 (hr.mono (by decide)))) (pg_name (i := 3) sc_ups.nd rfl (by first | exact Or.inl rfl | exact Or.inr rfl)) (tg_var (i := 3))
      (css_one (cs_putK (i := 2) (hu1 hr) (ce_var 3) (val (cf_lc (own := [("worse", 4), ("better", 5)]) sc_ups.nd (cie_any (see (ce_var 1))) (blk_mk (by rfl)) (fun _ _ _ _ _ => (pg_tup (n := 2) rfl (pgs_cons (pg_name (i := 4) sc_ups.nd rfl (by first | exact Or.inl rfl | exact Or.inr rfl)) (pgs_cons (pg_name (i := 5) sc_ups.nd rfl (by first | exact Or.inl rfl | exact Or.inr rfl)) pgs_nil)))) (tg_tup (tgs_cons (tg_var (i := 4)) (tgs_cons (tg_var (i := 5)) tgs_nil))) (fun _ _ _ _ _ => (cts_one (ct_cmp (opl_eq (hu64 hr)) (see (ce_var 4)) (see (ce_var 3))))) (fun _ _ _ _ _ => (ce_var 5)))))))
    (css_one (cs_ret (cb_var 2)))))
theorem sc_Notes_facts : FnScope N_Notes_facts ["self"] (defScope s_Notes_facts) := ⟨rfl, rfl, rfl, by decide +kernel, rfl, by decide +kernel, by decide +kernel⟩
theorem ok_Notes_facts (T : Txt K w mg ad) : DefU P w (gm K w ad) mg base 1 ad.f_Notes_facts ["self"] (fun fd => Fun K "facts" "Notes.facts" s_Notes_facts ad.f_Notes_facts fd) (lift (gm K w ad) sp_Notes_facts) := by
  obtain ⟨fd, F⟩ := T.F_Notes_facts
  refine ⟨fd, okD (B := R_Notes_facts) F sc_Notes_facts (fun ds Q EX σ h => spOf_len h) (fun cdv A outer s H E hg hr => ?_) (fun ds Q EX σ h => spOf_pure l_Notes_facts h), F⟩
  have hg0 : (A.deeper (envOfC "Notes.facts" (defScope s_Notes_facts) s.heap.objs.size ad.f_Notes_facts cdv)).guards = some [] := hg
  have hx0 : PassX (cxOf (L2.CX P w) P w K mg base N_Notes_facts "Notes.facts" (defScope s_Notes_facts) ad.f_Notes_facts cdv A outer s H E) E := L2.passes_call (L2.takes_of rfl rfl rfl rfl) fun _ _ _ _ h => h
  exact (css_one (cs_ret (see (ce_ix (hu1 hr) (see (ce_fld (c := 3) (i := 0) (ce_var 0) T.c_Notes.cl T.n_Notes_both (by rfl))) (see ce_int)))))
theorem sc_sure_way : FnScope N_sure_way ["notes", "start", "goal"] (defScope s_sure_way) := ⟨rfl, rfl, rfl, by decide +kernel, rfl, by decide +kernel, by decide +kernel⟩
theorem ok_sure_way (T : Txt K w mg ad) : DefU P w (gm K w ad) mg base 4 ad.f_sure_way ["notes", "start", "goal"] (fun fd => Fun K "sure_way" "sure_way" s_sure_way ad.f_sure_way fd) (lift (gm K w ad) sp_sure_way) := by
  obtain ⟨fd_check_notes, F_check_notes, U_check_notes⟩ := ok_check_notes (P := P) (base := base) T
  have b_check_notes : Binds K fd_check_notes ["value"] [] := U_check_notes.binds (ps := ["value"]) fun _ _ _ _ _ _ us hl => match us, hl with | [_], _ => rfl
  obtain ⟨fd_check_setting, F_check_setting, U_check_setting⟩ := ok_check_setting (P := P) (base := base) T
  have b_check_setting : Binds K fd_check_setting ["board", "setting"] [] := U_check_setting.binds (ps := ["board", "setting"]) fun _ _ _ _ _ _ us hl => match us, hl with | [_, _], _ => rfl
  obtain ⟨fd_Notes_board, F_Notes_board, U_Notes_board⟩ := ok_Notes_board (P := P) (base := base) T
  have b_Notes_board : Binds K fd_Notes_board ["self"] [] := U_Notes_board.binds (ps := ["self"]) fun _ _ _ _ _ _ us hl => match us, hl with | [_], _ => rfl
  obtain ⟨fd_shortest_rows, F_shortest_rows, U_shortest_rows⟩ := ok_shortest_rows (P := P) (base := base) T
  have b_shortest_rows : Binds K fd_shortest_rows ["beside", "start", "goal"] [] := U_shortest_rows.binds (ps := ["beside", "start", "goal"]) fun _ _ _ _ _ _ us hl => match us, hl with | [_, _, _], _ => rfl
  obtain ⟨fd_ups, F_ups, U_ups⟩ := ok_ups (P := P) (base := base) T
  have b_ups : Binds K fd_ups ["board", "facts"] [] := U_ups.binds (ps := ["board", "facts"]) fun _ _ _ _ _ _ us hl => match us, hl with | [_, _], _ => rfl
  obtain ⟨fd_Notes_facts, F_Notes_facts, U_Notes_facts⟩ := ok_Notes_facts (P := P) (base := base) T
  have b_Notes_facts : Binds K fd_Notes_facts ["self"] [] := U_Notes_facts.binds (ps := ["self"]) fun _ _ _ _ _ _ us hl => match us, hl with | [_], _ => rfl
  obtain ⟨fd, F⟩ := T.F_sure_way
  refine ⟨fd, okD (B := R_sure_way) F sc_sure_way (fun ds Q EX σ h => spOf_len h) (fun cdv A outer s H E hg hr => ?_) (fun ds Q EX σ h => spOf_pure l_sure_way h), F⟩
  have hg0 : (A.deeper (envOfC "sure_way" (defScope s_sure_way) s.heap.objs.size ad.f_sure_way cdv)).guards = some [] := hg
  have hx0 : PassX (cxOf (L2.CX P w) P w K mg base N_sure_way "sure_way" (defScope s_sure_way) ad.f_sure_way cdv A outer s H E) E := L2.passes_call (L2.takes_of rfl rfl rfl rfl) fun _ _ _ _ h => h
  exact (css_cons (cs_expr (ce_call F_check_notes T.m_check_notes T.k_check_notes b_check_notes hg0 (hr.mono (by decide)) hx0 (ca_cons (ce_var 0) ca_nil)))
    (css_cons (cs_expr (ce_call F_check_setting T.m_check_setting T.k_check_setting b_check_setting hg0 (hr.mono (by decide)) hx0 (ca_cons (ce_prop (c := 3) (ce_var 0) T.c_Notes.cl T.p_Notes_board F_Notes_board b_Notes_board hg0 (hr.mono (by decide))) (ca_cons (ce_var 1) ca_nil))))
    (css_cons (cs_expr (ce_call F_check_setting T.m_check_setting T.k_check_setting b_check_setting hg0 (hr.mono (by decide)) hx0 (ca_cons (ce_prop (c := 3) (ce_var 0) T.c_Notes.cl T.p_Notes_board F_Notes_board b_Notes_board hg0 (hr.mono (by decide))) (ca_cons (ce_var 2) ca_nil))))
    (css_one (cs_ret (see (ce_call F_shortest_rows T.m_shortest_rows T.k_shortest_rows b_shortest_rows hg0 (hr.mono (by decide)) hx0 (ca_cons (ce_call F_ups T.m_ups T.k_ups b_ups hg0 (hr.mono (by decide)) hx0 (ca_cons (ce_prop (c := 3) (ce_var 0) T.c_Notes.cl T.p_Notes_board F_Notes_board b_Notes_board hg0 (hr.mono (by decide))) (ca_cons (ce_prop (c := 3) (ce_var 0) T.c_Notes.cl T.p_Notes_facts F_Notes_facts b_Notes_facts hg0 (hr.mono (by decide))) ca_nil))) (ca_cons (ce_var 1) (ca_cons (ce_var 2) ca_nil))))))))))
theorem sc_Notes_known : FnScope N_Notes_known ["self", "start", "goal"] (defScope s_Notes_known) := ⟨rfl, rfl, rfl, by decide +kernel, rfl, by decide +kernel, by decide +kernel⟩
theorem ok_Notes_known (T : Txt K w mg ad) : DefU P w (gm K w ad) mg base 3 ad.f_Notes_known ["self", "start", "goal"] (fun fd => Fun K "known" "Notes.known" s_Notes_known ad.f_Notes_known fd) (lift (gm K w ad) sp_Notes_known) := by
  obtain ⟨fd_check_setting, F_check_setting, U_check_setting⟩ := ok_check_setting (P := P) (base := base) T
  have b_check_setting : Binds K fd_check_setting ["board", "setting"] [] := U_check_setting.binds (ps := ["board", "setting"]) fun _ _ _ _ _ _ us hl => match us, hl with | [_, _], _ => rfl
  obtain ⟨fd_Notes_board, F_Notes_board, U_Notes_board⟩ := ok_Notes_board (P := P) (base := base) T
  have b_Notes_board : Binds K fd_Notes_board ["self"] [] := U_Notes_board.binds (ps := ["self"]) fun _ _ _ _ _ _ us hl => match us, hl with | [_], _ => rfl
  obtain ⟨fd_leads, F_leads, U_leads⟩ := ok_leads (P := P) (base := base) T
  have b_leads : Binds K fd_leads ["facts", "start", "goal"] [] := U_leads.binds (ps := ["facts", "start", "goal"]) fun _ _ _ _ _ _ us hl => match us, hl with | [_, _, _], _ => rfl
  obtain ⟨fd_Notes_facts, F_Notes_facts, U_Notes_facts⟩ := ok_Notes_facts (P := P) (base := base) T
  have b_Notes_facts : Binds K fd_Notes_facts ["self"] [] := U_Notes_facts.binds (ps := ["self"]) fun _ _ _ _ _ _ us hl => match us, hl with | [_], _ => rfl
  obtain ⟨fd, F⟩ := T.F_Notes_known
  refine ⟨fd, okD (B := R_Notes_known) F sc_Notes_known (fun ds Q EX σ h => spOf_len h) (fun cdv A outer s H E hg hr => ?_) (fun ds Q EX σ h => spOf_pure l_Notes_known h), F⟩
  have hg0 : (A.deeper (envOfC "Notes.known" (defScope s_Notes_known) s.heap.objs.size ad.f_Notes_known cdv)).guards = some [] := hg
  have hx0 : PassX (cxOf (L2.CX P w) P w K mg base N_Notes_known "Notes.known" (defScope s_Notes_known) ad.f_Notes_known cdv A outer s H E) E := L2.passes_call (L2.takes_of rfl rfl rfl rfl) fun _ _ _ _ h => h
  exact (css_cons (cs_expr (ce_call F_check_setting T.m_check_setting T.k_check_setting b_check_setting hg0 (hr.mono (by decide)) hx0 (ca_cons (ce_prop (c := 3) (ce_var 0) T.c_Notes.cl T.p_Notes_board F_Notes_board b_Notes_board hg0 (hr.mono (by decide))) (ca_cons (ce_var 1) ca_nil))))
    (css_cons (cs_expr (ce_call F_check_setting T.m_check_setting T.k_check_setting b_check_setting hg0 (hr.mono (by decide)) hx0 (ca_cons (ce_prop (c := 3) (ce_var 0) T.c_Notes.cl T.p_Notes_board F_Notes_board b_Notes_board hg0 (hr.mono (by decide))) (ca_cons (ce_var 2) ca_nil))))
    (css_cons (cs_if (ct_cmp (opl_eq (hu64 hr)) (see (ce_var 1)) (see (ce_var 2))) (css_one (cs_ret (see ce_str))) css_nil)
    (css_cons (cs_if (ct_val (ce_call F_leads T.m_leads T.k_leads b_leads hg0 (hr.mono (by decide)) hx0 (ca_cons (ce_prop (c := 3) (ce_var 0) T.c_Notes.cl T.p_Notes_facts F_Notes_facts b_Notes_facts hg0 (hr.mono (by decide))) (ca_cons (ce_var 1) (ca_cons (ce_var 2) ca_nil))))) (css_one (cs_ret (see ce_str))) css_nil)
    (css_one (cs_ret (see (ce_if (ct_val (ce_call F_leads T.m_leads T.k_leads b_leads hg0 (hr.mono (by decide)) hx0 (ca_cons (ce_prop (c := 3) (ce_var 0) T.c_Notes.cl T.p_Notes_facts F_Notes_facts b_Notes_facts hg0 (hr.mono (by decide))) (ca_cons (ce_var 2) (ca_cons (ce_var 1) ca_nil))))) ce_str ce_str))))))))
theorem sc_law_right : FnScope N_law_right ["urn"] (defScope s_law_right) := ⟨rfl, rfl, rfl, by decide +kernel, rfl, by decide +kernel, by decide +kernel⟩
theorem ok_law_right (T : Txt K w mg ad) : DefU P w (gm K w ad) mg base 6 ad.f_law_right ["urn"] (fun fd => Fun K "_law_right" "_law_right" s_law_right ad.f_law_right fd) (lift (gm K w ad) sp_law_right) := by
  obtain ⟨fd_law_one_of, F_law_one_of, U_law_one_of⟩ := ok_law_one_of (P := P) (base := base) T
  have b_law_one_of : Binds K fd_law_one_of ["urn", "menu"] [] := U_law_one_of.binds (ps := ["urn", "menu"]) fun _ _ _ _ _ _ us hl => match us, hl with | [_, _], _ => rfl
  obtain ⟨fd_law_seen, F_law_seen, U_law_seen⟩ := ok_law_seen (P := P) (base := base) T
  have b_law_seen : Binds K fd_law_seen ["urn", "sizes", "share"] [] := U_law_seen.binds (ps := ["urn", "sizes", "share"]) fun _ _ _ _ _ _ us hl => match us, hl with | [_, _, _], _ => rfl
  obtain ⟨fd_law_spots, F_law_spots, U_law_spots⟩ := ok_law_spots (P := P) (base := base) T
  have b_law_spots : Binds K fd_law_spots ["sizes"] [] := U_law_spots.binds (ps := ["sizes"]) fun _ _ _ _ _ _ us hl => match us, hl with | [_], _ => rfl
  obtain ⟨fd_Notes_init, F_Notes_init, U_Notes_init⟩ := ok_Notes_init (P := P) (base := base) T
  obtain ⟨fd_Board_init, F_Board_init, U_Board_init⟩ := ok_Board_init (P := P) (base := base) T
  have b_Board_init : Binds K fd_Board_init ["self", "sizes"] [] := U_Board_init.binds (ps := ["self", "sizes"]) fun _ _ _ _ _ _ us hl => match us, hl with | [_, _], _ => rfl
  obtain ⟨fd_law_steps, F_law_steps, U_law_steps⟩ := ok_law_steps (P := P) (base := base) T
  have b_law_steps : Binds K fd_law_steps ["facts", "first", "last"] [] := U_law_steps.binds (ps := ["facts", "first", "last"]) fun _ _ _ _ _ _ us hl => match us, hl with | [_, _, _], _ => rfl
  obtain ⟨fd_sure_way, F_sure_way, U_sure_way⟩ := ok_sure_way (P := P) (base := base) T
  have b_sure_way : Binds K fd_sure_way ["notes", "start", "goal"] [] := U_sure_way.binds (ps := ["notes", "start", "goal"]) fun _ _ _ _ _ _ us hl => match us, hl with | [_, _, _], _ => rfl
  obtain ⟨fd_Notes_known, F_Notes_known, U_Notes_known⟩ := ok_Notes_known (P := P) (base := base) T
  have b_Notes_known : Binds K fd_Notes_known ["self", "start", "goal"] [] := U_Notes_known.binds (ps := ["self", "start", "goal"]) fun _ _ _ _ _ _ us hl => match us, hl with | [_, _, _], _ => rfl
  have bk_0 : BdK K fd_Notes_init ["self", "board", "facts"] 3 [] [.p 0, .p 1, .p 2] [(.tup [])] := bdk_dfl U_Notes_init (by simp) (fun _ hKG _ => (Reps.cons (T.e_Notes_init_0 _ hKG _) Reps.nil)) 3 [] [.p 0, .p 1, .p 2] fun T kV doc pm an cdv ct us ws its h1 h2 h3 => match us, ws, its, h1, h2, h3 with | [_, _, _], [], [_], _, _, _ => ⟨_, rfl, rfl⟩
  have bk_1 : BdK K fd_sure_way ["notes", "start", "goal"] 0 ["goal", "start", "notes"] [.k 2, .k 1, .k 0] [] := bdk_of U_sure_way 0 ["goal", "start", "notes"] [.k 2, .k 1, .k 0] fun kV doc pm an cdv ct us ws h1 h2 => match us, ws, h1, h2 with | [], [_, _, _], _, _ => rfl
  obtain ⟨fd, F⟩ := T.F_law_right
  refine ⟨fd, okD (B := R_law_right) F sc_law_right len_law_right (fun cdv A outer s H E hg hr => ?_) pure_law_right, F⟩
  have hg0 : (A.deeper (envOfC "_law_right" (defScope s_law_right) s.heap.objs.size ad.f_law_right cdv)).guards = some [] := hg
  have hx0 : PassX (cxOf (L2.CX P w) P w K mg base N_law_right "_law_right" (defScope s_law_right) ad.f_law_right cdv A outer s H E) E := L2.passes_call (L2.takes_of rfl rfl rfl rfl) fun _ _ _ _ h => h
  exact (css_cons (cs_for (vs := [1]) (L2.passes_of rfl) (cis_rng1 T.z_range (ca_cons ce_int ca_nil)) (pg_name (i := 1) sc_law_right.nd rfl (by first | exact Or.inl rfl | exact Or.inr rfl)) (tg_var (i := 1))
      (css_cons (cs_set (i := 2) (ce_call F_law_one_of T.m_law_one_of T.k_law_one_of b_law_one_of hg0 (hr.mono (by decide)) hx0 (ca_cons (ce_var 0) (ca_cons (val (cf_lst (ca_cons (ce_tup (ca_cons ce_int (ca_cons ce_int (ca_cons ce_int (ca_cons ce_int ca_nil))))) (ca_cons (ce_tup (ca_cons ce_int (ca_cons ce_int (ca_cons ce_int ca_nil)))) (ca_cons (ce_tup (ca_cons ce_int (ca_cons ce_int ca_nil))) (ca_cons (ce_tup (ca_cons ce_int (ca_cons ce_int ca_nil))) (ca_cons (ce_tup (ca_cons ce_int (ca_cons ce_int (ca_cons ce_int ca_nil)))) (ca_cons (ce_tup (ca_cons ce_int (ca_cons ce_int (ca_cons ce_int (ca_cons ce_int (ca_cons ce_int ca_nil)))))) (ca_cons (ce_tup (ca_cons ce_int (ca_cons ce_int (ca_cons ce_int (ca_cons ce_int ca_nil))))) ca_nil))))))))) ca_nil))) sc_law_right.nd)
    (css_cons (cs_asg (vs := [3, 4]) (ce_tup (ca_cons (ce_call F_law_seen T.m_law_seen T.k_law_seen b_law_seen hg0 (hr.mono (by decide)) hx0 (ca_cons (ce_var 0) (ca_cons (ce_var 2) (ca_cons (ce_call F_law_one_of T.m_law_one_of T.k_law_one_of b_law_one_of hg0 (hr.mono (by decide)) hx0 (ca_cons (ce_var 0) (ca_cons (val (cf_lst (ca_cons ce_int (ca_cons ce_int (ca_cons ce_int (ca_cons ce_int ca_nil)))))) ca_nil))) ca_nil)))) (ca_cons (val (cf_call F_law_spots T.m_law_spots T.k_law_spots b_law_spots hg0 (hr.mono (by decide)) hx0 (ca_cons (ce_var 2) ca_nil))) ca_nil))) (pg_tup (n := 2) rfl (pgs_cons (pg_name (i := 3) sc_law_right.nd rfl (by first | exact Or.inl rfl | exact Or.inr rfl)) (pgs_cons (pg_name (i := 4) sc_law_right.nd rfl (by first | exact Or.inl rfl | exact Or.inr rfl)) pgs_nil))) (tg_tup (tgs_cons (tg_var (i := 3)) (tgs_cons (tg_var (i := 4)) tgs_nil))))
    (css_cons (cs_set (i := 5) (ce_makeK (c := 3) (ks := []) (sel := [.p 0, .p 1]) T.mk_Notes F_Notes_init T.g_Notes bk_0 hg0 (hr.mono (by decide)) hx0 (ck_pos (ca_cons (ce_make (c := 1) T.mk_Board F_Board_init  T.g_Board b_Board_init hg0 (hr.mono (by decide)) hx0 (ca_cons (ce_var 2) ca_nil)) (ca_cons (ce_var 3) ca_nil)))) sc_law_right.nd)
    (css_one (cs_for (vs := [6]) (L2.passes_of rfl) (cis_rng1 T.z_range (ca_cons ce_int ca_nil)) (pg_name (i := 6) sc_law_right.nd rfl (by first | exact Or.inl rfl | exact Or.inr rfl)) (tg_var (i := 6))
      (css_cons (cs_par (i := 7) (j := 8) (ca_cons (ce_call F_law_one_of T.m_law_one_of T.k_law_one_of b_law_one_of hg0 (hr.mono (by decide)) hx0 (ca_cons (ce_var 0) (ca_cons (ce_var 4) ca_nil))) (ca_cons (ce_call F_law_one_of T.m_law_one_of T.k_law_one_of b_law_one_of hg0 (hr.mono (by decide)) hx0 (ca_cons (ce_var 0) (ca_cons (ce_var 4) ca_nil))) ca_nil)) sc_law_right.nd)
    (css_cons (cs_asg (vs := [9, 10]) (ce_tup (ca_cons (ce_call F_law_steps T.m_law_steps T.k_law_steps b_law_steps hg0 (hr.mono (by decide)) hx0 (ca_cons (ce_var 3) (ca_cons (ce_var 7) (ca_cons (ce_var 8) ca_nil)))) (ca_cons (ce_call F_sure_way T.m_sure_way T.k_sure_way b_sure_way hg0 (hr.mono (by decide)) hx0 (ca_cons (ce_var 5) (ca_cons (ce_var 7) (ca_cons (ce_var 8) ca_nil)))) ca_nil))) (pg_tup (n := 2) rfl (pgs_cons (pg_name (i := 9) sc_law_right.nd rfl (by first | exact Or.inl rfl | exact Or.inr rfl)) (pgs_cons (pg_name (i := 10) sc_law_right.nd rfl (by first | exact Or.inl rfl | exact Or.inr rfl)) pgs_nil))) (tg_tup (tgs_cons (tg_var (i := 9)) (tgs_cons (tg_var (i := 10)) tgs_nil))))
    (css_cons (cs_if (PW.pt (cw_or (ct_cmp (opl_ne (hu64 hr)) (see (ce_callK (ks := ["goal", "start", "notes"]) F_sure_way T.m_sure_way T.k_sure_way bk_1 hg0 (hr.mono (by decide)) hx0 (ck_kw0 (ck_cons (ce_var 8) (ck_cons (ce_var 7) (ck_cons (ce_var 5) ck_nil)))))) (see (ce_var 10))) (cw_or1 (ct_cmp (opl_ne (hu64 hr)) (see (ce_cmp opl_isA (see (ce_var 10)) (see ce_non))) (see (ce_cmp opl_isA (see (ce_var 9)) (see ce_non))))))) (css_one (cs_ret (see ce_bl))) css_nil)
    (css_cons (cs_if (ct_cmp (opl_ne (hu64 hr)) (see (ce_cmp (opl_in (hu65 hr)) (see (ce_meth (c := 3) (ce_var 5) T.c_Notes.cl T.h_Notes_known F_Notes_known b_Notes_known hg0 (hr.mono (by decide)) hx0 (show ¬ (("known" : Str) ∈ fl_Notes) by decide +kernel) (ca_cons (ce_var 7) (ca_cons (ce_var 8) ca_nil)))) (see (val (cf_lst (ca_cons ce_str (ca_cons ce_str ca_nil))))))) (see (ce_cmp opl_isnA (see (ce_var 9)) (see ce_non)))) (css_one (cs_ret (see ce_bl))) css_nil)
    (css_one (cs_if (ct_cmp opl_isnA (see (ce_var 10)) (see ce_non)) (css_cons (cs_if (PW.pt (cw_or (ct_not (ct_val (ce_isi (see (ce_var 10)) (by exact pe_bltn (v := .ty "tuple") (u := .type "tuple") (by rfl) T.z_tuple (by decide +kernel) (by rfl)) T.z_isinstance (.ty _) isi_tuple_c isi_tuple_t))) (cw_or (ct_cmp (opl_ne (hu64 hr)) (see (ce_callB cal_len T.z_len (cab_cons (see (ce_var 10)) cab_nil))) (see (ce_bin opl_add (see (ce_var 9)) (see ce_int)))) (cw_or1 (ct_cmp (opl_ne (hu64 hr)) (see (val (cf_lst (ca_cons (ce_ix (hu1 hr) (see (ce_var 10)) (see ce_int)) (ca_cons (ce_ix (hu1 hr) (see (ce_var 10)) (see (ce_neg ce_int))) ca_nil))))) (see (val (cf_lst (ca_cons (ce_var 7) (ca_cons (ce_var 8) ca_nil)))))))))) (css_one (cs_ret (see ce_bl))) css_nil)
    (css_one (cs_if (ct_not (ct_val (ce_callB cal_all T.z_all (cab_cons (see (val (cf_lc (own := [("k", 11)]) sc_law_right.nd (iE_of (cis_rng1 T.z_range (ca_cons (ce_var 9) ca_nil))) (blk_mk (by rfl)) (fun _ _ _ _ _ => (pg_name (i := 11) sc_law_right.nd rfl (by first | exact Or.inl rfl | exact Or.inr rfl))) (tg_var (i := 11)) (fun _ _ _ _ _ => cts_nil) (fun _ _ _ _ _ => (ce_cmp (opl_inT (hu65 hr)) (see (ce_tup (ca_cons (ce_ix (hu1 hr) (see (ce_var 10)) (see (ce_var 11))) (ca_cons (ce_ix (hu1 hr) (see (ce_var 10)) (see (ce_bin opl_add (see (ce_var 11)) (see ce_int)))) ca_nil)))) (see (ce_var 3))))))) cab_nil)))) (css_one (cs_ret (see ce_bl))) css_nil))) css_nil))))))))))))
    (css_one (cs_ret (see ce_bl))))
theorem sc_law_urn : FnScope N_law_urn ["script", "lap"] (defScope s_law_urn) := ⟨rfl, rfl, rfl, by decide +kernel, rfl, by decide +kernel, by decide +kernel⟩
theorem ok_law_urn (T : Txt K w mg ad) : DefU P w (gm K w ad) mg base 1 ad.f_law_urn ["script", "lap"] (fun fd => Fun K "_law_urn" "_law_urn" s_law_urn ad.f_law_urn fd) (lift (gm K w ad) sp_law_urn) := by
  obtain ⟨fd, F⟩ := T.F_law_urn
  refine ⟨fd, okD (B := R_law_urn) F sc_law_urn len_law_urn (fun cdv A outer s H E hg hr => ?_) pure_law_urn, F⟩
  have hg0 : (A.deeper (envOfC "_law_urn" (defScope s_law_urn) s.heap.objs.size ad.f_law_urn cdv)).guards = some [] := hg
  have hx0 : PassX (cxOf (L2.CX P w) P w K mg base N_law_urn "_law_urn" (defScope s_law_urn) ad.f_law_urn cdv A outer s H E) E := L2.passes_call (L2.takes_of rfl rfl rfl rfl) fun _ _ _ _ h => h
  exact (css_cons (cs_set (i := 2) (ce_bin opl_add (see ce_int) (see (ce_bin opl_mulA (see ce_int) (see (ce_var 1))))) sc_law_urn.nd)
    (css_cons (cs_for (vs := [3]) (L2.passes_of rfl) (cis_any (ce_slice (see (ce_var 0)) co_none (co_some ce_int))) (pg_name (i := 3) sc_law_urn.nd rfl (by first | exact Or.inl rfl | exact Or.inr rfl)) (tg_var (i := 3))
      (css_one (cs_set (i := 2) (ce_bin opl_mod (see (ce_callTy cal_int T.z_int (cab_cons (see (ce_bin opl_add (see (ce_bin opl_mulA (see (ce_var 2)) (see ce_int))) (see (ce_var 3)))) cab_nil))) (see ce_int)) sc_law_urn.nd)))
    (css_cons (cs_set (i := 4) (ce_if (ct_cmp opl_lt (see (ce_var 1)) (see (ce_callB cal_len T.z_len (cab_cons (see (ce_var 0)) cab_nil)))) (ce_ix (hu1 hr) (see (ce_var 0)) (see (ce_var 1))) (ce_bin opl_add (see (ce_bin opl_mulA (see ce_int) (see (ce_var 1)))) (see ce_int))) sc_law_urn.nd)
    (css_one (cs_retJar (cf_lst (ca_cons (ce_bin opl_mod (see (ce_callTy cal_int T.z_int (cab_cons (see (ce_bin opl_add (see (ce_bin opl_add (see (ce_bin opl_mulA (see (ce_var 2)) (see ce_int))) (see (ce_bin opl_mulA (see (ce_var 4)) (see ce_int))))) (see ce_int))) cab_nil))) (see ce_int)) (ca_cons (ce_if (ct_cmp opl_ge (see (ce_callB cal_abs T.z_abs (cab_cons (see (ce_var 4)) cab_nil))) (see (ce_bin opl_pow (see ce_int) (see ce_int)))) (ce_callB cal_abs T.z_abs (cab_cons (see (ce_var 4)) cab_nil)) ce_int) (ca_cons ce_int ca_nil)))))))))
theorem sc_law : FnScope N_law ["script"] (defScope s_law) := ⟨rfl, rfl, rfl, by decide +kernel, rfl, by decide +kernel, by decide +kernel⟩
theorem ok_law (T : Txt K w mg ad) {fd : FuncData} (F : Fun K "law" "law" s_law ad.f_law fd) : FnG P w (gm K w ad).K mg base 7 ad.f_law fd ["script"] (lift (gm K w ad) sp_law) := by
  obtain ⟨fd_law_right, F_law_right, U_law_right⟩ := ok_law_right (P := P) (base := base) T
  have b_law_right : Binds K fd_law_right ["urn"] [] := U_law_right.binds (ps := ["urn"]) fun _ _ _ _ _ _ us hl => match us, hl with | [_], _ => rfl
  obtain ⟨fd_law_urn, F_law_urn, U_law_urn⟩ := ok_law_urn (P := P) (base := base) T
  have b_law_urn : Binds K fd_law_urn ["script", "lap"] [] := U_law_urn.binds (ps := ["script", "lap"]) fun _ _ _ _ _ _ us hl => match us, hl with | [_, _], _ => rfl
  refine okD (B := R_law) F sc_law len_law (fun cdv A outer s H E hg hr => ?_) pure_law
  have hg0 : (A.deeper (envOfC "law" (defScope s_law) s.heap.objs.size ad.f_law cdv)).guards = some [] := hg
  have hx0 : PassX (cxOf (L2.CX P w) P w K mg base N_law "law" (defScope s_law) ad.f_law cdv A outer s H E) E := L2.passes_call (L2.takes_of rfl rfl rfl rfl) fun _ _ _ _ h => h
  exact (css_one (cs_ret (see (ce_callB cal_all T.z_all (cab_cons (see (val (cf_lc (own := [("lap", 1)]) sc_law.nd (iE_of (cis_rng1 T.z_range (ca_cons (ce_callB cal_max2 T.z_max (cab_cons (see ce_int) (cab_cons (see (ce_callB cal_min2 T.z_min (cab_cons (see (ce_callB cal_len T.z_len (cab_cons (see (ce_var 0)) cab_nil))) (cab_cons (see ce_int) cab_nil)))) cab_nil))) ca_nil))) (blk_mk (by rfl)) (fun _ _ _ _ _ => (pg_name (i := 1) sc_law.nd rfl (by first | exact Or.inl rfl | exact Or.inr rfl))) (tg_var (i := 1)) (fun _ _ _ _ _ => cts_nil) (fun _ _ _ _ _ => (ce_call F_law_right T.m_law_right T.k_law_right b_law_right hg0 (hr.mono (by decide)) passL (ca_cons (ce_call F_law_urn T.m_law_urn T.k_law_urn b_law_urn hg0 (hr.mono (by decide)) passL (ca_cons (ce_var 0) (ca_cons (ce_var 1) ca_nil))) ca_nil)))))) cab_nil)))))
end
end K45
namespace K45
open PySem L2 DL PyProof.Rows
def v_f_law_pull (K : PySem.W.Frag) : Addr := He.ga K "_law_pull"
def v_f_law_one_of (K : PySem.W.Frag) : Addr := He.ga K "_law_one_of"
def v_f_law_mixed (K : PySem.W.Frag) : Addr := He.ga K "_law_mixed"
def v_f_law_spots (K : PySem.W.Frag) : Addr := He.ga K "_law_spots"
def v_f_law_near (K : PySem.W.Frag) : Addr := He.ga K "_law_near"
def v_f_law_sides (K : PySem.W.Frag) : Addr := He.ga K "_law_sides"
def v_f_law_seen (K : PySem.W.Frag) : Addr := He.ga K "_law_seen"
def v_f_check_board (K : PySem.W.Frag) : Addr := He.ga K "check_board"
def v_f_Board_contains (K : PySem.W.Frag) : Addr := He.ma K (He.ga K "Board") "__contains__"
def v_f_are_neighbours (K : PySem.W.Frag) : Addr := He.ga K "are_neighbours"
def v_f_is_fact (K : PySem.W.Frag) : Addr := He.ga K "is_fact"
def v_f_leads (K : PySem.W.Frag) : Addr := He.ga K "leads"
def v_f_is_let (K : PySem.W.Frag) : Addr := He.ga K "is_let"
def v_f_check_facts (K : PySem.W.Frag) : Addr := He.ga K "check_facts"
def v_f_Notes_init (K : PySem.W.Frag) : Addr := He.ma K (He.ga K "Notes") "__init__"
def v_E_Notes_init_0 (K : PySem.W.Frag) : Addr := He.dflAt ("Notes", some "__init__") 0 K
def v_f_is_within (K : PySem.W.Frag) : Addr := He.ga K "is_within"
def v_f_check_sizes (K : PySem.W.Frag) : Addr := He.ga K "check_sizes"
def v_f_settings_in (K : PySem.W.Frag) : Addr := He.ga K "settings_in"
def v_f_Board_init (K : PySem.W.Frag) : Addr := He.ma K (He.ga K "Board") "__init__"
def v_f_law_steps (K : PySem.W.Frag) : Addr := He.ga K "_law_steps"
def v_f_check_notes (K : PySem.W.Frag) : Addr := He.ga K "check_notes"
def v_f_check_setting (K : PySem.W.Frag) : Addr := He.ga K "check_setting"
def v_P_Notes_board (K : PySem.W.Frag) : Addr := He.ma K (He.ga K "Notes") "board"
def v_f_Notes_board (K : PySem.W.Frag) : Addr := HdM.getF K (He.ma K (He.ga K "Notes") "board")
def v_f_shortest_rows (K : PySem.W.Frag) : Addr := He.ga K "shortest_rows"
def v_P_Board_settings (K : PySem.W.Frag) : Addr := He.ma K (He.ga K "Board") "settings"
def v_f_Board_settings (K : PySem.W.Frag) : Addr := HdM.getF K (He.ma K (He.ga K "Board") "settings")
def v_f_ups (K : PySem.W.Frag) : Addr := He.ga K "ups"
def v_P_Notes_facts (K : PySem.W.Frag) : Addr := He.ma K (He.ga K "Notes") "facts"
def v_f_Notes_facts (K : PySem.W.Frag) : Addr := HdM.getF K (He.ma K (He.ga K "Notes") "facts")
def v_f_sure_way (K : PySem.W.Frag) : Addr := He.ga K "sure_way"
def v_f_Notes_known (K : PySem.W.Frag) : Addr := He.ma K (He.ga K "Notes") "known"
def v_f_law_right (K : PySem.W.Frag) : Addr := He.ga K "_law_right"
def v_f_law_urn (K : PySem.W.Frag) : Addr := He.ga K "_law_urn"
def v_f_law (K : PySem.W.Frag) : Addr := He.ga K "law"
def v_C_Board (K : PySem.W.Frag) : Addr := He.ga K "Board"
def v_C_Notes (K : PySem.W.Frag) : Addr := He.ga K "Notes"
def v_A_STANDS (K : PySem.W.Frag) : Addr := He.ga K "STANDS"
theorem is_Board {c : Nat} {b : Bool} (h : isi_Board (.obj c) = some b) : c = 1 ∨ c = 3 := by revert h; unfold isi_Board; split <;> intro h <;> simp_all
theorem is_Notes {c : Nat} {b : Bool} (h : isi_Notes (.obj c) = some b) : c = 1 ∨ c = 3 := by revert h; unfold isi_Notes; split <;> intro h <;> simp_all
def m_law_pull : HdM.DfM := ⟨v_f_law_pull, "_law_pull", "_law_pull", defArgs s_law_pull, defBody s_law_pull, defScope s_law_pull, []⟩
def m_law_one_of : HdM.DfM := ⟨v_f_law_one_of, "_law_one_of", "_law_one_of", defArgs s_law_one_of, defBody s_law_one_of, defScope s_law_one_of, []⟩
def m_law_mixed : HdM.DfM := ⟨v_f_law_mixed, "_law_mixed", "_law_mixed", defArgs s_law_mixed, defBody s_law_mixed, defScope s_law_mixed, []⟩
def m_law_spots : HdM.DfM := ⟨v_f_law_spots, "_law_spots", "_law_spots", defArgs s_law_spots, defBody s_law_spots, defScope s_law_spots, []⟩
def m_law_near : HdM.DfM := ⟨v_f_law_near, "_law_near", "_law_near", defArgs s_law_near, defBody s_law_near, defScope s_law_near, []⟩
def m_law_sides : HdM.DfM := ⟨v_f_law_sides, "_law_sides", "_law_sides", defArgs s_law_sides, defBody s_law_sides, defScope s_law_sides, []⟩
def m_law_seen : HdM.DfM := ⟨v_f_law_seen, "_law_seen", "_law_seen", defArgs s_law_seen, defBody s_law_seen, defScope s_law_seen, []⟩
def m_check_board : HdM.DfM := ⟨v_f_check_board, "check_board", "check_board", defArgs s_check_board, defBody s_check_board, defScope s_check_board, []⟩
def m_Board_contains : HdM.DfM := ⟨v_f_Board_contains, "__contains__", "Board.__contains__", defArgs s_Board_contains, defBody s_Board_contains, defScope s_Board_contains, []⟩
def m_are_neighbours : HdM.DfM := ⟨v_f_are_neighbours, "are_neighbours", "are_neighbours", defArgs s_are_neighbours, defBody s_are_neighbours, defScope s_are_neighbours, []⟩
def m_is_fact : HdM.DfM := ⟨v_f_is_fact, "is_fact", "is_fact", defArgs s_is_fact, defBody s_is_fact, defScope s_is_fact, []⟩
def m_leads : HdM.DfM := ⟨v_f_leads, "leads", "leads", defArgs s_leads, defBody s_leads, defScope s_leads, []⟩
def m_is_let : HdM.DfM := ⟨v_f_is_let, "is_let", "is_let", defArgs s_is_let, defBody s_is_let, defScope s_is_let, []⟩
def m_check_facts : HdM.DfM := ⟨v_f_check_facts, "check_facts", "check_facts", defArgs s_check_facts, defBody s_check_facts, defScope s_check_facts, []⟩
def m_Notes_init : HdM.DfM := ⟨v_f_Notes_init, "__init__", "Notes.__init__", defArgs s_Notes_init, defBody s_Notes_init, defScope s_Notes_init, [.adr v_E_Notes_init_0]⟩
def m_is_within : HdM.DfM := ⟨v_f_is_within, "is_within", "is_within", defArgs s_is_within, defBody s_is_within, defScope s_is_within, []⟩
def m_check_sizes : HdM.DfM := ⟨v_f_check_sizes, "check_sizes", "check_sizes", defArgs s_check_sizes, defBody s_check_sizes, defScope s_check_sizes, []⟩
def m_settings_in : HdM.DfM := ⟨v_f_settings_in, "settings_in", "settings_in", defArgs s_settings_in, defBody s_settings_in, defScope s_settings_in, []⟩
def m_Board_init : HdM.DfM := ⟨v_f_Board_init, "__init__", "Board.__init__", defArgs s_Board_init, defBody s_Board_init, defScope s_Board_init, []⟩
def m_law_steps : HdM.DfM := ⟨v_f_law_steps, "_law_steps", "_law_steps", defArgs s_law_steps, defBody s_law_steps, defScope s_law_steps, []⟩
def m_check_notes : HdM.DfM := ⟨v_f_check_notes, "check_notes", "check_notes", defArgs s_check_notes, defBody s_check_notes, defScope s_check_notes, []⟩
def m_check_setting : HdM.DfM := ⟨v_f_check_setting, "check_setting", "check_setting", defArgs s_check_setting, defBody s_check_setting, defScope s_check_setting, []⟩
def m_Notes_board : HdM.DfM := ⟨v_f_Notes_board, "board", "Notes.board", defArgs s_Notes_board, defBody s_Notes_board, defScope s_Notes_board, []⟩
def m_shortest_rows : HdM.DfM := ⟨v_f_shortest_rows, "shortest_rows", "shortest_rows", defArgs s_shortest_rows, defBody s_shortest_rows, defScope s_shortest_rows, []⟩
def m_Board_settings : HdM.DfM := ⟨v_f_Board_settings, "settings", "Board.settings", defArgs s_Board_settings, defBody s_Board_settings, defScope s_Board_settings, []⟩
def m_ups : HdM.DfM := ⟨v_f_ups, "ups", "ups", defArgs s_ups, defBody s_ups, defScope s_ups, []⟩
def m_Notes_facts : HdM.DfM := ⟨v_f_Notes_facts, "facts", "Notes.facts", defArgs s_Notes_facts, defBody s_Notes_facts, defScope s_Notes_facts, []⟩
def m_sure_way : HdM.DfM := ⟨v_f_sure_way, "sure_way", "sure_way", defArgs s_sure_way, defBody s_sure_way, defScope s_sure_way, []⟩
def m_Notes_known : HdM.DfM := ⟨v_f_Notes_known, "known", "Notes.known", defArgs s_Notes_known, defBody s_Notes_known, defScope s_Notes_known, []⟩
def m_law_right : HdM.DfM := ⟨v_f_law_right, "_law_right", "_law_right", defArgs s_law_right, defBody s_law_right, defScope s_law_right, []⟩
def m_law_urn : HdM.DfM := ⟨v_f_law_urn, "_law_urn", "_law_urn", defArgs s_law_urn, defBody s_law_urn, defScope s_law_urn, []⟩
def m_law : HdM.DfM := ⟨v_f_law, "law", "law", defArgs s_law, defBody s_law, defScope s_law, []⟩
def q_0 : PySem.W.Frag → Bool := fun K => decide (PySem.W.nsIn K mainGlobals "_law_pull" = some (some (.ref (v_f_law_pull K))))
def q_1 : PySem.W.Frag → Bool := fun K => decide (PySem.W.keepIn K (.ref (v_f_law_pull K)) = true)
def q_2 : PySem.W.Frag → Bool := fun K => decide (PySem.W.nsIn K mainGlobals "_law_one_of" = some (some (.ref (v_f_law_one_of K))))
def q_3 : PySem.W.Frag → Bool := fun K => decide (PySem.W.keepIn K (.ref (v_f_law_one_of K)) = true)
def q_4 : PySem.W.Frag → Bool := fun K => decide (PySem.W.nsIn K mainGlobals "_law_mixed" = some (some (.ref (v_f_law_mixed K))))
def q_5 : PySem.W.Frag → Bool := fun K => decide (PySem.W.keepIn K (.ref (v_f_law_mixed K)) = true)
def q_6 : PySem.W.Frag → Bool := fun K => decide (PySem.W.nsIn K mainGlobals "_law_spots" = some (some (.ref (v_f_law_spots K))))
def q_7 : PySem.W.Frag → Bool := fun K => decide (PySem.W.keepIn K (.ref (v_f_law_spots K)) = true)
def q_8 : PySem.W.Frag → Bool := fun K => decide (PySem.W.nsIn K mainGlobals "_law_near" = some (some (.ref (v_f_law_near K))))
def q_9 : PySem.W.Frag → Bool := fun K => decide (PySem.W.keepIn K (.ref (v_f_law_near K)) = true)
def q_10 : PySem.W.Frag → Bool := fun K => decide (PySem.W.nsIn K mainGlobals "_law_sides" = some (some (.ref (v_f_law_sides K))))
def q_11 : PySem.W.Frag → Bool := fun K => decide (PySem.W.keepIn K (.ref (v_f_law_sides K)) = true)
def q_12 : PySem.W.Frag → Bool := fun K => decide (PySem.W.nsIn K mainGlobals "_law_seen" = some (some (.ref (v_f_law_seen K))))
def q_13 : PySem.W.Frag → Bool := fun K => decide (PySem.W.keepIn K (.ref (v_f_law_seen K)) = true)
def q_14 : PySem.W.Frag → Bool := fun K => decide (PySem.W.nsIn K mainGlobals "check_board" = some (some (.ref (v_f_check_board K))))
def q_15 : PySem.W.Frag → Bool := fun K => decide (PySem.W.keepIn K (.ref (v_f_check_board K)) = true)
def q_16 : PySem.W.Frag → Bool := fun K => decide (PySem.W.findIn K (.ref (v_C_Board K)) "__contains__" = some (some (.ref (v_f_Board_contains K))))
def q_17 : PySem.W.Frag → Bool := fun K => decide (PySem.W.isFn K (.ref (v_f_Board_contains K)) = true)
def q_18 : PySem.W.Frag → Bool := fun K => decide (PySem.W.keepIn K (.ref (v_f_Board_contains K)) = true)
def q_19 : PySem.W.Frag → Bool := fun K => decide (PySem.W.nsIn K mainGlobals "are_neighbours" = some (some (.ref (v_f_are_neighbours K))))
def q_20 : PySem.W.Frag → Bool := fun K => decide (PySem.W.keepIn K (.ref (v_f_are_neighbours K)) = true)
def q_21 : PySem.W.Frag → Bool := fun K => decide (PySem.W.nsIn K mainGlobals "is_fact" = some (some (.ref (v_f_is_fact K))))
def q_22 : PySem.W.Frag → Bool := fun K => decide (PySem.W.keepIn K (.ref (v_f_is_fact K)) = true)
def q_23 : PySem.W.Frag → Bool := fun K => decide (PySem.W.nsIn K mainGlobals "leads" = some (some (.ref (v_f_leads K))))
def q_24 : PySem.W.Frag → Bool := fun K => decide (PySem.W.keepIn K (.ref (v_f_leads K)) = true)
def q_25 : PySem.W.Frag → Bool := fun K => decide (PySem.W.nsIn K mainGlobals "is_let" = some (some (.ref (v_f_is_let K))))
def q_26 : PySem.W.Frag → Bool := fun K => decide (PySem.W.keepIn K (.ref (v_f_is_let K)) = true)
def q_27 : PySem.W.Frag → Bool := fun K => decide (PySem.W.nsIn K mainGlobals "check_facts" = some (some (.ref (v_f_check_facts K))))
def q_28 : PySem.W.Frag → Bool := fun K => decide (PySem.W.keepIn K (.ref (v_f_check_facts K)) = true)
def q_29 : PySem.W.Frag → Bool := fun K => decide (PySem.W.findIn K (.ref (v_C_Notes K)) "__init__" = some (some (.ref (v_f_Notes_init K))))
def q_30 : PySem.W.Frag → Bool := fun K => decide (PySem.W.isFn K (.ref (v_f_Notes_init K)) = true)
def q_31 : PySem.W.Frag → Bool := fun K => HdM.unitB K (v_E_Notes_init_0 K)
def q_32 : PySem.W.Frag → Bool := fun K => decide (PySem.W.keepIn K (.ref (v_f_Notes_init K)) = true)
def q_33 : PySem.W.Frag → Bool := fun K => decide (PySem.W.nsIn K mainGlobals "is_within" = some (some (.ref (v_f_is_within K))))
def q_34 : PySem.W.Frag → Bool := fun K => decide (PySem.W.keepIn K (.ref (v_f_is_within K)) = true)
def q_35 : PySem.W.Frag → Bool := fun K => decide (PySem.W.nsIn K mainGlobals "check_sizes" = some (some (.ref (v_f_check_sizes K))))
def q_36 : PySem.W.Frag → Bool := fun K => decide (PySem.W.keepIn K (.ref (v_f_check_sizes K)) = true)
def q_37 : PySem.W.Frag → Bool := fun K => decide (PySem.W.nsIn K mainGlobals "settings_in" = some (some (.ref (v_f_settings_in K))))
def q_38 : PySem.W.Frag → Bool := fun K => decide (PySem.W.keepIn K (.ref (v_f_settings_in K)) = true)
def q_39 : PySem.W.Frag → Bool := fun K => decide (PySem.W.findIn K (.ref (v_C_Board K)) "__init__" = some (some (.ref (v_f_Board_init K))))
def q_40 : PySem.W.Frag → Bool := fun K => decide (PySem.W.isFn K (.ref (v_f_Board_init K)) = true)
def q_41 : PySem.W.Frag → Bool := fun K => decide (PySem.W.keepIn K (.ref (v_f_Board_init K)) = true)
def q_42 : PySem.W.Frag → Bool := fun K => decide (PySem.W.nsIn K mainGlobals "_law_steps" = some (some (.ref (v_f_law_steps K))))
def q_43 : PySem.W.Frag → Bool := fun K => decide (PySem.W.keepIn K (.ref (v_f_law_steps K)) = true)
def q_44 : PySem.W.Frag → Bool := fun K => decide (PySem.W.nsIn K mainGlobals "check_notes" = some (some (.ref (v_f_check_notes K))))
def q_45 : PySem.W.Frag → Bool := fun K => decide (PySem.W.keepIn K (.ref (v_f_check_notes K)) = true)
def q_46 : PySem.W.Frag → Bool := fun K => decide (PySem.W.nsIn K mainGlobals "check_setting" = some (some (.ref (v_f_check_setting K))))
def q_47 : PySem.W.Frag → Bool := fun K => decide (PySem.W.keepIn K (.ref (v_f_check_setting K)) = true)
def q_48 : PySem.W.Frag → Bool := fun K => decide (PySem.W.findIn K (.ref (v_C_Notes K)) "board" = some (some (.ref (v_P_Notes_board K))))
def q_49 : PySem.W.Frag → Bool := fun K => HdM.getB K (v_P_Notes_board K)
def q_50 : PySem.W.Frag → Bool := fun K => decide (PySem.W.specialIn K (.ref (v_P_Notes_board K)) "__get__" = some (some (.builtin "property.__get__")))
def q_51 : PySem.W.Frag → Bool := fun K => decide (PySem.W.takesIn K (.ref (v_P_Notes_board K)) = some true)
def q_52 : PySem.W.Frag → Bool := fun K => decide (PySem.W.keepIn K (.ref (v_f_Notes_board K)) = true)
def q_53 : PySem.W.Frag → Bool := fun K => decide (PySem.W.nsIn K mainGlobals "shortest_rows" = some (some (.ref (v_f_shortest_rows K))))
def q_54 : PySem.W.Frag → Bool := fun K => decide (PySem.W.keepIn K (.ref (v_f_shortest_rows K)) = true)
def q_55 : PySem.W.Frag → Bool := fun K => decide (PySem.W.findIn K (.ref (v_C_Board K)) "settings" = some (some (.ref (v_P_Board_settings K))))
def q_56 : PySem.W.Frag → Bool := fun K => HdM.getB K (v_P_Board_settings K)
def q_57 : PySem.W.Frag → Bool := fun K => decide (PySem.W.specialIn K (.ref (v_P_Board_settings K)) "__get__" = some (some (.builtin "property.__get__")))
def q_58 : PySem.W.Frag → Bool := fun K => decide (PySem.W.takesIn K (.ref (v_P_Board_settings K)) = some true)
def q_59 : PySem.W.Frag → Bool := fun K => decide (PySem.W.keepIn K (.ref (v_f_Board_settings K)) = true)
def q_60 : PySem.W.Frag → Bool := fun K => decide (PySem.W.nsIn K mainGlobals "ups" = some (some (.ref (v_f_ups K))))
def q_61 : PySem.W.Frag → Bool := fun K => decide (PySem.W.keepIn K (.ref (v_f_ups K)) = true)
def q_62 : PySem.W.Frag → Bool := fun K => decide (PySem.W.findIn K (.ref (v_C_Notes K)) "facts" = some (some (.ref (v_P_Notes_facts K))))
def q_63 : PySem.W.Frag → Bool := fun K => HdM.getB K (v_P_Notes_facts K)
def q_64 : PySem.W.Frag → Bool := fun K => decide (PySem.W.specialIn K (.ref (v_P_Notes_facts K)) "__get__" = some (some (.builtin "property.__get__")))
def q_65 : PySem.W.Frag → Bool := fun K => decide (PySem.W.takesIn K (.ref (v_P_Notes_facts K)) = some true)
def q_66 : PySem.W.Frag → Bool := fun K => decide (PySem.W.keepIn K (.ref (v_f_Notes_facts K)) = true)
def q_67 : PySem.W.Frag → Bool := fun K => decide (PySem.W.nsIn K mainGlobals "sure_way" = some (some (.ref (v_f_sure_way K))))
def q_68 : PySem.W.Frag → Bool := fun K => decide (PySem.W.keepIn K (.ref (v_f_sure_way K)) = true)
def q_69 : PySem.W.Frag → Bool := fun K => decide (PySem.W.findIn K (.ref (v_C_Notes K)) "known" = some (some (.ref (v_f_Notes_known K))))
def q_70 : PySem.W.Frag → Bool := fun K => decide (PySem.W.isFn K (.ref (v_f_Notes_known K)) = true)
def q_71 : PySem.W.Frag → Bool := fun K => decide (PySem.W.keepIn K (.ref (v_f_Notes_known K)) = true)
def q_72 : PySem.W.Frag → Bool := fun K => decide (PySem.W.nsIn K mainGlobals "_law_right" = some (some (.ref (v_f_law_right K))))
def q_73 : PySem.W.Frag → Bool := fun K => decide (PySem.W.keepIn K (.ref (v_f_law_right K)) = true)
def q_74 : PySem.W.Frag → Bool := fun K => decide (PySem.W.nsIn K mainGlobals "_law_urn" = some (some (.ref (v_f_law_urn K))))
def q_75 : PySem.W.Frag → Bool := fun K => decide (PySem.W.keepIn K (.ref (v_f_law_urn K)) = true)
def q_76 : PySem.W.Frag → Bool := fun K => decide (PySem.W.nsIn K mainGlobals "law" = some (some (.ref (v_f_law K))))
def q_77 : PySem.W.Frag → Bool := fun K => decide (PySem.W.keepIn K (.ref (v_f_law K)) = true)
def q_78 : PySem.W.Frag → Bool := fun K => decide (PySem.W.nsIn K mainGlobals "Board" = some (some (.ref (v_C_Board K))))
def q_79 : PySem.W.Frag → Bool := fun K => decide (PySem.W.nsIn K mainGlobals "Notes" = some (some (.ref (v_C_Notes K))))
def q_80 : PySem.W.Frag → Bool := fun K => decide (PySem.W.plainGet K (v_C_Board K) Str.empty = true)
def q_81 : PySem.W.Frag → Bool := fun K => decide (PySem.W.hasDictIn K (v_C_Board K) = true)
def q_82 : PySem.W.Frag → Bool := fun K => decide (PySem.W.plainOver K (v_C_Board K) = true)
def q_83 : PySem.W.Frag → Bool := fun K => decide (PySem.W.findIn K (.ref (v_C_Board K)) "__setattr__" = some (some (.builtin "object.__setattr__")))
def q_84 : PySem.W.Frag → Bool := fun K => decide (PySem.W.findIn K (.ref (v_C_Board K)) "__class__" = some (some (.builtin "object.__class__")))
def q_85 : PySem.W.Frag → Bool := fun K => decide (PySem.W.mroIn K (v_C_Board K) (.type "object") = some true)
def q_86 : PySem.W.Frag → Bool := fun K => decide (PySem.W.makesIn K (v_C_Board K) = true)
def q_87 : PySem.W.Frag → Bool := fun K => decide (PySem.W.keepIn K (.ref (v_C_Board K)) = true)
def q_88 : PySem.W.Frag → Bool := fun K => decide (PySem.W.findIn K (.ref (v_C_Board K)) "both" = some none)
def q_89 : PySem.W.Frag → Bool := fun K => decide (PySem.W.plainGet K (v_C_Notes K) Str.empty = true)
def q_90 : PySem.W.Frag → Bool := fun K => decide (PySem.W.hasDictIn K (v_C_Notes K) = true)
def q_91 : PySem.W.Frag → Bool := fun K => decide (PySem.W.plainOver K (v_C_Notes K) = true)
def q_92 : PySem.W.Frag → Bool := fun K => decide (PySem.W.findIn K (.ref (v_C_Notes K)) "__setattr__" = some (some (.builtin "object.__setattr__")))
def q_93 : PySem.W.Frag → Bool := fun K => decide (PySem.W.findIn K (.ref (v_C_Notes K)) "__class__" = some (some (.builtin "object.__class__")))
def q_94 : PySem.W.Frag → Bool := fun K => decide (PySem.W.mroIn K (v_C_Notes K) (.type "object") = some true)
def q_95 : PySem.W.Frag → Bool := fun K => decide (PySem.W.makesIn K (v_C_Notes K) = true)
def q_96 : PySem.W.Frag → Bool := fun K => decide (PySem.W.keepIn K (.ref (v_C_Notes K)) = true)
def q_97 : PySem.W.Frag → Bool := fun K => decide (PySem.W.findIn K (.ref (v_C_Notes K)) "both" = some none)
def q_98 : PySem.W.Frag → Bool := fun K => decide (PySem.W.specialIn K (.builtin "object.__class__") "__get__" = some (some (.builtin "getset_descriptor.__get__")))
def q_99 : PySem.W.Frag → Bool := fun K => decide (PySem.W.takesIn K (.builtin "object.__class__") = some true)
def q_100 : PySem.W.Frag → Bool := fun K => HdM.intB K "MOST_SETTINGS" 48
def q_101 : PySem.W.Frag → Bool := fun K => HdM.intB K "MOST_SWITCHES" 5
def q_102 : PySem.W.Frag → Bool := fun K => decide (PySem.W.nsIn K mainGlobals "STANDS" = some (some (.ref (v_A_STANDS K))))
def q_103 : PySem.W.Frag → Bool := fun K => HdM.dicB K (v_A_STANDS K) (([.inl 2, .inl 3] : List Key).zip ([.str "01", .str "012"] : List V))
def q_104 : PySem.W.Frag → Bool := fun K => decide (PySem.W.kitOne K (.type "NoneType") (.ref (v_C_Board K)) = some false)
def q_105 : PySem.W.Frag → Bool := fun K => decide (PySem.W.kitOne K (.type "bool") (.ref (v_C_Board K)) = some false)
def q_106 : PySem.W.Frag → Bool := fun K => decide (PySem.W.kitOne K (.type "int") (.ref (v_C_Board K)) = some false)
def q_107 : PySem.W.Frag → Bool := fun K => decide (PySem.W.kitOne K (.type "str") (.ref (v_C_Board K)) = some false)
def q_108 : PySem.W.Frag → Bool := fun K => decide (PySem.W.kitOne K (.type "tuple") (.ref (v_C_Board K)) = some false)
def q_109 : PySem.W.Frag → Bool := fun K => decide (PySem.W.kitOne K (.type "list") (.ref (v_C_Board K)) = some false)
def q_110 : PySem.W.Frag → Bool := fun K => decide (PySem.W.kitOne K (.type "dict") (.ref (v_C_Board K)) = some false)
def q_111 : PySem.W.Frag → Bool := fun K => decide (PySem.W.kitOne K (.ref (v_C_Board K)) (.ref (v_C_Board K)) = some true)
def q_112 : PySem.W.Frag → Bool := fun K => decide (PySem.W.kitOne K (.ref (v_C_Notes K)) (.ref (v_C_Board K)) = some false)
def q_113 : PySem.W.Frag → Bool := fun K => decide (PySem.W.kitOne K (.type "NoneType") (.ref (v_C_Notes K)) = some false)
def q_114 : PySem.W.Frag → Bool := fun K => decide (PySem.W.kitOne K (.type "bool") (.ref (v_C_Notes K)) = some false)
def q_115 : PySem.W.Frag → Bool := fun K => decide (PySem.W.kitOne K (.type "int") (.ref (v_C_Notes K)) = some false)
def q_116 : PySem.W.Frag → Bool := fun K => decide (PySem.W.kitOne K (.type "str") (.ref (v_C_Notes K)) = some false)
def q_117 : PySem.W.Frag → Bool := fun K => decide (PySem.W.kitOne K (.type "tuple") (.ref (v_C_Notes K)) = some false)
def q_118 : PySem.W.Frag → Bool := fun K => decide (PySem.W.kitOne K (.type "list") (.ref (v_C_Notes K)) = some false)
def q_119 : PySem.W.Frag → Bool := fun K => decide (PySem.W.kitOne K (.type "dict") (.ref (v_C_Notes K)) = some false)
def q_120 : PySem.W.Frag → Bool := fun K => decide (PySem.W.kitOne K (.ref (v_C_Board K)) (.ref (v_C_Notes K)) = some false)
def q_121 : PySem.W.Frag → Bool := fun K => decide (PySem.W.kitOne K (.ref (v_C_Notes K)) (.ref (v_C_Notes K)) = some true)
def q_122 : PySem.W.Frag → Bool := fun K => decide (PySem.W.nsIn K mainGlobals "abs" = some none)
def q_123 : PySem.W.Frag → Bool := fun K => decide (PySem.W.nsIn K mainGlobals "all" = some none)
def q_124 : PySem.W.Frag → Bool := fun K => decide (PySem.W.nsIn K mainGlobals "bool" = some none)
def q_125 : PySem.W.Frag → Bool := fun K => decide (PySem.W.nsIn K mainGlobals "divmod" = some none)
def q_126 : PySem.W.Frag → Bool := fun K => decide (PySem.W.nsIn K mainGlobals "int" = some none)
def q_127 : PySem.W.Frag → Bool := fun K => decide (PySem.W.nsIn K mainGlobals "isinstance" = some none)
def q_128 : PySem.W.Frag → Bool := fun K => decide (PySem.W.nsIn K mainGlobals "len" = some none)
def q_129 : PySem.W.Frag → Bool := fun K => decide (PySem.W.nsIn K mainGlobals "max" = some none)
def q_130 : PySem.W.Frag → Bool := fun K => decide (PySem.W.nsIn K mainGlobals "min" = some none)
def q_131 : PySem.W.Frag → Bool := fun K => decide (PySem.W.nsIn K mainGlobals "range" = some none)
def q_132 : PySem.W.Frag → Bool := fun K => decide (PySem.W.nsIn K mainGlobals "set" = some none)
def q_133 : PySem.W.Frag → Bool := fun K => decide (PySem.W.nsIn K mainGlobals "sorted" = some none)
def q_134 : PySem.W.Frag → Bool := fun K => decide (PySem.W.nsIn K mainGlobals "str" = some none)
def q_135 : PySem.W.Frag → Bool := fun K => decide (PySem.W.nsIn K mainGlobals "tuple" = some none)
def fs_0 : List (PySem.W.Frag → Bool) := [q_0, q_1, q_2, q_3, q_4, q_5, q_6, q_7, q_8, q_9, q_10, q_11, q_12, q_13, q_14, q_15, q_16, q_17, q_18, q_19, q_20, q_21, q_22, q_23, q_24]
def fs_1 : List (PySem.W.Frag → Bool) := [q_25, q_26, q_27, q_28, q_29, q_30, q_31, q_32, q_33, q_34, q_35, q_36, q_37, q_38, q_39, q_40, q_41, q_42, q_43, q_44, q_45, q_46, q_47, q_48, q_49]
def fs_2 : List (PySem.W.Frag → Bool) := [q_50, q_51, q_52, q_53, q_54, q_55, q_56, q_57, q_58, q_59, q_60, q_61, q_62, q_63, q_64, q_65, q_66, q_67, q_68, q_69, q_70, q_71, q_72, q_73, q_74]
def fs_3 : List (PySem.W.Frag → Bool) := [q_75, q_76, q_77, q_78, q_79, q_80, q_81, q_82, q_83, q_84, q_85, q_86, q_87, q_88, q_89, q_90, q_91, q_92, q_93, q_94, q_95, q_96, q_97, q_98, q_99]
def fs_4 : List (PySem.W.Frag → Bool) := [q_100, q_101, q_102, q_103, q_104, q_105, q_106, q_107, q_108, q_109, q_110, q_111, q_112, q_113, q_114, q_115, q_116, q_117, q_118, q_119, q_120, q_121, q_122, q_123, q_124]
def fs_5 : List (PySem.W.Frag → Bool) := [q_125, q_126, q_127, q_128, q_129, q_130, q_131, q_132, q_133, q_134, q_135]
def fs : List (PySem.W.Frag → Bool) := fs_0 ++ (fs_1 ++ (fs_2 ++ (fs_3 ++ (fs_4 ++ (fs_5)))))
def fn_0 : List HdM.DfM := [m_law_pull, m_law_one_of, m_law_mixed, m_law_spots, m_law_near, m_law_sides, m_law_seen, m_check_board, m_Board_contains, m_are_neighbours, m_is_fact, m_leads, m_is_let, m_check_facts, m_Notes_init, m_is_within, m_check_sizes, m_settings_in, m_Board_init, m_law_steps, m_check_notes, m_check_setting, m_Notes_board, m_shortest_rows, m_Board_settings]
def fn_1 : List HdM.DfM := [m_ups, m_Notes_facts, m_sure_way, m_Notes_known, m_law_right, m_law_urn, m_law]
def fn : List HdM.DfM := fn_0 ++ (fn_1)
def dc : List (PySem.W.Frag → Addr) := [v_A_STANDS]
def hs : List (List Key) := [[.inl 2, .inl 3]]
theorem all_mk {l : PySem.W.OpenLaw} {w : World} {K : PySem.W.Frag} {h : Heap} {mg : Str → Option Value} {fa : Addr} (X : K.In h) (c : HdM.SaysM fs fn dc hs w K) (G : h.Ns mainGlobals mg) (hfa : mg "law" = some (.ref fa))
    : ∃ (G : Gm) (fd : FuncData), G.K = K ∧ G.tb = [] ∧ (∀ (s : Shared) (v : Value), BindsTo s fd ⟨[v], []⟩ [("script", v)]) ∧ ∀ base : Heap, K.In base → base.Ns mainGlobals mg → FnG l.prog w K mg base 7 fa fd ["script"] (lift G sp_law) := by
  have a_law_pull : PySem.W.nsIn K mainGlobals "_law_pull" = some (some (.ref (v_f_law_pull K))) := of_decide_eq_true (c.fact 0 (f := q_0))
  have k_law_pull : PySem.W.keepIn K (.ref (v_f_law_pull K)) = true := of_decide_eq_true (c.fact 1 (f := q_1))
  have a_law_one_of : PySem.W.nsIn K mainGlobals "_law_one_of" = some (some (.ref (v_f_law_one_of K))) := of_decide_eq_true (c.fact 2 (f := q_2))
  have k_law_one_of : PySem.W.keepIn K (.ref (v_f_law_one_of K)) = true := of_decide_eq_true (c.fact 3 (f := q_3))
  have a_law_mixed : PySem.W.nsIn K mainGlobals "_law_mixed" = some (some (.ref (v_f_law_mixed K))) := of_decide_eq_true (c.fact 4 (f := q_4))
  have k_law_mixed : PySem.W.keepIn K (.ref (v_f_law_mixed K)) = true := of_decide_eq_true (c.fact 5 (f := q_5))
  have a_law_spots : PySem.W.nsIn K mainGlobals "_law_spots" = some (some (.ref (v_f_law_spots K))) := of_decide_eq_true (c.fact 6 (f := q_6))
  have k_law_spots : PySem.W.keepIn K (.ref (v_f_law_spots K)) = true := of_decide_eq_true (c.fact 7 (f := q_7))
  have a_law_near : PySem.W.nsIn K mainGlobals "_law_near" = some (some (.ref (v_f_law_near K))) := of_decide_eq_true (c.fact 8 (f := q_8))
  have k_law_near : PySem.W.keepIn K (.ref (v_f_law_near K)) = true := of_decide_eq_true (c.fact 9 (f := q_9))
  have a_law_sides : PySem.W.nsIn K mainGlobals "_law_sides" = some (some (.ref (v_f_law_sides K))) := of_decide_eq_true (c.fact 10 (f := q_10))
  have k_law_sides : PySem.W.keepIn K (.ref (v_f_law_sides K)) = true := of_decide_eq_true (c.fact 11 (f := q_11))
  have a_law_seen : PySem.W.nsIn K mainGlobals "_law_seen" = some (some (.ref (v_f_law_seen K))) := of_decide_eq_true (c.fact 12 (f := q_12))
  have k_law_seen : PySem.W.keepIn K (.ref (v_f_law_seen K)) = true := of_decide_eq_true (c.fact 13 (f := q_13))
  have a_check_board : PySem.W.nsIn K mainGlobals "check_board" = some (some (.ref (v_f_check_board K))) := of_decide_eq_true (c.fact 14 (f := q_14))
  have k_check_board : PySem.W.keepIn K (.ref (v_f_check_board K)) = true := of_decide_eq_true (c.fact 15 (f := q_15))
  have a_Board_contains : PySem.W.findIn K (.ref (v_C_Board K)) "__contains__" = some (some (.ref (v_f_Board_contains K))) := of_decide_eq_true (c.fact 16 (f := q_16))
  have i_Board_contains : PySem.W.isFn K (.ref (v_f_Board_contains K)) = true := of_decide_eq_true (c.fact 17 (f := q_17))
  have k_Board_contains : PySem.W.keepIn K (.ref (v_f_Board_contains K)) = true := of_decide_eq_true (c.fact 18 (f := q_18))
  have a_are_neighbours : PySem.W.nsIn K mainGlobals "are_neighbours" = some (some (.ref (v_f_are_neighbours K))) := of_decide_eq_true (c.fact 19 (f := q_19))
  have k_are_neighbours : PySem.W.keepIn K (.ref (v_f_are_neighbours K)) = true := of_decide_eq_true (c.fact 20 (f := q_20))
  have a_is_fact : PySem.W.nsIn K mainGlobals "is_fact" = some (some (.ref (v_f_is_fact K))) := of_decide_eq_true (c.fact 21 (f := q_21))
  have k_is_fact : PySem.W.keepIn K (.ref (v_f_is_fact K)) = true := of_decide_eq_true (c.fact 22 (f := q_22))
  have a_leads : PySem.W.nsIn K mainGlobals "leads" = some (some (.ref (v_f_leads K))) := of_decide_eq_true (c.fact 23 (f := q_23))
  have k_leads : PySem.W.keepIn K (.ref (v_f_leads K)) = true := of_decide_eq_true (c.fact 24 (f := q_24))
  have a_is_let : PySem.W.nsIn K mainGlobals "is_let" = some (some (.ref (v_f_is_let K))) := of_decide_eq_true (c.fact 25 (f := q_25))
  have k_is_let : PySem.W.keepIn K (.ref (v_f_is_let K)) = true := of_decide_eq_true (c.fact 26 (f := q_26))
  have a_check_facts : PySem.W.nsIn K mainGlobals "check_facts" = some (some (.ref (v_f_check_facts K))) := of_decide_eq_true (c.fact 27 (f := q_27))
  have k_check_facts : PySem.W.keepIn K (.ref (v_f_check_facts K)) = true := of_decide_eq_true (c.fact 28 (f := q_28))
  have a_Notes_init : PySem.W.findIn K (.ref (v_C_Notes K)) "__init__" = some (some (.ref (v_f_Notes_init K))) := of_decide_eq_true (c.fact 29 (f := q_29))
  have i_Notes_init : PySem.W.isFn K (.ref (v_f_Notes_init K)) = true := of_decide_eq_true (c.fact 30 (f := q_30))
  obtain ⟨un_14_0, us_14_0, u_Notes_init_0⟩ := HdM.unit_ok (show HdM.unitB K (v_E_Notes_init_0 K) = true from c.fact 31 (f := q_31))
  have k_Notes_init : PySem.W.keepIn K (.ref (v_f_Notes_init K)) = true := of_decide_eq_true (c.fact 32 (f := q_32))
  have a_is_within : PySem.W.nsIn K mainGlobals "is_within" = some (some (.ref (v_f_is_within K))) := of_decide_eq_true (c.fact 33 (f := q_33))
  have k_is_within : PySem.W.keepIn K (.ref (v_f_is_within K)) = true := of_decide_eq_true (c.fact 34 (f := q_34))
  have a_check_sizes : PySem.W.nsIn K mainGlobals "check_sizes" = some (some (.ref (v_f_check_sizes K))) := of_decide_eq_true (c.fact 35 (f := q_35))
  have k_check_sizes : PySem.W.keepIn K (.ref (v_f_check_sizes K)) = true := of_decide_eq_true (c.fact 36 (f := q_36))
  have a_settings_in : PySem.W.nsIn K mainGlobals "settings_in" = some (some (.ref (v_f_settings_in K))) := of_decide_eq_true (c.fact 37 (f := q_37))
  have k_settings_in : PySem.W.keepIn K (.ref (v_f_settings_in K)) = true := of_decide_eq_true (c.fact 38 (f := q_38))
  have a_Board_init : PySem.W.findIn K (.ref (v_C_Board K)) "__init__" = some (some (.ref (v_f_Board_init K))) := of_decide_eq_true (c.fact 39 (f := q_39))
  have i_Board_init : PySem.W.isFn K (.ref (v_f_Board_init K)) = true := of_decide_eq_true (c.fact 40 (f := q_40))
  have k_Board_init : PySem.W.keepIn K (.ref (v_f_Board_init K)) = true := of_decide_eq_true (c.fact 41 (f := q_41))
  have a_law_steps : PySem.W.nsIn K mainGlobals "_law_steps" = some (some (.ref (v_f_law_steps K))) := of_decide_eq_true (c.fact 42 (f := q_42))
  have k_law_steps : PySem.W.keepIn K (.ref (v_f_law_steps K)) = true := of_decide_eq_true (c.fact 43 (f := q_43))
  have a_check_notes : PySem.W.nsIn K mainGlobals "check_notes" = some (some (.ref (v_f_check_notes K))) := of_decide_eq_true (c.fact 44 (f := q_44))
  have k_check_notes : PySem.W.keepIn K (.ref (v_f_check_notes K)) = true := of_decide_eq_true (c.fact 45 (f := q_45))
  have a_check_setting : PySem.W.nsIn K mainGlobals "check_setting" = some (some (.ref (v_f_check_setting K))) := of_decide_eq_true (c.fact 46 (f := q_46))
  have k_check_setting : PySem.W.keepIn K (.ref (v_f_check_setting K)) = true := of_decide_eq_true (c.fact 47 (f := q_47))
  have a_Notes_board : PySem.W.findIn K (.ref (v_C_Notes K)) "board" = some (some (.ref (v_P_Notes_board K))) := of_decide_eq_true (c.fact 48 (f := q_48))
  obtain ⟨rp_22, pr_Notes_board⟩ := HdM.get_ok (show HdM.getB K (v_P_Notes_board K) = true from c.fact 49 (f := q_49))
  have pg_Notes_board : PySem.W.specialIn K (.ref (v_P_Notes_board K)) "__get__" = some (some (.builtin "property.__get__")) := of_decide_eq_true (c.fact 50 (f := q_50))
  have pt_Notes_board : PySem.W.takesIn K (.ref (v_P_Notes_board K)) = some true := of_decide_eq_true (c.fact 51 (f := q_51))
  have k_Notes_board : PySem.W.keepIn K (.ref (v_f_Notes_board K)) = true := of_decide_eq_true (c.fact 52 (f := q_52))
  have a_shortest_rows : PySem.W.nsIn K mainGlobals "shortest_rows" = some (some (.ref (v_f_shortest_rows K))) := of_decide_eq_true (c.fact 53 (f := q_53))
  have k_shortest_rows : PySem.W.keepIn K (.ref (v_f_shortest_rows K)) = true := of_decide_eq_true (c.fact 54 (f := q_54))
  have a_Board_settings : PySem.W.findIn K (.ref (v_C_Board K)) "settings" = some (some (.ref (v_P_Board_settings K))) := of_decide_eq_true (c.fact 55 (f := q_55))
  obtain ⟨rp_24, pr_Board_settings⟩ := HdM.get_ok (show HdM.getB K (v_P_Board_settings K) = true from c.fact 56 (f := q_56))
  have pg_Board_settings : PySem.W.specialIn K (.ref (v_P_Board_settings K)) "__get__" = some (some (.builtin "property.__get__")) := of_decide_eq_true (c.fact 57 (f := q_57))
  have pt_Board_settings : PySem.W.takesIn K (.ref (v_P_Board_settings K)) = some true := of_decide_eq_true (c.fact 58 (f := q_58))
  have k_Board_settings : PySem.W.keepIn K (.ref (v_f_Board_settings K)) = true := of_decide_eq_true (c.fact 59 (f := q_59))
  have a_ups : PySem.W.nsIn K mainGlobals "ups" = some (some (.ref (v_f_ups K))) := of_decide_eq_true (c.fact 60 (f := q_60))
  have k_ups : PySem.W.keepIn K (.ref (v_f_ups K)) = true := of_decide_eq_true (c.fact 61 (f := q_61))
  have a_Notes_facts : PySem.W.findIn K (.ref (v_C_Notes K)) "facts" = some (some (.ref (v_P_Notes_facts K))) := of_decide_eq_true (c.fact 62 (f := q_62))
  obtain ⟨rp_26, pr_Notes_facts⟩ := HdM.get_ok (show HdM.getB K (v_P_Notes_facts K) = true from c.fact 63 (f := q_63))
  have pg_Notes_facts : PySem.W.specialIn K (.ref (v_P_Notes_facts K)) "__get__" = some (some (.builtin "property.__get__")) := of_decide_eq_true (c.fact 64 (f := q_64))
  have pt_Notes_facts : PySem.W.takesIn K (.ref (v_P_Notes_facts K)) = some true := of_decide_eq_true (c.fact 65 (f := q_65))
  have k_Notes_facts : PySem.W.keepIn K (.ref (v_f_Notes_facts K)) = true := of_decide_eq_true (c.fact 66 (f := q_66))
  have a_sure_way : PySem.W.nsIn K mainGlobals "sure_way" = some (some (.ref (v_f_sure_way K))) := of_decide_eq_true (c.fact 67 (f := q_67))
  have k_sure_way : PySem.W.keepIn K (.ref (v_f_sure_way K)) = true := of_decide_eq_true (c.fact 68 (f := q_68))
  have a_Notes_known : PySem.W.findIn K (.ref (v_C_Notes K)) "known" = some (some (.ref (v_f_Notes_known K))) := of_decide_eq_true (c.fact 69 (f := q_69))
  have i_Notes_known : PySem.W.isFn K (.ref (v_f_Notes_known K)) = true := of_decide_eq_true (c.fact 70 (f := q_70))
  have k_Notes_known : PySem.W.keepIn K (.ref (v_f_Notes_known K)) = true := of_decide_eq_true (c.fact 71 (f := q_71))
  have a_law_right : PySem.W.nsIn K mainGlobals "_law_right" = some (some (.ref (v_f_law_right K))) := of_decide_eq_true (c.fact 72 (f := q_72))
  have k_law_right : PySem.W.keepIn K (.ref (v_f_law_right K)) = true := of_decide_eq_true (c.fact 73 (f := q_73))
  have a_law_urn : PySem.W.nsIn K mainGlobals "_law_urn" = some (some (.ref (v_f_law_urn K))) := of_decide_eq_true (c.fact 74 (f := q_74))
  have k_law_urn : PySem.W.keepIn K (.ref (v_f_law_urn K)) = true := of_decide_eq_true (c.fact 75 (f := q_75))
  have a_law : PySem.W.nsIn K mainGlobals "law" = some (some (.ref (v_f_law K))) := of_decide_eq_true (c.fact 76 (f := q_76))
  have k_law : PySem.W.keepIn K (.ref (v_f_law K)) = true := of_decide_eq_true (c.fact 77 (f := q_77))
  have g_Board : PySem.W.nsIn K mainGlobals "Board" = some (some (.ref (v_C_Board K))) := of_decide_eq_true (c.fact 78 (f := q_78))
  have g_Notes : PySem.W.nsIn K mainGlobals "Notes" = some (some (.ref (v_C_Notes K))) := of_decide_eq_true (c.fact 79 (f := q_79))
  have pg_Board : PySem.W.plainGet K (v_C_Board K) Str.empty = true := of_decide_eq_true (c.fact 80 (f := q_80))
  have hd_Board : PySem.W.hasDictIn K (v_C_Board K) = true := of_decide_eq_true (c.fact 81 (f := q_81))
  have po_Board : PySem.W.plainOver K (v_C_Board K) = true := of_decide_eq_true (c.fact 82 (f := q_82))
  have sa_Board : PySem.W.findIn K (.ref (v_C_Board K)) "__setattr__" = some (some (.builtin "object.__setattr__")) := of_decide_eq_true (c.fact 83 (f := q_83))
  have ca_Board : PySem.W.findIn K (.ref (v_C_Board K)) "__class__" = some (some (.builtin "object.__class__")) := of_decide_eq_true (c.fact 84 (f := q_84))
  have cm_Board : PySem.W.mroIn K (v_C_Board K) (.type "object") = some true := of_decide_eq_true (c.fact 85 (f := q_85))
  have mk_Board : PySem.W.makesIn K (v_C_Board K) = true := of_decide_eq_true (c.fact 86 (f := q_86))
  have kc_Board : PySem.W.keepIn K (.ref (v_C_Board K)) = true := of_decide_eq_true (c.fact 87 (f := q_87))
  have n_Board_both : PySem.W.findIn K (.ref (v_C_Board K)) "both" = some none := of_decide_eq_true (c.fact 88 (f := q_88))
  have pg_Notes : PySem.W.plainGet K (v_C_Notes K) Str.empty = true := of_decide_eq_true (c.fact 89 (f := q_89))
  have hd_Notes : PySem.W.hasDictIn K (v_C_Notes K) = true := of_decide_eq_true (c.fact 90 (f := q_90))
  have po_Notes : PySem.W.plainOver K (v_C_Notes K) = true := of_decide_eq_true (c.fact 91 (f := q_91))
  have sa_Notes : PySem.W.findIn K (.ref (v_C_Notes K)) "__setattr__" = some (some (.builtin "object.__setattr__")) := of_decide_eq_true (c.fact 92 (f := q_92))
  have ca_Notes : PySem.W.findIn K (.ref (v_C_Notes K)) "__class__" = some (some (.builtin "object.__class__")) := of_decide_eq_true (c.fact 93 (f := q_93))
  have cm_Notes : PySem.W.mroIn K (v_C_Notes K) (.type "object") = some true := of_decide_eq_true (c.fact 94 (f := q_94))
  have mk_Notes : PySem.W.makesIn K (v_C_Notes K) = true := of_decide_eq_true (c.fact 95 (f := q_95))
  have kc_Notes : PySem.W.keepIn K (.ref (v_C_Notes K)) = true := of_decide_eq_true (c.fact 96 (f := q_96))
  have n_Notes_both : PySem.W.findIn K (.ref (v_C_Notes K)) "both" = some none := of_decide_eq_true (c.fact 97 (f := q_97))
  have cg_ : PySem.W.specialIn K (.builtin "object.__class__") "__get__" = some (some (.builtin "getset_descriptor.__get__")) := of_decide_eq_true (c.fact 98 (f := q_98))
  have ct_ : PySem.W.takesIn K (.builtin "object.__class__") = some true := of_decide_eq_true (c.fact 99 (f := q_99))
  obtain ⟨tk_MOST_SETTINGS, g_MOST_SETTINGS⟩ := HdM.int_ok (show HdM.intB K "MOST_SETTINGS" 48 = true from c.fact 100 (f := q_100))
  obtain ⟨tk_MOST_SWITCHES, g_MOST_SWITCHES⟩ := HdM.int_ok (show HdM.intB K "MOST_SWITCHES" 5 = true from c.fact 101 (f := q_101))
  have g_STANDS : PySem.W.nsIn K mainGlobals "STANDS" = some (some (.ref (v_A_STANDS K))) := of_decide_eq_true (c.fact 102 (f := q_102))
  have d_STANDS : KDic K w (v_A_STANDS K) (([.inl 2, .inl 3] : List Key).zip ([.str "01", .str "012"] : List V)) := HdM.dic_ok (show HdM.dicB K (v_A_STANDS K) (([.inl 2, .inl 3] : List Key).zip ([.str "01", .str "012"] : List V)) = true from c.fact 103 (f := q_103)) ((c.hash 0 (a := v_A_STANDS) (l := [.inl 2, .inl 3])).trans rfl)
  have ki_Board_non : PySem.W.kitOne K (.type "NoneType") (.ref (v_C_Board K)) = some false := of_decide_eq_true (c.fact 104 (f := q_104))
  have ki_Board_bl : PySem.W.kitOne K (.type "bool") (.ref (v_C_Board K)) = some false := of_decide_eq_true (c.fact 105 (f := q_105))
  have ki_Board_int : PySem.W.kitOne K (.type "int") (.ref (v_C_Board K)) = some false := of_decide_eq_true (c.fact 106 (f := q_106))
  have ki_Board_str : PySem.W.kitOne K (.type "str") (.ref (v_C_Board K)) = some false := of_decide_eq_true (c.fact 107 (f := q_107))
  have ki_Board_tup : PySem.W.kitOne K (.type "tuple") (.ref (v_C_Board K)) = some false := of_decide_eq_true (c.fact 108 (f := q_108))
  have ki_Board_lst : PySem.W.kitOne K (.type "list") (.ref (v_C_Board K)) = some false := of_decide_eq_true (c.fact 109 (f := q_109))
  have ki_Board_dic : PySem.W.kitOne K (.type "dict") (.ref (v_C_Board K)) = some false := of_decide_eq_true (c.fact 110 (f := q_110))
  have ki_Board_Board : PySem.W.kitOne K (.ref (v_C_Board K)) (.ref (v_C_Board K)) = some true := of_decide_eq_true (c.fact 111 (f := q_111))
  have ki_Board_Notes : PySem.W.kitOne K (.ref (v_C_Notes K)) (.ref (v_C_Board K)) = some false := of_decide_eq_true (c.fact 112 (f := q_112))
  have ki_Notes_non : PySem.W.kitOne K (.type "NoneType") (.ref (v_C_Notes K)) = some false := of_decide_eq_true (c.fact 113 (f := q_113))
  have ki_Notes_bl : PySem.W.kitOne K (.type "bool") (.ref (v_C_Notes K)) = some false := of_decide_eq_true (c.fact 114 (f := q_114))
  have ki_Notes_int : PySem.W.kitOne K (.type "int") (.ref (v_C_Notes K)) = some false := of_decide_eq_true (c.fact 115 (f := q_115))
  have ki_Notes_str : PySem.W.kitOne K (.type "str") (.ref (v_C_Notes K)) = some false := of_decide_eq_true (c.fact 116 (f := q_116))
  have ki_Notes_tup : PySem.W.kitOne K (.type "tuple") (.ref (v_C_Notes K)) = some false := of_decide_eq_true (c.fact 117 (f := q_117))
  have ki_Notes_lst : PySem.W.kitOne K (.type "list") (.ref (v_C_Notes K)) = some false := of_decide_eq_true (c.fact 118 (f := q_118))
  have ki_Notes_dic : PySem.W.kitOne K (.type "dict") (.ref (v_C_Notes K)) = some false := of_decide_eq_true (c.fact 119 (f := q_119))
  have ki_Notes_Board : PySem.W.kitOne K (.ref (v_C_Board K)) (.ref (v_C_Notes K)) = some false := of_decide_eq_true (c.fact 120 (f := q_120))
  have ki_Notes_Notes : PySem.W.kitOne K (.ref (v_C_Notes K)) (.ref (v_C_Notes K)) = some true := of_decide_eq_true (c.fact 121 (f := q_121))
  have z_abs : PySem.W.nsIn K mainGlobals "abs" = some none := of_decide_eq_true (c.fact 122 (f := q_122))
  have z_all : PySem.W.nsIn K mainGlobals "all" = some none := of_decide_eq_true (c.fact 123 (f := q_123))
  have z_bool : PySem.W.nsIn K mainGlobals "bool" = some none := of_decide_eq_true (c.fact 124 (f := q_124))
  have z_divmod : PySem.W.nsIn K mainGlobals "divmod" = some none := of_decide_eq_true (c.fact 125 (f := q_125))
  have z_int : PySem.W.nsIn K mainGlobals "int" = some none := of_decide_eq_true (c.fact 126 (f := q_126))
  have z_isinstance : PySem.W.nsIn K mainGlobals "isinstance" = some none := of_decide_eq_true (c.fact 127 (f := q_127))
  have z_len : PySem.W.nsIn K mainGlobals "len" = some none := of_decide_eq_true (c.fact 128 (f := q_128))
  have z_max : PySem.W.nsIn K mainGlobals "max" = some none := of_decide_eq_true (c.fact 129 (f := q_129))
  have z_min : PySem.W.nsIn K mainGlobals "min" = some none := of_decide_eq_true (c.fact 130 (f := q_130))
  have z_range : PySem.W.nsIn K mainGlobals "range" = some none := of_decide_eq_true (c.fact 131 (f := q_131))
  have z_set : PySem.W.nsIn K mainGlobals "set" = some none := of_decide_eq_true (c.fact 132 (f := q_132))
  have z_sorted : PySem.W.nsIn K mainGlobals "sorted" = some none := of_decide_eq_true (c.fact 133 (f := q_133))
  have z_str : PySem.W.nsIn K mainGlobals "str" = some none := of_decide_eq_true (c.fact 134 (f := q_134))
  have z_tuple : PySem.W.nsIn K mainGlobals "tuple" = some none := of_decide_eq_true (c.fact 135 (f := q_135))
  have e := hfa.symm.trans (PySem.W.mg_of X G a_law)
  have e2 : fa = v_f_law K := by injection e with e; injection e with e
  have T : Txt K w mg ⟨(v_f_law_pull K), (v_f_law_one_of K), (v_f_law_mixed K), (v_f_law_spots K), (v_f_law_near K), (v_f_law_sides K), (v_f_law_seen K), (v_f_check_board K), (v_f_Board_contains K), (v_f_are_neighbours K), (v_f_is_fact K), (v_f_leads K), (v_f_is_let K), (v_f_check_facts K), (v_f_Notes_init K), (v_f_is_within K), (v_f_check_sizes K), (v_f_settings_in K), (v_f_Board_init K), (v_f_law_steps K), (v_f_check_notes K), (v_f_check_setting K), (v_f_Notes_board K), (v_f_shortest_rows K), (v_f_Board_settings K), (v_f_ups K), (v_f_Notes_facts K), (v_f_sure_way K), (v_f_Notes_known K), (v_f_law_right K), (v_f_law_urn K), fa, (v_C_Board K), (v_C_Notes K), (v_P_Notes_board K), (v_P_Board_settings K), (v_P_Notes_facts K), (v_A_STANDS K), (v_E_Notes_init_0 K)⟩ := {
    F_law_pull := HdM.fun_of (c.def_ 0 (d := m_law_pull))
    m_law_pull := PySem.W.mg_of X G a_law_pull
    k_law_pull := k_law_pull
    F_law_one_of := HdM.fun_of (c.def_ 1 (d := m_law_one_of))
    m_law_one_of := PySem.W.mg_of X G a_law_one_of
    k_law_one_of := k_law_one_of
    F_law_mixed := HdM.fun_of (c.def_ 2 (d := m_law_mixed))
    m_law_mixed := PySem.W.mg_of X G a_law_mixed
    k_law_mixed := k_law_mixed
    F_law_spots := HdM.fun_of (c.def_ 3 (d := m_law_spots))
    m_law_spots := PySem.W.mg_of X G a_law_spots
    k_law_spots := k_law_spots
    F_law_near := HdM.fun_of (c.def_ 4 (d := m_law_near))
    m_law_near := PySem.W.mg_of X G a_law_near
    k_law_near := k_law_near
    F_law_sides := HdM.fun_of (c.def_ 5 (d := m_law_sides))
    m_law_sides := PySem.W.mg_of X G a_law_sides
    k_law_sides := k_law_sides
    F_law_seen := HdM.fun_of (c.def_ 6 (d := m_law_seen))
    m_law_seen := PySem.W.mg_of X G a_law_seen
    k_law_seen := k_law_seen
    F_check_board := HdM.fun_of (c.def_ 7 (d := m_check_board))
    m_check_board := PySem.W.mg_of X G a_check_board
    k_check_board := k_check_board
    F_Board_contains := HdM.fun_of (c.def_ 8 (d := m_Board_contains))
    h_Board_contains := ⟨a_Board_contains, i_Board_contains, k_Board_contains⟩
    F_are_neighbours := HdM.fun_of (c.def_ 9 (d := m_are_neighbours))
    m_are_neighbours := PySem.W.mg_of X G a_are_neighbours
    k_are_neighbours := k_are_neighbours
    F_is_fact := HdM.fun_of (c.def_ 10 (d := m_is_fact))
    m_is_fact := PySem.W.mg_of X G a_is_fact
    k_is_fact := k_is_fact
    F_leads := HdM.fun_of (c.def_ 11 (d := m_leads))
    m_leads := PySem.W.mg_of X G a_leads
    k_leads := k_leads
    F_is_let := HdM.fun_of (c.def_ 12 (d := m_is_let))
    m_is_let := PySem.W.mg_of X G a_is_let
    k_is_let := k_is_let
    F_check_facts := HdM.fun_of (c.def_ 13 (d := m_check_facts))
    m_check_facts := PySem.W.mg_of X G a_check_facts
    k_check_facts := k_check_facts
    F_Notes_init := c.def_ 14 (d := m_Notes_init)
    mk_Notes := ⟨mk_Notes, a_Notes_init, i_Notes_init, kc_Notes⟩
    g_Notes := PySem.W.mg_of X G g_Notes
    F_is_within := HdM.fun_of (c.def_ 15 (d := m_is_within))
    m_is_within := PySem.W.mg_of X G a_is_within
    k_is_within := k_is_within
    F_check_sizes := HdM.fun_of (c.def_ 16 (d := m_check_sizes))
    m_check_sizes := PySem.W.mg_of X G a_check_sizes
    k_check_sizes := k_check_sizes
    F_settings_in := HdM.fun_of (c.def_ 17 (d := m_settings_in))
    m_settings_in := PySem.W.mg_of X G a_settings_in
    k_settings_in := k_settings_in
    F_Board_init := HdM.fun_of (c.def_ 18 (d := m_Board_init))
    mk_Board := ⟨mk_Board, a_Board_init, i_Board_init, kc_Board⟩
    g_Board := PySem.W.mg_of X G g_Board
    F_law_steps := HdM.fun_of (c.def_ 19 (d := m_law_steps))
    m_law_steps := PySem.W.mg_of X G a_law_steps
    k_law_steps := k_law_steps
    F_check_notes := HdM.fun_of (c.def_ 20 (d := m_check_notes))
    m_check_notes := PySem.W.mg_of X G a_check_notes
    k_check_notes := k_check_notes
    F_check_setting := HdM.fun_of (c.def_ 21 (d := m_check_setting))
    m_check_setting := PySem.W.mg_of X G a_check_setting
    k_check_setting := k_check_setting
    F_Notes_board := HdM.fun_of (c.def_ 22 (d := m_Notes_board))
    p_Notes_board := ⟨a_Notes_board, pg_Notes_board, pt_Notes_board, ⟨_, pr_Notes_board⟩⟩
    F_shortest_rows := HdM.fun_of (c.def_ 23 (d := m_shortest_rows))
    m_shortest_rows := PySem.W.mg_of X G a_shortest_rows
    k_shortest_rows := k_shortest_rows
    F_Board_settings := HdM.fun_of (c.def_ 24 (d := m_Board_settings))
    p_Board_settings := ⟨a_Board_settings, pg_Board_settings, pt_Board_settings, ⟨_, pr_Board_settings⟩⟩
    F_ups := HdM.fun_of (c.def_ 25 (d := m_ups))
    m_ups := PySem.W.mg_of X G a_ups
    k_ups := k_ups
    F_Notes_facts := HdM.fun_of (c.def_ 26 (d := m_Notes_facts))
    p_Notes_facts := ⟨a_Notes_facts, pg_Notes_facts, pt_Notes_facts, ⟨_, pr_Notes_facts⟩⟩
    F_sure_way := HdM.fun_of (c.def_ 27 (d := m_sure_way))
    m_sure_way := PySem.W.mg_of X G a_sure_way
    k_sure_way := k_sure_way
    F_Notes_known := HdM.fun_of (c.def_ 28 (d := m_Notes_known))
    h_Notes_known := ⟨a_Notes_known, i_Notes_known, k_Notes_known⟩
    F_law_right := HdM.fun_of (c.def_ 29 (d := m_law_right))
    m_law_right := PySem.W.mg_of X G a_law_right
    k_law_right := k_law_right
    F_law_urn := HdM.fun_of (c.def_ 30 (d := m_law_urn))
    m_law_urn := PySem.W.mg_of X G a_law_urn
    k_law_urn := k_law_urn
    F_law := by rw [e2]; exact HdM.fun_of (c.def_ 31 (d := m_law))
    m_law := by rw [e2]; exact PySem.W.mg_of X G a_law
    k_law := by rw [e2]; exact k_law
    c_Board := ⟨⟨pg_Board, hd_Board, po_Board, sa_Board⟩, ca_Board, cg_, ct_, cm_Board⟩
    n_Board_both := n_Board_both
    c_Notes := ⟨⟨pg_Notes, hd_Notes, po_Notes, sa_Notes⟩, ca_Notes, cg_, ct_, cm_Notes⟩
    n_Notes_both := n_Notes_both
    g_MOST_SETTINGS := ⟨_, PySem.W.mg_of X G g_MOST_SETTINGS, ⟨_, rfl⟩⟩
    g_MOST_SWITCHES := ⟨_, PySem.W.mg_of X G g_MOST_SWITCHES, ⟨_, rfl⟩⟩
    g_STANDS := ⟨_, PySem.W.mg_of X G g_STANDS, rfl⟩
    r_STANDS := fun w' => rep_dic (G := gm K w ⟨(v_f_law_pull K), (v_f_law_one_of K), (v_f_law_mixed K), (v_f_law_spots K), (v_f_law_near K), (v_f_law_sides K), (v_f_law_seen K), (v_f_check_board K), (v_f_Board_contains K), (v_f_are_neighbours K), (v_f_is_fact K), (v_f_leads K), (v_f_is_let K), (v_f_check_facts K), (v_f_Notes_init K), (v_f_is_within K), (v_f_check_sizes K), (v_f_settings_in K), (v_f_Board_init K), (v_f_law_steps K), (v_f_check_notes K), (v_f_check_setting K), (v_f_Notes_board K), (v_f_shortest_rows K), (v_f_Board_settings K), (v_f_ups K), (v_f_Notes_facts K), (v_f_sure_way K), (v_f_Notes_known K), (v_f_law_right K), (v_f_law_urn K), fa, (v_C_Board K), (v_C_Notes K), (v_P_Notes_board K), (v_P_Board_settings K), (v_P_Notes_facts K), (v_A_STANDS K), (v_E_Notes_init_0 K)⟩) (vs := [.str "01", .str "012"]) d_STANDS rfl (Reps.cons Rep.str (Reps.cons Rep.str Reps.nil))
    isi_Board_t := fun t b h => by
      revert h; unfold isi_Board; split <;> intro h <;> cases h <;> first | exact ki_Board_non | exact ki_Board_bl | exact ki_Board_int | exact ki_Board_str | exact ki_Board_tup | exact ki_Board_lst | exact ki_Board_dic | exact ki_Board_Board | exact ki_Board_Notes
    isi_Board_c := fun c b h => by
      have e := is_Board h
      rcases e with rfl | rfl <;> first | exact ⟨⟨pg_Board, hd_Board, po_Board, sa_Board⟩, ca_Board, cg_, ct_, cm_Board⟩ | exact ⟨⟨pg_Notes, hd_Notes, po_Notes, sa_Notes⟩, ca_Notes, cg_, ct_, cm_Notes⟩
    isi_Notes_t := fun t b h => by
      revert h; unfold isi_Notes; split <;> intro h <;> cases h <;> first | exact ki_Notes_non | exact ki_Notes_bl | exact ki_Notes_int | exact ki_Notes_str | exact ki_Notes_tup | exact ki_Notes_lst | exact ki_Notes_dic | exact ki_Notes_Board | exact ki_Notes_Notes
    isi_Notes_c := fun c b h => by
      have e := is_Notes h
      rcases e with rfl | rfl <;> first | exact ⟨⟨pg_Board, hd_Board, po_Board, sa_Board⟩, ca_Board, cg_, ct_, cm_Board⟩ | exact ⟨⟨pg_Notes, hd_Notes, po_Notes, sa_Notes⟩, ca_Notes, cg_, ct_, cm_Notes⟩
    z_abs := PySem.W.mg_none_of X G z_abs
    z_all := PySem.W.mg_none_of X G z_all
    z_bool := PySem.W.mg_none_of X G z_bool
    z_divmod := PySem.W.mg_none_of X G z_divmod
    z_int := PySem.W.mg_none_of X G z_int
    z_isinstance := PySem.W.mg_none_of X G z_isinstance
    z_len := PySem.W.mg_none_of X G z_len
    z_max := PySem.W.mg_none_of X G z_max
    z_min := PySem.W.mg_none_of X G z_min
    z_range := PySem.W.mg_none_of X G z_range
    z_set := PySem.W.mg_none_of X G z_set
    z_sorted := PySem.W.mg_none_of X G z_sorted
    z_str := PySem.W.mg_none_of X G z_str
    z_tuple := PySem.W.mg_none_of X G z_tuple
    e_Notes_init_0 := fun _ hKG _ => rep_unit u_Notes_init_0 hKG }
  obtain ⟨fdl, Fl⟩ := T.F_law
  refine ⟨gm K w ⟨(v_f_law_pull K), (v_f_law_one_of K), (v_f_law_mixed K), (v_f_law_spots K), (v_f_law_near K), (v_f_law_sides K), (v_f_law_seen K), (v_f_check_board K), (v_f_Board_contains K), (v_f_are_neighbours K), (v_f_is_fact K), (v_f_leads K), (v_f_is_let K), (v_f_check_facts K), (v_f_Notes_init K), (v_f_is_within K), (v_f_check_sizes K), (v_f_settings_in K), (v_f_Board_init K), (v_f_law_steps K), (v_f_check_notes K), (v_f_check_setting K), (v_f_Notes_board K), (v_f_shortest_rows K), (v_f_Board_settings K), (v_f_ups K), (v_f_Notes_facts K), (v_f_sure_way K), (v_f_Notes_known K), (v_f_law_right K), (v_f_law_urn K), fa, (v_C_Board K), (v_C_Notes K), (v_P_Notes_board K), (v_P_Board_settings K), (v_P_Notes_facts K), (v_A_STANDS K), (v_E_Notes_init_0 K)⟩, fdl, rfl, rfl, ?_, fun base _ _ => ok_law T Fl⟩
  obtain ⟨⟨oc, od, kV, doc, pm, an, cdv, ct, osl, rfl, lk, cd⟩, kp⟩ := Fl
  exact fun s v => .of_eq rfl
abbrev R : PySem.W.OpenRow := PySem.W.OpenLaw.row PySem.Challenge.rw_switchhills_k45_whole_sure_ways
def nq : Nat := 52
abbrev qv : Program := PySem.W.view R.prog [nq]
def names_0 : List Str := ["_wall", "__name__", "WrongValue", "InvalidText", "InvalidFact", "NotABoard", "NotNotes", "InvalidSizes", "InvalidFacts", "WrongName", "UnknownSetting", "MOST_SWITCHES", "MOST_SETTINGS", "STANDS", "DIGITS", "is_within", "check_sizes", "settings_in", "board_told", "Board", "check_board", "check_setting", "turned_to", "beside_part", "are_neighbours"]
def names_1 : List Str := ["shortest_rows", "HEAD", "SIGN", "is_fact", "leads", "is_let", "check_facts", "ups", "Notes", "notes_told", "check_notes", "sure_way", "_law_urn", "_law_pull", "_law_one_of", "_law_spots", "_law_near", "_law_sides", "_law_mixed", "_law_seen", "_law_steps", "_law_right"]
def names : List Str := names_0 ++ (names_1)
def xs_0 : List Str := ["_law_pull", "_law_one_of", "_law_mixed", "_law_spots", "_law_near", "_law_sides", "_law_seen", "check_board", "are_neighbours", "is_fact", "leads", "is_let", "check_facts", "is_within", "check_sizes", "settings_in", "_law_steps", "check_notes", "check_setting", "shortest_rows", "ups", "sure_way", "_law_right", "_law_urn", "law"]
def xs_1 : List Str := ["Board", "Notes", "STANDS"]
def xs : List Str := xs_0 ++ (xs_1)
set_option maxHeartbeats 0 in
theorem run_f (w : World) : HandSHeadRun.RunEq R qv (HdM.hookM xs fs fn dc hs) (HdM.obM xs fs fn dc) 40000 names (w.withFollow "special-get-raises" false) := by
  intro os
  kernel_rfl
set_option maxHeartbeats 0 in
theorem run_t (w : World) : HandSHeadRun.RunEq R qv (HdM.hookM xs fs fn dc hs) (HdM.obM xs fs fn dc) 40000 names (w.withFollow "special-get-raises" true) := by
  intro os
  kernel_rfl
theorem run (w : World) : HandSHeadRun.RunEq R qv (HdM.hookM xs fs fn dc hs) (HdM.obM xs fs fn dc) 40000 names w := PySem.W.byRow2 "special-get-raises" (P := fun w => HandSHeadRun.RunEq R qv (HdM.hookM xs fs fn dc hs) (HdM.obM xs fs fn dc) 40000 names w) run_f run_t w
end K45
open PySem PySem.W PySem.Calls PyProof.Rows in
set_option maxRecDepth 100000 in
set_option maxHeartbeats 0 in
theorem PySem.Challenge.cw_switchhills_k45_whole_sure_ways_holds : PySem.Challenge.rw_switchhills_k45_whole_sure_ways.Holds := by
  w_on; o_law
  refine HandSHeadRun.head_any (r := OpenLaw.row PySem.Challenge.rw_switchhills_k45_whole_sure_ways) (q := K45.qv) (H := HdM.hookM K45.xs K45.fs K45.fn K45.dc K45.hs) (ob := HdM.obM K45.xs K45.fs K45.fn K45.dc) (M := 40000) (loose := K45.names) (d := HandSHeadRun.topDef (OpenLaw.row PySem.Challenge.rw_switchhills_k45_whole_sure_ways).prog K45.nq) (kwd := []) HdM.obM_eq (by kernel_rfl) (fun s => by kernel_rfl) K45.run (by kernel_rfl) (by kernel_rfl) (by kernel_rfl) (by rfl) (by first | assumption | decide +kernel) (by decide +kernel) ⟨rfl, rfl, rfl, rfl, rfl, by decide +kernel⟩ ?hw ?hc
  case hw => w_witness2
  case hc =>
    refine HdM.walk_ofM (l := PySem.Challenge.rw_switchhills_k45_whole_sure_ways) (n := 63) (k := 7) (x := "script") (sp := K45.sp_law) rfl (by decide) (by kernel_rfl) ⟨rfl, by decide, by decide⟩ ?F K45.law_asks
    intro w K mg fa h KX c G hmg0
    have hmg : mg ("law" : PySem.Str) = some (.ref fa) := by
      have e : (HandSHeadRun.topDef (OpenLaw.row PySem.Challenge.rw_switchhills_k45_whole_sure_ways).prog K45.nq).name = ("law" : PySem.Str) := by kernel_rfl
      rw [← e]
      exact hmg0
    exact K45.all_mk KX c G hmg
