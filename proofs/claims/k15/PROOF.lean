import PyProof.Rows.All
import Wide.All
import OpenK.AllK
import Wide.FinOn
import HandS.ForMost
import HandS.Exc
import HandS.ExcOwn
import HandS.WordsExc
import HandS.Property
import HandS.TupAny
import HandS.Deep
import HandS.IsInst
import HandS.ReCall
import HandS.Lambda
import HandS.Flow
import HandS.Style
import KE.KSortTupG
import HandS.RaiseMore
import KE.KExcIs
import HandS.TryOnly
import HandS.EndBits
import HandS.Strs
import HandS.Defaults
import PyProof.Rows.ListMulArg
import HandS.TupMul
import KE.KRevSl
import HandS.More
import PyProof.InstNe
import HandS.SetFor
import PyProof.Rows.SortShellAny
import KE.KExcInit
import KE.KTryMore
import KE.KStateDown
import HandS.Head0
import HandS.Head1
import HandS.Head2
import HandS.HeadHook1
import HandS.HeadHook2
import HandS.EndTab
import PyProof.ListStr
import HandS.Conv
import PyProof.StrBlock2
import PyProof.NeKinds
import PyProof.Rows.CountFlat
import PyProof.EqKinds
import HandS.Text
import HandS.ClsMeth
import HandS.HeadNt
import KE.KCallOwn
import PyProof.Conv_bool
import HandS.OwnEq
import PySem.Challenge.RW_switchhills_k15_whole_notes_made
set_option Elab.async false
set_option linter.all false
set_option maxRecDepth 100000
set_option maxHeartbeats 4000000
/-! The data layer, part 0: new tuples whose object is known to have no dict of its own (so that their methods may be called). -/
namespace DL
open PySem L2 PyProof.Rows
/-- a tuple without a dict of its own: known, or of the module -/
def TpT (K : PySem.W.Frag) (H : Hp) (a : Addr) (xs : List V) : Prop := (∃ o, H a = some (.frz o (.tup xs)) ∧ o.dict = none) ∨
  ∃ (o : Obj) (its : Array Value) (n : Nat), K.lookup a = some o ∧ o.cls = .type "tuple" ∧ o.dict = none ∧ o.data = .seq its n ∧ its.size ≤ sizeLine ∧ Vals xs its.toList
theorem TpT.sqt {K : PySem.W.Frag} {H : Hp} {a : Addr} {xs : List V} (h : TpT K H a xs) : SqT K H a xs := by
  rcases h with ⟨o, e, _⟩ | ⟨o, its, n, e, c, _, d, z, r⟩
  · exact .inl (.inr ⟨o, e⟩)
  · exact .inr ⟨o, its, n, e, c, d, z, r⟩
theorem tpT_sub {K : PySem.W.Frag} {H H' : Hp} {a : Addr} {xs : List V} (k : ∀ a o, H a = some o → H' a = some o) (h : TpT K H a xs) : TpT K H' a xs := h.imp (fun ⟨o, e, d⟩ => ⟨o, k _ _ e, d⟩) id
theorem ty_tup {X : Cx} : TyOk X "tuple" (fun x H => ∃ a xs, x = .ref a ∧ TpT X.K H a xs) := by
  intro pins σ H s x v I r ty
  obtain ⟨a, xs, rfl, t⟩ := ty
  cases (show v = Value.ref a from r)
  rcases t with ⟨o, e, d⟩ | ⟨o, its, n, e, c, d, _⟩
  · obtain ⟨e1, _, its, _, o', e2, c, _⟩ := (show ObjOk X.prog X.w H s.heap a (.frz o (.tup xs)) from I.hok a _ e)
    rw [e1] at e2
    cases e2
    exact ⟨⟨_, e1, c⟩, fun b hb => by cases hb; exact ⟨_, e1, d⟩⟩
  · exact ⟨⟨_, I.kIn _ _ e, c⟩, fun b hb => by cases hb; exact ⟨_, I.kIn _ _ e, d⟩⟩
section
variable {X : Cx} {es : List Expr} {t : TA} {pos : Pos}
/-- a new tuple at p -/
abbrev NewT (H : Hp) (xs : List V) (Q : VK) : Prop := ∀ p o, H p = none → o.dict = none → Q (.ref p) (upd H p (.frz o (.tup xs)))
theorem laidT {pins : List (Addr × Obj)} {σ : L2.St} {H : Hp} {s : Shared} {xs : List V} {its : List Value} {Q : VK} (I : Inv X pins σ H s) (r : Vals xs its) (hz : xs.length ≤ sizeLine) (q : NewT H xs Q) :
    EP X pins σ Q (.ref s.heap.objs.size) { s with heap := s.heap.push { cls := .type "tuple", data := .seq its.toArray } } :=
  ⟨.ref s.heap.objs.size, _, I.laid (t' := s.toks) (o := .frz { cls := .type "tuple", data := .seq its.toArray } (.tup xs)) (fun _ _ q => Heap.get?_push_of_some _ q) (Nat.le_refl _)
    ⟨Heap.get?_push_size _ rfl, hz, its, r, IsTup.new _ _⟩, rfl, q _ _ (I.hok.fresh (Nat.le_refl _)) rfl⟩
def tTupF (t : TA) : TE := fun σ H Q => t σ H fun xs H1 => xs.length ≤ sizeLine ∧ NewT H1 xs Q
theorem pe_tupF {x1} (h : PA X es t) : PE X (.Tuple es x1 pos) (tTupF t) := by
  refine ⟨fun pins s σ H Q I hq => ?_⟩
  exact wpAny_Tuple_spliced (thn (h.run pos pins s σ H _ I hq) fun us s1 ⟨xs, H1, I1, r, z, q⟩ => ⟨by rw [← r.length]; exact z, laidT I1 r z q⟩)
def rCatF (K : PySem.W.Frag) : R2 := fun x y H Q => ∃ a b xs ys, x = .ref a ∧ y = .ref b ∧ SqT K H a xs ∧ SqT K H b ys ∧ xs.length + ys.length ≤ sizeLine ∧
  (xs = [] → Q (.ref b) H) ∧ (xs ≠ [] → ys = [] → Q (.ref a) H) ∧ (xs ≠ [] → ys ≠ [] → NewT H (xs ++ ys) Q)
theorem op_catF : OpR X (binaryOp .Add) (rCatF X.K) := by
  intro pins s σ H x y v u Q I rx ry h
  obtain ⟨a, b, xs, ys, rfl, rfl, ha, hb, hz, q0, q1, q2⟩ := h
  by_cases hx : xs = []
  · subst hx
    exact op_catA pins s σ H _ _ v u Q I rx ry ⟨a, b, [], ys, rfl, rfl, ha, hb, hz, q0, fun z => absurd rfl z, fun z => absurd rfl z⟩
  · cases rx
    cases ry
    obtain ⟨its, r1, p1, _⟩ := I.tuple ha
    obtain ⟨its2, r2, p2, _⟩ := I.tuple hb
    refine HT.cat_tup p1 p2 (fun z => hx (r1.nil_iff.mp z)) (fun z => ⟨.ref a, H, I, rfl, q1 hx (r2.nil_iff.mp z)⟩) (fun z => ?_) (by rw [← r1.length, ← r2.length]; exact hz)
    exact laidT I (r1.append r2) (by rw [List.length_append]; exact hz) (q2 hx fun w => z (r2.nil_iff.mpr w))
def rSlF (K : PySem.W.Frag) : V → Option Int → Option Int → Hp → VK → Prop := fun x lo hi H Q => ∃ a xs, x = .ref a ∧ SqT K H a xs ∧
  (HT.sIx xs.length 0 lo = 0 ∧ HT.sIx xs.length xs.length hi = xs.length → Q (.ref a) H) ∧ (¬ (HT.sIx xs.length 0 lo = 0 ∧ HT.sIx xs.length xs.length hi = xs.length) → NewT H (cutV xs lo hi) Q)
theorem sl_tupF : SlR X (rSlF X.K) := by
  intro pins s σ H x v vl vu lo hi sl Q I rx hs pl pu h
  obtain ⟨a, xs, rfl, hx, q1, q2⟩ := h
  by_cases hw : HT.sIx xs.length 0 lo = 0 ∧ HT.sIx xs.length xs.length hi = xs.length
  · exact sl_tupA pins s σ H _ v vl vu lo hi sl Q I rx hs pl pu ⟨a, xs, rfl, hx, q1, fun z => absurd hw z⟩
  · cases rx
    obtain ⟨its, r, ht, hz⟩ := I.tuple hx
    have hlen : its.toArray.size = xs.length := by rw [List.size_toArray]; exact r.length.symm
    refine ⟨"tuple", _, PyProof.Rows.slot_tuple_getitem.lookup, ht.typeIs, ?_⟩
    refine HT.getItem_tuple_cut ht hs pl pu (by rw [hlen]; exact hw) ?_ (by rw [hlen]; exact hz)
    rw [hlen]
    exact laidT I ((r.drop (HT.sIx xs.length 0 lo)).take (HT.sIx xs.length xs.length hi - HT.sIx xs.length 0 lo)) (Nat.le_trans (cutV_length xs lo hi) hz) (q2 hw)
theorem call_tupleF : CallR X (.type "tuple") (fun xs H Q => ∃ p ys, xs = [.ref p] ∧ ((SqL X.K H p ys ∧ NewT H ys Q) ∨ (SqT X.K H p ys ∧ Q (.ref p) H))) := by
  intro pins s σ H xs us Q I r h
  obtain ⟨p, ys, rfl, h⟩ := h
  rcases h with ⟨hq, q⟩ | ⟨hq, q⟩
  · obtain ⟨u, rfl, rx⟩ := vals1 r
    cases rx
    obtain ⟨its, r', pl, hz⟩ := I.list hq
    have hlen := r'.length
    refine call_tuple_list pl.isList (fun h' kp => ?_) (by simp only [List.size_toArray] <;> omega)
    exact laidT (I.kept (t' := s.toks) kp) r' hz q
  · exact call_tuple_of pins s σ H _ us Q I r ⟨p, ys, rfl, .inr ⟨hq, q⟩⟩
end
end DL
/-! The data layer, part 1: data, worlds, frames, readings. -/
namespace DL
open PySem L2

/-- plain data, as a program that shares nothing sees it -/
inductive D where
  | non | bl (b : Bool) | int (i : Int) | str (s : Str)
  | tup (ds : List D) | lst (ds : List D)
  | dic (ks : List Key) (ds : List D)
  | obj (c : Nat) (ds : List D)
  | exc (c : Nat) (ds : List D)
  | jar

/-- what is fixed: the written part, the own classes' addresses and attributes -/
structure Gm where
  K : PySem.W.Frag
  pw : World
  cls : Nat → Addr
  fld : Nat → List Str
  tb : List (Addr × Str) := []

/-- a world: what of the heap is frozen; what changes outside of the frames (jr): the jars (ja), the tables of code objects (tb: the table, the name that its code objects bear) -/
structure Wd where
  hd : Hp
  jr : Addr → Prop
  ja : Addr → Prop
  tb : List (Addr × Str)

/-- a dict of the written part -/
def KEnt (w : World) : List DictEntry → List (Key × V) → Prop
  | [], [] => True
  | e :: r, (k, v) :: t => keyIs k e.key = true ∧ e.hash = keyH w k ∧ RelV v e.val ∧ KEnt w r t
  | _, _ => False
def KDic (K : PySem.W.Frag) (w : World) (a : Addr) (kvs : List (Key × V)) : Prop :=
  ∃ es n, K.lookup a = some ⟨.type "dict", none, .dict es n, #[]⟩ ∧ (a == sysModules) = false ∧ KEnt w es.toList kvs

/-- a list that may be read: tracked, known, or the module's own -/
def LsT (K : PySem.W.Frag) (H : Hp) (a : Addr) (xs : List V) : Prop := Rd H a (.lst xs) ∨ ∃ its n, K.lookup a = some { cls := .type "list", data := .seq its n } ∧ its.size ≤ sizeLine ∧ Vals xs its.toList
theorem LsT.sql {K : PySem.W.Frag} {H : Hp} {a : Addr} {xs : List V} (h : LsT K H a xs) : SqL K H a xs := by
  rcases h with h | ⟨its, n, e, z, r⟩
  · exact .inl h
  · exact .inr ⟨_, its, n, e, rfl, rfl, rfl, z, r⟩
/-- what stands at a is an exception of the class at C; its dict -/
def XcAt (o : HO) (C : Addr) (od : Option Addr) (a : Addr) : Prop := ∀ (P : Program) (w : World) (H : Hp) (h : Heap), ObjOk P w H h a o → ∃ (oe : Obj) (vs : Array Value), h.get? a = some oe ∧ oe.cls = .ref C ∧ oe.dict = od ∧ oe.data = .fields vs
mutual
def Rep (G : Gm) (w : Wd) : D → V → Prop
  | .non, v => v = .non
  | .bl b, v => v = .bl b
  | .int i, v => v = .int i
  | .str s, v => v = .str s
  | .tup ds, v => ∃ a vs, v = .ref a ∧ TpT G.K w.hd a vs ∧ Reps G w ds vs
  | .lst ds, v => ∃ a vs, v = .ref a ∧ LsT G.K w.hd a vs ∧ Reps G w ds vs
  | .dic ks ds, v => ∃ a vs, v = .ref a ∧ (w.hd a = some (.dK (ks.zip vs)) ∨ KDic G.K G.pw a (ks.zip vs)) ∧ ks.length = vs.length ∧ Reps G w ds vs
  | .obj c ds, v => ∃ a dx fs, v = .ref a ∧ w.hd a = some (.ins (G.cls c) dx fs) ∧ fs.map (·.1) = G.fld c ∧ Reps G w ds (fs.map (·.2)) ∧ w.tb = G.tb
  | .exc c ds, v => ∃ a o od vs, v = .ref a ∧ w.hd a = some o ∧ XcAt o (G.cls c) od a ∧ Reps G w ds vs ∧ ((od = none ∧ vs = []) ∨ ∃ dx nm u, od = some dx ∧ vs = [u] ∧ G.fld c = [nm] ∧ w.hd dx = some (.xd [(nm, u)]))
  | .jar, v => ∃ a, v = .ref a ∧ w.ja a
def Reps (G : Gm) (w : Wd) : List D → List V → Prop
  | [], vs => vs = []
  | d :: ds, vs => ∃ v r, vs = v :: r ∧ Rep G w d v ∧ Reps G w ds r
end

/-- more is frozen -/
structure Sub (w w' : Wd) : Prop where
  hd : ∀ a o, w.hd a = some o → w'.hd a = some o
  jr : ∀ a, w.jr a → w'.jr a
  ja : ∀ a, w.ja a → w'.ja a
  tb : w'.tb = w.tb
theorem Sub.refl (w : Wd) : Sub w w := ⟨fun _ _ h => h, fun _ h => h, fun _ h => h, rfl⟩
theorem Sub.trans {w1 w2 w3 : Wd} (a : Sub w1 w2) (b : Sub w2 w3) : Sub w1 w3 := ⟨fun x o h => b.hd x o (a.hd x o h), fun x h => b.jr x (a.jr x h), fun x h => b.ja x (a.ja x h), b.tb.trans a.tb⟩
theorem sqT_sub {K : PySem.W.Frag} {H H' : Hp} {a : Addr} {xs : List V} (k : ∀ a o, H a = some o → H' a = some o) (h : SqT K H a xs) : SqT K H' a xs := by
  rcases h with (h | ⟨o, h⟩) | h
  · exact .inl (.inl (k _ _ h))
  · exact .inl (.inr ⟨o, k _ _ h⟩)
  · exact .inr h
theorem rd_sub {H H' : Hp} {a : Addr} {u : HO} (k : ∀ a o, H a = some o → H' a = some o) (h : Rd H a u) : Rd H' a u := by
  rcases h with h | ⟨o, h⟩
  · exact .inl (k _ _ h)
  · exact .inr ⟨o, k _ _ h⟩
theorem lsT_sub {K : PySem.W.Frag} {H H' : Hp} {a : Addr} {xs : List V} (k : ∀ a o, H a = some o → H' a = some o) (h : LsT K H a xs) : LsT K H' a xs := h.imp (rd_sub k) id
mutual
theorem Rep.mono {G : Gm} {w w' : Wd} (k : Sub w w') : ∀ {d : D} {v : V}, Rep G w d v → Rep G w' d v
  | .non, v, h => by unfold Rep at h ⊢; exact h
  | .bl b, v, h => by unfold Rep at h ⊢; exact h
  | .int i, v, h => by unfold Rep at h ⊢; exact h
  | .str s, v, h => by unfold Rep at h ⊢; exact h
  | .tup ds, v, h => by
    unfold Rep at h ⊢
    obtain ⟨a, vs, e, hs, hr⟩ := h
    exact ⟨a, vs, e, tpT_sub k.hd hs, Reps.mono k hr⟩
  | .lst ds, v, h => by
    unfold Rep at h ⊢
    obtain ⟨a, vs, e, hs, hr⟩ := h
    exact ⟨a, vs, e, lsT_sub k.hd hs, Reps.mono k hr⟩
  | .dic ks ds, v, h => by
    unfold Rep at h ⊢
    obtain ⟨a, vs, e, hs, hl, hr⟩ := h
    exact ⟨a, vs, e, hs.imp (k.hd _ _) id, hl, Reps.mono k hr⟩
  | .obj c ds, v, h => by
    unfold Rep at h ⊢
    obtain ⟨a, dx, fs, e, hs, hl, hr, ht⟩ := h
    exact ⟨a, dx, fs, e, k.hd _ _ hs, hl, Reps.mono k hr, k.tb.trans ht⟩
  | .exc c ds, v, h => by
    unfold Rep at h ⊢
    obtain ⟨a, o, od, vs, e, ho, hx, hr, hd⟩ := h
    exact ⟨a, o, od, vs, e, k.hd _ _ ho, hx, Reps.mono k hr, hd.imp id fun ⟨dx, nm, u, h1, h2, h3, h4⟩ => ⟨dx, nm, u, h1, h2, h3, k.hd _ _ h4⟩⟩
  | .jar, v, h => by
    unfold Rep at h ⊢
    obtain ⟨a, e, hj⟩ := h
    exact ⟨a, e, k.ja a hj⟩
theorem Reps.mono {G : Gm} {w w' : Wd} (k : Sub w w') : ∀ {ds : List D} {vs : List V}, Reps G w ds vs → Reps G w' ds vs
  | [], vs, h => by unfold Reps at h ⊢; exact h
  | d :: ds, vs, h => by
    unfold Reps at h ⊢
    obtain ⟨v, r, e, h1, h2⟩ := h
    exact ⟨v, r, e, Rep.mono k h1, Reps.mono k h2⟩
end

/-! ### Reps as a relation of lists -/
section
variable {G : Gm} {w : Wd}
theorem Reps.nil : Reps G w [] [] := by unfold Reps; rfl
theorem Reps.cons {d : D} {ds : List D} {v : V} {vs : List V} (h : Rep G w d v) (t : Reps G w ds vs) : Reps G w (d :: ds) (v :: vs) := by
  unfold Reps; exact ⟨v, vs, rfl, h, t⟩
theorem Reps.of_nil {vs : List V} (h : Reps G w [] vs) : vs = [] := by unfold Reps at h; exact h
theorem Reps.of_cons {d : D} {ds : List D} {vs : List V} (h : Reps G w (d :: ds) vs) : ∃ v r, vs = v :: r ∧ Rep G w d v ∧ Reps G w ds r := by
  unfold Reps at h; exact h
theorem Reps.length : ∀ {ds : List D} {vs : List V}, Reps G w ds vs → ds.length = vs.length
  | [], vs, h => by rw [h.of_nil]; rfl
  | d :: ds, vs, h => by
    obtain ⟨v, r, e, _, h2⟩ := h.of_cons
    rw [e, List.length_cons, List.length_cons, Reps.length h2]
theorem Reps.append : ∀ {ds es : List D} {vs us : List V}, Reps G w ds vs → Reps G w es us → Reps G w (ds ++ es) (vs ++ us)
  | [], es, vs, us, h, k => by rw [h.of_nil]; exact k
  | d :: ds, es, vs, us, h, k => by
    obtain ⟨v, r, e, h1, h2⟩ := h.of_cons
    rw [e]
    exact Reps.cons h1 (Reps.append h2 k)
theorem Reps.get : ∀ {ds : List D} {vs : List V} {i : Nat} {v : V}, Reps G w ds vs → vs[i]? = some v → ∃ d, ds[i]? = some d ∧ Rep G w d v
  | [], vs, i, v, h, e => by rw [h.of_nil] at e; simp at e
  | d :: ds, vs, i, v, h, e => by
    obtain ⟨x, r, q, h1, h2⟩ := h.of_cons
    subst q
    cases i with
    | zero => simp at e; subst e; exact ⟨d, by simp, h1⟩
    | succ i =>
      obtain ⟨d', a, b⟩ := Reps.get (i := i) (v := v) h2 (by simpa using e)
      exact ⟨d', by simpa using a, b⟩
theorem Reps.getD : ∀ {ds : List D} {vs : List V} {i : Nat} {d : D}, Reps G w ds vs → ds[i]? = some d → ∃ v, vs[i]? = some v ∧ Rep G w d v
  | [], vs, i, d, h, e => by simp at e
  | x :: ds, vs, i, d, h, e => by
    obtain ⟨v, r, q, h1, h2⟩ := h.of_cons
    subst q
    cases i with
    | zero => simp at e; subst e; exact ⟨v, by simp, h1⟩
    | succ i =>
      obtain ⟨d', a, b⟩ := Reps.getD (i := i) (d := d) h2 (by simpa using e)
      exact ⟨d', by simpa using a, b⟩
theorem Reps.take : ∀ {ds : List D} {vs : List V} (n : Nat), Reps G w ds vs → Reps G w (ds.take n) (vs.take n)
  | [], vs, n, h => by rw [h.of_nil]; simp; exact Reps.nil
  | d :: ds, vs, n, h => by
    obtain ⟨v, r, e, h1, h2⟩ := h.of_cons
    subst e
    cases n with
    | zero => exact Reps.nil
    | succ n => exact Reps.cons h1 (Reps.take n h2)
theorem Reps.drop : ∀ {ds : List D} {vs : List V} (n : Nat), Reps G w ds vs → Reps G w (ds.drop n) (vs.drop n)
  | [], vs, n, h => by rw [h.of_nil]; simp; exact Reps.nil
  | d :: ds, vs, n, h => by
    obtain ⟨v, r, e, h1, h2⟩ := h.of_cons
    subst e
    cases n with
    | zero => exact Reps.cons h1 h2
    | succ n => exact Reps.drop n h2
theorem Reps.reverse : ∀ {ds : List D} {vs : List V}, Reps G w ds vs → Reps G w ds.reverse vs.reverse
  | [], vs, h => by rw [h.of_nil]; exact Reps.nil
  | d :: ds, vs, h => by
    obtain ⟨v, r, e, h1, h2⟩ := h.of_cons
    subst e
    rw [List.reverse_cons, List.reverse_cons]
    exact Reps.append (Reps.reverse h2) (Reps.cons h1 Reps.nil)
theorem Rep.int_of {i : Int} {v : V} (h : Rep G w (.int i) v) : v = .int i := by unfold Rep at h; exact h
theorem Rep.str_of {i : Str} {v : V} (h : Rep G w (.str i) v) : v = .str i := by unfold Rep at h; exact h
theorem Rep.bl_of {i : Bool} {v : V} (h : Rep G w (.bl i) v) : v = .bl i := by unfold Rep at h; exact h
theorem Rep.non_of {v : V} (h : Rep G w .non v) : v = .non := by unfold Rep at h; exact h
theorem Rep.tup_of {ds : List D} {v : V} (h : Rep G w (.tup ds) v) : ∃ a vs, v = .ref a ∧ TpT G.K w.hd a vs ∧ Reps G w ds vs := by unfold Rep at h; exact h
theorem Rep.lst_of {ds : List D} {v : V} (h : Rep G w (.lst ds) v) : ∃ a vs, v = .ref a ∧ LsT G.K w.hd a vs ∧ Reps G w ds vs := by unfold Rep at h; exact h
theorem Rep.dic_of {ks : List Key} {ds : List D} {v : V} (h : Rep G w (.dic ks ds) v) : ∃ a vs, v = .ref a ∧ (w.hd a = some (.dK (ks.zip vs)) ∨ KDic G.K G.pw a (ks.zip vs)) ∧ ks.length = vs.length ∧ Reps G w ds vs := by unfold Rep at h; exact h
theorem Rep.obj_of {c : Nat} {ds : List D} {v : V} (h : Rep G w (.obj c ds) v) : ∃ a dx fs, v = .ref a ∧ w.hd a = some (.ins (G.cls c) dx fs) ∧ fs.map (·.1) = G.fld c ∧ Reps G w ds (fs.map (·.2)) ∧ w.tb = G.tb := by unfold Rep at h; exact h
theorem Rep.exc_of {c : Nat} {ds : List D} {v : V} (h : Rep G w (.exc c ds) v) : ∃ a o od vs, v = .ref a ∧ w.hd a = some o ∧ XcAt o (G.cls c) od a ∧ Reps G w ds vs ∧ ((od = none ∧ vs = []) ∨ ∃ dx nm u, od = some dx ∧ vs = [u] ∧ G.fld c = [nm] ∧ w.hd dx = some (.xd [(nm, u)])) := by unfold Rep at h; exact h
theorem Rep.jar_of {v : V} (h : Rep G w .jar v) : ∃ a, v = .ref a ∧ w.ja a := by unfold Rep at h; exact h
theorem Rep.int {i : Int} : Rep G w (.int i) (.int i) := by unfold Rep; rfl
theorem Rep.str {i : Str} : Rep G w (.str i) (.str i) := by unfold Rep; rfl
theorem Rep.bl {i : Bool} : Rep G w (.bl i) (.bl i) := by unfold Rep; rfl
theorem Rep.non : Rep G w .non .non := by unfold Rep; rfl
theorem Rep.tup {ds : List D} {a : Addr} {vs : List V} (h : TpT G.K w.hd a vs) (r : Reps G w ds vs) : Rep G w (.tup ds) (.ref a) := by unfold Rep; exact ⟨a, vs, rfl, h, r⟩
theorem Rep.lst {ds : List D} {a : Addr} {vs : List V} (h : Rd w.hd a (.lst vs)) (r : Reps G w ds vs) : Rep G w (.lst ds) (.ref a) := by unfold Rep; exact ⟨a, vs, rfl, .inl h, r⟩
theorem Reps.ints : ∀ {ns : List Int} {vs : List V}, Reps G w (ns.map D.int) vs → vs = ns.map V.int
  | [], vs, h => h.of_nil
  | n :: ns, vs, h => by
    obtain ⟨v, r, e, h1, h2⟩ := Reps.of_cons (h : Reps G w (D.int n :: ns.map D.int) vs)
    rw [e, h1.int_of, Reps.ints h2]; rfl
theorem Reps.strs : ∀ {ns : List Str} {vs : List V}, Reps G w (ns.map D.str) vs → vs = ns.map V.str
  | [], vs, h => h.of_nil
  | n :: ns, vs, h => by
    obtain ⟨v, r, e, h1, h2⟩ := Reps.of_cons (h : Reps G w (D.str n :: ns.map D.str) vs)
    rw [e, h1.str_of, Reps.strs h2]; rfl
theorem Reps.bls : ∀ {ns : List Bool} {vs : List V}, Reps G w (ns.map D.bl) vs → vs = ns.map V.bl
  | [], vs, h => h.of_nil
  | n :: ns, vs, h => by
    obtain ⟨v, r, e, h1, h2⟩ := Reps.of_cons (h : Reps G w (D.bl n :: ns.map D.bl) vs)
    rw [e, h1.bl_of, Reps.bls h2]; rfl
theorem Reps.of_ints : ∀ {ns : List Int}, Reps G w (ns.map D.int) (ns.map V.int)
  | [] => Reps.nil
  | _ :: _ => Reps.cons Rep.int Reps.of_ints
theorem Reps.of_strs : ∀ {ns : List Str}, Reps G w (ns.map D.str) (ns.map V.str)
  | [] => Reps.nil
  | _ :: _ => Reps.cons Rep.str Reps.of_strs
end

/-! ### worlds and heaps -/
/-- the table at P tells code objects of the name q alone, which are frozen -/
def TabD (w : Wd) (H : Hp) (P : Addr) (q : Str) : Prop := ∃ ps : Array Value, H P = some (.tbl ps) ∧ TriplesOk ps.toList ∧ ∀ (pos : Pos) (cv : Value), codeAmong pos ps.toList = some cv → ∃ c, cv = .ref c ∧ w.hd c = some (LamX.CodeO c q)
structure Ok (w : Wd) (H : Hp) : Prop where
  sub : ∀ a o, w.hd a = some o → H a = some o
  jn : ∀ a, w.jr a → w.hd a = none ∧ H a ≠ none
  jar : ∀ a, w.ja a → w.jr a ∧ ∃ d s c : Int, H a = some (.lst [.int d, .int s, .int c])
  tab : ∀ p ∈ w.tb, w.jr p.1 ∧ TabD w H p.1 p.2
theorem TabD.go {w w' : Wd} {H H' : Hp} {P : Addr} {q : Str} (t : TabD w H P q) (hH : H' P = H P) (hw : ∀ a o, w.hd a = some o → w'.hd a = some o) : TabD w' H' P q := by
  obtain ⟨ps, h1, h2, h3⟩ := t
  refine ⟨ps, hH.trans h1, h2, fun pos cv e => ?_⟩
  obtain ⟨c, e1, e2⟩ := h3 pos cv e
  exact ⟨c, e1, hw _ _ e2⟩
structure Le (w : Wd) (H : Hp) (w' : Wd) (H' : Hp) : Prop where
  sub : Sub w w'
  keep : ∀ a o, H a = some o → ¬ w.jr a → H' a = some o
  old : ∀ a, H a ≠ none → w'.jr a → w.jr a
  oldh : ∀ a, H a ≠ none → w'.hd a ≠ none → w.hd a ≠ none
  dom : ∀ a, H a ≠ none → H' a ≠ none
theorem Le.refl (w : Wd) (H : Hp) : Le w H w H := ⟨.refl w, fun _ _ h _ => h, fun _ _ h => h, fun _ _ h => h, fun _ h => h⟩
theorem Le.trans {w w1 w2 : Wd} {H H1 H2 : Hp} (a : Le w H w1 H1) (b : Le w1 H1 w2 H2) : Le w H w2 H2 where
  sub := a.sub.trans b.sub
  keep := fun x o h nj => b.keep x o (a.keep x o h nj) fun j => nj (a.old x (by rw [h]; exact fun z => by cases z) j)
  old := fun x h j => a.old x h (b.old x (a.dom x h) j)
  oldh := fun x h j => a.oldh x h (b.oldh x (a.dom x h) j)
  dom := fun x h => b.dom x (a.dom x h)
/-- a new object, not frozen -/
theorem Le.new {w : Wd} {H : Hp} {p : Addr} {o : HO} (h : H p = none) : Le w H w (upd H p o) where
  sub := .refl w
  keep := fun a u e _ => by rw [upd_ne (ne_of_none e h)]; exact e
  old := fun _ _ j => j
  oldh := fun _ _ j => j
  dom := fun a e => by
    by_cases z : a = p
    · subst z; exact absurd h e
    · rw [upd_ne z]; exact e
theorem Ok.none_hd {w : Wd} {H : Hp} (ok : Ok w H) {a : Addr} (h : H a = none) : w.hd a = none := by
  cases e : w.hd a with
  | none => rfl
  | some o => rw [ok.sub a o e] at h; cases h
theorem Ok.none_jr {w : Wd} {H : Hp} (ok : Ok w H) {a : Addr} (h : H a = none) : ¬ w.jr a := fun j => (ok.jn a j).2 h
theorem Ok.new {w : Wd} {H : Hp} {p : Addr} {o : HO} (ok : Ok w H) (h : H p = none) : Ok w (upd H p o) where
  sub := fun a u e => by
    have z := ok.sub a u e
    rw [upd_ne (ne_of_none z h)]; exact z
  jn := fun a j => by
    obtain ⟨e, z⟩ := ok.jn a j
    exact ⟨e, by rw [upd_ne (fun y => z (by rw [y]; exact h))]; exact z⟩
  jar := fun a j => by
    obtain ⟨e, d, s, c, z⟩ := ok.jar a j
    exact ⟨e, d, s, c, by rw [upd_ne (ne_of_none z h)]; exact z⟩
  tab := fun q m => by
    obtain ⟨e, t⟩ := ok.tab q m
    exact ⟨e, t.go (upd_ne fun y => (ok.jn q.1 e).2 (by rw [y]; exact h)) fun _ _ z => z⟩
/-- one object more is frozen, as it stands -/
def Wd.frz (w : Wd) (H : Hp) (p : Addr) : Wd := ⟨fun a => if a = p then H p else w.hd a, w.jr, w.ja, w.tb⟩
theorem frz_at {w : Wd} {H : Hp} {p : Addr} : (w.frz H p).hd p = H p := by show (if p = p then H p else _) = _; rw [if_pos rfl]
theorem frz_ne {w : Wd} {H : Hp} {p a : Addr} (h : a ≠ p) : (w.frz H p).hd a = w.hd a := by show (if a = p then H p else _) = _; rw [if_neg h]
theorem Sub.frz {w : Wd} {H : Hp} {p : Addr} (h : w.hd p = none) : Sub w (w.frz H p) where
  hd := fun a o e => by
    rw [frz_ne (ne_of_none e h)]; exact e
  jr := fun _ j => j
  ja := fun _ j => j
  tb := rfl
theorem Ok.frz {w : Wd} {H : Hp} {p : Addr} (ok : Ok w H) (nj : ¬ w.jr p) : Ok (w.frz H p) H where
  sub := fun a o e => by
    by_cases z : a = p
    · subst z; rw [frz_at] at e; exact e
    · rw [frz_ne z] at e; exact ok.sub a o e
  jn := fun a j => by
    obtain ⟨e, r⟩ := ok.jn a j
    have na : a ≠ p := fun z => by
      subst z; exact nj j
    exact ⟨by rw [frz_ne na]; exact e, r⟩
  jar := ok.jar
  tab := fun q m => by
    obtain ⟨e, t⟩ := ok.tab q m
    refine ⟨e, t.go rfl fun a o z => ?_⟩
    by_cases y : a = p
    · subst y; rw [frz_at]; exact ok.sub _ _ z
    · rw [frz_ne y]; exact z
/-- what is new behind (w0, H0) may be frozen -/
theorem Le.frz {w0 w : Wd} {H0 H : Hp} {p : Addr} (l : Le w0 H0 w H) (hn : w.hd p = none) (h0 : H0 p = none) : Le w0 H0 (w.frz H p) H where
  sub := l.sub.trans (.frz hn)
  keep := l.keep
  old := l.old
  oldh := fun a h j => by
    by_cases z : a = p
    · subst z; exact absurd h0 h
    · rw [frz_ne z] at j; exact l.oldh a h j
  dom := l.dom
/-- an unfrozen object that is no jar and new behind (w0, H0) is changed -/
theorem Le.put {w0 w : Wd} {H0 H : Hp} {p : Addr} {o : HO} (l : Le w0 H0 w H) (h0 : H0 p = none) : Le w0 H0 w (upd H p o) where
  sub := l.sub
  keep := fun a u e nj => by rw [upd_ne (ne_of_none e h0)]; exact l.keep a u e nj
  old := l.old
  oldh := l.oldh
  dom := fun a e => by
    by_cases z : a = p
    · subst z; rw [upd_same]; exact fun q => by cases q
    · rw [upd_ne z]; exact l.dom a e
theorem Ok.put {w : Wd} {H : Hp} {p : Addr} {o : HO} (ok : Ok w H) (hn : w.hd p = none) (nj : ¬ w.jr p) : Ok w (upd H p o) where
  sub := fun a u e => by
    rw [upd_ne (ne_of_none e hn)]; exact ok.sub a u e
  jn := fun a j => by
    obtain ⟨e, z⟩ := ok.jn a j
    exact ⟨e, by rw [upd_ne (fun y => by rw [y] at j; exact nj j)]; exact z⟩
  jar := fun a j => by
    obtain ⟨e, d, s, c, z⟩ := ok.jar a j
    exact ⟨e, d, s, c, by rw [upd_ne (fun y => by rw [y] at e; exact nj e)]; exact z⟩
  tab := fun q m => by
    obtain ⟨e, t⟩ := ok.tab q m
    exact ⟨e, t.go (upd_ne fun y => nj (by rw [← y]; exact e)) fun _ _ z => z⟩

/-! ### slots, frames -/
inductive Sl where
  | un
  | val (d : D)
  | own (ds : List D)
  | ownd (ks : List Key) (ds : List D)
  | slf (x : Addr) (c : Nat) (ds : List D)
def Sl.isOwn : Sl → Bool
  | .own _ => true | .ownd _ _ => true | .slf _ _ _ => true
  | _ => false
/-- a slot's value is an object of the frame's own -/
def Mine (H0 : Hp) (w : Wd) (a : Addr) : Prop := w.hd a = none ∧ ¬ w.jr a ∧ H0 a = none
def SlotOk (G : Gm) (H0 : Hp) (w : Wd) (H : Hp) : Sl → Option (Option V) → Prop
  | .un, _ => True
  | .val d, o => ∃ v, o = some (some v) ∧ Rep G w d v
  | .own ds, o => ∃ a vs, o = some (some (.ref a)) ∧ Mine H0 w a ∧ H a = some (.lst vs) ∧ Reps G w ds vs
  | .ownd ks ds, o => ∃ a vs, o = some (some (.ref a)) ∧ Mine H0 w a ∧ H a = some (.dK (ks.zip vs)) ∧ ks.length = vs.length ∧ Reps G w ds vs
  | .slf x c ds, o => ∃ a dx fs, o = some (some (.ref a)) ∧ Mine H0 w a ∧ H a = some (.ins (G.cls c) dx fs) ∧ (∃ l, G.fld c = fs.map (·.1) ++ l) ∧ fs.length < 1000 ∧ Reps G w ds (fs.map (·.2)) ∧ a = x
abbrev Env := List Sl
structure Fr (G : Gm) (w0 : Wd) (H0 : Hp) (r : Env) (s : St) (w : Wd) (H : Hp) : Prop where
  ok : Ok w H
  le : Le w0 H0 w H
  len : r.length = s.length
  slot : ∀ (i : Nat) x, r[i]? = some x → SlotOk G H0 w H x s[i]?
  dist : ∀ (i j : Nat) x y a, r[i]? = some x → r[j]? = some y → x.isOwn = true → y.isOwn = true → s[i]? = some (some (.ref a)) → s[j]? = some (some (.ref a)) → i = j
theorem Mine.le {H0 : Hp} {w w' : Wd} {H H' : Hp} {a : Addr} {o : HO} (m : Mine H0 w a) (h : H a = some o) (l : Le w H w' H') : Mine H0 w' a := by
  have hn : H a ≠ none := by rw [h]; exact fun z => by cases z
  refine ⟨?_, fun j => m.2.1 (l.old a hn j), m.2.2⟩
  cases e : w'.hd a with
  | none => rfl
  | some u => exact absurd m.1 (l.oldh a hn (by rw [e]; exact fun z => by cases z))
theorem SlotOk.le {G : Gm} {H0 : Hp} {w w' : Wd} {H H' : Hp} {x : Sl} {o : Option (Option V)} (l : Le w H w' H') (h : SlotOk G H0 w H x o) : SlotOk G H0 w' H' x o := by
  cases x with
  | un => trivial
  | val d => obtain ⟨v, e, r⟩ := h; exact ⟨v, e, r.mono l.sub⟩
  | own ds => obtain ⟨a, vs, e, m, h1, r⟩ := h; exact ⟨a, vs, e, m.le h1 l, l.keep _ _ h1 m.2.1, r.mono l.sub⟩
  | ownd ks ds => obtain ⟨a, vs, e, m, h1, hl, r⟩ := h; exact ⟨a, vs, e, m.le h1 l, l.keep _ _ h1 m.2.1, hl, r.mono l.sub⟩
  | slf x c ds => obtain ⟨a, dx, fs, e, m, h1, hl, hz, r, ax⟩ := h; exact ⟨a, dx, fs, e, m.le h1 l, l.keep _ _ h1 m.2.1, hl, hz, r.mono l.sub, ax⟩
theorem Fr.go {G : Gm} {w0 : Wd} {H0 : Hp} {r : Env} {s : St} {w w' : Wd} {H H' : Hp} (f : Fr G w0 H0 r s w H) (l : Le w H w' H') (ok : Ok w' H') : Fr G w0 H0 r s w' H' :=
  ⟨ok, f.le.trans l, f.len, fun i x e => (f.slot i x e).le l, f.dist⟩
/-- a slot takes a value that is no own object -/
theorem Fr.set {G : Gm} {w0 : Wd} {H0 : Hp} {r : Env} {s : St} {w : Wd} {H : Hp} {i : Nat} {x : Sl} {v : V} (f : Fr G w0 H0 r s w H) (hx : x.isOwn = false) (h : SlotOk G H0 w H x (some (some v))) :
    Fr G w0 H0 (r.set i x) (s.set i (some v)) w H where
  ok := f.ok
  le := f.le
  len := by simpa using f.len
  slot := fun j y e => by
    by_cases z : i = j
    · subst z
      have hi : i < r.length := by
        have q := (List.getElem?_eq_some_iff.mp e).1
        simpa using q
      rw [List.getElem?_set_self hi] at e
      rw [List.getElem?_set_self (f.len ▸ hi)]
      cases e
      exact h
    · rw [List.getElem?_set_ne z] at e
      rw [List.getElem?_set_ne z]
      exact f.slot j y e
  dist := fun j k y u a e1 e2 o1 o2 q1 q2 => by
    have hlt : ∀ {n : Nat} {y : Sl}, (r.set i x)[n]? = some y → y.isOwn = true → i ≠ n := fun {n y} e o z => by
      subst z
      have hi : i < r.length := by
        have q := (List.getElem?_eq_some_iff.mp e).1
        simpa using q
      rw [List.getElem?_set_self hi] at e
      cases e
      rw [hx] at o; cases o
    have n1 := hlt e1 o1
    have n2 := hlt e2 o2
    rw [List.getElem?_set_ne n1] at e1 q1
    rw [List.getElem?_set_ne n2] at e2 q2
    exact f.dist j k y u a e1 e2 o1 o2 q1 q2
/-- a slot takes a new own object -/
theorem Fr.setOwn {G : Gm} {w0 : Wd} {H0 : Hp} {r : Env} {s : St} {w : Wd} {H Hb : Hp} {i : Nat} {x : Sl} {p : Addr} (f : Fr G w0 H0 r s w H)
    (hb : ∀ (j : Nat) y a, r[j]? = some y → y.isOwn = true → s[j]? = some (some (.ref a)) → Hb a ≠ none) (hp : Hb p = none) (h : SlotOk G H0 w H x (some (some (.ref p)))) :
    Fr G w0 H0 (r.set i x) (s.set i (some (.ref p))) w H where
  ok := f.ok
  le := f.le
  len := by simpa using f.len
  slot := fun j y e => by
    by_cases z : i = j
    · subst z
      have hi : i < r.length := by
        have q := (List.getElem?_eq_some_iff.mp e).1
        simpa using q
      rw [List.getElem?_set_self hi] at e
      rw [List.getElem?_set_self (f.len ▸ hi)]
      cases e
      exact h
    · rw [List.getElem?_set_ne z] at e
      rw [List.getElem?_set_ne z]
      exact f.slot j y e
  dist := fun j k y u a e1 e2 o1 o2 q1 q2 => by
    by_cases z1 : i = j
    · by_cases z2 : i = k
      · exact z1.symm.trans z2
      · subst z1
        have hi : i < s.length := by
          have q := (List.getElem?_eq_some_iff.mp q1).1
          simpa using q
        rw [List.getElem?_set_self hi] at q1
        cases q1
        rw [List.getElem?_set_ne z2] at e2 q2
        exact absurd hp (hb k u _ e2 o2 q2)
    · by_cases z2 : i = k
      · subst z2
        have hi : i < s.length := by
          have q := (List.getElem?_eq_some_iff.mp q2).1
          simpa using q
        rw [List.getElem?_set_self hi] at q2
        cases q2
        rw [List.getElem?_set_ne z1] at e1 q1
        exact absurd hp (hb j y _ e1 o1 q1)
      · rw [List.getElem?_set_ne z1] at e1 q1
        rw [List.getElem?_set_ne z2] at e2 q2
        exact f.dist j k y u a e1 e2 o1 o2 q1 q2
theorem Fr.ownAt {G : Gm} {w0 : Wd} {H0 : Hp} {r : Env} {s : St} {w : Wd} {H : Hp} (f : Fr G w0 H0 r s w H) (j : Nat) (y : Sl) (a : Addr) (e : r[j]? = some y) (o : y.isOwn = true) (q : s[j]? = some (some (.ref a))) : H a ≠ none := by
  have h := f.slot j y e
  rw [q] at h
  cases y with
  | un => cases o
  | val d => cases o
  | own ds => obtain ⟨b, vs, e, _, h1, _⟩ := h; cases e; rw [h1]; exact fun z => by cases z
  | ownd ks ds => obtain ⟨b, vs, e, _, h1, _⟩ := h; cases e; rw [h1]; exact fun z => by cases z
  | slf x c ds => obtain ⟨b, dx, fs, e, _, h1, _⟩ := h; cases e; rw [h1]; exact fun z => by cases z
/-- an own object (in slot i) is changed -/
theorem Fr.chg {G : Gm} {w0 : Wd} {H0 : Hp} {r : Env} {s : St} {w : Wd} {H : Hp} {i : Nat} {x y : Sl} {p : Addr} {o : HO} (f : Fr G w0 H0 r s w H) (e : r[i]? = some x) (ox : x.isOwn = true) (q : s[i]? = some (some (.ref p)))
    (m : Mine H0 w p) (h : SlotOk G H0 w (upd H p o) y (some (some (.ref p)))) : Fr G w0 H0 (r.set i y) s w (upd H p o) where
  ok := f.ok.put m.1 m.2.1
  le := f.le.put m.2.2
  len := by simpa using f.len
  slot := fun j z e' => by
    by_cases zj : i = j
    · subst zj
      have hi : i < r.length := (List.getElem?_eq_some_iff.mp e).1
      rw [List.getElem?_set_self hi] at e'
      cases e'
      rw [q]
      exact h
    · rw [List.getElem?_set_ne zj] at e'
      have hz := f.slot j z e'
      have ne : ∀ a, z.isOwn = true → s[j]? = some (some (.ref a)) → a ≠ p := fun a oz qa za => by
        subst za
        exact zj (f.dist i j x z a e e' ox oz q qa)
      cases z with
      | un => trivial
      | val d => exact hz
      | own ds => obtain ⟨a, vs, e2, m2, h2, r2⟩ := hz; exact ⟨a, vs, e2, m2, by rw [upd_ne (ne a rfl e2)]; exact h2, r2⟩
      | ownd ks ds => obtain ⟨a, vs, e2, m2, h2, r2⟩ := hz; exact ⟨a, vs, e2, m2, by rw [upd_ne (ne a rfl e2)]; exact h2, r2⟩
      | slf x c ds => obtain ⟨a, dx, fs, e2, m2, h2, r2⟩ := hz; exact ⟨a, dx, fs, e2, m2, by rw [upd_ne (ne a rfl e2)]; exact h2, r2⟩
  dist := fun j k u v a e1 e2 o1 o2 q1 q2 => by
    have old : ∀ {n : Nat} {u : Sl}, (r.set i y)[n]? = some u → u.isOwn = true → ∃ u', r[n]? = some u' ∧ u'.isOwn = true := fun {n u} en on => by
      by_cases z : i = n
      · subst z; exact ⟨x, e, ox⟩
      · rw [List.getElem?_set_ne z] at en; exact ⟨u, en, on⟩
    obtain ⟨u', a1, b1⟩ := old e1 o1
    obtain ⟨v', a2, b2⟩ := old e2 o2
    exact f.dist j k u' v' a a1 a2 b1 b2 q1 q2
/-- an own list, dict becomes a value: nobody changes it from here on -/
def Sl.off : Sl → Sl
  | .own ds => .val (.lst ds)
  | .ownd ks ds => .val (.dic ks ds)
  | x => x
theorem Fr.off {G : Gm} {w0 : Wd} {H0 : Hp} {r : Env} {s : St} {w : Wd} {H : Hp} {i : Nat} {x : Sl} {p : Addr} {y : Sl} (f : Fr G w0 H0 r s w H) (e : r[i]? = some x) (ox : x.isOwn = true) (q : s[i]? = some (some (.ref p)))
    (m : Mine H0 w p) (oy : y.isOwn = false) (h : SlotOk G H0 (w.frz H p) H y (some (some (.ref p)))) : Fr G w0 H0 (r.set i y) s (w.frz H p) H where
  ok := f.ok.frz m.2.1
  le := f.le.frz m.1 m.2.2
  len := by simpa using f.len
  slot := fun j z e' => by
    by_cases zj : i = j
    · subst zj
      have hi : i < r.length := (List.getElem?_eq_some_iff.mp e).1
      rw [List.getElem?_set_self hi] at e'
      cases e'
      rw [q]
      exact h
    · rw [List.getElem?_set_ne zj] at e'
      have hz := f.slot j z e'
      have sb : Sub w (w.frz H p) := .frz m.1
      have ne : ∀ a, z.isOwn = true → s[j]? = some (some (.ref a)) → a ≠ p := fun a oz qa za => by
        subst za
        exact zj (f.dist i j x z a e e' ox oz q qa)
      have mn : ∀ {a}, Mine H0 w a → a ≠ p → Mine H0 (w.frz H p) a := fun {a} k na => ⟨by rw [frz_ne na]; exact k.1, k.2.1, k.2.2⟩
      cases z with
      | un => trivial
      | val d => obtain ⟨v, e2, r2⟩ := hz; exact ⟨v, e2, r2.mono sb⟩
      | own ds => obtain ⟨a, vs, e2, m2, h2, r2⟩ := hz; exact ⟨a, vs, e2, mn m2 (ne a rfl e2), h2, r2.mono sb⟩
      | ownd ks ds => obtain ⟨a, vs, e2, m2, h2, hl, r2⟩ := hz; exact ⟨a, vs, e2, mn m2 (ne a rfl e2), h2, hl, r2.mono sb⟩
      | slf x c ds => obtain ⟨a, dx, fs, e2, m2, h2, hl, hz', r2, ax⟩ := hz; exact ⟨a, dx, fs, e2, mn m2 (ne a rfl e2), h2, hl, hz', r2.mono sb, ax⟩
  dist := fun j k u v a e1 e2 o1 o2 q1 q2 => by
    have nn : ∀ {n : Nat} {u : Sl}, (r.set i y)[n]? = some u → u.isOwn = true → i ≠ n := fun {n u} en on z => by
      subst z
      have hi : i < r.length := (List.getElem?_eq_some_iff.mp e).1
      rw [List.getElem?_set_self hi] at en
      cases en
      rw [oy] at on; cases on
    have n1 := nn e1 o1
    have n2 := nn e2 o2
    rw [List.getElem?_set_ne n1] at e1
    rw [List.getElem?_set_ne n2] at e2
    exact f.dist j k u v a e1 e2 o1 o2 q1 q2
end DL
/-! The data layer, part 2: the readings over data, names, constants, operators. -/
namespace DL
open PySem L2

/-- an exception: its class by number, its attribute -/
structure XD where
  c : Nat
  d : Option D
abbrev XP := XD → Prop
abbrev FE := Env → (D → Prop) → XP → Prop
abbrev FT := Env → (Bool → Prop) → XP → Prop
abbrev FA := Env → (List D → Prop) → XP → Prop
/-- what is wanted behind a statement -/
structure DE where
  nx : Env → Prop
  rt : D → Prop
  bk : Env → Prop := fun _ => False
  ct : Env → Prop := fun _ => False
  rn : List D → Prop := fun _ => False
abbrev FS := DE → XP → Env → Prop

def ExAt (G : Gm) (w : Wd) (H : Hp) (x : XD) (od : Option Addr) : Prop :=
  match x.d with
  | none => od = none
  | some d => ∃ a nm v, od = some a ∧ G.fld x.c = [nm] ∧ w.hd a = some (.xd [(nm, v)]) ∧ Rep G w d v
def LkE (G : Gm) (E : XK) (w0 : Wd) (H0 : Hp) (EX : XP) : Prop := (∀ x od w H, Le w0 H0 w H → Ok w H → ExAt G w H x od → EX x → E (.ref (G.cls x.c)) od H) ∧ w0.tb = G.tb
theorem LkE.none {G : Gm} {E : XK} {w0 : Wd} {H0 : Hp} (ht : w0.tb = G.tb) : LkE G E w0 H0 (fun _ => False) := ⟨fun _ _ _ _ _ _ _ h => h.elim, ht⟩
/-- a value that may be an own list or dict -/
def See (G : Gm) (H0 : Hp) (w : Wd) (H : Hp) (d : D) (v : V) : Prop :=
  Rep G w d v ∨ (∃ a vs ds, v = .ref a ∧ d = .lst ds ∧ Mine H0 w a ∧ H a = some (.lst vs) ∧ Reps G w ds vs) ∨
    ∃ a vs ks ds, v = .ref a ∧ d = .dic ks ds ∧ Mine H0 w a ∧ H a = some (.dK (ks.zip vs)) ∧ ks.length = vs.length ∧ Reps G w ds vs
theorem See.go {G : Gm} {H0 : Hp} {w w' : Wd} {H H' : Hp} {d : D} {v : V} (h : See G H0 w H d v) (l : Le w H w' H') : See G H0 w' H' d v := by
  rcases h with h | ⟨a, vs, ds, e1, e2, m, h1, r⟩ | ⟨a, vs, ks, ds, e1, e2, m, h1, hl, r⟩
  · exact .inl (h.mono l.sub)
  · exact .inr (.inl ⟨a, vs, ds, e1, e2, m.le h1 l, l.keep _ _ h1 m.2.1, r.mono l.sub⟩)
  · exact .inr (.inr ⟨a, vs, ks, ds, e1, e2, m.le h1 l, l.keep _ _ h1 m.2.1, hl, r.mono l.sub⟩)
inductive Sees (G : Gm) (H0 : Hp) (w : Wd) (H : Hp) : List D → List V → Prop where
  | nil : Sees G H0 w H [] []
  | cons {d ds v vs} : See G H0 w H d v → Sees G H0 w H ds vs → Sees G H0 w H (d :: ds) (v :: vs)
theorem Sees.go {G : Gm} {H0 : Hp} {w w' : Wd} {H H' : Hp} (l : Le w H w' H') : ∀ {ds : List D} {vs : List V}, Sees G H0 w H ds vs → Sees G H0 w' H' ds vs
  | _, _, .nil => .nil
  | _, _, .cons h t => .cons (h.go l) (Sees.go l t)

/-! ### the readings -/
section
variable (G : Gm) (E : XK)
def tD (F : FE) : TE := fun s H Q => ∃ w0 H0 r w QD EX, Fr G w0 H0 r s w H ∧ LkE G E w0 H0 EX ∧ F r QD EX ∧ ∀ d v w' H', Le w H w' H' → Ok w' H' → Rep G w' d v → QD d → Q v H'
def bD (F : FE) : TE := fun s H Q => ∃ w0 H0 r w QD EX, Fr G w0 H0 r s w H ∧ LkE G E w0 H0 EX ∧ F r QD EX ∧ ∀ d v w' H', Le w H w' H' → Ok w' H' → See G H0 w' H' d v → QD d → Q v H'
/-- a new list -/
def fD (F : FA) : TE := fun s H Q => ∃ w0 H0 r w QD EX, Fr G w0 H0 r s w H ∧ LkE G E w0 H0 EX ∧ F r QD EX ∧
  ∀ ds a vs w' H', Le w H w' H' → Ok w' H' → H a = none → Mine H0 w' a → H' a = some (.lst vs) → Reps G w' ds vs → QD ds → Q (.ref a) H'
def ttD (F : FT) : TT := fun s H Q => ∃ w0 H0 r w QD EX, Fr G w0 H0 r s w H ∧ LkE G E w0 H0 EX ∧ F r QD EX ∧ ∀ b w' H', Le w H w' H' → Ok w' H' → QD b → Q b H'
def taD (F : FA) : TA := fun s H Q => ∃ w0 H0 r w QD EX, Fr G w0 H0 r s w H ∧ LkE G E w0 H0 EX ∧ F r QD EX ∧ ∀ ds vs w' H', Le w H w' H' → Ok w' H' → Reps G w' ds vs → QD ds → Q vs H'
def baD (F : FA) : TA := fun s H Q => ∃ w0 H0 r w QD EX, Fr G w0 H0 r s w H ∧ LkE G E w0 H0 EX ∧ F r QD EX ∧ ∀ ds vs w' H', Le w H w' H' → Ok w' H' → Sees G H0 w' H' ds vs → QD ds → Q vs H'
structure Lk (w0 : Wd) (H0 : Hp) (wk : Wd) (A : DE) (B : Ends) : Prop where
  nx : ∀ r s w H, Fr G w0 H0 r s w H → Sub wk w → A.nx r → B.nx s H
  rt : ∀ d v w H, Le w0 H0 w H → Ok w H → Rep G w d v → A.rt d → B.rt v H
  bk : ∀ r s w H, Fr G w0 H0 r s w H → Sub wk w → A.bk r → B.bk s H
  ct : ∀ r s w H, Fr G w0 H0 r s w H → Sub wk w → A.ct r → B.ct s H
  rn : ∀ ds a vs w H, Le w0 H0 w H → Ok w H → Mine H0 w a → H a = some (.lst vs) → Reps G w ds vs → A.rn ds → B.rt (.ref a) H
def sD (F : FS) : TS := fun B s H => ∃ w0 H0 wk r w A EX, Fr G w0 H0 r s w H ∧ Sub wk w ∧ LkE G E w0 H0 EX ∧ Lk G w0 H0 wk A B ∧ F A EX r
end
section
variable {X : Cx} {G : Gm} {E : XK} {e a b : Expr} {es : List Expr} {t t' : TE} {pos : Pos}
theorem _root_.L2.PE.weak (h : PE X e t) (k : ∀ s H Q, t' s H Q → t s H Q) : PE X e t' := ⟨fun p s σ H Q I q => h.run p s σ H Q I (k σ H Q q)⟩
theorem _root_.L2.PT.weak {t t' : TT} (h : PT X e t) (k : ∀ s H Q, t' s H Q → t s H Q) : PT X e t' := ⟨fun p s σ H Q I q => h.run p s σ H Q I (k σ H Q q)⟩
theorem _root_.L2.PW.weak {t t' : TT} (h : PW X e t) (k : ∀ s H Q, t' s H Q → t s H Q) : PW X e t' := ⟨fun wh p s σ H Q I q => h.run wh p s σ H Q I (k σ H Q q)⟩
theorem _root_.L2.PA.weak {t t' : TA} (h : PA X es t) (k : ∀ s H Q, t' s H Q → t s H Q) : PA X es t' := ⟨fun ps p s σ H Q I q => h.run ps p s σ H Q I (k σ H Q q)⟩
theorem _root_.L2.PS.weak {st : Stmt} {t t' : TS} (h : PS X st t) (k : ∀ B s H, t' B s H → t B s H) : PS X st t' := ⟨fun p s σ H B I q => h.run p s σ H B I (k B σ H q)⟩
theorem _root_.L2.PSs.weak {st : List Stmt} {t t' : TS} (h : PSs X st t) (k : ∀ B s H, t' B s H → t B s H) : PSs X st t' := ⟨fun p s σ H B I q => h.run p s σ H B I (k B σ H q)⟩

theorem see (h : PE X e (tD G E F)) : PE X e (bD G E F) := h.weak fun s H Q ⟨w0, H0, r, w, QD, EX, fr, lk, f, k⟩ =>
  ⟨w0, H0, r, w, QD, EX, fr, lk, f, fun d v w' H' l ok rp q => k d v w' H' l ok (.inl rp) q⟩
/-- a new list as a value -/
def fL (F : FA) : FE := fun r Q EX => F r (fun ds => Q (.lst ds)) EX
theorem val (h : PE X e (fD G E F)) : PE X e (tD G E (fL F)) := h.weak fun s H Q ⟨w0, H0, r, w, QD, EX, fr, lk, f, k⟩ =>
  ⟨w0, H0, r, w, fun ds => QD (.lst ds), EX, fr, lk, f, fun ds a vs w' H' l ok hn m h1 rp q => by
    refine k (.lst ds) (.ref a) (w'.frz H' a) H' (l.frz m.1 hn) (ok.frz m.2.1) (Rep.lst (Rd.of (by rw [frz_at]; exact h1)) (rp.mono (.frz m.1))) q⟩

/-! ### names, constants -/
def fVar (i : Nat) : FE := fun r Q _ => match r[i]? with
  | some (.val d) => Q d
  | _ => False
def fSee (i : Nat) : FE := fun r Q _ => match r[i]? with
  | some (.val d) => Q d
  | some (.own ds) => Q (.lst ds)
  | some (.ownd ks ds) => Q (.dic ks ds)
  | _ => False
def fC (d : D) : FE := fun _ Q _ => Q d
theorem ce_var (i : Nat) {x : Str} {pos : Pos} (hN : X.N[i]? = some x := by rfl) (hv : Vis X.env.scope x := by first | exact Or.inl rfl | exact Or.inr (Or.inl rfl) | exact Or.inr (Or.inr rfl)) (hd : (x == ("__debug__" : Str)) = false := by decide)
    (hcd : (x == ("__classdict__" : Str)) = false := by decide) : PE X (.Name x pos) (tD G E (fVar i)) := (pe_var hN hv hd hcd).weak fun s H Q ⟨w0, H0, r, w, QD, EX, fr, lk, f, k⟩ => by
  unfold fVar at f
  cases e : r[i]? with
  | none => rw [e] at f; exact f.elim
  | some x =>
    rw [e] at f
    cases x with
    | val d =>
      obtain ⟨v, q, rp⟩ := fr.slot i _ e
      exact ⟨v, q, k d v w H (.refl w H) fr.ok rp f⟩
    | un => exact f.elim
    | own _ => exact f.elim
    | ownd _ _ => exact f.elim
    | slf _ _ _ => exact f.elim
theorem cb_var (i : Nat) {x : Str} {pos : Pos} (hN : X.N[i]? = some x := by rfl) (hv : Vis X.env.scope x := by first | exact Or.inl rfl | exact Or.inr (Or.inl rfl) | exact Or.inr (Or.inr rfl)) (hd : (x == ("__debug__" : Str)) = false := by decide)
    (hcd : (x == ("__classdict__" : Str)) = false := by decide) : PE X (.Name x pos) (bD G E (fSee i)) := (pe_var hN hv hd hcd).weak fun s H Q ⟨w0, H0, r, w, QD, EX, fr, lk, f, k⟩ => by
  unfold fSee at f
  cases e : r[i]? with
  | none => rw [e] at f; exact f.elim
  | some x =>
    rw [e] at f
    cases x with
    | val d =>
      obtain ⟨v, q, rp⟩ := fr.slot i _ e
      exact ⟨v, q, k d v w H (.refl w H) fr.ok (.inl rp) f⟩
    | own ds =>
      obtain ⟨a, vs, q, m, h1, rp⟩ := fr.slot i _ e
      exact ⟨_, q, k (.lst ds) _ w H (.refl w H) fr.ok (.inr (.inl ⟨a, vs, ds, rfl, rfl, m, h1, rp⟩)) f⟩
    | ownd ks ds =>
      obtain ⟨a, vs, q, m, h1, hl, rp⟩ := fr.slot i _ e
      exact ⟨_, q, k (.dic ks ds) _ w H (.refl w H) fr.ok (.inr (.inr ⟨a, vs, ks, ds, rfl, rfl, m, h1, hl, rp⟩)) f⟩
    | un => exact f.elim
    | slf _ _ _ => exact f.elim
theorem ce_const {v : V} {d : D} (h : PE X e (tC v)) (rp : ∀ w, Rep G w d v) : PE X e (tD G E (fC d)) := h.weak fun s H Q ⟨w0, H0, r, w, QD, EX, fr, lk, f, k⟩ =>
  k d v w H (.refl w H) fr.ok (rp w) f
theorem ce_int {i j pos} : PE X (.Constant (.int i) j pos) (tD G E (fC (.int i))) := ce_const pe_int fun _ => Rep.int
theorem ce_bl {i j pos} : PE X (.Constant (.bool i) j pos) (tD G E (fC (.bl i))) := ce_const pe_bl fun _ => Rep.bl
theorem ce_non {j pos} : PE X (.Constant .none j pos) (tD G E (fC .non)) := ce_const pe_non fun _ => Rep.non
theorem ce_str {i j pos} : PE X (.Constant (.str i) j pos) (tD G E (fC (.str i))) := ce_const pe_str fun _ => Rep.str
/-- a module's int -/
theorem ce_gint {x : Str} {i : Int} {u : Value} {pos : Pos} (hm : X.mg x = some u) (r : RelV (.int i) u) (hg : Gl X x := by rfl) (hd : (x == ("__debug__" : Str)) = false := by decide) : PE X (.Name x pos) (tD G E (fC (.int i))) := ce_const (pe_glob hg hm r hd) fun _ => Rep.int

/-! ### two-place operators -/
abbrev G2 := D → D → (D → Prop) → Prop
def f2 (g : G2) (A B : FE) : FE := fun r Q EX => A r (fun x => B r (fun y => g x y Q) EX) EX
/-- an operator's rule over data -/
structure OpL (G : Gm) (X : Cx) (op : Value → Value → Sem Value) (g : G2) : Prop where
  ex : ∃ r, OpR X op r ∧ ∀ H0 w H x y v u Q (QD : D → Prop), Ok w H → See G H0 w H x v → See G H0 w H y u → g x y QD →
    (∀ d z w' H', Le w H w' H' → Ok w' H' → Rep G w' d z → QD d → Q z H') → r v u H Q
theorem OpL.link {op : Value → Value → Sem Value} {g : G2} {rr : R2} {A B : FE} (k0 : ∀ H0 w H x y v u Q (QD : D → Prop), Ok w H → See G H0 w H x v → See G H0 w H y u → g x y QD →
    (∀ d z w' H', Le w H w' H' → Ok w' H' → Rep G w' d z → QD d → Q z H') → rr v u H Q) (s : St) (H : Hp) (Q : VK) (h : tD G E (f2 g A B) s H Q) : tOp rr (bD G E A) (bD G E B) s H Q := by
  obtain ⟨w0, H0, r, w, QD, EX, fr, lk, f, k⟩ := h
  refine ⟨w0, H0, r, w, _, EX, fr, lk, f, fun x v w1 H1 l1 ok1 s1 q1 => ?_⟩
  refine ⟨w0, H0, r, w1, _, EX, fr.go l1 ok1, lk, q1, fun y u w2 H2 l2 ok2 s2 q2 => ?_⟩
  exact k0 H0 w2 H2 x y v u Q QD ok2 (s1.go l2) s2 q2 fun d z w3 H3 l3 ok3 r3 q3 => k d z w3 H3 ((l1.trans l2).trans l3) ok3 r3 q3
theorem ce_bin {op : Operator} {g : G2} {A B : FE} (ho : OpL G X (binaryOp op) g) (ha : PE X a (bD G E A)) (hb : PE X b (bD G E B)) : PE X (.BinOp a op b pos) (tD G E (f2 g A B)) := by
  obtain ⟨rr, hr, k0⟩ := ho.ex
  exact (pe_op hr ha hb).weak (OpL.link (op := binaryOp op) k0)
theorem ce_cmp {op : CmpOp} {g : G2} {A B : FE} (ho : OpL G X (compareOp op) g) (ha : PE X a (bD G E A)) (hb : PE X b (bD G E B)) (hm : behindInMarks op b = false := by first | exact nomark _ (by decide) (by decide) | rfl) : PE X (.Compare a [op] [b] pos) (tD G E (f2 g A B)) := by
  obtain ⟨rr, hr, k0⟩ := ho.ex
  exact (pe_cmpR hr ha hb hm).weak (OpL.link (op := compareOp op) k0)
/-- a value as a test: it is a bool -/
def fTb (F : FE) : FT := fun r Q EX => F r (fun d => ∃ b, d = .bl b ∧ Q b) EX
theorem ct_of_tTest {t : TE} {F : FE} (h : PT X e (tTest t)) (k0 : ∀ s H Q, tD G E F s H Q → t s H Q) : PT X e (ttD G E (fTb F)) := h.weak fun s H Q ⟨w0, H0, r, w, QD, EX, fr, lk, f, k⟩ =>
  k0 s H _ ⟨w0, H0, r, w, _, EX, fr, lk, f, fun d v w' H' l ok rp ⟨b, ed, qb⟩ => ⟨b, by rw [ed] at rp; exact rp.bl_of, k b w' H' l ok qb⟩⟩
theorem ct_cmp {op : CmpOp} {g : G2} {A B : FE} (ho : OpL G X (compareOp op) g) (ha : PE X a (bD G E A)) (hb : PE X b (bD G E B)) (hm : behindInMarks op b = false := by first | exact nomark _ (by decide) (by decide) | rfl) : PT X (.Compare a [op] [b] pos) (ttD G E (fTb (f2 g A B))) := by
  obtain ⟨rr, hr, k0⟩ := ho.ex
  exact ct_of_tTest (pt_cmpR hr ha hb hm) (OpL.link (op := compareOp op) k0)
/-- an expression that gives a bool, as a test -/
theorem ct_val {F : FE} (h : PE X e (tD G E F)) (he : ∀ whole, isTrue e X.env whole = (do let v ← whole; standAt e.pos; holding [v] (truthy v)) := by intro _; rfl) : PT X e (ttD G E (fTb F)) := (pt_val h he).weak fun s H Q ⟨w0, H0, r, w, QD, EX, fr, lk, f, k⟩ =>
  ⟨w0, H0, r, w, _, EX, fr, lk, f, fun d v w' H' l ok rp ⟨b, ed, qb⟩ => ⟨b, by rw [ed] at rp; exact rp.bl_of, k b w' H' l ok qb⟩⟩
/-- two comparisons in a chain -/
def fChain (g g' : G2) (A B C : FE) : FE := fun r Q EX => A r (fun x => B r (fun y => g x y fun z => ∃ b, z = .bl b ∧ if b = true then C r (fun u => g' y u Q) EX else Q (.bl false)) EX) EX
theorem chain_link {op op' : CmpOp} {g g' : G2} {A B C : FE} {rr rr' : R2} (k0 : ∀ H0 w H x y v u Q (QD : D → Prop), Ok w H → See G H0 w H x v → See G H0 w H y u → g x y QD →
    (∀ d z w' H', Le w H w' H' → Ok w' H' → Rep G w' d z → QD d → Q z H') → rr v u H Q)
    (k1 : ∀ H0 w H x y v u Q (QD : D → Prop), Ok w H → See G H0 w H x v → See G H0 w H y u → g' x y QD →
    (∀ d z w' H', Le w H w' H' → Ok w' H' → Rep G w' d z → QD d → Q z H') → rr' v u H Q) (s : St) (H : Hp) (Q : VK) (h : tD G E (fChain g g' A B C) s H Q) : tChain rr rr' (bD G E A) (bD G E B) (bD G E C) s H Q := by
  obtain ⟨w0, H0, r, w, QD, EX, fr, lk, f, k⟩ := h
  refine ⟨w0, H0, r, w, _, EX, fr, lk, f, fun x v w1 H1 l1 ok1 s1 q1 => ?_⟩
  refine ⟨w0, H0, r, w1, _, EX, fr.go l1 ok1, lk, q1, fun y u w2 H2 l2 ok2 s2 q2 => ?_⟩
  refine k0 H0 w2 H2 x y v u _ _ ok2 (s1.go l2) s2 q2 fun d z w3 H3 l3 ok3 r3 ⟨b, ed, q3⟩ => ?_
  rw [ed] at r3
  refine ⟨b, r3.bl_of, ?_⟩
  cases b with
  | false =>
    rw [if_neg Bool.false_ne_true] at q3 ⊢
    exact k _ _ w3 H3 ((l1.trans l2).trans l3) ok3 Rep.bl q3
  | true =>
    rw [if_pos rfl] at q3 ⊢
    refine ⟨w0, H0, r, w3, _, EX, ((fr.go l1 ok1).go l2 ok2).go l3 ok3, lk, q3, fun u' v' w4 H4 l4 ok4 s4 q4 => ?_⟩
    exact k1 H0 w4 H4 y u' u v' Q QD ok4 ((s2.go l3).go l4) s4 q4 fun d' z' w5 H5 l5 ok5 r5 q5 => k d' z' w5 H5 (((l1.trans l2).trans l3).trans (l4.trans l5)) ok5 r5 q5
theorem ce_chain {c : Expr} {op op' : CmpOp} {g g' : G2} {A B C : FE} (ho : OpL G X (compareOp op) g) (ho' : OpL G X (compareOp op') g') (ha : PE X a (bD G E A)) (hb : PE X b (bD G E B)) (hc : PE X c (bD G E C))
    (hm : lastMarks [op, op'] [b, c] = false := by with_unfolding_all rfl) : PE X (.Compare a [op, op'] [b, c] pos) (tD G E (fChain g g' A B C)) := by
  obtain ⟨rr, hr, k0⟩ := ho.ex
  obtain ⟨rr', hr', k1⟩ := ho'.ex
  exact (pe_chain hr hr' ha hb hc hm).weak (chain_link (op := op) (op' := op') k0 k1)
/-! ### and, or, not, if else -/
def fAndT (A B : FT) : FT := fun r Q EX => A r (fun b => if b = true then B r Q EX else Q false) EX
def fOrT (A B : FT) : FT := fun r Q EX => A r (fun b => if b = true then Q true else B r Q EX) EX
def fNotT (A : FT) : FT := fun r Q EX => A r (fun b => Q (!b)) EX
def fAnd (A B : FE) : FE := fun r Q EX => A r (fun d => ∃ b, d = .bl b ∧ if b = true then B r Q EX else Q (.bl false)) EX
def fNot (A : FE) : FE := fun r Q EX => A r (fun d => ∃ b, d = .bl b ∧ Q (.bl (!b))) EX
def fIf (T : FT) (A B : FE) : FE := fun r Q EX => T r (fun b => if b = true then A r Q EX else B r Q EX) EX
variable {rest : List Expr}
theorem cw_and1 {A : FT} (ha : PT X a (ttD G E A)) : PW X (.BoolOp .And [a] pos) (ttD G E A) := pw_and1 ha
theorem cw_or1 {A : FT} (ha : PT X a (ttD G E A)) : PW X (.BoolOp .Or [a] pos) (ttD G E A) := pw_or1 ha
theorem cw_and {A B : FT} (ha : PT X a (ttD G E A)) (hb : PW X (.BoolOp .And (b :: rest) pos) (ttD G E B)) : PW X (.BoolOp .And (a :: b :: rest) pos) (ttD G E (fAndT A B)) := (pw_and ha hb).weak fun s H Q ⟨w0, H0, r, w, QD, EX, fr, lk, f, k⟩ => by
  refine ⟨w0, H0, r, w, _, EX, fr, lk, f, fun c w1 H1 l1 ok1 q1 => ?_⟩
  cases c with
  | true =>
    rw [if_pos rfl] at q1 ⊢
    exact ⟨w0, H0, r, w1, QD, EX, fr.go l1 ok1, lk, q1, fun d w2 H2 l2 ok2 q2 => k d w2 H2 (l1.trans l2) ok2 q2⟩
  | false =>
    rw [if_neg Bool.false_ne_true] at q1 ⊢
    exact k false w1 H1 l1 ok1 q1
theorem cw_or {A B : FT} (ha : PT X a (ttD G E A)) (hb : PW X (.BoolOp .Or (b :: rest) pos) (ttD G E B)) : PW X (.BoolOp .Or (a :: b :: rest) pos) (ttD G E (fOrT A B)) := (pw_or ha hb).weak fun s H Q ⟨w0, H0, r, w, QD, EX, fr, lk, f, k⟩ => by
  refine ⟨w0, H0, r, w, _, EX, fr, lk, f, fun c w1 H1 l1 ok1 q1 => ?_⟩
  cases c with
  | true =>
    rw [if_pos rfl] at q1 ⊢
    exact k true w1 H1 l1 ok1 q1
  | false =>
    rw [if_neg Bool.false_ne_true] at q1 ⊢
    exact ⟨w0, H0, r, w1, QD, EX, fr.go l1 ok1, lk, q1, fun d w2 H2 l2 ok2 q2 => k d w2 H2 (l1.trans l2) ok2 q2⟩
theorem ct_not {A : FT} (ha : PT X a (ttD G E A)) : PT X (.UnaryOp .Not a pos) (ttD G E (fNotT A)) := (pt_not ha).weak fun s H Q ⟨w0, H0, r, w, QD, EX, fr, lk, f, k⟩ =>
  ⟨w0, H0, r, w, _, EX, fr, lk, f, fun c w1 H1 l1 ok1 q1 => k _ w1 H1 l1 ok1 q1⟩
theorem ce_one {op} {A : FE} (h : PE X a (tD G E A)) : PE X (.BoolOp op [a] pos) (tD G E A) := pe_one h
theorem ce_and {A B : FE} (ha : PE X a (tD G E A)) (hb : PE X (.BoolOp .And (b :: rest) pos) (tD G E B)) : PE X (.BoolOp .And (a :: b :: rest) pos) (tD G E (fAnd A B)) := (pe_and ha hb).weak fun s H Q ⟨w0, H0, r, w, QD, EX, fr, lk, f, k⟩ => by
  refine ⟨w0, H0, r, w, _, EX, fr, lk, f, fun x v w1 H1 l1 ok1 rp ⟨c, ex, q1⟩ => ?_⟩
  rw [ex] at rp
  refine ⟨c, rp.bl_of, ?_⟩
  cases c with
  | true =>
    rw [if_pos rfl] at q1 ⊢
    exact ⟨w0, H0, r, w1, QD, EX, fr.go l1 ok1, lk, q1, fun d u w2 H2 l2 ok2 r2 q2 => k d u w2 H2 (l1.trans l2) ok2 r2 q2⟩
  | false =>
    rw [if_neg Bool.false_ne_true] at q1 ⊢
    exact k _ _ w1 H1 l1 ok1 Rep.bl q1
theorem ce_not {A : FE} (ha : PE X a (tD G E A)) : PE X (.UnaryOp .Not a pos) (tD G E (fNot A)) := (pe_not ha).weak fun s H Q ⟨w0, H0, r, w, QD, EX, fr, lk, f, k⟩ =>
  ⟨w0, H0, r, w, _, EX, fr, lk, f, fun x v w1 H1 l1 ok1 rp ⟨c, ex, q1⟩ => ⟨c, by rw [ex] at rp; exact rp.bl_of, k _ _ w1 H1 l1 ok1 Rep.bl q1⟩⟩
theorem ce_if {c : Expr} {T : FT} {A B : FE} (hc : PT X c (ttD G E T)) (ha : PE X a (tD G E A)) (hb : PE X b (tD G E B)) : PE X (.IfExp c a b pos) (tD G E (fIf T A B)) := (pe_ifExp hc ha hb).weak fun s H Q ⟨w0, H0, r, w, QD, EX, fr, lk, f, k⟩ => by
  refine ⟨w0, H0, r, w, _, EX, fr, lk, f, fun c w1 H1 l1 ok1 q1 => ?_⟩
  cases c with
  | true =>
    rw [if_pos rfl] at q1 ⊢
    exact ⟨w0, H0, r, w1, QD, EX, fr.go l1 ok1, lk, q1, fun d u w2 H2 l2 ok2 r2 q2 => k d u w2 H2 (l1.trans l2) ok2 r2 q2⟩
  | false =>
    rw [if_neg Bool.false_ne_true] at q1 ⊢
    exact ⟨w0, H0, r, w1, QD, EX, fr.go l1 ok1, lk, q1, fun d u w2 H2 l2 ok2 r2 q2 => k d u w2 H2 (l1.trans l2) ok2 r2 q2⟩

/-! ### argument lists, displays -/
def fNil : FA := fun _ Q _ => Q []
def fCons (A : FE) (B : FA) : FA := fun r Q EX => A r (fun d => B r (fun ds => Q (d :: ds)) EX) EX
theorem ca_nil : PA X [] (taD G E fNil) := PA.weak pa_nil fun s H Q ⟨w0, H0, r, w, QD, EX, fr, lk, f, k⟩ => k [] [] w H (.refl w H) fr.ok Reps.nil f
theorem ca_cons {A : FE} {B : FA} (ha : PE X e (tD G E A)) (hr : PA X es (taD G E B)) (hs : starEach (e :: es) X.env = (false, eval e X.env) :: starEach es X.env := by rfl) : PA X (e :: es) (taD G E (fCons A B)) := (pa_cons ha hr hs).weak fun s H Q ⟨w0, H0, r, w, QD, EX, fr, lk, f, k⟩ =>
  ⟨w0, H0, r, w, _, EX, fr, lk, f, fun d v w1 H1 l1 ok1 r1 q1 => ⟨w0, H0, r, w1, _, EX, fr.go l1 ok1, lk, q1, fun ds vs w2 H2 l2 ok2 r2 q2 => k (d :: ds) (v :: vs) w2 H2 (l1.trans l2) ok2 (Reps.cons (r1.mono l2.sub) r2) q2⟩⟩
theorem cab_nil : PA X [] (baD G E fNil) := PA.weak pa_nil fun s H Q ⟨w0, H0, r, w, QD, EX, fr, lk, f, k⟩ => k [] [] w H (.refl w H) fr.ok .nil f
theorem cab_cons {A : FE} {B : FA} (ha : PE X e (bD G E A)) (hr : PA X es (baD G E B)) (hs : starEach (e :: es) X.env = (false, eval e X.env) :: starEach es X.env := by rfl) : PA X (e :: es) (baD G E (fCons A B)) := (pa_cons ha hr hs).weak fun s H Q ⟨w0, H0, r, w, QD, EX, fr, lk, f, k⟩ =>
  ⟨w0, H0, r, w, _, EX, fr, lk, f, fun d v w1 H1 l1 ok1 r1 q1 => ⟨w0, H0, r, w1, _, EX, fr.go l1 ok1, lk, q1, fun ds vs w2 H2 l2 ok2 r2 q2 => k (d :: ds) (v :: vs) w2 H2 (l1.trans l2) ok2 (.cons (r1.go l2) r2) q2⟩⟩
def fTup (A : FA) : FE := fun r Q EX => A r (fun ds => ds.length ≤ sizeLine ∧ Q (.tup ds)) EX
def fLst (A : FA) : FA := fun r Q EX => A r (fun ds => ds.length ≤ sizeLine ∧ Q ds) EX
theorem Mine.new {w0 w w1 : Wd} {H0 H H1 : Hp} {p : Addr} (l0 : Le w0 H0 w1 H1) (ok : Ok w1 H1) (h : H1 p = none) : Mine H0 w1 p := by
  refine ⟨ok.none_hd h, ok.none_jr h, ?_⟩
  cases q : H0 p with
  | none => rfl
  | some o => exact absurd h (l0.dom p (by rw [q]; exact fun z => by cases z))
theorem Le.none_of {w w1 : Wd} {H H1 : Hp} {p : Addr} (l : Le w H w1 H1) (h : H1 p = none) : H p = none := by
  cases q : H p with
  | none => rfl
  | some o => exact absurd h (l.dom p (by rw [q]; exact fun z => by cases z))
/-- a new tuple, frozen at once -/
theorem newTup {w1 : Wd} {H1 : Hp} {p : Addr} {ds : List D} {vs : List V} {o : Obj} (ok : Ok w1 H1) (h : H1 p = none) (hd : o.dict = none) (r : Reps G w1 ds vs) :
    ∃ w2, Le w1 H1 w2 (upd H1 p (.frz o (.tup vs))) ∧ Ok w2 (upd H1 p (.frz o (.tup vs))) ∧ Rep G w2 (.tup ds) (.ref p) := by
  have hn := ok.none_hd h
  have nj := ok.none_jr h
  refine ⟨w1.frz (upd H1 p (.frz o (.tup vs))) p, (Le.new h).frz hn h, (ok.new h).frz nj, Rep.tup (.inl ⟨o, by rw [frz_at, upd_same], hd⟩) (r.mono (.frz hn))⟩
theorem ce_tup {x1} {A : FA} (h : PA X es (taD G E A)) : PE X (.Tuple es x1 pos) (tD G E (fTup A)) := PE.weak (pe_tupF h) fun s H Q ⟨w0, H0, r, w, QD, EX, fr, lk, f, k⟩ =>
  ⟨w0, H0, r, w, _, EX, fr, lk, f, fun ds vs w1 H1 l1 ok1 r1 ⟨hz, q1⟩ => ⟨by rw [← r1.length]; exact hz, fun p o hp hd => by
    obtain ⟨w2, l2, ok2, r2⟩ := newTup (p := p) ok1 hp hd r1
    exact k _ _ w2 _ (l1.trans l2) ok2 r2 q1⟩⟩
theorem cf_lst {A : FA} (h : PA X es (taD G E A)) : PE X (.List es pos) (fD G E (fLst A)) := PE.weak (pe_lst h) fun s H Q ⟨w0, H0, r, w, QD, EX, fr, lk, f, k⟩ =>
  ⟨w0, H0, r, w, _, EX, fr, lk, f, fun ds vs w1 H1 l1 ok1 r1 ⟨hz, q1⟩ => ⟨by rw [← r1.length]; exact hz, fun p hp =>
    k ds p vs w1 _ (l1.trans (Le.new hp)) (ok1.new hp) (l1.none_of hp) (Mine.new (w := w) (H := H) (fr.le.trans l1) ok1 hp) upd_same r1 q1⟩⟩
end
end DL
/-! The data layer, part 3: what a seen value is; operators, comparisons, subscripts, slices. -/
namespace DL
open PySem L2

section
variable {G : Gm} {H0 : Hp} {w : Wd} {H : Hp} {v : V}
theorem See.int_of {i : Int} (h : See G H0 w H (.int i) v) : v = .int i := by
  rcases h with h | ⟨_, _, _, _, e, _⟩ | ⟨_, _, _, _, _, e, _⟩
  · exact h.int_of
  · cases e
  · cases e
theorem See.str_of {i : Str} (h : See G H0 w H (.str i) v) : v = .str i := by
  rcases h with h | ⟨_, _, _, _, e, _⟩ | ⟨_, _, _, _, _, e, _⟩
  · exact h.str_of
  · cases e
  · cases e
theorem See.bl_of {i : Bool} (h : See G H0 w H (.bl i) v) : v = .bl i := by
  rcases h with h | ⟨_, _, _, _, e, _⟩ | ⟨_, _, _, _, _, e, _⟩
  · exact h.bl_of
  · cases e
  · cases e
theorem See.non_of (h : See G H0 w H .non v) : v = .non := by
  rcases h with h | ⟨_, _, _, _, e, _⟩ | ⟨_, _, _, _, _, e, _⟩
  · exact h.non_of
  · cases e
  · cases e
theorem See.tup_of {ds : List D} (ok : Ok w H) (h : See G H0 w H (.tup ds) v) : ∃ a vs, v = .ref a ∧ SqT G.K H a vs ∧ Reps G w ds vs := by
  rcases h with h | ⟨_, _, _, _, e, _⟩ | ⟨_, _, _, _, _, e, _⟩
  · obtain ⟨a, vs, e, s, r⟩ := h.tup_of
    exact ⟨a, vs, e, sqT_sub ok.sub s.sqt, r⟩
  · cases e
  · cases e
theorem See.tup_rep {ds : List D} (h : See G H0 w H (.tup ds) v) : Rep G w (.tup ds) v := by
  rcases h with h | ⟨_, _, _, _, e, _⟩ | ⟨_, _, _, _, _, e, _⟩
  · exact h
  · cases e
  · cases e
theorem See.lst_of {ds : List D} (ok : Ok w H) (h : See G H0 w H (.lst ds) v) : ∃ a vs, v = .ref a ∧ LsT G.K H a vs ∧ Reps G w ds vs := by
  rcases h with h | ⟨a, vs, es, e1, e, m, h1, r⟩ | ⟨_, _, _, _, _, e, _⟩
  · obtain ⟨a, vs, e, s, r⟩ := h.lst_of
    exact ⟨a, vs, e, lsT_sub ok.sub s, r⟩
  · cases e
    exact ⟨a, vs, e1, .inl (.of h1), r⟩
  · cases e
theorem See.dic_of {ks : List Key} {ds : List D} (ok : Ok w H) (h : See G H0 w H (.dic ks ds) v) : ∃ a vs, v = .ref a ∧ (H a = some (.dK (ks.zip vs)) ∨ KDic G.K G.pw a (ks.zip vs)) ∧ ks.length = vs.length ∧ Reps G w ds vs := by
  rcases h with h | ⟨_, _, _, _, e, _⟩ | ⟨a, vs, k2, d2, e1, e, m, h1, hl, r⟩
  · obtain ⟨a, vs, e, s, hl, r⟩ := h.dic_of
    exact ⟨a, vs, e, s.imp (ok.sub _ _) id, hl, r⟩
  · cases e
  · cases e
    exact ⟨a, vs, e1, .inl h1, hl, r⟩
/-- a flat value, or a tuple: no own object -/
theorem See.rep {d : D} (h : See G H0 w H d v) (n1 : ∀ ds, d ≠ .lst ds) (n2 : ∀ ks ds, d ≠ .dic ks ds) : Rep G w d v := by
  rcases h with h | ⟨_, _, ds, _, e, _⟩ | ⟨_, _, ks, ds, _, e, _⟩
  · exact h
  · exact absurd e (n1 ds)
  · exact absurd e (n2 ks ds)
theorem SqL.rd {K : PySem.W.Frag} {a : Addr} {vs : List V} (h : Rd H a (.lst vs)) : SqL K H a vs := .inl h
/-- a new list, frozen at once -/
theorem newLst {w1 : Wd} {H1 : Hp} {p : Addr} {ds : List D} {vs : List V} (ok : Ok w1 H1) (h : H1 p = none) (r : Reps G w1 ds vs) :
    ∃ w2, Le w1 H1 w2 (upd H1 p (.lst vs)) ∧ Ok w2 (upd H1 p (.lst vs)) ∧ Rep G w2 (.lst ds) (.ref p) := by
  have hn := ok.none_hd h
  have nj := ok.none_jr h
  exact ⟨w1.frz (upd H1 p (.lst vs)) p, (Le.new h).frz hn h, (ok.new h).frz nj, Rep.lst (Rd.of (by rw [frz_at, upd_same])) (r.mono (.frz hn))⟩
end

/-! ### + - * // % ** -/
/-- lists: any that may be read -/
theorem LsT.at {X : Cx} {pins : List (Addr × Obj)} {σ : L2.St} {H : Hp} {s : Shared} {a : Addr} {xs : List V} (I : Inv X pins σ H s) (h : LsT X.K H a xs) : ∃ (its : List Value) (n : Nat), Vals xs its ∧ s.heap.get? a = some { cls := .type "list", data := .seq its.toArray n } := by
  rcases h with h | ⟨its, n, e, z, r⟩
  · obtain ⟨_, its, n, r, e⟩ := h.ok I.hok
    exact ⟨its, n, r, e⟩
  · exact ⟨its.toList, n, r, I.kIn _ _ e⟩
def rCatR (K : PySem.W.Frag) : R2 := fun x y H Q => ∃ l b xs zs, x = .ref l ∧ y = .ref b ∧ LsT K H l xs ∧ LsT K H b zs ∧ xs.length + zs.length ≤ sizeLine ∧ ∀ p, H p = none → Q (.ref p) (upd H p (.lst (xs ++ zs)))
theorem op_catR {X : Cx} : OpR X (binaryOp .Add) (rCatR X.K) := by
  intro pins s σ H x y v u Q I rx ry hyp
  obtain ⟨l, b, xs, zs, rfl, rfl, h1, h2, hz, q⟩ := hyp
  cases rx
  cases ry
  obtain ⟨its, n, r, e⟩ := h1.at I
  obtain ⟨its2, n2, r2, e2⟩ := h2.at I
  have l1 := r.length
  have l2 := r2.length
  refine PySem.P.add_list e e2 ?_ (by simp only [List.size_toArray]; omega)
  have glue : its.toArray ++ its2.toArray = (its ++ its2).toArray := by simp
  have len : (xs ++ zs).length ≤ sizeLine := by rw [List.length_append]; omega
  rw [glue]
  exact ⟨V.ref s.heap.objs.size, upd H s.heap.objs.size (.lst (xs ++ zs)), I.lnew (t' := s.toks) (Vals.append r r2) len, rfl, q _ I.fresh⟩
def addD : G2 := fun x y Q => match x, y with
  | .int i, .int j => Q (.int (i + j))
  | .str i, .str j => i.length + j.length ≤ sizeLine ∧ Q (.str (i ++ j))
  | .tup a, .tup b => a.length + b.length ≤ sizeLine ∧ Q (.tup (a ++ b))
  | .lst a, .lst b => a.length + b.length ≤ sizeLine ∧ Q (.lst (a ++ b))
  | _, _ => False
variable {G : Gm} {X : Cx}
theorem opl_add (hK : X.K = G.K := by rfl) : OpL G X (binaryOp .Add) addD := by
  refine ⟨_, op_add.or (op_add_str.or (op_catF.or op_catR)), fun H0 w H x y v u Q QD ok sx sy g k => ?_⟩
  cases x with
  | int i => cases y with
    | int j => exact .inl ⟨i, j, sx.int_of, sy.int_of, k _ _ w H (.refl w H) ok Rep.int g⟩
    | _ => exact g.elim
  | str i => cases y with
    | str j => exact .inr (.inl ⟨i, j, sx.str_of, sy.str_of, g.1, k _ _ w H (.refl w H) ok Rep.str g.2⟩)
    | _ => exact g.elim
  | tup a => cases y with
    | tup b =>
      obtain ⟨p, vs, rfl, s1, r1⟩ := sx.tup_of ok
      obtain ⟨q, us, rfl, s2, r2⟩ := sy.tup_of ok
      refine .inr (.inr (.inl ⟨p, q, vs, us, rfl, rfl, hK ▸ s1, hK ▸ s2, by rw [← r1.length, ← r2.length]; exact g.1, fun e => ?_, fun _ e => ?_, fun _ _ p o hp hd => ?_⟩))
      · subst e
        have ea : a = [] := List.length_eq_zero_iff.mp r1.length
        subst ea
        exact k _ _ w H (.refl w H) ok sy.tup_rep g.2
      · subst e
        have eb : b = [] := List.length_eq_zero_iff.mp r2.length
        subst eb
        refine k _ _ w H (.refl w H) ok sx.tup_rep ?_
        have := g.2
        rwa [List.append_nil] at this
      · obtain ⟨w2, l2, ok2, rp⟩ := newTup (p := p) ok hp hd (r1.append r2)
        exact k _ _ w2 _ l2 ok2 rp g.2
    | _ => exact g.elim
  | lst a => cases y with
    | lst b =>
      obtain ⟨p, vs, rfl, s1, r1⟩ := sx.lst_of ok
      obtain ⟨q, us, rfl, s2, r2⟩ := sy.lst_of ok
      refine .inr (.inr (.inr ⟨p, q, vs, us, rfl, rfl, hK ▸ s1, hK ▸ s2, by rw [← r1.length, ← r2.length]; exact g.1, fun p hp => ?_⟩))
      obtain ⟨w2, l2, ok2, rp⟩ := newLst (p := p) ok hp (r1.append r2)
      exact k _ _ w2 _ l2 ok2 rp g.2
    | _ => exact g.elim
  | _ => exact g.elim
/-- two ints under a condition -/
def intD (C : Int → Int → Prop) (f : Int → Int → D) : G2 := fun x y Q => match x, y with
  | .int i, .int j => C i j ∧ Q (f i j)
  | _, _ => False
theorem opl_int {op : Value → Value → Sem Value} {C : Int → Int → Prop} {f : Int → Int → Int} (h : OpR X op (rI C fun i j => .int (f i j))) : OpL G X op (intD C fun i j => .int (f i j)) := by
  refine ⟨_, h, fun H0 w H x y v u Q QD ok sx sy g k => ?_⟩
  cases x with
  | int i => cases y with
    | int j => exact ⟨i, j, sx.int_of, sy.int_of, g.1, k _ _ w H (.refl w H) ok Rep.int g.2⟩
    | _ => exact g.elim
  | _ => exact g.elim
abbrev mulD : G2 := intD CMul fun i j => .int (i * j)
abbrev divD : G2 := intD CDivN fun i j => .int (i.fdiv j)
abbrev modD : G2 := intD (fun _ j => j ≠ 0) fun i j => .int (i.fmod j)
abbrev powD : G2 := intD CPow fun i j => .int (i ^ j.toNat)
theorem opl_div : OpL G X (binaryOp .FloorDiv) divD := opl_int op_fdivN
theorem opl_mod : OpL G X (binaryOp .Mod) modD := opl_int op_modN
theorem opl_pow : OpL G X (binaryOp .Pow) powD := opl_int op_pow

/-! ### comparisons -/
/-- order: ints, texts -/
def ordD (p : Int → Int → Bool) (q : Str → Str → Bool) : G2 := fun x y Q => match x, y with
  | .int i, .int j => Q (.bl (p i j))
  | .str i, .str j => Q (.bl (q i j))
  | _, _ => False
theorem opl_ord {op : Value → Value → Sem Value} {p : Int → Int → Bool} {q : Str → Str → Bool} (h1 : OpR X op (rI0 fun i j => .bl (p i j))) (h2 : OpR X op (fun x y H Q => ∃ i j, x = .str i ∧ y = .str j ∧ Q (.bl (q i j)) H)) : OpL G X op (ordD p q) := by
  refine ⟨_, h1.or h2, fun H0 w H x y v u Q QD ok sx sy g k => ?_⟩
  cases x with
  | int i => cases y with
    | int j => exact .inl ⟨i, j, sx.int_of, sy.int_of, k _ _ w H (.refl w H) ok Rep.bl g⟩
    | _ => exact g.elim
  | str i => cases y with
    | str j => exact .inr ⟨i, j, sx.str_of, sy.str_of, k _ _ w H (.refl w H) ok Rep.bl g⟩
    | _ => exact g.elim
  | _ => exact g.elim
/-- texts: by code points -/
def ltS (i j : Str) : Bool := decide (i.cps.toList < j.cps.toList)
abbrev ltD : G2 := ordD (fun i j => decide (i < j)) ltS
abbrev leD : G2 := ordD (fun i j => decide (i ≤ j)) fun i j => !ltS j i
abbrev gtD : G2 := ordD (fun i j => decide (j < i)) fun i j => ltS j i
abbrev geD : G2 := ordD (fun i j => decide (j ≤ i)) fun i j => !ltS i j
theorem opl_lt : OpL G X (compareOp .Lt) ltD := opl_ord op_lt op_lt_str
theorem opl_le : OpL G X (compareOp .LtE) leD := opl_ord op_le op_le_str
theorem opl_gt : OpL G X (compareOp .Gt) gtD := opl_ord op_gt op_gt_str
theorem opl_ge : OpL G X (compareOp .GtE) geD := opl_ord op_ge op_ge_str

/-! ### data as the library sees it -/
mutual
def pd : D → PyData
  | .non => .none
  | .bl b => .bool b
  | .int i => .int i
  | .str s => .str s
  | .tup ds => .tuple (pds ds)
  | .lst ds => .list (pds ds)
  | .dic _ _ => .dict []
  | .obj _ _ => .dict []
  | .exc _ _ => .dict []
  | .jar => .dict []
def pds : List D → List PyData
  | [] => []
  | d :: ds => pd d :: pds ds
end
mutual
/-- nothing but None, bools, ints, texts, tuples, lists -/
def plain : D → Bool
  | .tup ds => plains ds
  | .lst ds => plains ds
  | .dic _ _ => false
  | .obj _ _ => false
  | .exc _ _ => false
  | .jar => false
  | .non => true
  | .bl _ => true
  | .int _ => true
  | .str _ => true
def plains : List D → Bool
  | [] => true
  | d :: ds => plain d && plains ds
end
mutual
theorem Rep.dp {w : Wd} {H : Hp} (k : ∀ a o, w.hd a = some o → H a = some o) : ∀ (d : D) {v : V}, plain d = true → Rep G w d v → Dp G.K H v (pd d)
  | .non, v, _, h => by rw [h.non_of]; unfold pd; exact .non
  | .bl b, v, _, h => by rw [h.bl_of]; unfold pd; exact .bl b
  | .int i, v, _, h => by rw [h.int_of]; unfold pd; exact .int i
  | .str s, v, _, h => by rw [h.str_of]; unfold pd; exact .str s
  | .tup ds, v, p, h => by
    obtain ⟨a, vs, e, s, r⟩ := h.tup_of
    unfold plain at p
    unfold pd
    rw [e]
    exact .tup (sqT_sub k s.sqt) (Reps.dp k ds p r)
  | .lst ds, v, p, h => by
    obtain ⟨a, vs, e, s, r⟩ := h.lst_of
    unfold plain at p
    unfold pd
    rw [e]
    exact .lst (lsT_sub k s).sql (Reps.dp k ds p r)
  | .dic _ _, v, p, h => by unfold plain at p; cases p
  | .obj _ _, v, p, h => by unfold plain at p; cases p
  | .exc _ _, v, p, h => by unfold plain at p; cases p
  | .jar, v, p, h => by unfold plain at p; cases p
theorem Reps.dp {w : Wd} {H : Hp} (k : ∀ a o, w.hd a = some o → H a = some o) : ∀ (ds : List D) {vs : List V}, plains ds = true → Reps G w ds vs → DpAll G.K H vs (pds ds)
  | [], vs, _, h => by rw [h.of_nil]; unfold pds; exact .nil
  | d :: ds, vs, p, h => by
    obtain ⟨v, r, e, h1, h2⟩ := h.of_cons
    unfold plains at p
    rw [Bool.and_eq_true] at p
    unfold pds
    rw [e]
    exact .cons (Rep.dp k d p.1 h1) (Reps.dp k ds p.2 h2)
end
theorem See.dp {H0 : Hp} {w : Wd} {H : Hp} {d : D} {v : V} (ok : Ok w H) (p : plain d = true) (h : See G H0 w H d v) : Dp G.K H v (pd d) := by
  rcases h with h | ⟨a, vs, ds, e1, e2, m, h1, r⟩ | ⟨_, _, _, _, _, e, _⟩
  · exact h.dp ok.sub d p
  · subst e2
    unfold plain at p
    unfold pd
    rw [e1]
    exact .lst (SqL.of h1) (Reps.dp ok.sub ds p r)
  · subst e; unfold plain at p; cases p
/-- == of data -/
def shp (d : D) : Prop := plain d = true ∧ SeqAt.shaped (pd d) = true
def eqb (x y : D) : Bool := PyData.eqv (pd x) (pd y)
def bothS (x y : D) : Option Bool := match x, y with
  | .str a, .str b => some (decide (a.cps.toList = b.cps.toList))
  | _, _ => none
theorem bothS_some {x y : D} {b : Bool} (h : bothS x y = some b) : ∃ s t, x = .str s ∧ y = .str t ∧ b = decide (s.cps.toList = t.cps.toList) := by
  unfold bothS at h
  split at h
  · rename_i s t
    exact ⟨s, t, rfl, rfl, (Option.some.inj h).symm⟩
  · cases h
theorem dec_strs {s t : Str} : decide (V.str s = V.str t) = decide (s.cps.toList = t.cps.toList) := by
  refine decide_eq_decide.mpr ⟨fun h => ?_, fun h => ?_⟩
  · cases h; rfl
  · cases s; cases t
    exact congrArg (fun z => V.str ⟨z⟩) (Array.toList_inj.mp h)
def eqD : G2 := fun x y Q => match bothS x y with
  | some b => Q (.bl b)
  | none => shp x ∧ shp y ∧ Q (.bl (eqb x y))
def neD : G2 := fun x y Q => match bothS x y with
  | some b => Q (.bl (!b))
  | none => shp x ∧ shp y ∧ Q (.bl (!eqb x y))
theorem opl_eq (hu : X.A.units + 64 < cLine) (hK : X.K = G.K := by rfl) : OpL G X (compareOp .Eq) eqD := by
  refine ⟨_, op_eq.or (op_eqD hu), fun H0 w H x y v u Q QD ok sx sy g k => ?_⟩
  unfold eqD at g
  cases e : bothS x y with
  | some b =>
    rw [e] at g
    obtain ⟨s, t, rfl, rfl, rfl⟩ := bothS_some e
    refine .inl ?_
    rw [sx.str_of, sy.str_of]
    refine ⟨rfl, ?_⟩
    rw [dec_strs]
    exact k _ _ w H (.refl w H) ok Rep.bl g
  | none =>
    rw [e] at g
    obtain ⟨⟨p1, q1⟩, ⟨p2, q2⟩, g⟩ := g
    exact .inr ⟨pd x, pd y, hK ▸ sx.dp ok p1, hK ▸ sy.dp ok p2, q1, q2, k _ _ w H (.refl w H) ok Rep.bl g⟩
theorem opl_ne (hu : X.A.units + 64 < cLine) (hK : X.K = G.K := by rfl) : OpL G X (compareOp .NotEq) neD := by
  refine ⟨_, op_ne.or (op_neD hu), fun H0 w H x y v u Q QD ok sx sy g k => ?_⟩
  unfold neD at g
  cases e : bothS x y with
  | some b =>
    rw [e] at g
    obtain ⟨s, t, rfl, rfl, rfl⟩ := bothS_some e
    refine .inl ?_
    rw [sx.str_of, sy.str_of]
    refine ⟨rfl, ?_⟩
    rw [dec_strs]
    exact k _ _ w H (.refl w H) ok Rep.bl g
  | none =>
    rw [e] at g
    obtain ⟨⟨p1, q1⟩, ⟨p2, q2⟩, g⟩ := g
    exact .inr ⟨pd x, pd y, hK ▸ sx.dp ok p1, hK ▸ sy.dp ok p2, q1, q2, k _ _ w H (.refl w H) ok Rep.bl g⟩
/-- is None, is not None -/
def isNon : D → Bool
  | .non => true
  | _ => false
theorem Rep.non_iff {w : Wd} {x : D} {v : V} (h : Rep G w x v) : decide (v = .non) = isNon x := by
  cases x with
  | non => rw [h.non_of]; rfl
  | bl b => rw [h.bl_of]; rfl
  | int b => rw [h.int_of]; rfl
  | str b => rw [h.str_of]; rfl
  | tup ds => obtain ⟨a, vs, e, _⟩ := h.tup_of; rw [e]; rfl
  | lst ds => obtain ⟨a, vs, e, _⟩ := h.lst_of; rw [e]; rfl
  | dic ks ds => obtain ⟨a, vs, e, _⟩ := h.dic_of; rw [e]; rfl
  | obj c ds => obtain ⟨a, dx, fs, e, _⟩ := h.obj_of; rw [e]; rfl
  | exc c ds => obtain ⟨a, _, _, _, e, _⟩ := h.exc_of; rw [e]; rfl
  | jar => obtain ⟨a, e, _⟩ := h.jar_of; rw [e]; rfl
/-! ### in, not in -/
def flatD : D → Bool
  | .non => true | .bl _ => true | .int _ => true | .str _ => true
  | _ => false
theorem Rep.flat {w : Wd} {x : D} {v : V} (f : flatD x = true) (h : Rep G w x v) : flatV v = true := by
  cases x with
  | non => rw [h.non_of]; rfl
  | bl b => rw [h.bl_of]; rfl
  | int b => rw [h.int_of]; rfl
  | str b => rw [h.str_of]; rfl
  | _ => cases f
theorem Reps.flat {w : Wd} : ∀ {ds : List D} {vs : List V}, ds.all flatD = true → Reps G w ds vs → vs.all flatV = true
  | [], vs, _, h => by rw [h.of_nil]; rfl
  | d :: ds, vs, f, h => by
    obtain ⟨v, r, e, h1, h2⟩ := h.of_cons
    rw [List.all_cons, Bool.and_eq_true] at f
    rw [e, List.all_cons, h1.flat f.1, Reps.flat f.2 h2]; rfl
theorem eqV_eqb {w : Wd} {x y : D} {v u : V} (f : flatD x = true) (f2 : flatD y = true) (h : Rep G w x v) (h2 : Rep G w y u) : eqV v u = eqb x y := by
  cases x with
  | non => rw [h.non_of]; cases y with
    | non => rw [h2.non_of]; rfl
    | bl b => rw [h2.bl_of]; rfl
    | int b => rw [h2.int_of]; rfl
    | str b => rw [h2.str_of]; rfl
    | _ => cases f2
  | bl b => rw [h.bl_of]; cases y with
    | non => rw [h2.non_of]; rfl
    | bl b => rw [h2.bl_of]; rfl
    | int b => rw [h2.int_of]; rfl
    | str b => rw [h2.str_of]; rfl
    | _ => cases f2
  | int b => rw [h.int_of]; cases y with
    | non => rw [h2.non_of]; rfl
    | bl b => rw [h2.bl_of]; rfl
    | int b => rw [h2.int_of]; rfl
    | str b => rw [h2.str_of]; rfl
    | _ => cases f2
  | str b => rw [h.str_of]; cases y with
    | non => rw [h2.non_of]; rfl
    | bl b => rw [h2.bl_of]; rfl
    | int b => rw [h2.int_of]; rfl
    | str b => rw [h2.str_of]; rfl
    | _ => cases f2
  | _ => cases f
theorem inV_any {w : Wd} {x : D} {v : V} (f : flatD x = true) (h : Rep G w x v) : ∀ {ds : List D} {vs : List V}, ds.all flatD = true → Reps G w ds vs → inV v vs = ds.any fun z => eqb z x
  | [], vs, _, r => by rw [r.of_nil]; rfl
  | d :: ds, vs, fs, r => by
    obtain ⟨u, t, e, h1, h2⟩ := r.of_cons
    rw [List.all_cons, Bool.and_eq_true] at fs
    have ih := inV_any f h fs.2 h2
    unfold inV at ih ⊢
    rw [e, List.any_cons, List.any_cons, eqV_eqb fs.1 f h1 h, ih]
theorem flat_n1 {x : D} (f : flatD x = true) : ∀ ds, x ≠ .lst ds := fun ds e => by rw [e] at f; cases f
theorem flat_n2 {x : D} (f : flatD x = true) : ∀ ks ds, x ≠ .dic ks ds := fun ks ds e => by rw [e] at f; cases f
/-- x in y: flat in a tuple or a list of flat ones; data in a list of data; a sign in a text -/
def inD (neg : Bool) : G2 := fun x y Q => match y with
  | .tup ds => flatD x = true ∧ ds.all flatD = true ∧ Q (.bl (neg != ds.any fun z => eqb z x))
  | .lst ds => (shp x ∧ shp (.lst ds) ∧ Q (.bl (neg != ds.any fun z => eqb z x)))
  | .str z => match x with
    | .str c => ∃ n, c = ⟨#[n]⟩ ∧ Q (.bl (neg != decide (n ∈ z.cps.toList)))
    | _ => False
  | .dic ks _ => match x with
    | .str c => Q (.bl (neg != ks.any fun k => decide (k = Sum.inr c)))
    | .int c => Q (.bl (neg != ks.any fun k => decide (k = Sum.inl c)))
    | _ => False
  | _ => False
theorem pds_map : ∀ ds : List D, pds ds = ds.map pd
  | [] => rfl
  | d :: ds => by unfold pds; rw [pds_map ds]; rfl
end DL
/-! The data layer, part 4: in; subscripts, slices; dicts. -/
namespace DL
open PySem L2 PyProof.Rows
variable {G : Gm} {X : Cx}

/-! ### a written dict -/
theorem KEnt.keys {w : World} : ∀ {es : List DictEntry} {kvs : List (Key × V)}, KEnt w es kvs → ∀ e ∈ es, ∃ k, keyIs k e.key = true ∧ e.hash = keyH w k
  | [], [], _, e, he => by simp at he
  | e0 :: r, (k, v) :: t, h, e, he => by
    unfold KEnt at h
    obtain ⟨h1, h2, _, h4⟩ := h
    rcases List.mem_cons.mp he with q | q
    · rw [q]; exact ⟨k, h1, h2⟩
    · exact KEnt.keys h4 e q
  | [], _ :: _, h, _, _ => by unfold KEnt at h; exact h.elim
  | _ :: _, [], h, _, _ => by unfold KEnt at h; exact h.elim
theorem keyIs_iff {k k' : Key} {v : Value} (h : keyIs k v = true) : keyIs k' v = decide (k = k') := by
  by_cases e : k = k'
  · subst e; rw [h, decide_eq_true rfl]
  · rw [decide_eq_false e]
    cases q : keyIs k' v with
    | false => rfl
    | true =>
      rcases keyIs_shape h with ⟨i, t, r1, r2⟩ | ⟨x, t, r1, r2⟩ <;> rcases keyIs_shape q with ⟨j, u, r3, r4⟩ | ⟨y, u, r3, r4⟩
      · rw [r2] at r4; injection r4 with z _; exact absurd (by rw [r1, r3, z]) e
      · rw [r2] at r4; cases r4
      · rw [r2] at r4; cases r4
      · rw [r2] at r4; injection r4 with z _; exact absurd (by rw [r1, r3, z]) e
theorem KEnt.find {w : World} (k : Key) : ∀ {es : List DictEntry} {kvs : List (Key × V)}, KEnt w es kvs → RelO (valV kvs k) ((es.find? fun d => keyIs k d.key).map (·.val))
  | [], [], _ => True.intro
  | e0 :: r, (k0, v) :: t, h => by
    unfold KEnt at h
    obtain ⟨h1, h2, h3, h4⟩ := h
    rw [List.find?_cons, keyIs_iff h1]
    by_cases e : k0 = k
    · rw [decide_eq_true e, valV_pos (show (k0, v).1 = k from e)]
      exact h3
    · rw [decide_eq_false e, valV_neg (show ¬ (k0, v).1 = k from e)]
      exact KEnt.find k h4
  | [], _ :: _, h => by unfold KEnt at h; exact h.elim
  | _ :: _, [], h => by unfold KEnt at h; exact h.elim
theorem KDic.map {K : PySem.W.Frag} {P : Program} {w : World} {a : Addr} {kvs : List (Key × V)} {h : Heap} (d : KDic K w a kvs) (X : K.In h) : (a == sysModules) = false ∧ ∃ f, h.MapOf (mixKind P w) a f ∧ ∀ k, RelO (valV kvs k) (f k) := by
  obtain ⟨es, n, hl, hs, he⟩ := d
  refine ⟨hs, fun k => findBy (mixKind P w).is es k, ⟨_, es, n, X _ _ hl, ⟨rfl, rfl, rfl⟩, rfl, fun e m => he.keys e (Array.mem_toList_iff.mpr m), fun _ => rfl⟩, fun k => ?_⟩
  have q := he.find k
  obtain ⟨l⟩ := es
  show RelO (valV kvs k) (findBy (mixKind P w).is l.toArray k)
  unfold findBy
  rw [List.find?_toArray]
  exact q
/-- the value at a key over data -/
def dget (ks : List Key) (ds : List D) (k : Key) : Option D := ((ks.zip ds).find? fun p => decide (p.1 = k)).map (·.2)
theorem dget_rel {w : Wd} (k : Key) : ∀ {ks : List Key} {ds : List D} {vs : List V}, ks.length = vs.length → Reps G w ds vs →
    (∀ d, dget ks ds k = some d → ∃ v, valV (ks.zip vs) k = some v ∧ Rep G w d v) ∧ (dget ks ds k = none → valV (ks.zip vs) k = none)
  | [], ds, vs, hl, r => ⟨fun d h => by simp [dget] at h, fun _ => by simp [valV]⟩
  | k0 :: ks, [], vs, hl, r => by
    rw [r.of_nil] at hl
    simp at hl
  | k0 :: ks, d :: ds, vs, hl, r => by
    obtain ⟨v, t, e, h1, h2⟩ := r.of_cons
    subst e
    rw [List.length_cons, List.length_cons] at hl
    have ih := dget_rel (w := w) k (ks := ks) (ds := ds) (vs := t) (by omega) h2
    by_cases e : k0 = k
    · have z1 : dget (k0 :: ks) (d :: ds) k = some d := by simp [dget, e]
      have z2 : valV ((k0 :: ks).zip (v :: t)) k = some v := valV_pos (show (k0, v).1 = k from e)
      rw [z1, z2]
      exact ⟨fun d' q => ⟨v, rfl, by cases q; exact h1⟩, fun q => by cases q⟩
    · have z1 : dget (k0 :: ks) (d :: ds) k = dget ks ds k := by simp [dget, e]
      have z2 : valV ((k0 :: ks).zip (v :: t)) k = valV (ks.zip t) k := valV_neg (show ¬ (k0, v).1 = k from e)
      rw [z1, z2]
      exact ih
/-- a key as data -/
def keyD : D → Option Key
  | .int i => some (.inl i)
  | .str s => some (.inr s)
  | _ => none
theorem keyD_see {H0 : Hp} {w : Wd} {H : Hp} {d : D} {v : V} {k : Key} (h : See G H0 w H d v) (e : keyD d = some k) : v = kV k := by
  cases d with
  | int i => cases e; exact h.int_of
  | str i => cases e; exact h.str_of
  | _ => cases e
/-- reading of d[k] by values: a tracked or a written dict -/
def rDic (K : PySem.W.Frag) (w : World) : R2 := fun x y H Q => ∃ a kvs k v, x = .ref a ∧ y = kV k ∧ (H a = some (.dK kvs) ∨ KDic K w a kvs) ∧ valV kvs k = some v ∧ Q v H
theorem mixIs {P : Program} {w : World} {k : Key} {u : Value} (r : RelV (kV k) u) : (mixKind P w).is k u = true := by
  cases k with
  | inl i => obtain ⟨t, e⟩ := (show ∃ t, u = Value.int i t from r); rw [e]; exact mixKind_int P w i t
  | inr x => obtain ⟨t, e⟩ := (show ∃ t, u = Value.str x t from r); rw [e]; exact mixKind_str P w x t
theorem ix_dic (hu : X.A.units + 1 < cLine) : IxR X (rDic X.K X.w) := by
  intro value slice pins s σ H x y v u Q I rx ry hyp hs
  obtain ⟨a, kvs, k, z, rfl, rfl, hd, hv, q⟩ := hyp
  cases rx
  rcases hd with hd | hd
  · have g : DGet H a (kV k) (some z) := hv ▸ DGet.k hd
    exact tail_any (dict_typeIs I g) PySem.F.slot_dict_getitem.lookup (d_getItem hu I g ry fun w' s' I' r' => ⟨z, H, I', r', q⟩) hs
  · obtain ⟨_, f, hm, hf⟩ := hd.map (P := X.prog) I.kIn
    obtain ⟨w', hw, rw'⟩ := RelO.some_of (v := z) (o := f k) (by rw [← hv]; exact hf k)
    exact tail_any hm.typeIs PySem.F.slot_dict_getitem.lookup (wpAny_getItem_of (mixIs ry) hm hw ⟨z, H, I.tok _, rw', q⟩) hs
def rDicIn (K : PySem.W.Frag) (w : World) (neg : Bool) : R2 := fun y x H Q => ∃ a kvs k, x = .ref a ∧ y = kV k ∧ (H a = some (.dK kvs) ∨ KDic K w a kvs) ∧ Q (.bl (neg != (valV kvs k).isSome)) H
theorem op_dicIn (hu : X.A.units + 1 < cLine) : OpR X (compareOp .In) (rDicIn X.K X.w false) := by
  intro pins s σ H y x u v Q I ry rx hyp
  obtain ⟨a, kvs, k, rfl, rfl, hd, q⟩ := hyp
  cases rx
  rw [Bool.false_bne] at q
  rcases hd with hd | hd
  · exact d_in hu I (DGet.k hd) ry fun s' I' => ⟨.bl _, H, I', rfl, q⟩
  · obtain ⟨hs, f, hm, hf⟩ := hd.map (P := X.prog) I.kIn
    have e : (f k).isSome = (valV kvs k).isSome := by
      have := hf k
      revert this
      cases valV kvs k <;> cases f k <;> intro z <;> first | rfl | exact z.elim
    refine wpAny_in_of (mixIs ry) hs hm ?_
    rw [e]
    exact ⟨.bl _, H, I.tok _, rfl, q⟩
theorem op_dicNotIn (hu : X.A.units + 1 < cLine) : OpR X (compareOp .NotIn) (rDicIn X.K X.w true) := by
  intro pins s σ H y x u v Q I ry rx hyp
  obtain ⟨a, kvs, k, rfl, rfl, hd, q⟩ := hyp
  cases rx
  rw [Bool.true_bne] at q
  rcases hd with hd | hd
  · exact d_notIn hu I (DGet.k hd) ry fun s' I' => ⟨.bl _, H, I', rfl, q⟩
  · obtain ⟨hs, f, hm, hf⟩ := hd.map (P := X.prog) I.kIn
    have e : (f k).isSome = (valV kvs k).isSome := by
      have := hf k
      revert this
      cases valV kvs k <;> cases f k <;> intro z <;> first | rfl | exact z.elim
    refine wpAny_notIn_of (mixIs ry) hs hm ?_
    rw [e]
    exact ⟨.bl _, H, I.tok _, rfl, q⟩

/-! ### in, not in -/
theorem valV_ks {k : Key} : ∀ {ks : List Key} {vs : List V}, ks.length = vs.length → (valV (ks.zip vs) k).isSome = ks.any fun k0 => decide (k0 = k)
  | [], vs, _ => by simp [valV]
  | k0 :: ks, [], h => by simp at h
  | k0 :: ks, v :: vs, h => by
    have ih := valV_ks (k := k) (ks := ks) (vs := vs) (by simpa using h)
    by_cases e : k0 = k
    · rw [List.zip_cons_cons, valV_pos (show (k0, v).1 = k from e)]; simp [e]
    · rw [List.zip_cons_cons, valV_neg (show ¬ (k0, v).1 = k from e), ih]; simp [e]
/-- the readings that serve in, by the operator -/
structure InRules (X : Cx) (op : CmpOp) (neg : Bool) : Prop where
  seq : OpR X (compareOp op) (rIn X.K neg)
  deep : ∃ r, OpR X (compareOp op) r ∧ ∀ x y H Q d ds, Dp X.K H x d → Dp X.K H y (.list ds) → SeqAt.shaped d = true → SeqAt.shaped (.list ds) = true → Q (.bl (neg != ds.any fun z => PyData.eqv z d)) H → r x y H Q
  sign : OpR X (compareOp op) (fun x y H Q => ∃ (c : Nat) (z : Str), x = .str ⟨#[c]⟩ ∧ y = .str z ∧ Q (.bl (neg != decide (c ∈ z.cps.toList))) H)
  dic : OpR X (compareOp op) (rDicIn X.K X.w neg)
theorem inRules (hu : X.A.units + 65 < cLine) : InRules X .In false where
  seq := op_in_seq
  deep := ⟨_, op_inD hu, fun x y H Q d ds h1 h2 h3 h4 q => ⟨d, ds, h1, h2, h3, h4, by rw [Bool.false_bne] at q; exact q⟩⟩
  sign := fun pins s σ H x y v u Q I rx ry ⟨c, z, e1, e2, q⟩ => op_in_sign pins s σ H x y v u Q I rx ry ⟨c, z, e1, e2, by rw [Bool.false_bne] at q; exact q⟩
  dic := op_dicIn (by omega)
theorem notInRules (hu : X.A.units + 65 < cLine) : InRules X .NotIn true where
  seq := op_notIn_seq
  deep := ⟨_, op_notInD hu, fun x y H Q d ds h1 h2 h3 h4 q => ⟨d, ds, h1, h2, h3, h4, by rw [Bool.true_bne] at q; exact q⟩⟩
  sign := fun pins s σ H x y v u Q I rx ry ⟨c, z, e1, e2, q⟩ => op_notIn_sign pins s σ H x y v u Q I rx ry ⟨c, z, e1, e2, by rw [Bool.true_bne] at q; exact q⟩
  dic := op_dicNotIn (by omega)
theorem bneIf (neg b : Bool) : (if neg = true then !b else b) = (neg != b) := by cases neg <;> cases b <;> rfl
theorem opl_inG {op : CmpOp} {neg : Bool} (R : InRules X op neg) (hK : X.K = G.K := by rfl) (hW : X.w = G.pw := by rfl) : OpL G X (compareOp op) (inD neg) := by
  obtain ⟨rd, hrd, kd⟩ := R.deep
  refine ⟨_, R.seq.or (hrd.or (R.sign.or R.dic)), fun H0 w H x y v u Q QD ok sx sy g k => ?_⟩
  cases y with
  | tup ds =>
    obtain ⟨p, vs, rfl, s1, r1⟩ := sy.tup_of ok
    obtain ⟨f1, f2, g⟩ := g
    have rx := sx.rep (flat_n1 f1) (flat_n2 f1)
    refine .inl ⟨p, vs, rfl, .inr (hK ▸ s1), rx.flat f1, Reps.flat f2 r1, ?_⟩
    rw [inV_any f1 rx f2 r1, bneIf]
    exact k _ _ w H (.refl w H) ok Rep.bl g
  | lst ds =>
    obtain ⟨⟨p1, p2⟩, ⟨p3, p4⟩, g⟩ := g
    have e : pd (.lst ds) = .list (ds.map pd) := by rw [← pds_map]; conv => lhs; unfold pd
    have d1 := sx.dp ok p1
    have d2 := sy.dp ok p3
    rw [e] at d2 p4
    refine .inr (.inl (kd v u H Q (pd x) (ds.map pd) (hK ▸ d1) (hK ▸ d2) p2 p4 ?_))
    rw [List.any_map]
    exact k _ _ w H (.refl w H) ok Rep.bl g
  | str z =>
    cases x with
    | str c =>
      obtain ⟨n, rfl, g⟩ := g
      exact .inr (.inr (.inl ⟨n, z, sx.str_of, sy.str_of, k _ _ w H (.refl w H) ok Rep.bl g⟩))
    | _ => exact g.elim
  | dic ks ds =>
    obtain ⟨a, vs, rfl, hd, hl, r⟩ := sy.dic_of ok
    have fin : ∀ key : Key, v = kV key → QD (.bl (neg != ks.any fun k0 => decide (k0 = key))) → rDicIn X.K X.w neg v (.ref a) H Q := fun key e q =>
      ⟨a, ks.zip vs, key, rfl, e, hK ▸ hW ▸ hd, by
        rw [valV_ks hl]
        exact k _ _ w H (.refl w H) ok Rep.bl q⟩
    cases x with
    | str c => exact .inr (.inr (.inr (fin (.inr c) sx.str_of g)))
    | int c => exact .inr (.inr (.inr (fin (.inl c) sx.int_of g)))
    | _ => exact g.elim
  | _ => exact g.elim
theorem opl_in (hu : X.A.units + 65 < cLine) (hK : X.K = G.K := by rfl) (hW : X.w = G.pw := by rfl) : OpL G X (compareOp .In) (inD false) := opl_inG (inRules hu) hK hW
theorem opl_notin (hu : X.A.units + 65 < cLine) (hK : X.K = G.K := by rfl) (hW : X.w = G.pw := by rfl) : OpL G X (compareOp .NotIn) (inD true) := opl_inG (notInRules hu) hK hW

/-! ### x[i] -/
def ixD : G2 := fun x y Q => match x with
  | .tup ds => ∃ i d, y = .int i ∧ atI ds i = some d ∧ Q d
  | .lst ds => ∃ i d, y = .int i ∧ atI ds i = some d ∧ Q d
  | .str z => ∃ i c, y = .int i ∧ z.length ≤ sizeLine ∧ atI z.cps.toList i = some c ∧ Q (.str ⟨#[c]⟩)
  | .dic ks ds => ∃ k d, keyD y = some k ∧ dget ks ds k = some d ∧ Q d
  | _ => False
theorem atI_rep {w : Wd} {ds : List D} {vs : List V} {i : Int} {d : D} (r : Reps G w ds vs) (h : atI ds i = some d) : ∃ v, atI vs i = some v ∧ Rep G w d v := by
  unfold atI at h ⊢
  rw [← r.length]
  cases e : ixN ds.length i with
  | none => rw [e] at h; cases h
  | some j =>
    rw [e] at h
    exact r.getD h
theorem ce_ix {a b : Expr} {pos : Pos} {E : XK} {A B : FE} (hu : X.A.units + 1 < cLine) (ha : PE X a (bD G E A)) (hb : PE X b (bD G E B)) (hs : PlainIx b := by exact fun _ _ => rfl) (hK : X.K = G.K := by rfl) (hW : X.w = G.pw := by rfl) :
    PE X (.Subscript a b pos) (tD G E (f2 ixD A B)) := by
  refine (pe_ix (ix_list.or (ix_tup.or (ix_str.or (ix_dic hu)))) ha hb hs).weak (OpL.link (op := binaryOp .Add) fun H0 w H x y v u Q QD ok sx sy g k => ?_)
  cases x with
  | tup ds =>
    obtain ⟨i, d, rfl, e, g⟩ := g
    obtain ⟨p, vs, rfl, s1, r1⟩ := sx.tup_of ok
    obtain ⟨z, e2, r2⟩ := atI_rep r1 e
    exact .inr (.inl ⟨p, vs, i, z, rfl, sy.int_of, hK ▸ s1, e2, k _ _ w H (.refl w H) ok r2 g⟩)
  | lst ds =>
    obtain ⟨i, d, rfl, e, g⟩ := g
    obtain ⟨p, vs, rfl, s1, r1⟩ := sx.lst_of ok
    obtain ⟨z, e2, r2⟩ := atI_rep r1 e
    exact .inl ⟨p, vs, i, z, rfl, sy.int_of, hK ▸ s1.sql, e2, k _ _ w H (.refl w H) ok r2 g⟩
  | str z =>
    obtain ⟨i, c, rfl, hz, e, g⟩ := g
    exact .inr (.inr (.inl ⟨z, i, c, sx.str_of, sy.int_of, hz, e, k _ _ w H (.refl w H) ok Rep.str g⟩))
  | dic ks ds =>
    obtain ⟨key, d, e1, e2, g⟩ := g
    obtain ⟨a, vs, rfl, hd, hl, r⟩ := sx.dic_of ok
    obtain ⟨z, e3, r3⟩ := (dget_rel (w := w) key hl r).1 d e2
    exact .inr (.inr (.inr ⟨a, ks.zip vs, key, z, rfl, keyD_see sy e1, hK ▸ hW ▸ hd, e3, k _ _ w H (.refl w H) ok r3 g⟩))
  | _ => exact g.elim

/-! ### x[a:b] -/
def cutD (ds : List D) (lo hi : Option Int) : List D := (ds.drop (HT.sIx ds.length 0 lo)).take (HT.sIx ds.length ds.length hi - HT.sIx ds.length 0 lo)
abbrev FO := Env → (Option Int → Prop) → XP → Prop
def fNone : FO := fun _ Q _ => Q none
def fSome (A : FE) : FO := fun r Q EX => A r (fun d => ∃ i, d = .int i ∧ Q (some i)) EX
def toD (G : Gm) (E : XK) (F : FO) : TO := fun s H Q => ∃ w0 H0 r w QD EX, Fr G w0 H0 r s w H ∧ LkE G E w0 H0 EX ∧ F r QD EX ∧ ∀ o w' H', Le w H w' H' → Ok w' H' → QD o → Q o H'
theorem co_none {E : XK} : PO X none (toD G E fNone) := ⟨fun p s σ H Q I ⟨w0, H0, r, w, QD, EX, fr, lk, f, k⟩ => po_none.run p s σ H Q I (k none w H (.refl w H) fr.ok f)⟩
theorem co_some {E : XK} {e : Expr} {A : FE} (h : PE X e (tD G E A)) : PO X (some e) (toD G E (fSome A)) := ⟨fun p s σ H Q I ⟨w0, H0, r, w, QD, EX, fr, lk, f, k⟩ =>
  (po_some h).run p s σ H Q I ⟨w0, H0, r, w, _, EX, fr, lk, f, fun d v w1 H1 l1 ok1 r1 ⟨i, ed, q⟩ => ⟨i, by rw [ed] at r1; exact r1.int_of, k _ w1 H1 l1 ok1 q⟩⟩⟩
def fSlice (A : FE) (L U : FO) : FE := fun r Q EX => A r (fun x => L r (fun lo => U r (fun hi => match x with
  | .tup ds => Q (.tup (cutD ds lo hi))
  | .lst ds => Q (.lst (cutD ds lo hi))
  | .str z => z.length ≤ sizeLine ∧ Q (.str (cutS z lo hi))
  | _ => False) EX) EX) EX
theorem cut_rep {w : Wd} {ds : List D} {vs : List V} {lo hi : Option Int} (r : Reps G w ds vs) : Reps G w (cutD ds lo hi) (cutV vs lo hi) := by
  unfold cutD cutV
  rw [r.length]
  exact (r.drop _).take _
theorem cut_whole {ds : List D} {lo hi : Option Int} (h : HT.sIx ds.length 0 lo = 0 ∧ HT.sIx ds.length ds.length hi = ds.length) : cutD ds lo hi = ds := by
  unfold cutD
  rw [h.1, h.2]
  simp
theorem ce_slice {a : Expr} {lo hi : Option Expr} {p2 pos : Pos} {E : XK} {A : FE} {L U : FO} (ha : PE X a (bD G E A)) (hl : PO X lo (toD G E L)) (hh : PO X hi (toD G E U)) (hK : X.K = G.K := by rfl) :
    PE X (.Subscript a (.Slice lo hi none p2) pos) (tD G E (fSlice A L U)) := PE.weak (pe_slice (sl_str.or (sl_tupF.or sl_list)) ha hl hh) fun s H Q ⟨w0, H0, r, w, QD, EX, fr, lk, f, k⟩ => by
  refine ⟨w0, H0, r, w, _, EX, fr, lk, f, fun x v w1 H1 l1 ok1 s1 q1 => ?_⟩
  refine ⟨w0, H0, r, w1, _, EX, fr.go l1 ok1, lk, q1, fun lo w2 H2 l2 ok2 q2 => ?_⟩
  refine ⟨w0, H0, r, w2, _, EX, (fr.go l1 ok1).go l2 ok2, lk, q2, fun hi w3 H3 l3 ok3 q3 => ?_⟩
  have s3 := (s1.go l2).go l3
  have l := (l1.trans l2).trans l3
  cases x with
  | str z => exact .inl ⟨z, s3.str_of, q3.1, k _ _ w3 H3 l ok3 Rep.str q3.2⟩
  | tup ds =>
    obtain ⟨p, vs, e, t1, r1⟩ := s3.tup_of ok3
    refine .inr (.inl ⟨p, vs, e, hK ▸ t1, fun hw => ?_, fun _ p' o hp hd => ?_⟩)
    · rw [← r1.length] at hw
      have q4 : QD (.tup (cutD ds lo hi)) := q3
      rw [cut_whole hw] at q4
      have rp := s3.tup_rep
      rw [e] at rp
      exact k _ _ w3 H3 l ok3 rp q4
    · obtain ⟨w4, l4, ok4, rp⟩ := newTup (p := p') ok3 hp hd (cut_rep (lo := lo) (hi := hi) r1)
      exact k _ _ w4 _ (l.trans l4) ok4 rp q3
  | lst ds =>
    obtain ⟨p, vs, e, t1, r1⟩ := s3.lst_of ok3
    refine .inr (.inr ⟨p, vs, e, hK ▸ t1.sql, fun p' hp => ?_⟩)
    obtain ⟨w4, l4, ok4, rp⟩ := newLst (p := p') ok3 hp (cut_rep (lo := lo) (hi := hi) r1)
    exact k _ _ w4 _ (l.trans l4) ok4 rp q3
  | _ => exact q3.elim
end DL
/-! The data layer, part 5: statements, loops, comprehensions. -/
namespace DL
open PySem L2
section
variable {X : Cx} {G : Gm} {E : XK} {e : Expr} {st : Stmt} {rest : List Stmt} {pos : Pos}

theorem Fr.setV {w0 : Wd} {H0 : Hp} {r : Env} {s : L2.St} {w : Wd} {H : Hp} {i : Nat} {d : D} {v : V} (f : Fr G w0 H0 r s w H) (rp : Rep G w d v) : Fr G w0 H0 (r.set i (.val d)) (s.set i (some v)) w H :=
  Fr.set (x := .val d) f rfl ⟨v, rfl, rp⟩
theorem SlotOk.own {H0 : Hp} {w : Wd} {H : Hp} {a : Addr} {vs : List V} {ds : List D} (m : Mine H0 w a) (h : H a = some (.lst vs)) (r : Reps G w ds vs) : SlotOk G H0 w H (.own ds) (some (some (.ref a))) := ⟨a, vs, rfl, m, h, r⟩

/-! ### blocks -/
def sNext : FS := fun A _ r => A.nx r
def sSeq (F F' : FS) : FS := fun A EX r => F { A with nx := fun r' => F' A EX r' } EX r
theorem css_nil : PSs X [] (sD G E sNext) := PSs.weak pss_nil fun B s H ⟨w0, H0, wk, r, w, A, EX, fr, sb, lk, ll, f⟩ => ll.nx r s w H fr sb f
theorem css_cons {F F' : FS} (h1 : PS X st (sD G E F)) (h2 : PSs X rest (sD G E F')) : PSs X (st :: rest) (sD G E (sSeq F F')) := PSs.weak (pss_cons h1 h2) fun B s H ⟨w0, H0, wk, r, w, A, EX, fr, sb, lk, ll, f⟩ =>
  ⟨w0, H0, wk, r, w, { A with nx := fun r' => F' A EX r' }, EX, fr, sb, lk, ⟨fun r' s' w' H' fr' sb' f' => ⟨w0, H0, wk, r', w', A, EX, fr', sb', lk, ll, f'⟩, ll.rt, ll.bk, ll.ct, ll.rn⟩, f⟩
theorem css_one {F : FS} (h1 : PS X st (sD G E F)) : PSs X [st] (sD G E F) := pss_one h1
def sIf (T : FT) (F F' : FS) : FS := fun A EX r => T r (fun b => if b = true then F A EX r else F' A EX r) EX
theorem cs_if {c : Expr} {a b : List Stmt} {T : FT} {F F' : FS} (hc : PT X c (ttD G E T)) (ha : PSs X a (sD G E F)) (hb : PSs X b (sD G E F')) : PS X (.If c a b pos) (sD G E (sIf T F F')) := (ps_if hc ha hb).weak fun B s H ⟨w0, H0, wk, r, w, A, EX, fr, sb, lk, ll, f⟩ =>
  ⟨w0, H0, r, w, _, EX, fr, lk, f, fun b w1 H1 l1 ok1 q1 => by
    cases b with
    | true =>
      rw [if_pos rfl] at q1 ⊢
      exact ⟨w0, H0, wk, r, w1, A, EX, fr.go l1 ok1, sb.trans l1.sub, lk, ll, q1⟩
    | false =>
      rw [if_neg Bool.false_ne_true] at q1 ⊢
      exact ⟨w0, H0, wk, r, w1, A, EX, fr.go l1 ok1, sb.trans l1.sub, lk, ll, q1⟩⟩
def sExpr (F : FE) : FS := fun A EX r => F r (fun _ => A.nx r) EX
theorem cs_expr {F : FE} (he : PE X e (tD G E F)) (hs : swapsWith e none pos.line X.env = pure false := by rfl) : PS X (.Expr e pos) (sD G E (sExpr F)) := (ps_expr he hs).weak fun B s H ⟨w0, H0, wk, r, w, A, EX, fr, sb, lk, ll, f⟩ =>
  ⟨w0, H0, r, w, _, EX, fr, lk, f, fun d v w1 H1 l1 ok1 _ q1 => ll.nx r s w1 H1 (fr.go l1 ok1) (sb.trans l1.sub) q1⟩
/-- what is seen may be kept as a value, frozen -/
theorem See.keep {H0 : Hp} {w : Wd} {H : Hp} {d : D} {v : V} {w0 : Wd} (ok : Ok w H) (l : Le w0 H0 w H) (h : See G H0 w H d v) : ∃ w', Le w0 H0 w' H ∧ Ok w' H ∧ Sub w w' ∧ Rep G w' d v := by
  rcases h with h | ⟨a, vs, ds, rfl, rfl, m, h1, r⟩ | ⟨a, vs, ks, ds, rfl, rfl, m, h1, hl, r⟩
  · exact ⟨w, l, ok, .refl w, h⟩
  · refine ⟨w.frz H a, l.frz m.1 m.2.2, ok.frz m.2.1, .frz m.1, Rep.lst (.of (by rw [frz_at]; exact h1)) (r.mono (.frz m.1))⟩
  · refine ⟨w.frz H a, l.frz m.1 m.2.2, ok.frz m.2.1, .frz m.1, ?_⟩
    unfold Rep
    exact ⟨a, vs, rfl, .inl (by rw [frz_at]; exact h1), hl, r.mono (.frz m.1)⟩
def sRet (F : FE) : FS := fun A EX r => F r A.rt EX
/-- return: an own list, dict may be handed out -/
theorem cs_ret {F : FE} (he : PE X e (bD G E F)) : PS X (.Return (some e) pos) (sD G E (sRet F)) := (ps_ret he).weak fun B s H ⟨w0, H0, wk, r, w, A, EX, fr, sb, lk, ll, f⟩ =>
  ⟨w0, H0, r, w, _, EX, fr, lk, f, fun d v w1 H1 l1 ok1 s1 q1 => by
    obtain ⟨w2, l2, ok2, _, rp⟩ := s1.keep ok1 (fr.le.trans l1)
    exact ll.rt d v w2 H1 l2 ok2 rp q1⟩
/-- return of a list that is the frame's own, or new -/
def sRetNew (i : Nat) : FS := fun A _ r => match r[i]? with
  | some (.own ds) => A.rn ds
  | _ => False
theorem cs_retNew (i : Nat) {x : Str} {p : Pos} (hN : X.N[i]? = some x := by rfl) (hv : Vis X.env.scope x := by first | exact Or.inl rfl | exact Or.inr (Or.inl rfl) | exact Or.inr (Or.inr rfl)) (hd : (x == ("__debug__" : Str)) = false := by decide)
    (hcd : (x == ("__classdict__" : Str)) = false := by decide) : PS X (.Return (some (.Name x p)) pos) (sD G E (sRetNew i)) := (ps_ret (pe_var hN hv hd hcd)).weak fun B s H ⟨w0, H0, wk, r, w, A, EX, fr, sb, lk, ll, f⟩ => by
  unfold sRetNew at f
  cases e : r[i]? with
  | none => rw [e] at f; exact f.elim
  | some y =>
    rw [e] at f
    cases y <;> try exact f.elim
    rename_i ds
    obtain ⟨a, vs, q, m, h1, rp⟩ := fr.slot i _ e
    exact ⟨_, q, ll.rn ds a vs w H fr.le fr.ok m h1 rp f⟩
def sSet (i : Nat) (F : FE) : FS := fun A EX r => F r (fun d => A.nx (r.set i (.val d))) EX
theorem cs_set {i : Nat} {x : Str} {F : FE} {pos' : Pos} (he : PE X e (tD G E F)) (hN : X.N.Nodup) (hi : X.N[i]? = some x := by rfl) (hx : Loc X.env.scope x := by first | exact Or.inl rfl | exact Or.inr rfl) (hs : swapsWith e (some (.Name x pos')) pos.line X.env = pure false := by rfl)
    (hf : X.fn x = true ∨ X.env.scope.names.lookup x = some .local := by first | exact .inl rfl | exact .inr rfl | assumption) : PS X (.Assign [.Name x pos'] e pos) (sD G E (sSet i F)) := (ps_set hN hi hx he hs hf).weak fun B s H ⟨w0, H0, wk, r, w, A, EX, fr, sb, lk, ll, f⟩ =>
  ⟨w0, H0, r, w, _, EX, fr, lk, f, fun d v w1 H1 l1 ok1 r1 q1 => ll.nx _ _ w1 H1 ((fr.go l1 ok1).setV r1) (sb.trans l1.sub) q1⟩
/-- a new list, the frame's own -/
def sSetOwn (i : Nat) (F : FA) : FS := fun A EX r => F r (fun ds => A.nx (r.set i (.own ds))) EX
theorem cs_setOwn {i : Nat} {x : Str} {F : FA} {pos' : Pos} (he : PE X e (fD G E F)) (hN : X.N.Nodup) (hi : X.N[i]? = some x := by rfl) (hx : Loc X.env.scope x := by first | exact Or.inl rfl | exact Or.inr rfl) (hs : swapsWith e (some (.Name x pos')) pos.line X.env = pure false := by rfl)
    (hf : X.fn x = true ∨ X.env.scope.names.lookup x = some .local := by first | exact .inl rfl | exact .inr rfl | assumption) : PS X (.Assign [.Name x pos'] e pos) (sD G E (sSetOwn i F)) := (ps_set hN hi hx he hs hf).weak fun B s H ⟨w0, H0, wk, r, w, A, EX, fr, sb, lk, ll, f⟩ =>
  ⟨w0, H0, r, w, _, EX, fr, lk, f, fun ds a vs w1 H1 l1 ok1 hn m h1 r1 q1 => ll.nx _ _ w1 H1 ((fr.go l1 ok1).setOwn (fun j y b e1 e2 e3 => fr.ownAt j y b e1 e2 e3) hn (SlotOk.own m h1 r1)) (sb.trans l1.sub) q1⟩
/-- own lists, dicts become values ahead of a statement -/
def offs (r : Env) : List Nat → Env
  | [] => r
  | i :: is => offs (match r[i]? with
    | some x => r.set i x.off
    | none => r) is
theorem Fr.offAt {w0 : Wd} {H0 : Hp} {r : Env} {s : St} {w : Wd} {H : Hp} (fr : Fr G w0 H0 r s w H) (i : Nat) : ∃ w', Fr G w0 H0 (match r[i]? with | some x => r.set i x.off | none => r) s w' H ∧ Sub w w' := by
  cases e : r[i]? with
  | none => exact ⟨w, fr, .refl w⟩
  | some x =>
    have hi : i < r.length := (List.getElem?_eq_some_iff.mp e).1
    have same : r.set i x = r := by
      refine List.ext_getElem? fun j => ?_
      by_cases z : i = j
      · subst z; rw [List.getElem?_set_self hi, e]
      · rw [List.getElem?_set_ne z]
    have hs := fr.slot i x e
    cases x with
    | own ds =>
      obtain ⟨a, vs, e1, m, h1, rp⟩ := hs
      exact ⟨w.frz H a, fr.off e rfl e1 m rfl ⟨_, rfl, Rep.lst (.of (by rw [frz_at]; exact h1)) (rp.mono (.frz m.1))⟩, .frz m.1⟩
    | ownd ks ds =>
      obtain ⟨a, vs, e1, m, h1, hl, rp⟩ := hs
      refine ⟨w.frz H a, fr.off e rfl e1 m rfl ⟨_, rfl, ?_⟩, .frz m.1⟩
      unfold Rep
      exact ⟨a, vs, rfl, .inl (by rw [frz_at]; exact h1), hl, rp.mono (.frz m.1)⟩
    | un => exact ⟨w, by show Fr G w0 H0 (r.set i .un) s w H; rw [same]; exact fr, .refl w⟩
    | val d => exact ⟨w, by show Fr G w0 H0 (r.set i (.val d)) s w H; rw [same]; exact fr, .refl w⟩
    | slf x c ds => exact ⟨w, by show Fr G w0 H0 (r.set i (.slf x c ds)) s w H; rw [same]; exact fr, .refl w⟩
theorem Fr.offs {w0 : Wd} {H0 : Hp} {s : St} {H : Hp} : ∀ (is : List Nat) {r : Env} {w : Wd}, Fr G w0 H0 r s w H → ∃ w', Fr G w0 H0 (offs r is) s w' H ∧ Sub w w'
  | [], r, w, fr => ⟨w, fr, .refl w⟩
  | i :: is, r, w, fr => by
    obtain ⟨w1, f1, s1⟩ := fr.offAt i
    obtain ⟨w2, f2, s2⟩ := Fr.offs is f1
    exact ⟨w2, f2, s1.trans s2⟩
def sOff (is : List Nat) (F : FS) : FS := fun A EX r => F A EX (offs r is)
theorem cs_off (is : List Nat) {F : FS} (h : PS X st (sD G E F)) : PS X st (sD G E (sOff is F)) := h.weak fun B s H ⟨w0, H0, wk, r, w, A, EX, fr, sb, lk, ll, f⟩ => by
  obtain ⟨w1, f1, s1⟩ := fr.offs is
  exact ⟨w0, H0, wk, _, w1, A, EX, f1, sb.trans s1, lk, ll, f⟩

/-! ### targets -/
abbrev TGd := D → Env → (Env → Prop) → Prop
/-- a store that only puts values which stand in w -/
def Cm (G : Gm) (w0 : Wd) (H0 : Hp) (w : Wd) (r : Env) (s : L2.St) (r' : Env) (s' : L2.St) : Prop := ∀ w' H', Sub w w' → Fr G w0 H0 r s w' H' → Fr G w0 H0 r' s' w' H'
structure TgL (G : Gm) (vs : List Nat) (tg : TG) (g : TGd) : Prop where
  go : ∀ w0 H0 r s w H d v K Q, Fr G w0 H0 r s w H → Rep G w d v → g d r K → (∀ r' s', Fr G w0 H0 r' s' w H → Cm G w0 H0 w r s r' s' → wipe s' vs = wipe s vs → K r' → Q s' H) → tg v s H Q
def gVar (i : Nat) : TGd := fun d r K => K (r.set i (.val d))
theorem wipe_set {s : St} {i : Nat} {x : Option V} : ∀ {vs : List Nat}, i ∈ vs → wipe (s.set i x) vs = wipe s vs
  | [], h => by simp at h
  | v :: vs, h => by
    unfold wipe
    by_cases e : v = i
    · subst e
      by_cases h2 : v ∈ vs
      · rw [wipe_set h2]
      · refine List.ext_getElem? fun j => ?_
        by_cases z : v = j
        · subst z
          have hl : (wipe (s.set v x) vs).length = (wipe s vs).length := by rw [wipe_length, wipe_length]; simp
          by_cases hv : v < (wipe s vs).length
          · rw [List.getElem?_set_self hv, List.getElem?_set_self (hl ▸ hv)]
          · rw [List.getElem?_eq_none (by rw [List.length_set, hl]; exact Nat.le_of_not_lt hv), List.getElem?_eq_none (by rw [List.length_set]; exact Nat.le_of_not_lt hv)]
        · rw [List.getElem?_set_ne z, List.getElem?_set_ne z]
          by_cases hj : j ∈ vs
          · have wj : ∀ {t : St} {us : List Nat}, j ∈ us → t.length = s.length → (wipe t us)[j]? = if j < s.length then some none else none := fun {t us} m hl => by
              induction us with
              | nil => simp at m
              | cons u us ih =>
                unfold wipe
                by_cases q : u = j
                · subst q
                  by_cases hu : u < s.length
                  · rw [List.getElem?_set_self (by rw [wipe_length, hl]; exact hu), if_pos hu]
                  · rw [List.getElem?_eq_none (by rw [List.length_set, wipe_length, hl]; exact Nat.le_of_not_lt hu), if_neg hu]
                · rw [List.getElem?_set_ne q]
                  exact ih ((List.mem_cons.mp m).resolve_left fun z => q z.symm)
            rw [wj hj (by simp), wj hj rfl]
          · rw [wipe_out hj, wipe_out hj, List.getElem?_set_ne z]
    · have h2 : i ∈ vs := (List.mem_cons.mp h).resolve_left fun z => e z.symm
      rw [wipe_set h2]
theorem tg_var {i : Nat} {vs : List Nat} (h : i ∈ vs := by decide) : TgL G vs (gName i) (gVar i) where
  go := fun w0 H0 r s w H d v K Q fr rp k q => q _ _ (fr.setV rp) (fun w' H' sb fr' => fr'.setV (rp.mono sb)) (wipe_set h) k
/-- a, b, .. = a tuple -/
abbrev TGds := List D → Env → (Env → Prop) → Prop
structure TgsL (G : Gm) (vs : List Nat) (tg : TGs) (g : TGds) : Prop where
  go : ∀ w0 H0 r s w H ds us K Q, Fr G w0 H0 r s w H → Reps G w ds us → g ds r K → (∀ r' s', Fr G w0 H0 r' s' w H → Cm G w0 H0 w r s r' s' → wipe s' vs = wipe s vs → K r' → Q s' H) → tg us s H Q
def gsNil : TGds := fun ds r K => ds = [] ∧ K r
def gsCons (g : TGd) (gs : TGds) : TGds := fun ds r K => ∃ d t, ds = d :: t ∧ g d r fun r' => gs t r' K
theorem tgs_nil {vs : List Nat} : TgsL G vs gNil gsNil where
  go := fun w0 H0 r s w H ds us K Q fr rp ⟨e, k⟩ q => by
    subst e
    exact ⟨rp.of_nil, q r s fr (fun _ _ _ f => f) rfl k⟩
theorem tgs_cons {vs : List Nat} {tg : TG} {tgs : TGs} {g : TGd} {gs : TGds} (h : TgL G vs tg g) (h2 : TgsL G vs tgs gs) : TgsL G vs (gCons tg tgs) (gsCons g gs) where
  go := fun w0 H0 r s w H ds us K Q fr rp ⟨d, t, e, k⟩ q => by
    subst e
    obtain ⟨v, us', e2, r1, r2⟩ := rp.of_cons
    exact ⟨v, us', e2, h.go w0 H0 r s w H d v _ _ fr r1 k fun r' s' fr' c' e' k' => h2.go w0 H0 r' s' w H t us' K Q fr' r2 k' fun r2' s2' fr2 c2 e2' k2 => q r2' s2' fr2 (fun w' H' sb f => c2 w' H' sb (c' w' H' sb f)) (e2'.trans e') k2⟩
def gTupD (n : Nat) (gs : TGds) : TGd := fun d r K => ∃ ds, d = .tup ds ∧ ds.length = n ∧ gs ds r K
theorem tg_tup {K : PySem.W.Frag} {n : Nat} {vs : List Nat} {tgs : TGs} {gs : TGds} (h : TgsL G vs tgs gs) (hK : K = G.K := by rfl) : TgL G vs (gTup K n tgs) (gTupD n gs) where
  go := fun w0 H0 r s w H d v K' Q fr rp ⟨ds, e, hn, k⟩ q => by
    subst e
    obtain ⟨a, us, e2, h1, r1⟩ := rp.tup_of
    exact ⟨a, us, e2, hK ▸ sqT_sub fr.ok.sub h1.sqt, by rw [← r1.length]; exact hn, h.go w0 H0 r s w H ds us K' Q fr r1 k q⟩
/-- a, b = e -/
def sAsg (g : TGd) (F : FE) : FS := fun A EX r => F r (fun d => g d r A.nx) EX
theorem cs_asg {tg : Expr} {t : TG} {g : TGd} {vs : List Nat} {F : FE} (he : PE X e (tD G E F)) (hg : PG X tg t) (hl : TgL G vs t g) (hs : swapsWithSole [tg] e pos.line X.env = pure false := by rfl) (hw : swappedStores [tg] e X.env = pure none := by rfl)
    (h1 : (assignEach [tg] X.env).map (·.2) = [assign tg X.env] := by rfl) : PS X (.Assign [tg] e pos) (sD G E (sAsg g F)) := (ps_asg he hg hs hw h1).weak fun B s H ⟨w0, H0, wk, r, w, A, EX, fr, sb, lk, ll, f⟩ =>
  ⟨w0, H0, r, w, _, EX, fr, lk, f, fun d v w1 H1 l1 ok1 r1 q1 => hl.go w0 H0 r s w1 H1 d v A.nx _ (fr.go l1 ok1) r1 q1 fun r' s' fr' _ _ k' => ll.nx r' s' w1 H1 fr' (sb.trans l1.sub) k'⟩
/-- a, b = e1, e2, plain local names: both are reckoned, then both stored -/
def sPar (i j : Nat) (F : FA) : FS := fun A EX r => F r (fun ds => ∃ d d', ds = [d, d'] ∧ A.nx ((r.set i (.val d)).set j (.val d'))) EX
theorem cs_par {i j : Nat} {x y : Str} {a b : Expr} {F : FA} {px py pt : Pos} {kt k2 pt2} (ha : PA X [a, b] (taD G E F)) (hN : X.N.Nodup) (hc : X.calm = true := by rfl) (hi : X.N[i]? = some x := by rfl) (hj : X.N[j]? = some y := by rfl) (hij : i ≠ j := by decide)
    (hx : X.env.scope.names.lookup x = some .local := by rfl) (hy : X.env.scope.names.lookup y = some .local := by rfl) 
    (hw : swappedStores [.Tuple [.Name x px, .Name y py] kt pt] (.Tuple [a, b] k2 pt2) X.env = pure (some [x, y]) := by rfl)
    (hs : swapsWithSole [.Tuple [.Name x px, .Name y py] kt pt] (.Tuple [a, b] k2 pt2) pos.line X.env = pure false := by rfl) :
    PS X (.Assign [.Tuple [.Name x px, .Name y py] kt pt] (.Tuple [a, b] k2 pt2) pos) (sD G E (sPar i j F)) := (ps_par hc hN hi hj hij hx hy ha hw hs).weak fun B s H ⟨w0, H0, wk, r, w, A, EX, fr, sb, lk, ll, f⟩ =>
  ⟨w0, H0, r, w, _, EX, fr, lk, f, fun ds vs w1 H1 l1 ok1 r1 ⟨d, d', e, q1⟩ => by
    subst e
    obtain ⟨v, t, e1, r2, r3⟩ := r1.of_cons
    obtain ⟨v', t', e2, r4, r5⟩ := r3.of_cons
    have e3 := r5.of_nil
    subst e1
    subst e2
    subst e3
    exact ⟨v, v', rfl, ll.nx _ _ w1 H1 (((fr.go l1 ok1).setV r2).setV r4) (sb.trans l1.sub) q1⟩⟩

/-! ### what is walked -/
/-- at turn i the i-th of ds comes, whatever else has become frozen -/
structure SrcS (G : Gm) (J : It) (w1 : Wd) (ds : List D) : Prop where
  stop : ∀ w H, Ok w H → Sub w1 w → J.stop ds.length H
  go : ∀ i d w H, Ok w H → Sub w1 w → ds[i]? = some d → J.go i H ∧ ∀ x H', J.yld i H x H' → ∃ w', Le w H w' H' ∧ Ok w' H' ∧ Rep G w' d x
/-- .. while nothing is changed -/
structure SrcE (G : Gm) (J : It) (w1 : Wd) (H1 : Hp) (ds : List D) : Prop where
  stop : ∀ w H, Ok w H → Le w1 H1 w H → J.stop ds.length H
  go : ∀ i d w H, Ok w H → Le w1 H1 w H → ds[i]? = some d → J.go i H ∧ ∀ x H', J.yld i H x H' → ∃ w', Le w H w' H' ∧ Ok w' H' ∧ Rep G w' d x
theorem SrcS.toE {J : It} {w1 : Wd} {H1 : Hp} {ds : List D} (h : SrcS G J w1 ds) : SrcE G J w1 H1 ds := ⟨fun w H ok l => h.stop w H ok l.sub, fun i d w H ok l e => h.go i d w H ok l.sub e⟩
abbrev FI := Env → (List D → Prop) → XP → Prop
def iS (G : Gm) (E : XK) (S : FI) : TI := fun s H R => ∃ w0 H0 r w QD EX, Fr G w0 H0 r s w H ∧ LkE G E w0 H0 EX ∧ S r QD EX ∧ ∀ ds J w' H', Le w H w' H' → Ok w' H' → SrcS G J w' ds → QD ds → R J H'
def iE (G : Gm) (E : XK) (S : FI) : TI := fun s H R => ∃ w0 H0 r w QD EX, Fr G w0 H0 r s w H ∧ LkE G E w0 H0 EX ∧ S r QD EX ∧ ∀ ds J w' H', Le w H w' H' → Ok w' H' → SrcE G J w' H' ds → QD ds → R J H'
theorem _root_.L2.PI.weak {tg iter : Expr} {t t' : TI} (h : PI X tg iter t) (k : ∀ s H R, t' s H R → t s H R) : PI X tg iter t' := ⟨fun p s σ H R I q => h.run p s σ H R I (k σ H R q)⟩
theorem iE_of {tg iter : Expr} {S : FI} (h : PI X tg iter (iS G E S)) : PI X tg iter (iE G E S) := h.weak fun s H R ⟨w0, H0, r, w, QD, EX, fr, lk, f, k⟩ =>
  ⟨w0, H0, r, w, QD, EX, fr, lk, f, fun ds J w' H' l ok sr q => k ds J w' H' l ok sr.toE q⟩
def signs (z : Str) : List D := z.cps.toList.map fun c => .str ⟨#[c]⟩
def rangeD (lo hi : Int) : List D := (List.range (hi - lo).toNat).map fun i => .int (lo + ((i : Nat) : Int))
def fRng1 (A : FA) : FI := fun r Q EX => A r (fun ds => ∃ n, ds = [.int n] ∧ (-(2 ^ 62) ≤ n ∧ n < 2 ^ 62) ∧ Q (rangeD 0 n)) EX
theorem src_list {K : PySem.W.Frag} {a : Addr} {vs : List V} {ds : List D} {w1 : Wd} (h : LsT K w1.hd a vs) (r : Reps G w1 ds vs) : SrcS G (Itl K a) w1 ds where
  stop := fun w H ok sb => ⟨vs, (lsT_sub (fun b o e => ok.sub b o (sb.hd b o e)) h).sql, by rw [r.length]; exact Nat.le_refl _⟩
  go := fun i d w H ok sb e => by
    obtain ⟨v, e1, r1⟩ := r.getD e
    have sq : SqL K H a vs := (lsT_sub (fun b o e => ok.sub b o (sb.hd b o e)) h).sql
    refine ⟨⟨vs, v, sq, e1⟩, fun x H' ⟨eH, y⟩ => ?_⟩
    subst eH
    have q := y vs sq
    rw [e1] at q
    cases q
    exact ⟨w, .refl w _, ok, r1.mono sb⟩
theorem src_listE {K : PySem.W.Frag} {a : Addr} {vs : List V} {ds : List D} {w1 : Wd} {H1 : Hp} (nj : ¬ w1.jr a) (h : H1 a = some (.lst vs)) (r : Reps G w1 ds vs) : SrcE G (Itl K a) w1 H1 ds where
  stop := fun w H ok l => ⟨vs, .inl (.of (l.keep _ _ h nj)), by rw [r.length]; exact Nat.le_refl _⟩
  go := fun i d w H ok l e => by
    obtain ⟨v, e1, r1⟩ := r.getD e
    have sq : SqL K H a vs := .inl (.of (l.keep _ _ h nj))
    refine ⟨⟨vs, v, sq, e1⟩, fun x H' ⟨eH, y⟩ => ?_⟩
    subst eH
    have q := y vs sq
    rw [e1] at q
    cases q
    exact ⟨w, .refl w _, ok, r1.mono l.sub⟩
theorem src_tup {K : PySem.W.Frag} {a : Addr} {vs : List V} {ds : List D} {w1 : Wd} (h : SqT K w1.hd a vs) (r : Reps G w1 ds vs) : SrcS G (Itt K a) w1 ds where
  stop := fun w H ok sb => ⟨vs, sqT_sub (fun b o e => ok.sub b o (sb.hd b o e)) h, by rw [r.length]; exact Nat.le_refl _⟩
  go := fun i d w H ok sb e => by
    obtain ⟨v, e1, r1⟩ := r.getD e
    have sq : SqT K H a vs := sqT_sub (fun b o e => ok.sub b o (sb.hd b o e)) h
    refine ⟨⟨vs, v, sq, e1⟩, fun x H' ⟨eH, y⟩ => ?_⟩
    subst eH
    have q := y vs sq
    rw [e1] at q
    cases q
    exact ⟨w, .refl w _, ok, r1.mono sb⟩
theorem src_str {z : Str} {w1 : Wd} : SrcS G (Its z) w1 (signs z) where
  stop := fun w H ok sb => by show z.cps.size ≤ (signs z).length; unfold signs; simp
  go := fun i d w H ok sb e => by
    unfold signs at e
    rw [List.getElem?_map] at e
    cases q : z.cps.toList[i]? with
    | none => rw [q] at e; cases e
    | some c =>
      rw [q] at e
      cases e
      have hi : i < z.cps.size := by
        have := (List.getElem?_eq_some_iff.mp q).1
        simpa using this
      refine ⟨hi, fun x H' ⟨eH, c', y, ex⟩ => ?_⟩
      subst eH
      subst ex
      rw [← Array.getElem?_toList, q] at y
      cases y
      exact ⟨w, .refl w _, ok, Rep.str⟩
theorem src_rng {lo hi : Int} {w1 : Wd} : SrcS G (Itr lo (hi - lo).toNat) w1 (rangeD lo hi) where
  stop := fun w H ok sb => by show (hi - lo).toNat ≤ (rangeD lo hi).length; unfold rangeD; simp
  go := fun i d w H ok sb e => by
    unfold rangeD at e
    rw [List.getElem?_map] at e
    cases q : (List.range (hi - lo).toNat)[i]? with
    | none => rw [q] at e; cases e
    | some c =>
      rw [q] at e
      cases e
      obtain ⟨h1, h2⟩ := List.getElem?_eq_some_iff.mp q
      rw [List.getElem_range] at h2
      subst h2
      refine ⟨by show i < (hi - lo).toNat; simpa using h1, fun x H' ⟨eH, ex⟩ => ?_⟩
      subst eH
      subst ex
      exact ⟨w, .refl w _, ok, Rep.int⟩
end
end DL
/-! The data layer, part 6: for, while, comprehensions. -/
namespace DL
open PySem L2
section
variable {X : Cx} {G : Gm} {E : XK} {e : Expr} {st : Stmt} {rest : List Stmt} {pos : Pos} {tg l : Expr} {A : FE}
theorem cis_rng1 {a : Expr} {F : FA} {p pos : Pos} (hm : X.mg "range" = none) (ha : PA X [a] (taD G E F)) (hg : Gl X "range" := by rfl) (hs : starEach [a] X.env = [(false, eval a X.env)] := by rfl) : PI X tg (.Call (.Name "range" p) [a] [] pos) (iS G E (fRng1 F)) := (pi_range1 hg hm ha hs).weak fun s H R ⟨w0, H0, r, w, QD, EX, fr, lk, f, k⟩ =>
  ⟨w0, H0, r, w, _, EX, fr, lk, f, fun ds vs w1 H1 l1 ok1 r1 ⟨n, ed, ⟨b1, b2⟩, q⟩ => by
    subst ed
    have ev := Reps.ints (ns := [n]) r1
    subst ev
    refine ⟨n, rfl, b1, b2, k (rangeD 0 n) (Itr 0 n.toNat) w1 H1 l1 ok1 ?_ q⟩
    have := src_rng (G := G) (lo := 0) (hi := n) (w1 := w1)
    rwa [show (n - 0).toNat = n.toNat by omega] at this⟩
/-! ### for -/
def forD (g : TGd) (B : FS) : List D → DE → XP → Env → Prop
  | [], A, _, r => A.nx r
  | d :: ds, A, EX, r => g d r fun r1 => B { A with nx := fun r2 => forD g B ds A EX r2, ct := fun r2 => forD g B ds A EX r2, bk := A.nx } EX r1
def sFor (S : FI) (g : TGd) (B : FS) : FS := fun A EX r => S r (fun ds => forD g B ds A EX r) EX
theorem drop_get {α : Type} {ds : List α} {i : Nat} {d : α} (h : ds[i]? = some d) : ds.drop i = d :: ds.drop (i + 1) := by
  obtain ⟨h1, h2⟩ := List.getElem?_eq_some_iff.mp h
  rw [List.drop_eq_getElem_cons h1, h2]
theorem cs_for {iter : Expr} {body : List Stmt} {S : FI} {t : TG} {g : TGd} {vs : List Nat} {B : FS} (hp : PassesOwn (model X.prog X.w) X.A X.env X.xe) (hi : PI X tg iter (iS G E S)) (hg : PG X tg t) (hl : TgL G vs t g) (hb : PSs X body (sD G E B)) (hc : X.calm = true := by rfl)
    (hs : ∀ x, foldedSetIterable iter X.env x = pure x := by intro _; rfl) : PS X (.For tg iter body [] pos) (sD G E (sFor S g B)) := PS.weak (ps_for hp hc hi hg hb hs) fun C s H ⟨w0, H0, wk, r, w, A, EX, fr, sb, lk, ll, f⟩ =>
  ⟨w0, H0, r, w, _, EX, fr, lk, f, fun ds J w1 H1 l1 ok1 src q => by
    let Pv : Nat → L2.St → Hp → Prop := fun i s H => ∃ r w, Fr G w0 H0 r s w H ∧ Sub w1 w ∧ forD g B (ds.drop i) A EX r
    refine ⟨fun i m s H => m = ds.length - i ∧ i ≤ ds.length ∧ Pv i s H, ⟨ds.length, by simp, Nat.zero_le _, r, w1, fr.go l1 ok1, .refl w1, q⟩, ?_⟩
    rintro i m s2 H2 ⟨rfl, hi, r2, w2, fr2, sb2, q2⟩
    have sbk : ∀ {w3 : Wd}, Sub w1 w3 → Sub wk w3 := fun z => (sb.trans l1.sub).trans z
    by_cases hlt : i < ds.length
    · have e : ds[i]? = some ds[i] := by simp [hlt]
      obtain ⟨g1, g2⟩ := src.go i _ w2 H2 fr2.ok sb2 e
      refine .inr ⟨g1, Pv (i + 1), fun s' H' p' => ⟨ds.length - (i + 1), by omega, rfl, hlt, p'⟩, fun x H' y => ?_⟩
      obtain ⟨w3, l3, ok3, r3⟩ := g2 x H' y
      rw [drop_get e] at q2
      refine hl.go w0 H0 r2 s2 w3 H' _ x _ _ (fr2.go l3 ok3) r3 q2 fun r' s' fr' _ _ k' => ?_
      have sb3 : Sub w1 w3 := sb2.trans l3.sub
      exact ⟨w0, H0, w1, r', w3, { A with nx := fun r2 => forD g B (ds.drop (i + 1)) A EX r2, ct := fun r2 => forD g B (ds.drop (i + 1)) A EX r2, bk := A.nx }, EX, fr', sb3, lk, ⟨fun r4 s4 w4 H4 f4 sb4 k4 => ⟨r4, w4, f4, sb4, k4⟩, ll.rt, fun r4 s4 w4 H4 f4 sb4 k4 => ll.nx r4 s4 w4 H4 f4 (sbk sb4) k4, fun r4 s4 w4 H4 f4 sb4 k4 => ⟨r4, w4, f4, sb4, k4⟩, ll.rn⟩, k'⟩
    · have e : i = ds.length := by omega
      subst e
      rw [List.drop_length] at q2
      exact .inl ⟨src.stop w2 H2 fr2.ok sb2, ll.nx r2 s2 w2 H2 fr2 (sbk sb2) q2⟩⟩

/-! ### while -/
def sWhile (T : FT) (B : FS) : FS := fun A EX r => ∃ W : Nat → Env → Prop, (∃ m, W m r) ∧ ∀ m r, W m r →
  T r (fun b => if b = true then B { A with nx := fun r' => ∃ m', m' < m ∧ W m' r', ct := fun r' => ∃ m', m' < m ∧ W m' r', bk := A.nx } EX r else A.nx r) EX
theorem cs_while {c : Expr} {body : List Stmt} {T : FT} {B : FS} (hp : PassesOwn (model X.prog X.w) X.A X.env X.xe) (hc : PT X c (ttD G E T)) (hb : PSs X body (sD G E B)) : PS X (.While c body [] pos) (sD G E (sWhile T B)) := PS.weak (ps_while hp hc hb) fun C s H ⟨w0, H0, wk, r, w, A, EX, fr, sb, lk, ll, W, ⟨m0, h0⟩, step⟩ => by
  refine ⟨fun m s H => ∃ r w, Fr G w0 H0 r s w H ∧ Sub wk w ∧ W m r, ⟨m0, r, w, fr, sb, h0⟩, ?_⟩
  rintro m s2 H2 ⟨r2, w2, fr2, sb2, q2⟩
  refine ⟨w0, H0, r2, w2, _, EX, fr2, lk, step m r2 q2, fun b w3 H3 l3 ok3 q3 => ?_⟩
  cases b with
  | true =>
    rw [if_pos rfl] at q3 ⊢
    refine ⟨fun s' H' => ∃ m', m' < m ∧ ∃ r w, Fr G w0 H0 r s' w H' ∧ Sub wk w ∧ W m' r, fun s' H' p => p, ?_⟩
    have nx : ∀ r s w H, Fr G w0 H0 r s w H → Sub wk w → (∃ m', m' < m ∧ W m' r) → ∃ m', m' < m ∧ ∃ r w, Fr G w0 H0 r s w H ∧ Sub wk w ∧ W m' r := fun r s w H f sb ⟨m', h1, h2⟩ => ⟨m', h1, r, w, f, sb, h2⟩
    exact ⟨w0, H0, wk, r2, w3, { A with nx := fun r' => ∃ m', m' < m ∧ W m' r', ct := fun r' => ∃ m', m' < m ∧ W m' r', bk := A.nx }, EX, fr2.go l3 ok3, sb2.trans l3.sub, lk, ⟨nx, ll.rt, ll.nx, nx, ll.rn⟩, q3⟩
  | false =>
    rw [if_neg Bool.false_ne_true] at q3 ⊢
    exact ll.nx r2 s2 w3 H3 (fr2.go l3 ok3) (sb2.trans l3.sub) q3

/-! ### comprehensions -/
theorem wipe_get {s : L2.St} {j : Nat} : ∀ vs : List Nat, (L2.wipe s vs)[j]? = if j ∈ vs then (if j < s.length then some none else none) else s[j]?
  | [] => by simp [L2.wipe]
  | v :: vs => by
    have ih := wipe_get (s := s) (j := j) vs
    unfold L2.wipe
    by_cases q : v = j
    · subst q
      rw [if_pos List.mem_cons_self]
      by_cases hv : v < s.length
      · rw [List.getElem?_set_self (by rw [wipe_length]; exact hv), if_pos hv]
      · rw [List.getElem?_eq_none (by rw [List.length_set, wipe_length]; exact Nat.le_of_not_lt hv), if_neg hv]
    · rw [List.getElem?_set_ne q, ih]
      by_cases m : j ∈ vs
      · rw [if_pos m, if_pos (List.mem_cons_of_mem _ m)]
      · rw [if_neg m, if_neg (fun z => m ((List.mem_cons.mp z).resolve_left fun y => q y.symm))]
theorem wipe_idem {s : L2.St} {vs : List Nat} : L2.wipe (L2.wipe s vs) vs = L2.wipe s vs := by
  refine List.ext_getElem? fun j => ?_
  rw [wipe_get, wipe_get, wipe_length]
  by_cases m : j ∈ vs
  · rw [if_pos m, if_pos m]
  · rw [if_neg m, if_neg m]
def wipeD (r : Env) : List Nat → Env
  | [] => r
  | v :: vs => (wipeD r vs).set v .un
theorem Fr.wipe {w0 : Wd} {H0 : Hp} {r : Env} {s : L2.St} {w : Wd} {H : Hp} (fr : Fr G w0 H0 r s w H) : ∀ vs : List Nat, Fr G w0 H0 (wipeD r vs) (wipe s vs) w H
  | [] => fr
  | v :: vs => by
    have ih := Fr.wipe fr vs
    unfold wipeD L2.wipe
    refine ⟨ih.ok, ih.le, by simpa using ih.len, fun j y e => ?_, fun j k y u a e1 e2 o1 o2 q1 q2 => ?_⟩
    · by_cases z : v = j
      · subst z
        have hv : v < (wipeD r vs).length := by
          have q := (List.getElem?_eq_some_iff.mp e).1
          simpa using q
        rw [List.getElem?_set_self hv] at e
        cases e
        trivial
      · rw [List.getElem?_set_ne z] at e
        rw [List.getElem?_set_ne z]
        exact ih.slot j y e
    · have nn : ∀ {n : Nat} {u : Sl}, ((wipeD r vs).set v .un)[n]? = some u → u.isOwn = true → v ≠ n := fun {n u} en on z => by
        subst z
        have hv : v < (wipeD r vs).length := by
          have q := (List.getElem?_eq_some_iff.mp en).1
          simpa using q
        rw [List.getElem?_set_self hv] at en
        cases en
        cases on
      have n1 := nn e1 o1
      have n2 := nn e2 o2
      rw [List.getElem?_set_ne n1] at e1 q1
      rw [List.getElem?_set_ne n2] at e2 q2
      exact ih.dist j k y u a e1 e2 o1 o2 q1 q2
abbrev NoX : XP := fun _ => False
def fYes : FT := fun _ Q _ => Q true
theorem cts_nil {X : Cx} : PTs X [] (ttD G E fYes) := ⟨fun p s σ H Q I ⟨w0, H0, r, w, QD, EX, fr, lk, f, k⟩ => pts_nil.run p s σ H Q I (k true w H (.refl w H) fr.ok f)⟩
theorem cts_one {X : Cx} {c : Expr} {T : FT} (h : PT X c (ttD G E T)) : PTs X [c] (ttD G E T) := pts_one h
def lcD (g : TGd) (T : FT) (F : FE) (r : Env) : List D → List D → (List D → Prop) → Prop
  | [], acc, Q => Q acc
  | d :: ds, acc, Q => g d r fun r1 => T r1 (fun b => if b = true then F r1 (fun y => acc.length < sizeLine ∧ lcD g T F r ds (acc ++ [y]) Q) NoX else lcD g T F r ds acc Q) NoX
def fLc (S : FI) (vs : List Nat) (g : TGd) (T : FT) (F : FE) : FA := fun r Q EX => S r (fun ds => lcD g T F (wipeD r vs) ds [] Q) EX
/-- behind a part of a comprehension: the list so far stands -/
theorem acc_keep {w w' : Wd} {H H' : Hp} {p : Addr} {o : HO} (l : Le w H w' H') (h : H p = some o) (hn : w.hd p = none) (nj : ¬ w.jr p) : H' p = some o ∧ w'.hd p = none ∧ ¬ w'.jr p := by
  have ne : H p ≠ none := by rw [h]; exact fun z => by cases z
  refine ⟨l.keep _ _ h nj, ?_, fun j => nj (l.old p ne j)⟩
  cases e : w'.hd p with
  | none => rfl
  | some u => exact absurd hn (l.oldh p ne (by rw [e]; exact fun z => by cases z))
structure SrcX (G : Gm) (J : It) (P : Wd → Hp → Prop) (ds : List D) : Prop where
  stop : ∀ w H, Ok w H → P w H → J.stop ds.length H
  go : ∀ i d w H, Ok w H → P w H → ds[i]? = some d → J.go i H ∧ ∀ x H', J.yld i H x H' → ∃ w', Le w H w' H' ∧ Ok w' H' ∧ Rep G w' d x
/-- the list so far stands at Dd -/
structure Acc (G : Gm) (w1 : Wd) (H1 : Hp) (w2 : Wd) (Dd : Addr) (w : Wd) (H : Hp) (acc : List D) (us : List V) : Prop where
  le : Le w1 H1 w H
  sub : Sub w2 w
  ok : Ok w H
  at_ : H Dd = some (.lst us)
  hn : w.hd Dd = none
  nj : ¬ w.jr Dd
  rep : Reps G w acc us
theorem Acc.go {w1 w2 w w' : Wd} {H1 H H' : Hp} {Dd : Addr} {acc : List D} {us : List V} (a : Acc G w1 H1 w2 Dd w H acc us) (l : Le w H w' H') (ok : Ok w' H') : Acc G w1 H1 w2 Dd w' H' acc us := by
  obtain ⟨h1, h2, h3⟩ := acc_keep l a.at_ a.hn a.nj
  exact ⟨a.le.trans l, a.sub.trans l.sub, ok, h1, h2, h3, a.rep.mono l.sub⟩
theorem Acc.add {w1 w2 w : Wd} {H1 H : Hp} {Dd : Addr} {acc : List D} {us : List V} {d : D} {v : V} (a : Acc G w1 H1 w2 Dd w H acc us) (hD : H1 Dd = none) (r : Rep G w d v) : Acc G w1 H1 w2 Dd w (upd H Dd (.lst (us ++ [v]))) (acc ++ [d]) (us ++ [v]) :=
  ⟨a.le.put hD, a.sub, a.ok.put a.hn a.nj, upd_same, a.hn, a.nj, a.rep.append (Reps.cons r Reps.nil)⟩
theorem lcX {w0 : Wd} {H0 : Hp} {r : Env} {s : L2.St} {w1 w2 : Wd} {H1 H2 : Hp} {ds : List D} {J : It} {Dd : Addr} {vs : List Nat} {t : TG} {g : TGd} {T : FT} {F : FE} {Q : List D → Prop} {Qd : Hp → Prop} {acc0 : List D} {us0 : List V}
    (htb : w0.tb = G.tb)
    (frw : ∀ w H, Ok w H → Le w1 H1 w H → Sub w2 w → Fr G w0 H0 (wipeD r vs) (L2.wipe s vs) w H) (src : SrcX G J (fun w H => Le w1 H1 w H ∧ Sub w2 w) ds) (hl : TgL G vs t g) (hD : H1 Dd = none) (a0 : Acc G w1 H1 w2 Dd w2 H2 acc0 us0) (q : lcD g T F (wipeD r vs) ds acc0 Q)
    (k : ∀ acc us w H, Acc G w1 H1 w2 Dd w H acc us → Q acc → Qd H) :
    ∃ W : Nat → Nat → Hp → Prop, (∃ m, W 0 m H2) ∧ ∀ i m H, W i m H →
      (J.stop i H ∧ Qd H) ∨ (J.go i H ∧ ∃ Nx : Hp → Prop, (∀ H', Nx H' → ∃ m', m' < m ∧ W (i + 1) m' H') ∧ ∀ x H', J.yld i H x H' → t x (L2.wipe s vs) H' fun s2 H2 => L2.wipe s2 vs = L2.wipe s vs ∧ ttD G E0 T s2 H2 fun b H3 =>
        if b = true then tD G E0 F s2 H3 fun y H4 => ∃ acc, H4 Dd = some (.lst acc) ∧ acc.length < sizeLine ∧ Nx (upd H4 Dd (.lst (acc ++ [y]))) else Nx H3) := by
  let Pv : Nat → Hp → Prop := fun i H => ∃ w acc us, Acc G w1 H1 w2 Dd w H acc us ∧ lcD g T F (wipeD r vs) (ds.drop i) acc Q
  refine ⟨fun i m H => m = ds.length - i ∧ i ≤ ds.length ∧ Pv i H, ⟨ds.length, by simp, Nat.zero_le _, w2, acc0, us0, a0, q⟩, ?_⟩
  rintro i m H ⟨rfl, hi, w, acc, us, a, q2⟩
  by_cases hlt : i < ds.length
  · have e : ds[i]? = some ds[i] := by simp [hlt]
    obtain ⟨g1, g2⟩ := src.go i _ w H a.ok ⟨a.le, a.sub⟩ e
    refine .inr ⟨g1, Pv (i + 1), fun H' p' => ⟨ds.length - (i + 1), by omega, rfl, hlt, p'⟩, fun x H' y => ?_⟩
    obtain ⟨w3, l3, ok3, r3⟩ := g2 x H' y
    have a3 := a.go l3 ok3
    rw [drop_get e] at q2
    refine hl.go w0 H0 _ _ w3 H' _ x _ _ (frw w3 H' ok3 a3.le a3.sub) r3 q2 fun r' s' fr' _ ew k' => ⟨?_, ?_⟩
    · rw [ew, wipe_idem]
    · refine ⟨w0, H0, r', w3, _, NoX, fr', (LkE.none htb), k', fun b w4 H4 l4 ok4 q4 => ?_⟩
      have a4 := a3.go l4 ok4
      cases b with
      | true =>
        rw [if_pos rfl] at q4
        refine iteT ?_
        refine ⟨w0, H0, r', w4, _, NoX, fr'.go l4 ok4, (LkE.none htb), q4, fun d v w5 H5 l5 ok5 r5 ⟨hz, q5⟩ => ?_⟩
        have a5 := a4.go l5 ok5
        exact ⟨us, a5.at_, by rw [← a5.rep.length]; exact hz, w5, acc ++ [d], us ++ [v], a5.add hD r5, q5⟩
      | false =>
        rw [if_neg Bool.false_ne_true] at q4
        refine iteF ?_
        exact ⟨w4, acc, us, a4, q4⟩
  · have e : i = ds.length := by omega
    subst e
    rw [List.drop_length] at q2
    exact .inl ⟨src.stop w H a.ok ⟨a.le, a.sub⟩, k acc us w H a q2⟩
theorem Acc.start {w1 : Wd} {H1 : Hp} {Dd : Addr} (ok : Ok w1 H1) (hD : H1 Dd = none) : Acc G w1 H1 w1 Dd w1 (upd H1 Dd (.lst [])) [] [] :=
  ⟨Le.new hD, .refl w1, ok.new hD, upd_same, ok.none_hd hD, ok.none_jr hD, Reps.nil⟩
theorem lc_link {S : FI} {t : TG} {g : TGd} {T : FT} {F : FE} {vs : List Nat} (hl : TgL G vs t g) (s : L2.St) (H : Hp) (Q : VK) (h : fD G E (fLc S vs g T F) s H Q) : tLc (iE G E S) t (ttD G E0 T) (tD G E0 F) vs s H Q := by
  obtain ⟨w0, H0, r, w, QD, EX, fr, lk, f, k⟩ := h
  refine ⟨w0, H0, r, w, _, EX, fr, lk, f, fun ds J w1 H1 l1 ok1 src q Dd hD => ?_⟩
  refine lcX lk.2 (fun w H ok l _ => ((fr.go l1 ok1).go l ok).wipe vs) ⟨fun w H ok p => src.stop w H ok p.1, fun i d w H ok p => src.go i d w H ok p.1⟩ hl hD (Acc.start ok1 hD) q fun acc us w2 H2 a qa => ?_
  refine k acc Dd us w2 H2 (l1.trans a.le) a.ok (l1.none_of hD) ⟨a.hn, a.nj, ?_⟩ a.at_ a.rep qa
  cases z : H0 Dd with
  | none => rfl
  | some o => exact absurd hD ((fr.le.trans l1).dom Dd (by rw [z]; exact fun y => by cases y))
theorem cf_lc {elt iter : Expr} {ifs : List Expr} {scope : Scope} {own : List (Str × Nat)} {S : FI} {t : TG} {g : TGd} {T : FT} {F : FE} (hN : X.N.Nodup) (hi : PI X tg iter (iE G E S)) (ok : BlkOk X.N X.env.scope scope own)
    (hg : ∀ (s : Shared) (H : Hp) (C : Addr) (cl : List (Str × Addr)) (fp : List Addr), PG (X.blk s H scope (compEnvC scope cl C X.env) fp) tg t) (hl : TgL G (own.map (·.2)) t g)
    (ht : ∀ (s : Shared) (H : Hp) (C : Addr) (cl : List (Str × Addr)) (fp : List Addr), PTs (X.blk s H scope (compEnvC scope cl C X.env) fp) ifs (ttD G E0 T))
    (he : ∀ (s : Shared) (H : Hp) (C : Addr) (cl : List (Str × Addr)) (fp : List Addr), PE (X.blk s H scope (compEnvC scope cl C X.env) fp) elt (tD G E0 F)) (hc : X.calm = true := by rfl) (hs : ∀ x, foldedSetIterable iter X.env x = pure x := by intro _; rfl) :
    PE X (.ListComp elt [⟨tg, iter, ifs, 0⟩] scope pos) (fD G E (fLc S (own.map (·.2)) g T F)) := PE.weak (pe_lc hc hN hi ok hg ht he hs) (lc_link hl)

/-! ### y = [..], y a plain local -/
theorem cs_ofF {i : Nat} {F : FA} {te : TE} (h : PS X st (tAsg te (gName i))) (k0 : ∀ s H Q, fD G E F s H Q → te s H Q) : PS X st (sD G E (sSet i (fL F))) := h.weak fun B s H ⟨w0, H0, wk, r, w, A, EX, fr, sb, lk, ll, f⟩ =>
  k0 s H _ ⟨w0, H0, r, w, _, EX, fr, lk, f, fun ds a vs w1 H1 l1 ok1 hn m h1 r1 q1 => ll.nx _ _ (w1.frz H1 a) H1 (((fr.go (l1.frz m.1 hn) (ok1.frz m.2.1))).setV (d := .lst ds) (Rep.lst (.of (by rw [frz_at]; exact h1)) (r1.mono (.frz m.1)))) (sb.trans (l1.sub.trans (.frz m.1))) q1⟩
theorem cs_setLc {i : Nat} {y : Str} {py : Pos} {elt iter : Expr} {ifs : List Expr} {scope : Scope} {own : List (Str × Nat)} {spos : Pos} {S : FI} {t : TG} {g : TGd} {T : FT} {F : FE} (hN : X.N.Nodup) (hi : PI X tg iter (iE G E S)) (ok : BlkOk X.N X.env.scope scope own)
    (hg : ∀ (s : Shared) (H : Hp) (C : Addr) (cl : List (Str × Addr)) (fp : List Addr), PG (X.blk s H scope (compEnvC scope cl C X.env) fp) tg t) (hl : TgL G (own.map (·.2)) t g)
    (ht : ∀ (s : Shared) (H : Hp) (C : Addr) (cl : List (Str × Addr)) (fp : List Addr), PTs (X.blk s H scope (compEnvC scope cl C X.env) fp) ifs (ttD G E0 T))
    (he : ∀ (s : Shared) (H : Hp) (C : Addr) (cl : List (Str × Addr)) (fp : List Addr), PE (X.blk s H scope (compEnvC scope cl C X.env) fp) elt (tD G E0 F))
    (hsw : swapsWith (.ListComp elt [⟨tg, iter, ifs, 0⟩] scope pos) (some (.Name y py)) spos.line X.env = pure true := by exact sw_true rfl rfl rfl (by decide +kernel)) (hy : X.N[i]? = some y := by rfl) (hyl : X.env.scope.names.lookup y = some .local := by rfl)
    (hc : X.calm = true := by rfl) (hs : ∀ x, foldedSetIterable iter X.env x = pure x := by intro _; rfl) : PS X (.Assign [.Name y py] (.ListComp elt [⟨tg, iter, ifs, 0⟩] scope pos) spos) (tAsg (tLc (iE G E S) t (ttD G E0 T) (tD G E0 F) (own.map (·.2))) (gName i)) :=
  ps_setLc hc hN hy hyl hsw hi ok hg ht he hs

/-! ### two fors -/
def lc2D (g : TGd) (T : FT) (S1 : FI) (vs1 : List Nat) (g1 : TGd) (T1 : FT) (F : FE) (r : Env) : List D → List D → (List D → Prop) → Prop
  | [], acc, Q => Q acc
  | d :: ds, acc, Q => g d r fun r1 => T r1 (fun b => if b = true then S1 r1 (fun es => lcD g1 T1 F (wipeD r1 vs1) es acc fun acc' => lc2D g T S1 vs1 g1 T1 F r ds acc' Q) NoX else lc2D g T S1 vs1 g1 T1 F r ds acc Q) NoX
def fLc2 (S : FI) (vs : List Nat) (g : TGd) (T : FT) (S1 : FI) (vs1 : List Nat) (g1 : TGd) (T1 : FT) (F : FE) : FA := fun r Q EX => S r (fun ds => lc2D g T S1 vs1 g1 T1 F (wipeD r vs) ds [] Q) EX
theorem lc2_link {S S1 : FI} {t t1 : TG} {g g1 : TGd} {T T1 : FT} {F : FE} {vs vs1 : List Nat} (hl : TgL G vs t g) (hl1 : TgL G vs1 t1 g1) (s : L2.St) (H : Hp) (Q : VK) (h : fD G E (fLc2 S vs g T S1 vs1 g1 T1 F) s H Q) :
    tLc2 (iE G E S) t (ttD G E0 T) (iS G E0 S1) t1 (ttD G E0 T1) (tD G E0 F) vs vs1 s H Q := by
  obtain ⟨w0, H0, r, w, QD, EX, fr, lk, f, k⟩ := h
  refine ⟨w0, H0, r, w, _, EX, fr, lk, f, fun ds J w1 H1 l1 ok1 src q Dd hD => ?_⟩
  have frw : ∀ w H, Ok w H → Le w1 H1 w H → Fr G w0 H0 (wipeD r vs) (L2.wipe s vs) w H := fun w H ok l => ((fr.go l1 ok1).go l ok).wipe vs
  let Pv : Nat → Hp → Prop := fun i H => ∃ w acc us, Acc G w1 H1 w1 Dd w H acc us ∧ lc2D g T S1 vs1 g1 T1 F (wipeD r vs) (ds.drop i) acc QD
  refine ⟨fun i m H => m = ds.length - i ∧ i ≤ ds.length ∧ Pv i H, ⟨ds.length, by simp, Nat.zero_le _, w1, [], [], Acc.start ok1 hD, q⟩, ?_⟩
  rintro i m H ⟨rfl, hi, w, acc, us, a, q2⟩
  by_cases hlt : i < ds.length
  · have e : ds[i]? = some ds[i] := by simp [hlt]
    obtain ⟨x1, x2⟩ := src.go i _ w H a.ok a.le e
    refine .inr ⟨x1, Pv (i + 1), fun H' p' => ⟨ds.length - (i + 1), by omega, rfl, hlt, p'⟩, fun x H' y => ?_⟩
    obtain ⟨w3, l3, ok3, r3⟩ := x2 x H' y
    have a3 := a.go l3 ok3
    rw [drop_get e] at q2
    refine hl.go w0 H0 _ _ w3 H' _ x _ _ (frw w3 H' ok3 a3.le) r3 q2 fun r' s' fr' cm ew k' => ⟨?_, ?_⟩
    · rw [ew, wipe_idem]
    · refine ⟨w0, H0, r', w3, _, NoX, fr', (LkE.none lk.2), k', fun b w4 H4 l4 ok4 q4 => ?_⟩
      have a4 := a3.go l4 ok4
      cases b with
      | true =>
        rw [if_pos rfl] at q4
        refine iteT ?_
        refine ⟨w0, H0, r', w4, _, NoX, fr'.go l4 ok4, (LkE.none lk.2), q4, fun es J1 w5 H5 l5 ok5 src5 q5 => ?_⟩
        have a5 := a4.go l5 ok5
        have fr5 := (fr'.go l4 ok4).go l5 ok5
        have a5' : Acc G w1 H1 w5 Dd w5 H5 acc us := ⟨a5.le, .refl _, a5.ok, a5.at_, a5.hn, a5.nj, a5.rep⟩
        have sb35 : Sub w3 w5 := l4.sub.trans l5.sub
        exact lcX lk.2 (fun w H ok l sb => (cm w H (sb35.trans sb) (frw w H ok l)).wipe vs1) ⟨fun w H ok p => src5.stop w H ok p.2, fun i d w H ok p => src5.go i d w H ok p.2⟩ hl1 hD a5' q5
          fun acc2 us2 w6 H6 a6 q6 => ⟨w6, acc2, us2, ⟨a6.le, a6.le.sub, a6.ok, a6.at_, a6.hn, a6.nj, a6.rep⟩, q6⟩
      | false =>
        rw [if_neg Bool.false_ne_true] at q4
        refine iteF ?_
        exact ⟨w4, acc, us, a4, q4⟩
  · have e : i = ds.length := by omega
    subst e
    rw [List.drop_length] at q2
    exact .inl ⟨src.stop w H a.ok a.le, by
      refine k acc Dd us w H (l1.trans a.le) a.ok (l1.none_of hD) ⟨a.hn, a.nj, ?_⟩ a.at_ a.rep q2
      cases z : H0 Dd with
      | none => rfl
      | some o => exact absurd hD ((fr.le.trans l1).dom Dd (by rw [z]; exact fun y => by cases y))⟩
end
end DL
/-! The data layer, part 7: defs and their promises over data; calls; objects; the law's call. -/
namespace DL
open PySem L2 PyProof.Rows

/-! ### a def's promise, where no text of an object is under way -/
structure FnG (P : Program) (w : World) (K : PySem.W.Frag) (mg : Str → Option Value) (base : Heap) (k : Nat) (f : Addr) (fd : FuncData) (ps : List Str) (sp : Sp) : Prop where
  len : ∀ vs H Q E, sp vs H Q E → vs.length = ps.length
  run : ∀ (A : Around) (outer : List PySem.Env) (s : Shared) (H : Hp) (args : Args) (us : List Value) (vs : List V) (Q : VK) (E : XK), A.guards = some [] → Room k A → Env0 P w K mg base A outer s H → BindsTo s fd args (ps.zip us) → Vals vs us → sp vs H Q E →
    codeAny (model P w) A (.call (.ref f) args) (CR (L2.CX P w) outer P w H s Q E) s
theorem FnG.mono {P : Program} {w : World} {K : PySem.W.Frag} {mg : Str → Option Value} {base : Heap} {j k : Nat} {f : Addr} {fd : FuncData} {ps : List Str} {sp : Sp} (F : FnG P w K mg base j f fd ps sp) (h : j ≤ k) : FnG P w K mg base k f fd ps sp :=
  ⟨F.len, fun A outer s H args us vs Q E hg hr => F.run A outer s H args us vs Q E hg (hr.mono h)⟩
theorem FnG.imp {P : Program} {w : World} {K : PySem.W.Frag} {mg : Str → Option Value} {base : Heap} {k : Nat} {f : Addr} {fd : FuncData} {ps : List Str} {sp sp' : Sp} (F : FnG P w K mg base k f fd ps sp)
    (h : ∀ vs H Q E, sp' vs H Q E → sp vs H Q E) : FnG P w K mg base k f fd ps sp' :=
  ⟨fun vs H Q E q => F.len vs H Q E (h _ _ _ _ q), fun A outer s H args us vs Q E hg hr he hb hv hs => F.run A outer s H args us vs Q E hg hr he hb hv (h _ _ _ _ hs)⟩

section
variable {P : Program} {w : World} {K : PySem.W.Frag} {mg : Str → Option Value} {base : Heap} {k : Nat} {f : Addr} {N ps : List Str} {sp : Sp}
/-- a def of the text keeps its promise, by its body -/
theorem Fun.okG {x qual : Str} {st : Stmt} {fd : FuncData} (F : Fun K x qual st f fd) (S : FnScope N ps (defScope st)) (len : ∀ vs H Q E, sp vs H Q E → vs.length = ps.length)
    (body : ∀ (cdv : Value) (A : Around) (outer : List PySem.Env) (s : Shared) (H : Hp) (vs : List V) (Q : VK) (E : XK), A.guards = some [] → Room k (A.deeper (envOfC qual (defScope st) s.heap.objs.size f cdv)) → sp vs H Q E →
      ∃ t, PSs (cxOf (L2.CX P w) P w K mg base N qual (defScope st) f cdv A outer s H E) (defBody st) t ∧ t { nx := fun _ H' => Q .non H', rt := Q } (L2.start N vs) H) : FnG P w K mg base (k + 1) f fd ps sp := by
  obtain ⟨oc, od, kV, doc, pm, an, cdv, ct, osl, rfl, lk, hcd⟩ := F.ex
  refine ⟨len, fun A outer s H args us vs Q E hg hr e0 hb rv hsp => ?_⟩
  have nl := len _ _ _ _ hsp
  have inK : K.In s.heap := e0.mod.kin.keeps fun b o e => (e0.bs b o e).1
  have lim : s.heap.NoLimit := e0.mod.nolimit.keeps fun b o e => (e0.bs b o e).1
  have kinds : ∀ y ∈ ps.zip us, (defScope st).names.lookup y.1 = some .local ∨ ((defScope st).names.lookup y.1 = some .cell ∧ ((cellsFrom (s.heap.objs.size + 1) (defScope st).names []).lookup y.1).isSome = true) := by
    rintro ⟨n, v⟩ hy
    exact (S.par n (List.of_mem_zip hy).1).imp id fun q => ⟨q, PySem.W.cellsFrom_some _ _ _ (.inl q)⟩
  refine codeAny_call_function hr.depth (inK _ _ lk) rfl S.co S.gen rfl (PySem.W.codeRec_of inK hcd) (hb _ _ _ _ ?_)
  refine wpAny_newFunctionEnv_cells S.kind kinds fun env he s1 x1 => ?_
  subst he
  refine ⟨lim.keeps x1.toInCall.keep, codeAny_func ?_⟩
  obtain ⟨t, ht, hq⟩ := body cdv A outer s H vs Q E hg (hr.deeper _) hsp
  have I := inv_start (CX := L2.CX P w) (E := E) (qual := qual) (f := f) (cd := cdv) S hr.hd e0 nl rv x1
  refine wpAny_mono (ht.run [] s1 (L2.start N vs) H _ I hq) (fun fl s' hs => ?_) (fun e s' hs => hs)
  cases fl with
  | ret u =>
    obtain ⟨v, _, H', J, r, q⟩ := hs
    exact ⟨v, H', J.os, J.bare, J.base, J.hok, r, q⟩
  | next =>
    obtain ⟨_, H', J, q⟩ := hs
    exact ⟨V.non, H', J.os, J.bare, J.base, J.hok, rfl, q⟩
  | brk => exact (hs.elim fun _ z => z.elim fun _ y => (show False from y.2).elim)
  | cont => exact (hs.elim fun _ z => z.elim fun _ y => (show False from y.2).elim)
end

section
variable {X : Cx} {k : Nat} {f C : Addr} {fd : FuncData} {ps : List Str} {sp : Sp} {dvs : List V} {ds : List Value} {E : XK} {x m : Str} {p pos apos : Pos} {e o : Expr} {es : List Expr} {ta : TE} {t : TA}
abbrev PassX (X : Cx) (E : XK) : Prop := Passes (L2.CX X.prog X.w) X E
theorem run_g {pins : List (Addr × Obj)} {σ : L2.St} {H : Hp} {s : Shared} {Q : VK} {us : List Value} {vs : List V} (F : FnG X.prog X.w X.K X.mg X.base k f fd ps sp) (hg : X.A.guards = some []) (hr : Room k X.A) (hb : Binds X.K fd ps ds) (hd : Vals dvs ds) (hx : PassX X E)
    (I : Inv X pins σ H s) (r : Vals vs us) (h : sp (vs ++ dvs) H Q E) : wpAny (model X.prog X.w) X.A (call (.ref f) us) (EP X pins σ Q) X.xe s := by
  have both := r.append hd
  have nl : (us ++ ds).length = ps.length := both.length.symm.trans (F.len _ _ _ _ h)
  refine wpAny_call (codeAny_mono (F.run X.A X.stack s H ⟨us, []⟩ (us ++ ds) (vs ++ dvs) Q E hg hr I.env0 (hb s us I.kIn nl) both h) ?_)
  rintro (er | fl) s' hq
  · exact hx pins σ H s er s' I hq
  · cases fl <;> first
      | exact I.after hq
      | exact hq.elim
theorem pe_g (F : FnG X.prog X.w X.K X.mg X.base k f fd ps sp) (hgd : X.A.guards = some []) (hr : Room k X.A) (hg : Gl X x) (hm : X.mg x = some (.ref f)) (hk : PySem.W.keepIn X.K (.ref f) = true) (hb : Binds X.K fd ps ds) (hd : Vals dvs ds) (hx : PassX X E)
    (ha : PA X (e :: es) t) (hdb : (x == ("__debug__" : Str)) = false) (he : starEach (e :: es) X.env = (false, eval e X.env) :: starEach es X.env) (hpl : (backTo pos (starEach es X.env)).any (·.1) = false) :
    PE X (.Call (.Name x p) (e :: es) [] pos) (tCall sp dvs E t) := ⟨fun pins s σ H Q I h => by
  refine wpAny_Call_Name_kw (ld_glob I hg hm (PySem.W.callWith_K (h₀ := X.base) I.ok.mod.kin hk (thn (ha.run pos pins s σ H _ I h) ?_) he hpl) hdb)
  rintro us s1 ⟨vs, H1, I1, r, q⟩
  exact ⟨I1.kIn, run_g F hgd hr hb hd hx I1 r q⟩⟩
theorem guards_make {A : Around} {C : Addr} {us : List Value} {kw : List (Str × Value)} (h : A.guards = some []) : (A.under (.builtin "type.__call__" ⟨.ref C :: us, kw⟩)).guards = some [] := by
  first
    | exact h
    | (simp [Around.under, pushGuards, Code.guards, Code.isGuard, guardIds, h])
theorem run_gmake {pins : List (Addr × Obj)} {σ : L2.St} {H : Hp} {s : Shared} {Q : VK} {us : List Value} {vs : List V} (M : Mk X.K C f) (F : FnG X.prog X.w X.K X.mg X.base k f fd ps sp) (hgd : X.A.guards = some []) (hr : Room (k + 1) X.A) (hb : Binds X.K fd ps ds) (hd : Vals dvs ds)
    (hx : PassX X E) (I : Inv X pins σ H s) (r : Vals vs us)
    (h : ∀ x dx, H x = none → H dx = none → dx ≠ x → sp (.ref x :: (vs ++ dvs)) (upd (upd H dx (.own x)) x (.ins C dx [])) (fun v H2 => v = .non ∧ Q (.ref x) H2) E) :
    wpAny (model X.prog X.w) X.A (call (.ref C) us) (EP X pins σ Q) X.xe s := by
  have hq := h (s.heap.objs.size + 1) s.heap.objs.size (I.hok.fresh (Nat.le_succ _)) I.fresh (Nat.ne_of_lt (Nat.lt_succ_self _))
  have J := Inv.made (C := C) I
  have both : Vals (V.ref (s.heap.objs.size + 1) :: (vs ++ dvs)) (Value.ref (s.heap.objs.size + 1) :: (us ++ ds)) := .cons rfl (r.append hd)
  have nl : (Value.ref (s.heap.objs.size + 1) :: us ++ ds).length = ps.length := both.length.symm.trans (F.len _ _ _ _ hq)
  refine wpAny_call (make_map (f := f) I.kIn M.makes M.init (beq_iff_eq.mp M.fn) (codeAny_mono (F.run _ X.stack _ _ ⟨Value.ref (s.heap.objs.size + 1) :: us, []⟩ (Value.ref (s.heap.objs.size + 1) :: (us ++ ds)) _ _ E (guards_make hgd) (hr.make C us [])
    (J.env0.make C us []) (hb _ (Value.ref (s.heap.objs.size + 1) :: us) J.kIn nl) both hq) ?_))
  rintro (er | fl) s' hq'
  · exact hx pins σ _ _ er s' J hq'
  · cases fl with
    | ret u =>
      obtain ⟨v, H', I3, rv, ev, q3⟩ := J.after hq'
      subst ev
      exact ⟨rv, V.ref (s.heap.objs.size + 1), H', I3, rfl, q3⟩
    | next => exact hq'.elim
    | brk => exact hq'.elim
    | cont => exact hq'.elim
theorem pe_gmake (M : Mk X.K C f) (F : FnG X.prog X.w X.K X.mg X.base k f fd ps sp) (hgd : X.A.guards = some []) (hr : Room (k + 1) X.A) (hg : Gl X x) (hm : X.mg x = some (.ref C)) (hb : Binds X.K fd ps ds) (hd : Vals dvs ds) (hx : PassX X E)
    (ha : PA X (e :: es) t) (hdb : (x == ("__debug__" : Str)) = false) (he : starEach (e :: es) X.env = (false, eval e X.env) :: starEach es X.env) (hpl : (backTo pos (starEach es X.env)).any (·.1) = false) :
    PE X (.Call (.Name x p) (e :: es) [] pos) (tMake C sp dvs E t) := ⟨fun pins s σ H Q I h => by
  refine wpAny_Call_Name_kw (ld_glob I hg hm (PySem.W.callWith_K (h₀ := X.base) I.ok.mod.kin M.kp (thn (ha.run pos pins s σ H _ I h) ?_) he hpl) hdb)
  rintro us s1 ⟨vs, H1, I1, r, q⟩
  exact ⟨I1.kIn, run_gmake M F hgd hr hb hd hx I1 r q⟩⟩
theorem getprop_g {p g a dx : Addr} {fs : List (Str × V)} {pins : List (Addr × Obj)} {σ : L2.St} {H : Hp} {s : Shared} {Q : VK} {b : Bool} {E' : Value → Shared → Prop} {fx : Str} (I : Inv X pins σ H s) (ea : H a = some (.ins C dx fs)) (c : Cls X.K C) (hp : PropOf X.K C fx p g)
    (F : FnG X.prog X.w X.K X.mg X.base k g fd ps sp) (hgd : X.A.guards = some []) (hr : Room (k + 1) X.A) (hb : Binds X.K fd ps []) (hx : Passes (L2.CX X.prog X.w) X.nox E) (h : sp [.ref a] H Q E) :
    wpAny (model X.prog X.w) X.A (getAttr (.ref a) fx b) (EP X pins σ Q) E' s := by
  obtain ⟨mA, O, _⟩ := ins_get I.hok ea
  obtain ⟨od, J, _⟩ := O.look
  obtain ⟨rest, hrec⟩ := hp.rec_
  have I1 := I.tok (s.toks + 1)
  have nl : ([Value.ref a] ++ []).length = ps.length := F.len _ _ _ _ h
  have hc : (PySem.W.clsIn X.K C).isSome = true := by
    obtain ⟨cd, q, _⟩ := PySem.W.any_some c.hd
    rw [q]; rfl
  refine PySem.W.get_bind I.kIn J (PySem.W.plainGet_of (c.get fx)).1 (PySem.W.findObj_data hc hp.at_ hp.get hp.tak) (PySem.W.plainGet_of (c.get fx)).2 (wpAny_call (PySem.W.prop_get (s := { s with toks := s.toks + 1 }) I.kIn hrec ?_))
  refine codeAny_mono (F.run X.A.in1 X.stack { s with toks := s.toks + 1 } H ⟨[.ref a], []⟩ [.ref a] [.ref a] Q E hgd hr.in1 I1.env0.in1 (hb _ [.ref a] I1.kIn nl) (.cons rfl .nil) h) ?_
  rintro (er | fl) s' hq
  · exact (hx pins σ H { s with toks := s.toks + 1 } er s' (I1.wish _) hq).elim
  · cases fl with
    | ret u =>
      obtain ⟨v, H', I3, rv, q3⟩ := I1.after hq
      show wpAny _ _ (handedOut u) _ _ _
      rw [PySem.W.handedOut_of (handed_of rv)]
      exact wpAny_pure ⟨v, H', I3, rv, q3⟩
    | next => exact hq.elim
    | brk => exact hq.elim
    | cont => exact hq.elim
theorem pe_gprop {p g : Addr} {fx : Str} (he : PE X e ta) (c : Cls X.K C) (hp : PropOf X.K C fx p g) (F : FnG X.prog X.w X.K X.mg X.base k g fd ps sp) (hgd : X.A.guards = some []) (hr : Room (k + 1) X.A) (hb : Binds X.K fd ps []) (hx : Passes (L2.CX X.prog X.w) X.nox E)
    (hab : attributeBase e fx X.env (eval e X.env) = eval e X.env) : PE X (.Attribute e fx pos) (tProp C sp [] E ta) := ⟨fun pins s σ H Q I h => by
  refine attr_of hab (thn (he.run pins s σ H _ I h) ?_)
  rintro u s1 ⟨x, H1, I1, rx, a, dx, fs, ex, ea, q⟩
  subst ex
  cases (show u = Value.ref a from rx)
  exact getprop_g I1 ea c hp F hgd hr hb hx q⟩
end

/-! ### promises over data -/
abbrev DSp := List D → (D → Prop) → XP → Prop
variable {G : Gm}
def lift (G : Gm) (sp : DSp) : Sp := fun vs H Q E => ∃ w ds QD EX, Ok w H ∧ Reps G w ds vs ∧ sp ds QD EX ∧ (∀ d v w' H', Le w H w' H' → Ok w' H' → Rep G w' d v → QD d → Q v H') ∧ LkE G E w H EX
/-- an __init__: the new object's attributes -/
def liftI (G : Gm) (c : Nat) (sp : List D → (List D → Prop) → XP → Prop) : Sp := fun vs H Q E => ∃ w H1 x dx vr ds QD EX, vs = .ref x :: vr ∧ H1 x = none ∧ H1 dx = none ∧ dx ≠ x ∧ H = upd (upd H1 dx (.own x)) x (.ins (G.cls c) dx []) ∧ Ok w H1 ∧ Reps G w ds vr ∧ sp ds QD EX ∧
  (∀ es fs w' H' dy, Le w H1 w' H' → Ok w' H' → Mine H1 w' x → H' x = some (.ins (G.cls c) dy fs) → fs.map (·.1) = G.fld c → Reps G w' es (fs.map (·.2)) → QD es → Q .non H') ∧ LkE G E w H1 EX
section
variable {X : Cx} {E : XK} {k : Nat} {f C : Addr} {fd : FuncData} {ps : List Str} {x m : Str} {p pos apos : Pos} {e o : Expr} {es : List Expr} {A : FE} {B : FA} {sp : DSp}
def fCall (sp : DSp) (B : FA) : FE := fun r Q EX => B r (fun ds => sp ds Q EX) EX
theorem LkE.go {w0 w : Wd} {H0 H : Hp} {EX : XP} (l : Le w0 H0 w H) (h : LkE G E w0 H0 EX) : LkE G E w H EX := ⟨fun x od w' H' l' ok' a q => h.1 x od w' H' (l.trans l') ok' a q, l.sub.tb.trans h.2⟩
theorem ce_call (F : FnG X.prog X.w X.K X.mg X.base k f fd ps (lift G sp)) (hm : X.mg x = some (.ref f)) (hk : PySem.W.keepIn X.K (.ref f) = true) (hb : Binds X.K fd ps []) (hgd : X.A.guards = some []) (hr : Room k X.A) (hx : PassX X E)
    (ha : PA X (e :: es) (taD G E B)) (hg : Gl X x := by rfl) (hdb : (x == ("__debug__" : Str)) = false := by decide) (he : starEach (e :: es) X.env = (false, eval e X.env) :: starEach es X.env := by rfl) (hpl : (backTo pos (starEach es X.env)).any (·.1) = false := by rfl) :
    PE X (.Call (.Name x p) (e :: es) [] pos) (tD G E (fCall sp B)) := (pe_g F hgd hr hg hm hk hb .nil hx ha hdb he hpl).weak fun s H Q ⟨w0, H0, r, w, QD, EX, fr, lk, f, k⟩ =>
  ⟨w0, H0, r, w, _, EX, fr, lk, f, fun ds vs w1 H1 l1 ok1 r1 q1 => ⟨w1, ds, QD, EX, ok1, by rw [List.append_nil]; exact r1, q1, fun d v w2 H2 l2 ok2 r2 q2 => k d v w2 H2 (l1.trans l2) ok2 r2 q2, lk.go (fr.le.trans l1)⟩⟩
/-- o.f, a property of the class c that raises nothing -/
def fProp (c : Nat) (sp : DSp) (A : FE) : FE := fun r Q EX => A r (fun d => ∃ fs, d = .obj c fs ∧ sp [d] Q NoX) EX
theorem ce_prop {c : Nat} {p g : Addr} {fx : Str} (ho : PE X e (tD G E A)) (cl : Cls X.K (G.cls c)) (hp : PropOf X.K (G.cls c) fx p g) (F : FnG X.prog X.w X.K X.mg X.base k g fd ps (lift G sp)) (hb : Binds X.K fd ps []) (hgd : X.A.guards = some []) (hr : Room (k + 1) X.A)
    (hab : attributeBase e fx X.env (eval e X.env) = eval e X.env := by rfl) : PE X (.Attribute e fx pos) (tD G E (fProp c sp A)) := (pe_gprop (E := E0) ho cl hp F hgd hr hb passL hab).weak fun s H Q ⟨w0, H0, r, w, QD, EX, fr, lk, f, k⟩ =>
  ⟨w0, H0, r, w, _, EX, fr, lk, f, fun d v w1 H1 l1 ok1 r1 ⟨fs, ed, q1⟩ => by
    have r0 := r1
    rw [ed] at r0
    obtain ⟨a, dx, gs, ev, h1, _, _, htb⟩ := r0.obj_of
    subst ev
    exact ⟨a, dx, gs, rfl, ok1.sub _ _ h1, w1, [d], QD, NoX, ok1, Reps.cons r1 Reps.nil, q1, fun d v w3 H3 l3 ok3 r3 q3 => k d v w3 H3 (l1.trans l3) ok3 r3 q3, LkE.none htb⟩⟩
/-- C(..) -/
def fMake (c : Nat) (sp : List D → (List D → Prop) → XP → Prop) (B : FA) : FE := fun r Q EX => B r (fun ds => sp ds (fun es => Q (.obj c es)) EX) EX
theorem ce_make {c : Nat} {spI : List D → (List D → Prop) → XP → Prop} (M : Mk X.K (G.cls c) f) (F : FnG X.prog X.w X.K X.mg X.base k f fd ps (liftI G c spI)) (hm : X.mg x = some (.ref (G.cls c))) (hb : Binds X.K fd ps []) (hgd : X.A.guards = some []) (hr : Room (k + 1) X.A) (hx : PassX X E)
    (ha : PA X (e :: es) (taD G E B)) (hg : Gl X x := by rfl) (hdb : (x == ("__debug__" : Str)) = false := by decide) (he : starEach (e :: es) X.env = (false, eval e X.env) :: starEach es X.env := by rfl) (hpl : (backTo pos (starEach es X.env)).any (·.1) = false := by rfl) :
    PE X (.Call (.Name x p) (e :: es) [] pos) (tD G E (fMake c spI B)) := (pe_gmake M F hgd hr hg hm hb .nil hx ha hdb he hpl).weak fun s H Q ⟨w0, H0, r, w, QD, EX, fr, lk, f, k⟩ =>
  ⟨w0, H0, r, w, _, EX, fr, lk, f, fun ds vs w1 H1 l1 ok1 r1 q1 y dy ny ndy ne =>
    ⟨w1, H1, y, dy, vs, ds, _, EX, by rw [List.append_nil], ny, ndy, ne, rfl, ok1, r1, q1, fun es fs w2 H2 dz l2 ok2 mi h2 hf r2 q2 => ⟨rfl, by
      refine k (.obj c es) (.ref y) (w2.frz H2 y) H2 (l1.trans (l2.frz mi.1 ny)) (ok2.frz mi.2.1) ?_ q2
      unfold Rep
      exact ⟨y, dz, fs, rfl, by rw [frz_at]; exact h2, hf, r2.mono (.frz mi.1), (l2.sub.tb.trans l1.sub.tb).trans (fr.le.sub.tb.trans lk.2)⟩⟩, lk.go (fr.le.trans l1)⟩⟩
end

/-! ### a def's body -/
/-- the slots at the entry -/
def startD (N : List Str) (ds : List D) : Env := ds.map Sl.val ++ List.replicate (N.length - ds.length) Sl.un
theorem fr_start {w : Wd} {H : Hp} {N : List Str} {ds : List D} {vs : List V} (ok : Ok w H) (r : Reps G w ds vs) : Fr G w H (startD N ds) (L2.start N vs) w H where
  ok := ok
  le := .refl w H
  len := by unfold startD L2.start; simp [r.length]
  slot := fun i x e => by
    unfold startD at e
    unfold L2.start
    by_cases hi : i < ds.length
    · rw [List.getElem?_append_left (by simpa using hi), List.getElem?_map] at e
      rw [List.getElem?_append_left (by rw [List.length_map, ← r.length]; exact hi), List.getElem?_map]
      have hd : ds[i]? = some ds[i] := by simp [hi]
      rw [hd] at e
      cases e
      obtain ⟨v, e2, r2⟩ := r.getD hd
      rw [e2]
      exact ⟨v, rfl, r2⟩
    · rw [List.getElem?_append_right (by simpa using hi), List.getElem?_replicate] at e
      split at e
      · cases e; trivial
      · cases e
  dist := fun i j x y a e1 e2 o1 o2 _ _ => by
    have no : ∀ {n : Nat} {x : Sl}, (startD N ds)[n]? = some x → x.isOwn = false := fun {n x} e => by
      unfold startD at e
      by_cases hn : n < ds.length
      · rw [List.getElem?_append_left (by simpa using hn), List.getElem?_map] at e
        have hd : ds[n]? = some ds[n] := by simp [hn]
        rw [hd] at e
        cases e
        rfl
      · rw [List.getElem?_append_right (by simpa using hn), List.getElem?_replicate] at e
        split at e
        · cases e; rfl
        · cases e
    rw [no e1] at o1
    cases o1
section
variable {P : Program} {w : World} {mg : Str → Option Value} {base : Heap} {k : Nat} {f : Addr} {N ps : List Str}
theorem okD {x qual : Str} {st : Stmt} {fd : FuncData} {sp : DSp} {B : FS} (F : Fun G.K x qual st f fd) (S : FnScope N ps (defScope st)) (len : ∀ ds Q EX, sp ds Q EX → ds.length = ps.length)
    (body : ∀ (cdv : Value) (A : Around) (outer : List PySem.Env) (s : Shared) (H : Hp) (E : XK), A.guards = some [] → Room k (A.deeper (envOfC qual (defScope st) s.heap.objs.size f cdv)) →
      PSs (cxOf (L2.CX P w) P w G.K mg base N qual (defScope st) f cdv A outer s H E) (defBody st) (sD G E B))
    (pure : ∀ ds Q EX, sp ds Q EX → B { nx := fun _ => Q .non, rt := Q } EX (startD N ds)) : FnG P w G.K mg base (k + 1) f fd ps (lift G sp) := by
  refine Fun.okG F S (fun vs H Q E ⟨w, ds, QD, EX, _, r, h, _⟩ => by rw [← r.length]; exact len _ _ _ h) fun cdv A outer s H vs Q E hg hr ⟨w, ds, QD, EX, ok, r, h, k, lk⟩ => ⟨_, body cdv A outer s H E hg hr, ?_⟩
  exact ⟨w, H, w, startD N ds, w, { nx := fun _ => QD .non, rt := QD }, EX, fr_start ok r, .refl w, lk, ⟨fun r s w' H' fr _ q => k .non .non w' H' fr.le fr.ok Rep.non q, fun d v w' H' l ok' rp q => k d v w' H' l ok' rp q, fun _ _ _ _ _ _ q => q.elim, fun _ _ _ _ _ _ q => q.elim, fun _ _ _ _ _ _ _ _ _ _ q => q.elim⟩, pure ds QD EX h⟩
/-- a promise whose answer is a new list -/
def liftN (G : Gm) (sp : List D → (List D → Prop) → XP → Prop) : Sp := fun vs H Q E => ∃ w ds QD EX, Ok w H ∧ Reps G w ds vs ∧ sp ds QD EX ∧
  (∀ es a us w' H', Le w H w' H' → Ok w' H' → Mine H w' a → H' a = some (.lst us) → Reps G w' es us → QD es → Q (.ref a) H') ∧ LkE G E w H EX
theorem okN {x qual : Str} {st : Stmt} {fd : FuncData} {sp : List D → (List D → Prop) → XP → Prop} {B : FS} (F : Fun G.K x qual st f fd) (S : FnScope N ps (defScope st)) (len : ∀ ds Q EX, sp ds Q EX → ds.length = ps.length)
    (body : ∀ (cdv : Value) (A : Around) (outer : List PySem.Env) (s : Shared) (H : Hp) (E : XK), A.guards = some [] → Room k (A.deeper (envOfC qual (defScope st) s.heap.objs.size f cdv)) →
      PSs (cxOf (L2.CX P w) P w G.K mg base N qual (defScope st) f cdv A outer s H E) (defBody st) (sD G E B))
    (pure : ∀ ds Q EX, sp ds Q EX → B { nx := fun _ => False, rt := fun _ => False, rn := Q } EX (startD N ds)) : FnG P w G.K mg base (k + 1) f fd ps (liftN G sp) := by
  refine Fun.okG F S (fun vs H Q E ⟨w, ds, QD, EX, _, r, h, _⟩ => by rw [← r.length]; exact len _ _ _ h) fun cdv A outer s H vs Q E hg hr ⟨w, ds, QD, EX, ok, r, h, k, lk⟩ => ⟨_, body cdv A outer s H E hg hr, ?_⟩
  exact ⟨w, H, w, startD N ds, w, { nx := fun _ => False, rt := fun _ => False, rn := QD }, EX, fr_start ok r, .refl w, lk, ⟨fun _ _ _ _ _ _ q => q.elim, fun _ _ _ _ _ _ _ q => q.elim, fun _ _ _ _ _ _ q => q.elim, fun _ _ _ _ _ _ q => q.elim, fun es a us w' H' l ok' m h1 rp q => k es a us w' H' l ok' m h1 rp q⟩, pure ds QD EX h⟩
end
section
variable {X : Cx} {E : XK} {k : Nat} {f C : Addr} {fd : FuncData} {ps : List Str} {x : Str} {p pos : Pos} {e : Expr} {es : List Expr} {B : FA} {sp : List D → (List D → Prop) → XP → Prop}
/-- f(..) that gives a new list -/
def fCallN (sp : List D → (List D → Prop) → XP → Prop) (B : FA) : FA := fun r Q EX => B r (fun ds => sp ds Q EX) EX
theorem cf_call (F : FnG X.prog X.w X.K X.mg X.base k f fd ps (liftN G sp)) (hm : X.mg x = some (.ref f)) (hk : PySem.W.keepIn X.K (.ref f) = true) (hb : Binds X.K fd ps []) (hgd : X.A.guards = some []) (hr : Room k X.A) (hx : PassX X E)
    (ha : PA X (e :: es) (taD G E B)) (hg : Gl X x := by rfl) (hdb : (x == ("__debug__" : Str)) = false := by decide) (he : starEach (e :: es) X.env = (false, eval e X.env) :: starEach es X.env := by rfl) (hpl : (backTo pos (starEach es X.env)).any (·.1) = false := by rfl) :
    PE X (.Call (.Name x p) (e :: es) [] pos) (fD G E (fCallN sp B)) := (pe_g F hgd hr hg hm hk hb .nil hx ha hdb he hpl).weak fun s H Q ⟨w0, H0, r, w, QD, EX, fr, lk, f, k⟩ =>
  ⟨w0, H0, r, w, _, EX, fr, lk, f, fun ds vs w1 H1 l1 ok1 r1 q1 => ⟨w1, ds, QD, EX, ok1, by rw [List.append_nil]; exact r1, q1, fun es a us w2 H2 l2 ok2 m h1 r2 q2 =>
    k es a us w2 H2 (l1.trans l2) ok2 (l1.none_of m.2.2) ⟨m.1, m.2.1, by
      cases z : H0 a with
      | none => rfl
      | some o => exact absurd m.2.2 ((fr.le.trans l1).dom a (by rw [z]; exact fun y => by cases y))⟩ h1 r2 q2, lk.go (fr.le.trans l1)⟩⟩
end
end DL
/-! The data layer, part 8: calls of builtins. -/
namespace DL
open PySem L2 PyProof.Rows

/-! ### sorting, as plain law -/
section
variable {α : Type} (lt : α → α → Bool)
def ins1 (x : α) : List α → List α
  | [] => [x]
  | y :: l => if lt y x = true then y :: ins1 x l else x :: y :: l
def isort : List α → List α
  | [] => []
  | x :: l => ins1 lt x (isort l)
structure Ord : Prop where
  irr : ∀ x, lt x x = false
  asym : ∀ x y, lt x y = true → lt y x = false
  tr : ∀ x y z, lt y x = false → lt z y = false → lt z x = false
variable {lt}
abbrev Sd (lt : α → α → Bool) (l : List α) : Prop := l.Pairwise fun x y => lt y x = false
theorem ins1_perm {x : α} : ∀ {l : List α}, (ins1 lt x l).Perm (x :: l)
  | [] => .refl _
  | y :: l => by
    unfold ins1
    split
    · exact (List.Perm.cons y ins1_perm).trans (List.Perm.swap x y l)
    · exact .refl _
theorem isort_perm : ∀ {l : List α}, (isort lt l).Perm l
  | [] => .refl _
  | x :: l => ins1_perm.trans (List.Perm.cons x isort_perm)
theorem ins1_sd (O : Ord lt) {x : α} : ∀ {l : List α}, Sd lt l → Sd lt (ins1 lt x l)
  | [], _ => List.pairwise_singleton _ _
  | y :: l, h => by
    obtain ⟨h1, h2⟩ := List.pairwise_cons.mp h
    unfold ins1
    split
    · rename_i hy
      refine List.pairwise_cons.mpr ⟨fun z hz => ?_, ins1_sd O h2⟩
      rcases List.mem_cons.mp (ins1_perm.mem_iff.mp hz) with q | q
      · rw [q]; exact O.asym _ _ hy
      · exact h1 z q
    · rename_i hy
      have hy' : lt y x = false := by simpa using hy
      refine List.pairwise_cons.mpr ⟨fun z hz => ?_, h⟩
      rcases List.mem_cons.mp hz with q | q
      · rw [q]; exact hy'
      · exact O.tr _ _ _ hy' (h1 z q)
theorem isort_sd (O : Ord lt) : ∀ {l : List α}, Sd lt (isort lt l)
  | [] => List.Pairwise.nil
  | x :: l => ins1_sd O (isort_sd O)
theorem sd_unique : ∀ {l m : List α}, l.Perm m → Sd lt l → Sd lt m → (∀ x ∈ l, ∀ y ∈ l, lt x y = false → lt y x = false → x = y) → l = m
  | [], m, p, _, _, _ => (List.Perm.nil_eq p)
  | x :: l, [], p, _, _, _ => by simpa using p.length_eq
  | x :: l, y :: m, p, h, k, a => by
    obtain ⟨h1, h2⟩ := List.pairwise_cons.mp h
    obtain ⟨k1, k2⟩ := List.pairwise_cons.mp k
    have e : x = y := by
      have my : y ∈ x :: l := p.mem_iff.mpr List.mem_cons_self
      have mx : x ∈ y :: m := p.mem_iff.mp List.mem_cons_self
      rcases List.mem_cons.mp my with q | q
      · exact q.symm
      · rcases List.mem_cons.mp mx with r | r
        · exact r
        · exact a x List.mem_cons_self y my (k1 x r) (h1 y q)
    subst e
    rw [sd_unique (p.cons_inv) h2 k2 fun u hu v hv => a u (List.mem_cons_of_mem _ hu) v (List.mem_cons_of_mem _ hv)]
end
end DL
/-! The data layer, part 9: sorted, calls of builtins over data. -/
namespace DL
open PySem L2 PyProof.Rows

/-! ### sorted, by values -/
section
variable {X : Cx}
end
end DL
/-! The data layer, part 10: calls of builtins over data. -/
namespace DL
open PySem L2 PyProof.Rows
variable {G : Gm} {X : Cx} {E : XK}
abbrev CG := List D → (D → Prop) → Prop
/-- a builtin whose answer is a value -/
def CaL (G : Gm) (X : Cx) (f : Value) (g : CG) : Prop := ∃ r, CallR X f r ∧ ∀ H0 w H ds vs Q (QD : D → Prop), Ok w H → Sees G H0 w H ds vs → g ds QD →
  (∀ d z w' H', Le w H w' H' → Ok w' H' → Rep G w' d z → QD d → Q z H') → r vs H Q
theorem Sees.one {H0 : Hp} {w : Wd} {H : Hp} {d : D} {vs : List V} (h : Sees G H0 w H [d] vs) : ∃ v, vs = [v] ∧ See G H0 w H d v := by
  cases h with
  | cons h t => cases t; exact ⟨_, rfl, h⟩
theorem Sees.two {H0 : Hp} {w : Wd} {H : Hp} {d d' : D} {vs : List V} (h : Sees G H0 w H [d, d'] vs) : ∃ v v', vs = [v, v'] ∧ See G H0 w H d v ∧ See G H0 w H d' v' := by
  cases h with
  | cons h t =>
    cases t with
    | cons h2 t2 => cases t2; exact ⟨_, _, rfl, h, h2⟩
def fCa (g : CG) (A : FA) : FE := fun r Q EX => A r (fun ds => g ds Q) EX
section
variable {x : Str} {id T : String} {e : Expr} {es : List Expr} {p pos : Pos} {g : CG} {A : FA}
theorem ca_link {r : List V → Hp → VK → Prop} (k0 : ∀ H0 w H ds vs Q (QD : D → Prop), Ok w H → Sees G H0 w H ds vs → g ds QD → (∀ d z w' H', Le w H w' H' → Ok w' H' → Rep G w' d z → QD d → Q z H') → r vs H Q)
    (s : L2.St) (H : Hp) (Q : VK) (h : tD G E (fCa g A) s H Q) : tCB r (baD G E A) s H Q := by
  obtain ⟨w0, H0, r, w, QD, EX, fr, lk, f, k⟩ := h
  exact ⟨w0, H0, r, w, _, EX, fr, lk, f, fun ds vs w1 H1 l1 ok1 s1 q1 => k0 H0 w1 H1 ds vs Q QD ok1 s1 q1 fun d z w2 H2 l2 ok2 r2 q2 => k d z w2 H2 (l1.trans l2) ok2 r2 q2⟩
theorem ce_callB (hc : CaL G X (.builtin id) g) (hm : X.mg x = none) (ha : PA X (e :: es) (baD G E A)) (hg : Gl X x := by rfl) (hv : bootBuiltins x = some (.builtin id) := by decide +kernel) (hn : x ≠ "__name__" := by decide) (hdb : (x == ("__debug__" : Str)) = false := by decide)
    (he : starEach (e :: es) X.env = (false, eval e X.env) :: starEach es X.env := by rfl) (hpl : (backTo pos (starEach es X.env)).any (·.1) = false := by rfl) : PE X (.Call (.Name x p) (e :: es) [] pos) (tD G E (fCa g A)) := by
  obtain ⟨r, hr, k0⟩ := hc
  exact (pe_callB hr hg hm hv ha hn hdb he hpl).weak (ca_link k0)
theorem ce_callTy (hc : CaL G X (.type T) g) (hm : X.mg x = none) (ha : PA X (e :: es) (baD G E A)) (hg : Gl X x := by rfl) (hv : bootBuiltins x = some (.type T) := by decide +kernel) (hn : x ≠ "__name__" := by decide) (hdb : (x == ("__debug__" : Str)) = false := by decide)
    (he : starEach (e :: es) X.env = (false, eval e X.env) :: starEach es X.env := by rfl) (hpl : (backTo pos (starEach es X.env)).any (·.1) = false := by rfl) : PE X (.Call (.Name x p) (e :: es) [] pos) (tD G E (fCa g A)) := by
  obtain ⟨r, hr, k0⟩ := hc
  exact (pe_callTy hr hg hm hv ha hn hdb he hpl).weak (ca_link k0)
end

/-! ### the builtins -/
def lenD : CG := fun ds Q => match ds with
  | [.tup xs] => Q (.int xs.length)
  | [.lst xs] => Q (.int xs.length)
  | [.str z] => z.length ≤ sizeLine ∧ Q (.int z.length)
  | _ => False
theorem cal_len (hK : X.K = G.K := by rfl) : CaL G X (.builtin "len") lenD := by
  refine ⟨_, call_len, fun H0 w H ds vs Q QD ok sx g k => ?_⟩
  match ds, g with
  | [.tup xs], g =>
    obtain ⟨v, rfl, s1⟩ := sx.one
    obtain ⟨a, us, rfl, sq, r⟩ := s1.tup_of ok
    exact ⟨_, _, rfl, .inr ⟨us, hK ▸ sq, rfl⟩, k _ _ w H (.refl w H) ok Rep.int (by rw [← r.length]; exact g)⟩
  | [.lst xs], g =>
    obtain ⟨v, rfl, s1⟩ := sx.one
    obtain ⟨a, us, rfl, sq, r⟩ := s1.lst_of ok
    exact ⟨_, _, rfl, .inl ⟨us, hK ▸ sq.sql, rfl⟩, k _ _ w H (.refl w H) ok Rep.int (by rw [← r.length]; exact g)⟩
  | [.str z], g =>
    obtain ⟨v, rfl, s1⟩ := sx.one
    rw [s1.str_of]
    exact ⟨_, z.length, rfl, ⟨g.1, rfl⟩, k _ _ w H (.refl w H) ok Rep.int g.2⟩
def i1D (f : Int → D) : CG := fun ds Q => match ds with
  | [.int i] => Q (f i)
  | _ => False
def i2D (f : Int → Int → D) : CG := fun ds Q => match ds with
  | [.int i, .int j] => Q (f i j)
  | _ => False
theorem cal_i1 {f : Value} {u : Int → Int} (h : CallR X f (fun xs H Q => ∃ i, xs = [.int i] ∧ Q (.int (u i)) H)) : CaL G X f (i1D fun i => .int (u i)) := by
  refine ⟨_, h, fun H0 w H ds vs Q QD ok sx g k => ?_⟩
  match ds, g with
  | [.int i], g =>
    obtain ⟨v, rfl, s1⟩ := sx.one
    rw [s1.int_of]
    exact ⟨i, rfl, k _ _ w H (.refl w H) ok Rep.int g⟩
theorem cal_i2 {f : Value} {u : Int → Int → Int} (h : CallR X f (fun xs H Q => ∃ i j, xs = [.int i, .int j] ∧ Q (.int (u i j)) H)) : CaL G X f (i2D fun i j => .int (u i j)) := by
  refine ⟨_, h, fun H0 w H ds vs Q QD ok sx g k => ?_⟩
  match ds, g with
  | [.int i, .int j], g =>
    obtain ⟨v, v', rfl, s1, s2⟩ := sx.two
    rw [s1.int_of, s2.int_of]
    exact ⟨i, j, rfl, k _ _ w H (.refl w H) ok Rep.int g⟩
theorem cal_abs : CaL G X (.builtin "abs") (i1D fun i => .int (if i < 0 then -i else i)) := cal_i1 call_abs
theorem cal_max2 (hc : X.calm = true := by rfl) : CaL G X (.builtin "max") (i2D fun i j => .int (if j > i then j else i)) := cal_i2 (call_max2 hc)
theorem cal_min2 (hc : X.calm = true := by rfl) : CaL G X (.builtin "min") (i2D fun i j => .int (if j < i then j else i)) := cal_i2 (call_min2 hc)
def intC : CG := fun ds Q => match ds with
  | [.int i] => Q (.int i)
  | [.bl b] => Q (.int (if b then 1 else 0))
  | _ => False
theorem cal_int : CaL G X (.type "int") intC := by
  refine ⟨_, call_int1, fun H0 w H ds vs Q QD ok sx g k => ?_⟩
  match ds, g with
  | [.int i], g =>
    obtain ⟨v, rfl, s1⟩ := sx.one
    rw [s1.int_of]
    exact .inl ⟨i, rfl, k _ _ w H (.refl w H) ok Rep.int g⟩
  | [.bl b], g =>
    obtain ⟨v, rfl, s1⟩ := sx.one
    rw [s1.bl_of]
    exact .inr ⟨b, rfl, k _ _ w H (.refl w H) ok Rep.int g⟩
def strC : CG := fun ds Q => match ds with
  | [.int i] => i.natAbs.log2 < 1920 ∧ Q (.str (toString i))
  | [.str z] => Q (.str z)
  | _ => False
theorem cal_str : CaL G X (.type "str") strC := by
  refine ⟨_, call_str_int.or SkE.call_str_str, fun H0 w H ds vs Q QD ok sx g k => ?_⟩
  match ds, g with
  | [.int i], g =>
    obtain ⟨v, rfl, s1⟩ := sx.one
    rw [s1.int_of]
    exact .inl ⟨i, rfl, g.1, k _ _ w H (.refl w H) ok Rep.str g.2⟩
  | [.str z], g =>
    obtain ⟨v, rfl, s1⟩ := sx.one
    rw [s1.str_of]
    exact .inr ⟨z, rfl, k _ _ w H (.refl w H) ok Rep.str g⟩
def tupC : CG := fun ds Q => match ds with
  | [.lst xs] => Q (.tup xs)
  | [.tup xs] => Q (.tup xs)
  | _ => False
theorem cal_tuple (hK : X.K = G.K := by rfl) : CaL G X (.type "tuple") tupC := by
  refine ⟨_, call_tupleF, fun H0 w H ds vs Q QD ok sx g k => ?_⟩
  match ds, g with
  | [.lst xs], g =>
    obtain ⟨v, rfl, s1⟩ := sx.one
    obtain ⟨a, us, rfl, sq, r⟩ := s1.lst_of ok
    refine ⟨a, us, rfl, .inl ⟨hK ▸ sq.sql, fun l o hl hd => ?_⟩⟩
    obtain ⟨w2, l2, ok2, r2⟩ := newTup (p := l) ok hl hd r
    exact k _ _ w2 _ l2 ok2 r2 g
  | [.tup xs], g =>
    obtain ⟨v, rfl, s1⟩ := sx.one
    have rp := s1.tup_rep
    obtain ⟨a, us, rfl, sq, r⟩ := s1.tup_of ok
    exact ⟨a, us, rfl, .inr ⟨hK ▸ sq, k _ _ w H (.refl w H) ok rp g⟩⟩
def blsOf : List D → Option (List Bool)
  | [] => some []
  | .bl b :: ds => (blsOf ds).map (b :: ·)
  | _ => none
def strsOf : List D → Option (List Str)
  | [] => some []
  | .str b :: ds => (strsOf ds).map (b :: ·)
  | _ => none
theorem blsOf_eq : ∀ {ds : List D} {bs : List Bool}, blsOf ds = some bs → ds = bs.map D.bl
  | [], bs, h => by cases h; rfl
  | d :: ds, bs, h => by
    cases d <;> first | (unfold blsOf at h; cases h; done) | skip
    unfold blsOf at h
    cases e : blsOf ds with
    | none => rw [e] at h; cases h
    | some l => rw [e] at h; cases h; rw [blsOf_eq e]; rfl
theorem strsOf_eq : ∀ {ds : List D} {bs : List Str}, strsOf ds = some bs → ds = bs.map D.str
  | [], bs, h => by cases h; rfl
  | d :: ds, bs, h => by
    cases d <;> first | (unfold strsOf at h; cases h; done) | skip
    unfold strsOf at h
    cases e : strsOf ds with
    | none => rw [e] at h; cases h
    | some l => rw [e] at h; cases h; rw [strsOf_eq e]; rfl
def blsD (f : List Bool → D) : CG := fun ds Q => match ds with
  | [.lst xs] => match blsOf xs with
    | some bs => Q (f bs)
    | none => False
  | _ => False
theorem cal_bls {f : Value} {u : List Bool → Bool} (h : CallR X f (fun vs H Q => ∃ (a : Addr) (bs : List Bool), vs = [V.ref a] ∧ SqL X.K H a (bs.map V.bl) ∧ Q (.bl (u bs)) H)) (hK : X.K = G.K) : CaL G X f (blsD fun bs => .bl (u bs)) := by
  refine ⟨_, h, fun H0 w H ds vs Q QD ok sx g k => ?_⟩
  match ds, g with
  | [.lst xs], g =>
    obtain ⟨v, rfl, s1⟩ := sx.one
    obtain ⟨a, us, rfl, sq, r⟩ := s1.lst_of ok
    cases e : blsOf xs with
    | none => simp only [blsD, e] at g
    | some bs =>
      simp only [blsD, e] at g
      rw [blsOf_eq e] at r
      rw [r.bls] at sq
      exact ⟨a, bs, rfl, hK ▸ sq.sql, k _ _ w H (.refl w H) ok Rep.bl g⟩
theorem cal_all (hc : X.calm = true := by rfl) (hK : X.K = G.K := by rfl) : CaL G X (.builtin "all") (blsD fun bs => .bl (bs.all id)) := cal_bls (cr_all hc) hK
/-- the greatest, the least of a list of ints -/
def maxI : List Int → Int
  | [] => 0
  | [x] => x
  | x :: l => if x < maxI l then maxI l else x
/-! ### repr -/
theorem repr_any {A : Around} {P : Program} {w : World} {E : Value → Shared → Prop} {s : Shared} {v : Value} {d : PyData} {as : List Addr} {Q : Value → Shared → Prop} (r : Reads s.heap v d as) (hs : d.showable = true) (hd : d.hasDict = false) (hg : A.guards = some []) (hu : A.units + (d.depth + 1) < cLine) (hz : d.shown.length ≤ sizeLine)
    (h : ∀ h' u tk, (∀ b o, s.heap.get? b = some o → h'.get? b = some o) → Q (.str d.shown u) { s with heap := h', toks := tk }) : wpAny (model P w) A (call (.builtin "repr") [v]) Q E s := by
  by_cases hv : ∃ a, v = .ref a
  · obtain ⟨a, rfl⟩ := hv
    exact repr_of_reads' r hs (PyData.noDict_hsm hd) hg hu (fun _ _ e => e) h hz
  · cases r with
    | none => exact PySem.P.repr_of_none (h _ _ _ fun _ _ e => e)
    | bool b => exact PySem.P.repr_of_bool (h _ _ _ fun _ _ e => e)
    | int i t => exact PySem.P.repr_of_int (by simpa [PyData.showable] using hs) (h _ _ _ fun _ _ e => e)
    | str x t => exact PySem.P.repr_of_str (h _ _ _ fun _ _ e => e)
    | _ => exact absurd ⟨_, rfl⟩ hv
end DL
/-! The data layer, part 11: repr, isinstance, sorted, list, fields, methods of lists and texts. -/
namespace DL
open PySem L2 PyProof.Rows
variable {G : Gm} {X : Cx} {E : XK}
mutual
theorem pd_noDict : ∀ d : D, plain d = true → (pd d).hasDict = false
  | .non, _ => by simp [pd, PyData.hasDict]
  | .bl _, _ => by simp [pd, PyData.hasDict]
  | .int _, _ => by simp [pd, PyData.hasDict]
  | .str _, _ => by simp [pd, PyData.hasDict]
  | .tup ds, h => by unfold plain at h; simp [pd, PyData.hasDict, pds_noDict ds h]
  | .lst ds, h => by unfold plain at h; simp [pd, PyData.hasDict, pds_noDict ds h]
  | .dic _ _, h => by unfold plain at h; cases h
  | .obj _ _, h => by unfold plain at h; cases h
  | .exc _ _, h => by unfold plain at h; cases h
  | .jar, h => by unfold plain at h; cases h
theorem pds_noDict : ∀ ds : List D, plains ds = true → PyData.hasDictAll (pds ds) = false
  | [], _ => by simp [pds, PyData.hasDictAll]
  | d :: ds, h => by
    unfold plains at h
    rw [Bool.and_eq_true] at h
    simp [pds, PyData.hasDictAll, pd_noDict d h.1, pds_noDict ds h.2]
end
/-- what may be shown -/
def shownOK (d : D) : Prop := plain d = true ∧ (pd d).showable = true ∧ (pd d).depth ≤ 60 ∧ (pd d).shown.length ≤ sizeLine
def reprD : CG := fun ds Q => match ds with
  | [d] => shownOK d ∧ Q (.str (pd d).shown)
  | _ => False
theorem call_reprD (hg : X.A.guards = some []) (hu : X.A.units + 64 < cLine) : CallR X (.builtin "repr") (fun xs H Q => ∃ x d, xs = [x] ∧ Dp X.K H x d ∧ d.showable = true ∧ d.hasDict = false ∧ d.depth ≤ 60 ∧ d.shown.length ≤ sizeLine ∧ Q (.str d.shown) H) := by
  intro pins s σ H xs us Q I r h
  obtain ⟨x, d, rfl, hd, h1, h2, h3, h4, q⟩ := h
  obtain ⟨u, rfl, rx⟩ := vals1 r
  obtain ⟨as, rd⟩ := Dp.reads I d x u hd rx
  exact repr_any rd h1 h2 hg (by omega) h4 fun h' u tk hk => ⟨.str _, H, I.kept hk, ⟨_, rfl⟩, q⟩
theorem cal_repr (hg : X.A.guards = some []) (hu : X.A.units + 64 < cLine) (hK : X.K = G.K := by rfl) : CaL G X (.builtin "repr") reprD := by
  refine ⟨_, call_reprD hg hu, fun H0 w H ds vs Q QD ok sx g k => ?_⟩
  match ds, g with
  | [d], g =>
    obtain ⟨v, rfl, s1⟩ := sx.one
    obtain ⟨⟨p, a, b, c⟩, q⟩ := g
    exact ⟨v, pd d, rfl, hK ▸ s1.dp ok p, a, pd_noDict d p, b, c, k _ _ w H (.refl w H) ok Rep.str q⟩

/-! ### isinstance -/
inductive Tag where
  | non | bl | int | str | tup | lst | dic | obj (c : Nat) | exc (c : Nat)
def tagD : D → Option Tag
  | .non => some .non | .bl _ => some .bl | .int _ => some .int | .str _ => some .str | .tup _ => some .tup | .lst _ => some .lst
  | .dic _ _ => some .dic | .obj c _ => some (.obj c) | .exc c _ => some (.exc c) | .jar => none
def tagV (G : Gm) : Tag → Value
  | .non => .type "NoneType" | .bl => .type "bool" | .int => .type "int" | .str => .type "str" | .tup => .type "tuple" | .lst => .type "list" | .dic => .type "dict"
  | .obj c => .ref (G.cls c)
  | .exc c => .ref (G.cls c)
/-- facts of an own class -/
structure ClsG (K : PySem.W.Frag) (C : Addr) : Prop where
  cl : Cls K C
  ca : PySem.W.findIn K (.ref C) "__class__" = some (some (.builtin "object.__class__"))
  cg : PySem.W.specialIn K (.builtin "object.__class__") "__get__" = some (some (.builtin "getset_descriptor.__get__"))
  ct : PySem.W.takesIn K (.builtin "object.__class__") = some true
  cm : PySem.W.mroIn K C (.type "object") = some true
def isiD (tbl : Tag → Option Bool) (A : FE) : FE := fun r Q EX => A r (fun d => match tagD d with
  | some t => match tbl t with
    | some b => Q (.bl b)
    | none => False
  | none => False) EX
/-- facts of an own class of exceptions -/
structure ExF (K : PySem.W.Frag) (C : Addr) : Prop where
  cl : (PySem.W.clsIn K C).isSome = true
  ga : PySem.W.findIn K (.ref C) "__getattribute__" = some (some (.builtin "BaseException.__getattribute__"))
  gt : PySem.W.findIn K (.ref C) "__getattr__" = some none
  sb : PySem.W.subIn K (.ref C) (.type "BaseException") = some true
  hd : PySem.W.hasDictIn K C = true
  ca : PySem.W.findIn K (.ref C) "__class__" = some (some (.builtin "object.__class__"))
  cg : PySem.W.specialIn K (.builtin "object.__class__") "__get__" = some (some (.builtin "getset_descriptor.__get__"))
  ct : PySem.W.takesIn K (.builtin "object.__class__") = some true
  cm : PySem.W.mroIn K C (.type "object") = some true
/-- what isinstance may be asked of -/
def KtV (K : PySem.W.Frag) (H : Hp) (v : V) (t : Value) : Prop := TyX K H v t ∨ ∃ a o C od, v = .ref a ∧ t = .ref C ∧ H a = some o ∧ XcAt o C od a ∧ (od = none ∨ ∃ dx fs, od = some dx ∧ H dx = some (.xd fs)) ∧ ExF K C
theorem exc_at {X : Cx} {pins : List (Addr × Obj)} {σ : L2.St} {H : Hp} {s : Shared} {a C : Addr} {o : HO} {od : Option Addr} (I : Inv X pins σ H s) (ho : H a = some o) (hx : XcAt o C od a) (hd : od = none ∨ ∃ dx fs, od = some dx ∧ H dx = some (.xd fs)) :
    ∃ (oe : Obj) (ob : Option Obj), PySem.W.InstAt s.heap a oe C ob ∧ ∀ dx fs, od = some dx → H dx = some (.xd fs) → ∃ (oD : Obj) (mA : Str → Option Value), ob = some oD ∧ s.heap.Ns1 dx mA ∧ s.heap.get? dx = some oD ∧ ∀ f, RelO (fs.lookup f) (mA f) := by
  obtain ⟨oe, vs, h1, h2, h3, h4⟩ := hx X.prog X.w H s.heap (I.hok a o ho)
  have nc : PySem.W.notCls oe = true := by
    unfold PySem.W.notCls
    rw [h4] <;> rfl
  rcases hd with rfl | ⟨dx, fs, rfl, hdx⟩
  · exact ⟨oe, none, ⟨h1, h2, nc, by rw [h3]; trivial⟩, fun dx fs z => by cases z⟩
  · obtain ⟨mA, hns, hr⟩ := (show ObjOk X.prog X.w H s.heap dx (.xd fs) from I.hok dx _ hdx)
    obtain ⟨oD, es, ep, hoD, hq⟩ := id hns
    refine ⟨oe, some oD, ⟨h1, h2, nc, by rw [h3]; exact hoD⟩, fun dx' fs' z hz => ?_⟩
    cases z
    rw [hdx] at hz
    cases hz
    exact ⟨oD, mA, rfl, hns, hoD, hr⟩
theorem kit_ofE {X : Cx} {pins : List (Addr × Obj)} {σ : L2.St} {H : Hp} {s : Shared} {x : V} {u t : Value} (I : Inv X pins σ H s) (rx : RelV x u) (ty : KtV X.K H x t) : ∃ P : Heap → Prop, PySem.W.KitX X.K u t P ∧ P s.heap ∧ u ≠ .builtin "__main__.__loader__#opaque" := by
  rcases ty with ty | ⟨a, o, C, od, rfl, rfl, ho, hx, hd, F⟩
  · exact kit_of I rx ty
  · cases (show u = Value.ref a from rx)
    obtain ⟨oe, ob, J, _⟩ := exc_at I ho hx hd
    exact ⟨_, PySem.W.kitx_exc F.cl F.ga F.gt F.sb F.ca F.cg F.ct F.cm, J, fun z => nomatch z⟩
/-- isinstance(x, c), x an exception, too -/
def rIsiE (K : PySem.W.Frag) : List V → Hp → VK → Prop := fun xs H Q => ∃ (x c : V) (t u : Value) (b : Bool), xs = [x, c] ∧ ClsV c u ∧ KtV K H x t ∧ PySem.W.kitOne K t u = some b ∧ Q (.bl b) H
theorem call_isiE {X : Cx} : CallR X (.builtin "isinstance") (rIsiE X.K) := by
  intro pins s σ H xs us Q I r ⟨x, c, t, u, b, ex, k, ty, e, q⟩
  subst ex
  obtain ⟨u1, u2, rfl, r1, r2⟩ := vals2 r
  obtain ⟨P, Z, p, hx⟩ := kit_ofE I r1 ty
  rw [k.eq r2]
  exact PySem.W.kia_one Z I.kIn p e hx fun tk => ⟨.bl b, H, I.tok tk, rfl, q⟩
theorem tyx_rep {w : Wd} {H : Hp} {d : D} {v : V} {t : Tag} (ok : Ok w H) (hc : ∀ c, t = .obj c → ClsG G.K (G.cls c)) (hx : ∀ c, t = .exc c → ExF G.K (G.cls c)) (ht : tagD d = some t) (h : Rep G w d v) : KtV G.K H v (tagV G t) := by
  cases d <;> cases ht
  · rw [h.non_of]; exact .inl (.base .non)
  · rw [h.bl_of]; exact .inl (.base (.bl _))
  · rw [h.int_of]; exact .inl (.base (.int _))
  · rw [h.str_of]; exact .inl (.base (.str _))
  · obtain ⟨a, vs, rfl, sq, _⟩ := h.tup_of
    rcases sqT_sub ok.sub sq.sqt with (e | ⟨o, e⟩) | ⟨o, its, n, e, c, _⟩
    · exact .inl (.base (.tup e))
    · exact .inl (.fTuple e)
    · exact .inl (.kTuple e c)
  · obtain ⟨a, vs, rfl, sq, _⟩ := h.lst_of
    rcases lsT_sub ok.sub sq with (e | ⟨o, e⟩) | ⟨its, n, e, _⟩
    · exact .inl (.base (.lst e))
    · exact .inl (.base (.frz e))
    · exact .inl (.kList e rfl)
  · obtain ⟨a, vs, rfl, sq, _⟩ := h.dic_of
    rcases sq with e | ⟨es, n, e, _⟩
    · exact .inl (.base (.dK (ok.sub _ _ e)))
    · exact .inl (.kDict e rfl)
  · obtain ⟨a, dx, fs, rfl, e, _⟩ := h.obj_of
    have c := hc _ rfl
    exact .inl (.base (.ins (ok.sub _ _ e) c.cl c.ca c.cg c.ct c.cm))
  · obtain ⟨a, o, od, vs, rfl, ho, hxa, _, hd⟩ := h.exc_of
    exact .inr ⟨a, o, _, od, rfl, rfl, ok.sub _ _ ho, hxa, hd.imp And.left fun ⟨dx, nm, u, e1, _, _, e4⟩ => ⟨dx, _, e1, ok.sub _ _ e4⟩, hx _ rfl⟩
theorem tyx_see {H0 : Hp} {w : Wd} {H : Hp} {d : D} {v : V} {t : Tag} (ok : Ok w H) (hc : ∀ c, t = .obj c → ClsG G.K (G.cls c)) (hx : ∀ c, t = .exc c → ExF G.K (G.cls c)) (ht : tagD d = some t) (h : See G H0 w H d v) : KtV G.K H v (tagV G t) := by
  rcases h with h | ⟨a, vs, ds, e1, e2, m, h1, r⟩ | ⟨a, vs, ks, ds, e1, e2, m, h1, hl, r⟩
  · exact tyx_rep ok hc hx ht h
  · subst e1; subst e2; cases ht; exact .inl (.base (.lst h1))
  · subst e1; subst e2; cases ht; exact .inl (.base (.dK h1))
theorem ce_isi {tbl : Tag → Option Bool} {o ce : Expr} {A : FE} {c : V} {u : Value} {p pos : Pos} (ho : PE X o (bD G E A)) (hce : PE X ce (tC c)) (hm : X.mg "isinstance" = none) (k : ClsV c u) (hc : ∀ c b, tbl (.obj c) = some b → ClsG G.K (G.cls c)) (ht : ∀ t b, tbl t = some b → PySem.W.kitOne X.K (tagV G t) u = some b)
    (hx : ∀ c b, tbl (.exc c) = some b → ExF G.K (G.cls c) := by first | assumption | (intro c b h; cases h; done))
    (hg : Gl X "isinstance" := by rfl) (hK : X.K = G.K := by rfl) (he : starEach [o, ce] X.env = (false, eval o X.env) :: starEach [ce] X.env := by rfl) (he2 : starEach [ce] X.env = (false, eval ce X.env) :: starEach [] X.env := by rfl) (hpl : (backTo pos (starEach [ce] X.env)).any (·.1) = false := by rfl) :
    PE X (.Call (.Name "isinstance" p) [o, ce] [] pos) (tD G E (isiD tbl A)) := PE.weak (pe_callB call_isiE hg hm (by decide +kernel) (pa_cons ho (pa_cons hce pa_nil he2) he) (by decide) (by decide) he hpl) fun s H Q ⟨w0, H0, r, w, QD, EX, fr, lk, f, k2⟩ =>
  ⟨w0, H0, r, w, _, EX, fr, lk, f, fun d v w1 H1 l1 ok1 s1 q1 => by
    show ∃ x c t u b, [v, _] = [x, c] ∧ ClsV c u ∧ KtV X.K H1 x t ∧ PySem.W.kitOne X.K t u = some b ∧ Q (.bl b) H1
    cases e1 : tagD d with
    | none => simp only [e1] at q1
    | some t =>
      simp only [e1] at q1
      cases e2 : tbl t with
      | none => simp only [e2] at q1
      | some b =>
        simp only [e2] at q1
        exact ⟨v, c, _, u, b, rfl, k, hK ▸ tyx_see ok1 (fun c hc' => hc c b (hc' ▸ e2)) (fun c hc' => hx c b (hc' ▸ e2)) e1 s1, ht t b e2, k2 _ _ w1 H1 l1 ok1 Rep.bl q1⟩⟩

end DL
/-! The data layer, part 12: the law's call. -/
namespace DL
open PySem L2 PyProof.Rows

/-- the law's def is called with the script, by its promise over data -/
theorem law_callD {P : Program} {w : World} {G : Gm} {mg mb : Str → Option Value} {k : Nat} {fa a : Addr} {fd : FuncData} {x : Str} {sp : DSp} {s₁ : Shared} {vs : List Value} {ns : List Int}
    (KX : G.K.In s₁.heap) (hG : G.tb = []) (hns : s₁.heap.Ns mainGlobals mg) (hb : s₁.heap.Ns builtinsNs mb) (hbb : ∀ x : Str, x ≠ "__name__" → mb x = bootBuiltins x) (hlim : s₁.heap.NoLimit) (hg : s₁.gens = #[])
    (ha : s₁.heap.get? a = some { cls := .type "list", data := .seq vs.toArray }) (hi : IntsAre vs ns) (hl : ns.length ≤ sizeLine) (hr : Room k callerA)
    (F : ∀ base : Heap, G.K.In base → base.Ns mainGlobals mg → FnG P w G.K mg base k fa fd [x] (lift G sp)) (hbind : ∀ (s : Shared) (u : Value), BindsTo s fd ⟨[u], []⟩ [(x, u)])
    (hsp : sp [.lst (ns.map D.int)] (fun d => d = .bl true) NoX) :
    codeAny (model P w) callerA (.call (.ref fa) ⟨[.ref a], []⟩) (fun r s' => r = .ok (.ret (.bool true)) ∧ OldK s₁.heap s'.heap ∧ s'.os = s₁.os ∧ AllBare s'.gens) s₁ := by
  have rv := vals_ints hi
  have lenV := hi.length
  have core : ∀ H : Hp, Only H → LsT G.K H a (ns.map V.int) → HOk P w H s₁.heap → (∀ b, H b ≠ none → b = a) → (H a ≠ none → G.K.lookup a = none) →
      codeAny (model P w) callerA (.call (.ref fa) ⟨[.ref a], []⟩) (fun r s' => r = .ok (.ret (.bool true)) ∧ OldK s₁.heap s'.heap ∧ s'.os = s₁.os ∧ AllBare s'.gens) s₁ := by
    intro H hO hS hok hA hK
    have base_of : ∀ {b : Addr} {o : Obj}, s₁.heap.get? b = some o → H b = none → (hidT s₁.heap H).get? b = some o := fun e n => hidT_get e n
    have noA : ∀ {b : Addr} {o : Obj} {es : Array DictEntry} {ep : Nat}, s₁.heap.get? b = some o → o.data = .dict es ep → H b = none := fun {b o es ep} e d => by
      cases q : H b with
      | none => rfl
      | some u =>
        have e' : b = a := hA b (by rw [q]; simp)
        subst e'
        rw [ha] at e; cases e
        have d' : Data.seq vs.toArray _ = Data.dict es ep := d
        cases d'
    have nsK : ∀ {b : Addr} {m : Str → Option Value}, s₁.heap.Ns b m → (hidT s₁.heap H).Ns b m := fun {b m} ⟨o, es, ep, e, d, r⟩ => ⟨o, es, ep, base_of e (noA e d), d, r⟩
    have hKb : G.K.In (hidT s₁.heap H) := fun b o e => base_of (KX b o e) (by
      cases q : H b with
      | none => rfl
      | some u =>
        have e' : b = a := hA b (by rw [q]; simp)
        subst e'
        rw [hK (by rw [q]; simp)] at e; cases e)
    have hM : Mod G.K mg (hidT s₁.heap H) := ⟨hKb, nsK hns, ⟨mb, nsK hb, hbb⟩, let ⟨mc, h1, h2⟩ := hlim; ⟨mc, nsK h1, h2⟩⟩
    have e0 : Env0 P w G.K mg (hidT s₁.heap H) callerA [] s₁ H := ⟨rfl, hM, fun b o e => of_hidT e, Nat.le_of_eq (hidT_size _ _), trivial, fun b hb => absurd (show b ∈ ([] : List Addr) from hb) (by simp), hok, .of_eq hg⟩
    have w0ok : Ok ⟨H, fun _ => False, fun _ => False, []⟩ H := ⟨fun _ _ h => h, fun _ h => h.elim, fun _ h => h.elim, fun _ h => by cases h⟩
    have hlift : lift G sp [.ref a] H (fun v _ => v = .bl true) (fun _ _ _ => False) :=
      ⟨⟨H, fun _ => False, fun _ => False, []⟩, [.lst (ns.map D.int)], _, NoX, w0ok, Reps.cons (by unfold Rep; exact ⟨a, _, rfl, hS, Reps.of_ints⟩) Reps.nil, hsp, fun d v w' H' _ _ rp q => by
        subst q
        exact rp.bl_of, LkE.none hG.symm⟩
    refine codeAny_mono ((F _ hKb (nsK hns)).run callerA [] s₁ H ⟨[.ref a], []⟩ [.ref a] [.ref a] _ _ rfl hr e0 (hbind s₁ (.ref a)) (.cons rfl .nil) hlift) fun r s' h => ?_
    cases r with
    | error e =>
      obtain ⟨_, _, _, _, _, _, _, _, _, _, _, _, z⟩ := h
      exact z.elim
    | ok fl =>
      cases fl with
      | next => exact False.elim h
      | brk => exact False.elim h
      | cont => exact False.elim h
      | ret u =>
        obtain ⟨v, H', os, bare, un, hok', r', q⟩ := h
        have q' : v = .bl true := q
        subst q'
        obtain rfl : u = Value.bool true := r'
        refine ⟨rfl, OldK.of_keep fun b o e => ?_, os, bare⟩
        cases q : H b with
        | none => exact un.keep b o e q (by intro z; exact absurd (show b ∈ ([] : List Addr) from z) (by simp)) (by simp)
        | some u =>
          rcases hO b with z | ⟨ob, xs, z⟩
          · rw [q] at z; cases z
          · have z2 := un.frzs b ob _ z
            obtain ⟨e1, _⟩ := hok b _ z
            obtain ⟨e2, _⟩ := hok' b _ z2
            rw [e] at e1; cases e1
            exact e2
  cases hk : G.K.lookup a with
  | some o =>
    have e := KX a o hk
    rw [ha] at e
    cases e
    refine core (fun _ => none) (fun _ => .inl rfl) (.inr ⟨vs.toArray, _, hk, by rw [List.size_toArray, lenV]; exact hl, by simpa using rv⟩) (fun b u z => by have z' : (none : Option HO) = some u := z; cases z') (fun b z => absurd rfl z) fun z => absurd rfl z
  | none =>
    refine core (fun b => if b = a then some (.frz { cls := .type "list", data := .seq vs.toArray } (.lst (ns.map V.int))) else none) (fun b => ?_) (.inl (.inr ⟨{ cls := .type "list", data := .seq vs.toArray }, if_pos rfl⟩)) (fun b u z => ?_) (fun b z => ?_) fun _ => hk
    · by_cases hb : b = a
      · exact .inr ⟨_, _, if_pos hb⟩
      · exact .inl (if_neg hb)
    · by_cases hb : b = a
      · have z' := (if_pos hb).symm.trans z
        cases z'
        subst hb
        exact ⟨ha, by rw [List.length_map]; exact hl, vs, _, rv, ha⟩
      · have z' := (if_neg hb).symm.trans z
        cases z'
    · by_cases hb : b = a
      · exact hb
      · exact absurd (if_neg hb) z
end DL
/-! The data layer, part 13: attributes, own lists, jars, methods. -/
namespace DL
open PySem L2 PyProof.Rows
variable {G : Gm} {X : Cx} {E : XK}

/-! ### o.f -/
def ixOf (names : List Str) (f : Str) : Option Nat := names.findIdx? (· == f)
theorem lookup_ix {f : Str} : ∀ {gs : List (Str × V)} {i : Nat}, ixOf (gs.map (·.1)) f = some i → gs.lookup f = (gs.map (·.2))[i]?
  | [], i, h => by simp [ixOf] at h
  | (g, v) :: gs, i, h => by
    unfold ixOf at h
    rw [List.map_cons, List.findIdx?_cons] at h
    by_cases e : g = f
    · subst e
      simp at h
      subst h
      simp
    · have e1 : (g == f) = false := beq_eq_false_iff_ne.mpr e
      have e2 : (f == g) = false := beq_eq_false_iff_ne.mpr fun z => e z.symm
      simp only [e1] at h
      cases q : ixOf (gs.map (·.1)) f with
      | none =>
        unfold ixOf at q
        rw [q] at h
        cases h
      | some j =>
        have ih := lookup_ix q
        unfold ixOf at q
        rw [q] at h
        cases h
        rw [List.lookup_cons, e2, ih]
        simp
def fFld (c i : Nat) (A : FE) : FE := fun r Q EX => A r (fun d => match d with
  | .obj c' fs => if c' = c then (match fs[i]? with
    | some d => Q d
    | none => False) else False
  | _ => False) EX
theorem ce_fld {e : Expr} {f : Str} {pos : Pos} {A : FE} {c i : Nat} (he : PE X e (tD G E A)) (cl : Cls X.K (G.cls c)) (na : NoAttr X.K (G.cls c) f) (hi : ixOf (G.fld c) f = some i) (hb : attributeBase e f X.env (eval e X.env) = eval e X.env := by rfl) :
    PE X (.Attribute e f pos) (tD G E (fFld c i A)) := (pe_fld he hb).weak fun s H Q ⟨w0, H0, r, w, QD, EX, fr, lk, f0, k⟩ =>
  ⟨w0, H0, r, w, _, EX, fr, lk, f0, fun d v w1 H1 l1 ok1 r1 q1 => by
    cases d <;> try exact q1.elim
    rename_i c' fs
    by_cases hc : c' = c
    · subst hc
      simp only [if_pos] at q1
      obtain ⟨a, dx, gs, ev, h1, h2, h3, _⟩ := r1.obj_of
      subst ev
      cases e1 : fs[i]? with
      | none => rw [e1] at q1; exact q1.elim
      | some d =>
        rw [e1] at q1
        obtain ⟨u, e2, r2⟩ := h3.getD e1
        refine ⟨a, G.cls c', dx, gs, u, rfl, ok1.sub _ _ h1, cl, na, ?_, k d u w1 H1 l1 ok1 r2 q1⟩
        rw [lookup_ix (i := i) (by rw [h2]; exact hi), e2]
    · simp only [if_neg hc] at q1⟩

/-! ### self.f = e in an __init__ -/
def sFldI (i c : Nat) (fl : List Str) (f : Str) (A : FE) : FS := fun B EX r => A r (fun d => match r[i]? with
  | some (.slf x c' ds) => if c' = c ∧ fl[ds.length]? = some f then B.nx (r.set i (.slf x c (ds ++ [d]))) else False
  | _ => False) EX
theorem putF_new {f : Str} {v : V} : ∀ {fs : List (Str × V)}, f ∉ fs.map (·.1) → putF f v fs = fs ++ [(f, v)]
  | [], _ => rfl
  | (g, x) :: fs, h => by
    rw [List.map_cons, List.mem_cons, not_or] at h
    unfold putF
    rw [if_neg fun e => h.1 e.symm, putF_new h.2]
    rfl
theorem cs_fldI {i c : Nat} {fl : List Str} {x f : Str} {e : Expr} {p p2 pos : Pos} {A : FE} (he : PE X e (tD G E A)) (cl : Cls X.K (G.cls c)) (na : NoAttr X.K (G.cls c) f) (hfl : G.fld c = fl) (nd : fl.Nodup) (hN : X.N[i]? = some x := by rfl) (hv : Vis X.env.scope x := by first | exact Or.inl rfl | exact Or.inr (Or.inl rfl) | exact Or.inr (Or.inr rfl))
    (hs : swapsWith e (some (.Attribute (.Name x p) f p2)) pos.line X.env = pure false := by rfl) (hz : fl.length < 1000 := by decide) (hd : (x == ("__debug__" : Str)) = false := by decide) (hcd : (x == ("__classdict__" : Str)) = false := by decide) :
    PS X (.Assign [.Attribute (.Name x p) f p2] e pos) (sD G E (sFldI i c fl f A)) := (ps_fld (pe_var hN hv hd hcd) he hs).weak fun B s H ⟨w0, H0, wk, r, w, A', EX, fr, sb, lk, ll, f0⟩ =>
  ⟨w0, H0, r, w, _, EX, fr, lk, f0, fun d v w1 H1 l1 ok1 r1 q1 => by
    have fr1 := fr.go l1 ok1
    cases e1 : r[i]? with
    | none => rw [e1] at q1; exact q1.elim
    | some sl =>
      rw [e1] at q1
      cases sl <;> try exact q1.elim
      rename_i x' c' ds
      by_cases hc : c' = c ∧ fl[ds.length]? = some f
      · simp only [if_pos hc] at q1
        obtain ⟨hc, hn⟩ := hc
        subst hc
        obtain ⟨a, dx, fs, e2, m, h1, ⟨l, hl⟩, hz', rp, ax⟩ := fr1.slot i _ e1
        have e3 : ds.length = (fs.map (·.1)).length := by rw [rp.length, List.length_map, List.length_map]
        have e4 : ∃ l', l = f :: l' := by
          rw [hfl] at hl
          rw [hl, List.getElem?_append_right (by omega), e3, Nat.sub_self] at hn
          cases l with
          | nil => simp at hn
          | cons g l' => simp at hn; exact ⟨l', by rw [hn]⟩
        obtain ⟨l', e5⟩ := e4
        subst e5
        have nin : f ∉ fs.map (·.1) := fun hm => by
          rw [hfl] at hl
          rw [hl] at nd
          exact (List.nodup_append.mp nd).2.2 f hm f List.mem_cons_self rfl
        have hlen : fs.length + 1 + l'.length = fl.length := by
          rw [hfl] at hl
          rw [hl]; simp; omega
        refine ⟨_, e2, a, G.cls c', dx, fs, rfl, h1, cl, na, hz', ?_⟩
        rw [putF_new nin]
        have fr2 := fr1.chg (y := .slf x' c' (ds ++ [d])) (o := .ins (G.cls c') dx (fs ++ [(f, v)])) e1 rfl e2 m
          ⟨a, dx, fs ++ [(f, v)], rfl, m, upd_same, ⟨l', by rw [hl]; simp⟩, by simp; omega, by simpa using rp.append (Reps.cons r1 Reps.nil), ax⟩
        exact ll.nx _ _ w1 _ fr2 (sb.trans l1.sub) q1
      · simp only [if_neg hc] at q1⟩
/-- the slots at the entry of an __init__ -/
def startI (N : List Str) (x : Addr) (c : Nat) (ds : List D) : Env := .slf x c [] :: (ds.map Sl.val ++ List.replicate (N.length - (ds.length + 1)) Sl.un)
/-- behind an __init__: all attributes are set -/
def endI (fl : List Str) (x : Addr) (c : Nat) (Q : D → Prop) (r : List Sl) : Prop := match r with
  | Sl.slf y c' es :: _ => y = x ∧ c' = c ∧ es.length = fl.length ∧ Q (.tup es)
  | _ => False
theorem okI {P : Program} {w : World} {mg : Str → Option Value} {base : Heap} {k : Nat} {f : Addr} {N ps : List Str} {x qual : Str} {st : Stmt} {fd : FuncData} {sp : DSp} {B : FS} {c : Nat} (F : Fun G.K x qual st f fd) (S : FnScope N ps (defScope st)) (len : ∀ ds Q EX, sp ds Q EX → ds.length + 1 = ps.length)
    (body : ∀ (cdv : Value) (A : Around) (outer : List PySem.Env) (s : Shared) (H : Hp) (E : XK), A.guards = some [] → Room k (A.deeper (envOfC qual (defScope st) s.heap.objs.size f cdv)) →
      PSs (cxOf (L2.CX P w) P w G.K mg base N qual (defScope st) f cdv A outer s H E) (defBody st) (sD G E B))
    (pure : ∀ ds Q EX x, sp ds Q EX → B (DE.mk (endI (G.fld c) x c Q) (fun _ => False) (fun _ => False) (fun _ => False) (fun _ => False)) EX (startI N x c ds)) : FnG P w G.K mg base (k + 1) f fd ps (liftI G c fun ds Q EX => sp ds (fun d => match d with
        | .tup es => Q es
        | _ => False) EX) := by
  refine Fun.okG F S (fun vs H Q E ⟨w, H1, x, dx, vr, ds, QD, EX, e, _, _, _, _, _, r, h, _⟩ => by rw [e, List.length_cons, ← r.length]; exact len _ _ _ h) fun cdv A outer s H vs Q E hg hr ⟨w, H1, x, dx, vr, ds, QD, EX, ev, nx, ndx, ne, eH, ok, r, h, k, lk⟩ => ⟨_, body cdv A outer s H E hg hr, ?_⟩
  subst ev
  have l1 : Le w H1 w H := by
    rw [eH]
    exact (Le.new ndx).trans (Le.new (by rw [upd_ne fun e => ne e.symm]; exact nx))
  have ok1 : Ok w H := by
    rw [eH]
    exact (ok.new ndx).new (by rw [upd_ne fun e => ne e.symm]; exact nx)
  have mx : Mine H1 w x := ⟨ok.none_hd nx, ok.none_jr nx, nx⟩
  have fr : Fr G w H1 (startI N x c ds) (L2.start N (.ref x :: vr)) w H := by
    have base := fr_start (N := N.drop 1) ok1 r
    refine ⟨ok1, l1, ?_, fun i y e => ?_, fun i j y z a e1 e2 o1 o2 _ _ => ?_⟩
    · unfold startI L2.start
      simp [r.length]
    · cases i with
      | zero =>
        unfold startI at e
        simp at e
        subst e
        unfold L2.start
        exact ⟨x, dx, [], by simp, mx, by rw [eH, upd_same], ⟨G.fld c, by simp⟩, by simp, Reps.nil, rfl⟩
      | succ i =>
        have e' : (startD (N.drop 1) ds)[i]? = some y := by
          unfold startI at e
          unfold startD
          simpa [Nat.sub_sub, Nat.add_comm] using e
        have := base.slot i y e'
        have e2 : (L2.start N (.ref x :: vr))[i + 1]? = (L2.start (N.drop 1) vr)[i]? := by
          unfold L2.start
          simp [Nat.sub_sub, Nat.add_comm]
        rw [e2]
        have noO : y.isOwn = false := by
          unfold startD at e'
          by_cases hn : i < ds.length
          · rw [List.getElem?_append_left (by simpa using hn), List.getElem?_map] at e'
            have hd : ds[i]? = some ds[i] := by simp [hn]
            rw [hd] at e'
            cases e'
            rfl
          · rw [List.getElem?_append_right (by simpa using hn), List.getElem?_replicate] at e'
            split at e'
            · cases e'; rfl
            · cases e'
        cases y with
        | un => trivial
        | val d => exact this
        | own _ => cases noO
        | ownd _ _ => cases noO
        | slf _ _ _ => cases noO
    · have zero : ∀ {n : Nat} {u : Sl}, (startI N x c ds)[n]? = some u → u.isOwn = true → n = 0 := fun {n u} en on => by
        cases n with
        | zero => rfl
        | succ n =>
          exfalso
          unfold startI at en
          rw [List.getElem?_cons_succ] at en
          by_cases hn : n < ds.length
          · rw [List.getElem?_append_left (by simpa using hn), List.getElem?_map] at en
            have hd : ds[n]? = some ds[n] := by simp [hn]
            rw [hd] at en
            cases en
            cases on
          · rw [List.getElem?_append_right (by simpa using hn), List.getElem?_replicate] at en
            split at en
            · cases en; cases on
            · cases en
      rw [zero e1 o1, zero e2 o2]
  refine ⟨w, H1, w, startI N x c ds, w, _, EX, fr, .refl w, lk, ?_, pure ds _ EX x h⟩
  refine ⟨fun r s w' H' fr5 _ q => ?_, fun d v w' H' l ok' rp q => q.elim, fun _ _ _ _ _ _ q => q.elim, fun _ _ _ _ _ _ q => q.elim, fun _ _ _ _ _ _ _ _ _ _ q => q.elim⟩
  match r, q, fr5 with
  | Sl.slf x' c' es :: rr, q, fr6 =>
    obtain ⟨rfl, rfl, hl, hq⟩ := q
    obtain ⟨a, dy, fs, e2, m, h1, ⟨l, hl2⟩, hz', rp, rfl⟩ := fr6.slot 0 _ rfl
    have el : l = [] := by
      have h3 := congrArg List.length hl2
      rw [List.length_append, List.length_map, ← hl, rp.length, List.length_map] at h3
      exact List.eq_nil_of_length_eq_zero (by omega)
    subst el
    rw [List.append_nil] at hl2
    exact k es fs w' H' dy fr6.le fr6.ok m h1 hl2.symm rp hq
end DL
/-! The data layer, part 14: own lists changed, jars, methods of texts and lists, a list taken apart. -/
namespace DL
open PySem L2 PyProof.Rows
variable {G : Gm} {X : Cx} {E : XK}

/-! ### x.append(e) -/
def sAppC (i : Nat) (A : FE) : FS := fun B EX r => match r[i]? with
  | some (.own ds) => ds.length < sizeLine ∧ A r (fun d => B.nx (r.set i (.own (ds ++ [d])))) EX
  | _ => False
theorem cs_app {i : Nat} {x : Str} {e : Expr} {p apos cpos pos : Pos} {A : FE} (he : PE X e (tD G E A)) (hN : X.N[i]? = some x := by rfl) (hv : Vis X.env.scope x := by first | exact Or.inl rfl | exact Or.inr (Or.inl rfl) | exact Or.inr (Or.inr rfl))
    (hs : starEach [e] X.env = (false, eval e X.env) :: starEach [] X.env := by rfl) (hplain : (backTo cpos (starEach [] X.env)).any (·.1) = false := by rfl)
    (hfew : ((backTo cpos (starEach [e] X.env)).all (fun x => !x.1) && (backToKw cpos (keywordEach [] X.env)).all (fun x => x.1.isSome)
      && decide ([e].length + ([] : List Keyword).length + (if ([] : List Keyword).isEmpty then 0 else 1) < 30)) = true := by rfl)
    (hbase : attributeBase (.Name x p) "append" X.env (eval (.Name x p) X.env) = eval (.Name x p) X.env := by rfl) (hline : (apos.endLine == cpos.line) = true := by rfl) (hd : (x == ("__debug__" : Str)) = false := by decide) (hcd : (x == ("__classdict__" : Str)) = false := by decide)
    (hsw : swapsWith (.Call (.Attribute (.Name x p) "append" apos) [e] [] cpos) none pos.line X.env = pure false := by rfl) :
    PS X (.Expr (.Call (.Attribute (.Name x p) "append" apos) [e] [] cpos) pos) (sD G E (sAppC i A)) :=
  PS.weak (ps_expr (pe_bm PySem.F.plainAttrs_list PySem.F.slot_list_append PySem.F.type_list_append mt_append (pe_var hN hv hd hcd) (pa_cons he pa_nil hs) hbase hfew hline hs hplain) hsw) fun B s H ⟨w0, H0, wk, r, w, A', EX, fr, sb, lk, ll, f0⟩ => by
  unfold sAppC at f0
  cases e1 : r[i]? with
  | none => rw [e1] at f0; exact f0.elim
  | some sl =>
    rw [e1] at f0
    cases sl <;> try exact f0.elim
    rename_i ds
    obtain ⟨hz, f0⟩ := f0
    obtain ⟨a, vs, q, m, h1, rp⟩ := fr.slot i _ e1
    refine ⟨_, q, ⟨.inl ⟨rfl, vs, .inl (.of h1)⟩, w0, H0, r, w, _, EX, fr, lk, f0, fun d v w1 H1 l1 ok1 r1 q1 => ?_⟩⟩
    have fr1 := fr.go l1 ok1
    obtain ⟨a', vs', q', m', h1', rp'⟩ := fr1.slot i _ e1
    rw [q] at q'
    cases q'
    refine ⟨a, vs', v, rfl, rfl, h1', by rw [← rp'.length]; exact hz, ?_⟩
    have fr2 := fr1.chg (y := .own (ds ++ [d])) (o := .lst (vs' ++ [v])) e1 rfl q m' (SlotOk.own m' upd_same (rp'.append (Reps.cons r1 Reps.nil)))
    exact ll.nx _ _ w1 _ fr2 (sb.trans l1.sub) q1

/-! ### jars -/
def fJar (A : FE) : FE := fun r Q EX => A r (fun d => match d with
  | .jar => ∀ n : Int, Q (.int n)
  | _ => False) EX
theorem ce_jar {a : Expr} {n : Int} {ip pos : Pos} {A : FE} {kk} (ha : PE X a (tD G E A)) (hn : n = 0 ∨ n = 1 ∨ n = 2) (hs : PlainIx (.Constant (.int n) kk ip) := by exact fun _ _ => rfl) : PE X (.Subscript a (.Constant (.int n) kk ip) pos) (tD G E (fJar A)) :=
  (pe_ix ix_list ha pe_int hs).weak fun s H Q ⟨w0, H0, r, w, QD, EX, fr, lk, f0, k⟩ => ⟨w0, H0, r, w, _, EX, fr, lk, f0, fun d v w1 H1 l1 ok1 r1 q1 => by
    cases d <;> try exact q1.elim
    obtain ⟨a, rfl, j⟩ := r1.jar_of
    obtain ⟨_, x, y, z, h⟩ := ok1.jar a j
    have fin : ∀ (v : Int), atI [V.int x, .int y, .int z] n = some (.int v) → ∃ p vs i u, V.ref a = .ref p ∧ V.int n = .int i ∧ SqL X.K H1 p vs ∧ atI vs i = some u ∧ Q u H1 := fun v e =>
      ⟨a, _, n, _, rfl, rfl, .inl (.of h), e, k _ _ w1 H1 l1 ok1 Rep.int (q1 v)⟩
    rcases hn with rfl | rfl | rfl
    · exact fin x rfl
    · exact fin y rfl
    · exact fin z rfl⟩
theorem Fr.jar {w0 : Wd} {H0 : Hp} {r : Env} {s : L2.St} {w : Wd} {H : Hp} {a : Addr} {o : HO} (f : Fr G w0 H0 r s w H) (j : w.ja a) (ho : ∃ d t c : Int, o = .lst [.int d, .int t, .int c]) : Fr G w0 H0 r s w (upd H a o) where
  ok := by
    have jr := (f.ok.jar a j).1
    obtain ⟨hn, _⟩ := f.ok.jn a jr
    refine ⟨fun b u e => ?_, fun b jb => ?_, fun b jb => ?_, fun q m => ?_⟩
    · rw [upd_ne (ne_of_none e hn)]; exact f.ok.sub b u e
    · obtain ⟨e, z⟩ := f.ok.jn b jb
      refine ⟨e, ?_⟩
      by_cases q : b = a
      · subst q; rw [upd_same]; exact fun y => by cases y
      · rw [upd_ne q]; exact z
    · obtain ⟨e, d, t, c, z⟩ := f.ok.jar b jb
      by_cases q : b = a
      · subst q
        obtain ⟨d, t, c, eo⟩ := ho
        exact ⟨e, d, t, c, by rw [upd_same, eo]⟩
      · exact ⟨e, d, t, c, by rw [upd_ne q]; exact z⟩
    · obtain ⟨e, t⟩ := f.ok.tab q m
      refine ⟨e, t.go (upd_ne fun y => ?_) fun _ _ z => z⟩
      obtain ⟨ps, z, _⟩ := t
      obtain ⟨_, _, _, _, z2⟩ := f.ok.jar a j
      rw [y, z2] at z; cases z
  le := by
    refine ⟨f.le.sub, fun b u e nj => ?_, f.le.old, f.le.oldh, fun b e => ?_⟩
    · by_cases q : b = a
      · subst q
        exact absurd (f.le.old b (by rw [e]; exact fun z => by cases z) (f.ok.jar b j).1) nj
      · rw [upd_ne q]; exact f.le.keep b u e nj
    · by_cases q : b = a
      · subst q; rw [upd_same]; exact fun z => by cases z
      · rw [upd_ne q]; exact f.le.dom b e
  len := f.len
  slot := fun i x e => by
    have h := f.slot i x e
    have ne : ∀ b, Mine H0 w b → b ≠ a := fun b m e => m.2.1 (by rw [e]; exact (f.ok.jar a j).1)
    cases x with
    | un => trivial
    | val d => exact h
    | own ds => obtain ⟨b, vs, e2, m, h1, r1⟩ := h; exact ⟨b, vs, e2, m, by rw [upd_ne (ne b m)]; exact h1, r1⟩
    | ownd ks ds => obtain ⟨b, vs, e2, m, h1, r1⟩ := h; exact ⟨b, vs, e2, m, by rw [upd_ne (ne b m)]; exact h1, r1⟩
    | slf x c ds => obtain ⟨b, dx, fs, e2, m, h1, r1⟩ := h; exact ⟨b, dx, fs, e2, m, by rw [upd_ne (ne b m)]; exact h1, r1⟩
  dist := f.dist
def sJar (i : Nat) (A : FE) : FS := fun B EX r => A r (fun d => match d with
  | .int _ => (match r[i]? with
    | some (.val .jar) => B.nx r
    | _ => False)
  | _ => False) EX
theorem cs_jar {i : Nat} {x : Str} {e : Expr} {n : Int} {p ip spos pos : Pos} {kk} {A : FE} (he : PE X e (tD G E A)) (hn : n = 0 ∨ n = 1 ∨ n = 2) (hN : X.N[i]? = some x := by rfl) (hv : Vis X.env.scope x := by first | exact Or.inl rfl | exact Or.inr (Or.inl rfl) | exact Or.inr (Or.inr rfl))
    (hd : (x == ("__debug__" : Str)) = false := by decide) (hcd : (x == ("__classdict__" : Str)) = false := by decide)
    (ha : ∀ v, assign (.Subscript (.Name x p) (.Constant (.int n) kk ip) spos) X.env v = (do
      let ov ← holding [v] (eval (.Name x p) X.env)
      let iv ← holding [v, ov] (eval (.Constant (.int n) kk ip) X.env)
      standAt spos
      holding [v, ov, iv] (setItem ov iv v)
      release [v, ov, iv] []) := by intro _; rfl)
    (hs : swapsWithSole [.Subscript (.Name x p) (.Constant (.int n) kk ip) spos] e pos.line X.env = pure false := by rfl) (hw : swappedStores [.Subscript (.Name x p) (.Constant (.int n) kk ip) spos] e X.env = pure none := by rfl)
    (h1 : (assignEach [.Subscript (.Name x p) (.Constant (.int n) kk ip) spos] X.env).map (·.2) = [assign (.Subscript (.Name x p) (.Constant (.int n) kk ip) spos) X.env] := by rfl) :
    PS X (.Assign [.Subscript (.Name x p) (.Constant (.int n) kk ip) spos] e pos) (sD G E (sJar i A)) :=
  (ps_asg he (pg_sub (pe_var hN hv hd hcd) pe_int set_list ha) hs hw h1).weak fun B s H ⟨w0, H0, wk, r, w, A', EX, fr, sb, lk, ll, f0⟩ => ⟨w0, H0, r, w, _, EX, fr, lk, f0, fun d v w1 H1 l1 ok1 r1 q1 => by
    cases d <;> try exact q1.elim
    rename_i m
    dsimp only at q1
    have fr1 := fr.go l1 ok1
    cases e1 : r[i]? with
    | none => rw [e1] at q1; exact q1.elim
    | some sl =>
      rw [e1] at q1
      cases sl <;> try exact q1.elim
      rename_i d
      cases d <;> try exact q1.elim
      obtain ⟨u, e2, ru⟩ := fr1.slot i _ e1
      obtain ⟨a, rfl, j⟩ := ru.jar_of
      obtain ⟨_, x0, y0, z0, h⟩ := ok1.jar a j
      have ev := r1.int_of
      subst ev
      have fin : ∀ jn, ixN 3 n = some jn → (∃ d t c : Int, (HO.lst ([V.int x0, .int y0, .int z0].set jn (.int m))) = .lst [.int d, .int t, .int c]) → _ := fun jn e3 e4 =>
        (⟨.ref a, e2, ⟨a, [V.int x0, .int y0, .int z0], n, jn, rfl, rfl, h, e3, ll.nx _ _ w1 _ (fr1.jar j e4) (sb.trans l1.sub) q1⟩⟩ : gSub (tVar i) (tC (.int n)) rSetL (.int m) s H1 fun s' H' => B.nx s' H')
      rcases hn with rfl | rfl | rfl
      · exact fin 0 rfl ⟨_, _, _, rfl⟩
      · exact fin 1 rfl ⟨_, _, _, rfl⟩
      · exact fin 2 rfl ⟨_, _, _, rfl⟩⟩
/-- return [d, s, c]: a new jar -/
def sRetJar (F : FA) : FS := fun A EX r => F r (fun ds => match ds with
  | [.int _, .int _, .int _] => A.rt .jar
  | _ => False) EX
theorem cs_retJar {e : Expr} {pos : Pos} {F : FA} (he : PE X e (fD G E F)) : PS X (.Return (some e) pos) (sD G E (sRetJar F)) := (ps_ret he).weak fun B s H ⟨w0, H0, wk, r, w, A, EX, fr, sb, lk, ll, f⟩ =>
  ⟨w0, H0, r, w, _, EX, fr, lk, f, fun ds a vs w1 H1 l1 ok1 hn m h1 r1 q1 => by
    match ds, q1 with
    | [.int x, .int y, .int z], q1 =>
      have ev := Reps.ints (ns := [x, y, z]) r1
      subst ev
      have l := fr.le.trans l1
      refine ll.rt .jar _ ⟨w1.hd, fun b => b = a ∨ w1.jr b, fun b => b = a ∨ w1.ja b, w1.tb⟩ H1 ⟨⟨l.sub.hd, fun b j => .inr (l.sub.jr b j), fun b j => .inr (l.sub.ja b j), l.sub.tb⟩, l.keep, fun b h j => ?_, l.oldh, l.dom⟩ ⟨ok1.sub, fun b j => ?_, fun b j => ?_, fun q m => ?_⟩ ?_ q1
      · rcases j with rfl | j
        · exact absurd m.2.2 h
        · exact l.old b h j
      · rcases j with rfl | j
        · exact ⟨m.1, by rw [h1]; exact fun z => by cases z⟩
        · exact ok1.jn b j
      · rcases j with rfl | j
        · exact ⟨.inl rfl, x, y, z, h1⟩
        · obtain ⟨e, r⟩ := ok1.jar b j
          exact ⟨.inr e, r⟩
      · obtain ⟨e, t⟩ := ok1.tab q m
        exact ⟨.inr e, t.go rfl fun _ _ z => z⟩
      · unfold Rep
        exact ⟨a, rfl, .inl rfl⟩⟩

/-! ### a, b = a list -/
def gLstD (n : Nat) (gs : TGds) : TGd := fun d r K => ∃ ds, d = .lst ds ∧ ds.length = n ∧ gs ds r K
theorem tg_lst {K : PySem.W.Frag} {n : Nat} {vs : List Nat} {tgs : TGs} {gs : TGds} (h : TgsL G vs tgs gs) (hK : K = G.K := by rfl) : TgL G vs (gLst K n tgs) (gLstD n gs) where
  go := fun w0 H0 r s w H d v K' Q fr rp ⟨ds, e, hn, k⟩ q => by
    subst e
    obtain ⟨a, us, e2, h1, r1⟩ := rp.lst_of
    exact ⟨a, us, e2, hK ▸ (lsT_sub fr.ok.sub h1).sql, by rw [← r1.length]; exact hn, h.go w0 H0 r s w H ds us K' Q fr r1 k q⟩

/-! ### methods of texts, lists -/
def fStr1 (g : Str → D → (D → Prop) → Prop) (A B : FE) : FE := fun r Q EX => A r (fun x => match x with
  | .str a => B r (fun y => g a y Q) EX
  | _ => False) EX
def StL (G : Gm) (X : Cx) (id : String) (g : Str → D → (D → Prop) → Prop) : Prop := ∃ r, MtR X id r ∧ ∀ H0 w H a y v Q (QD : D → Prop), Ok w H → See G H0 w H y v → g a y QD → (∀ d z w' H', Le w H w' H' → Ok w' H' → Rep G w' d z → QD d → Q z H') → r (.str a) [v] H Q
theorem ce_str1 {id : String} {name : Str} {o e : Expr} {apos pos : Pos} {A B : FE} {g : Str → D → (D → Prop) → Prop} (slot : PySem.Slot "str" name id) (ty : typeOf (.builtin id) = pure (.type "method_descriptor")) (hg : StL G X id g) (ho : PE X o (bD G E A)) (he : PE X e (bD G E B))
    (hs : starEach [e] X.env = [(false, eval e X.env)] := by rfl) (hbase : attributeBase o name X.env (eval o X.env) = eval o X.env := by rfl) (hline : (apos.endLine == pos.line) = true := by rfl) : PE X (.Call (.Attribute o name apos) [e] [] pos) (tD G E (fStr1 g A B)) := by
  obtain ⟨rr, hr, k0⟩ := hg
  refine (pe_m1 slot ty hr ho he hs hbase hline).weak fun s H Q ⟨w0, H0, r, w, QD, EX, fr, lk, f, k⟩ => ?_
  refine ⟨w0, H0, r, w, _, EX, fr, lk, f, fun x v w1 H1 l1 ok1 s1 q1 => ?_⟩
  cases x <;> try exact q1.elim
  rename_i a
  cases s1.str_of
  exact ⟨⟨a, rfl⟩, w0, H0, r, w1, _, EX, fr.go l1 ok1, lk, q1, fun y u w2 H2 l2 ok2 s2 q2 => k0 H0 w2 H2 a y u Q QD ok2 s2 q2 fun d z w3 H3 l3 ok3 r3 q3 => k d z w3 H3 ((l1.trans l2).trans l3) ok3 r3 q3⟩
def joinD (a : Str) (y : D) (Q : D → Prop) : Prop := match y with
  | .lst ds => (match strsOf ds with
    | some ys => (ys.map (·.length)).sum + ys.length * a.length ≤ 16777216 ∧ Q (.str (Txt.join a ys))
    | none => False)
  | .tup ds => (match strsOf ds with
    | some ys => (ys.map (·.length)).sum + ys.length * a.length ≤ 16777216 ∧ Q (.str (Txt.join a ys))
    | none => False)
  | _ => False
theorem stl_join (hK : X.K = G.K := by rfl) : StL G X "str.join" joinD := by
  refine ⟨_, mt_join, fun H0 w H a y v Q QD ok s g k => ?_⟩
  cases y <;> try exact g.elim
  · rename_i ds
    obtain ⟨p, vs, rfl, sq, r⟩ := s.tup_of ok
    unfold joinD at g
    dsimp only at g
    cases e : strsOf ds with
    | none => rw [e] at g; exact g.elim
    | some ys =>
      rw [e] at g
      rw [strsOf_eq e] at r
      rw [r.strs] at sq
      exact ⟨a, p, ys, rfl, rfl, .inr (hK ▸ sq), g.1, k _ _ w H (.refl w H) ok Rep.str g.2⟩
  · rename_i ds
    obtain ⟨p, vs, rfl, sq, r⟩ := s.lst_of ok
    unfold joinD at g
    dsimp only at g
    cases e : strsOf ds with
    | none => rw [e] at g; exact g.elim
    | some ys =>
      rw [e] at g
      rw [strsOf_eq e] at r
      rw [r.strs] at sq
      exact ⟨a, p, ys, rfl, rfl, .inl (hK ▸ sq.sql), g.1, k _ _ w H (.refl w H) ok Rep.str g.2⟩
theorem ce_join {o e : Expr} {apos pos : Pos} {A B : FE} (ho : PE X o (bD G E A)) (he : PE X e (bD G E B)) (hK : X.K = G.K := by rfl) (hs : starEach [e] X.env = [(false, eval e X.env)] := by rfl)
    (hbase : attributeBase o "join" X.env (eval o X.env) = eval o X.env := by rfl) (hline : (apos.endLine == pos.line) = true := by rfl) : PE X (.Call (.Attribute o "join" apos) [e] [] pos) (tD G E (fStr1 joinD A B)) := ce_str1 PySem.F.slot_str_join PySem.F.type_str_join (stl_join hK) ho he hs hbase hline
end DL
/-! What the readings compute: a run over data, part 1. -/
namespace DL
open PySem L2 PyProof.Rows

inductive R (α : Type) where
  | ok (a : α)
  | ex (x : XD)
  | no
def R.hold {α : Type} : R α → (α → Prop) → XP → Prop
  | .ok a, Q, _ => Q a
  | .ex x, _, EX => EX x
  | .no, _, _ => False
def R.bind {α β : Type} : R α → (α → R β) → R β
  | .ok a, f => f a
  | .ex x, _ => .ex x
  | .no, _ => .no
theorem hold_bind {α β : Type} {m : R α} {f : α → R β} {Q : β → Prop} {EX : XP} (h : (m.bind f).hold Q EX) : m.hold (fun a => (f a).hold Q EX) EX := by
  cases m <;> exact h
theorem R.hold.imp {α : Type} {m : R α} {Q Q' : α → Prop} {EX : XP} (h : m.hold Q EX) (k : ∀ a, Q a → Q' a) : m.hold Q' EX := by
  cases m with
  | ok a => exact k a h
  | ex x => exact h
  | no => exact h
def R.ofO {α : Type} : Option α → R α
  | some a => .ok a
  | none => .no
theorem hold_ofO {α : Type} {o : Option α} {Q : α → Prop} {EX : XP} (h : (R.ofO o).hold Q EX) : ∃ a, o = some a ∧ Q a := by
  cases o with
  | none => exact h.elim
  | some a => exact ⟨a, rfl, h⟩
/-! ### values made plain ahead of their use (no law is changed by it: it is how the kernel reckons) -/
section
variable {β : Type}
def frcN : List Nat → (List Nat → β) → β
  | [], k => k []
  | x :: xs, k => frcN xs fun ys => k (x :: ys)
theorem frcN_eq : ∀ (l : List Nat) (k : List Nat → β), frcN l k = k l
  | [], k => rfl
  | x :: xs, k => by unfold frcN; rw [frcN_eq xs]
def frcS : Str → (Str → β) → β
  | ⟨⟨l⟩⟩, k => frcN l fun l' => k ⟨⟨l'⟩⟩
theorem frcS_eq : ∀ (l : Str) (k : Str → β), frcS l k = k l
  | ⟨⟨l⟩⟩, k => by show (frcN l fun l' => k ⟨⟨l'⟩⟩) = _; rw [frcN_eq]
mutual
def frc : D → (D → β) → β
  | .non, k => k .non
  | .bl true, k => k (.bl true)
  | .bl false, k => k (.bl false)
  | .int (.ofNat n), k => k (.int (.ofNat n))
  | .int (.negSucc n), k => k (.int (.negSucc n))
  | .str s, k => frcS s fun t => k (.str t)
  | .tup ds, k => frcs ds fun es => k (.tup es)
  | .lst ds, k => frcs ds fun es => k (.lst es)
  | .dic ks ds, k => frcs ds fun es => k (.dic ks es)
  | .obj c ds, k => frcs ds fun es => k (.obj c es)
  | .exc c ds, k => frcs ds fun es => k (.exc c es)
  | .jar, k => k .jar
def frcs : List D → (List D → β) → β
  | [], k => k []
  | d :: ds, k => frc d fun e => frcs ds fun es => k (e :: es)
end
mutual
theorem frc_eq : ∀ (d : D) (k : D → β), frc d k = k d
  | .non, k => by unfold frc; rfl
  | .bl true, k => by unfold frc; rfl
  | .bl false, k => by unfold frc; rfl
  | .int (.ofNat n), k => by unfold frc; rfl
  | .int (.negSucc n), k => by unfold frc; rfl
  | .str s, k => by unfold frc; rw [frcS_eq]
  | .tup ds, k => by unfold frc; rw [frcs_eq]
  | .lst ds, k => by unfold frc; rw [frcs_eq]
  | .dic ks ds, k => by unfold frc; rw [frcs_eq]
  | .obj c ds, k => by unfold frc; rw [frcs_eq]
  | .exc c ds, k => by unfold frc; rw [frcs_eq]
  | .jar, k => by unfold frc; rfl
theorem frcs_eq : ∀ (d : List D) (k : List D → β), frcs d k = k d
  | [], k => by unfold frcs; rfl
  | d :: ds, k => by unfold frcs; rw [frc_eq, frcs_eq]
end
end
/-- order of code points, quick -/
def ltN : List Nat → List Nat → Bool
  | [], [] => false
  | [], _ :: _ => true
  | _ :: _, [] => false
  | a :: r, b :: t => match Nat.blt a b with
    | true => true
    | false => match Nat.beq a b with
      | true => ltN r t
      | false => false
theorem ltN_eq : ∀ a b : List Nat, ltN a b = decide (a < b)
  | [], [] => by simp [ltN]
  | [], _ :: _ => by simp [ltN]
  | _ :: _, [] => by simp [ltN]
  | a :: r, b :: t => by
    have ih := ltN_eq r t
    unfold ltN
    have e : decide (a :: r < b :: t) = (decide (a < b) || (decide (a = b) && decide (r < t))) := by
      rw [Bool.eq_iff_iff]
      simp [List.cons_lt_cons_iff]
    rw [e, ← ih]
    have h1 : Nat.blt a b = decide (a < b) := by
      rw [Bool.eq_iff_iff]; simp [Nat.blt_eq]
    have h2 : Nat.beq a b = decide (a = b) := by
      rw [Bool.eq_iff_iff]; simp
    rw [h1, h2]
    cases decide (a < b) <;> cases decide (a = b) <;> rfl
def ltF (i j : Str) : Bool := ltN i.cps.toList j.cps.toList
theorem ltF_eq : ltF = ltS := by
  funext i j
  exact ltN_eq _ _
/-- a place, quick -/
def atF {α : Type} (xs : List α) : Int → Option α
  | .ofNat n => xs[n]?
  | .negSucc n => if n < xs.length then xs[xs.length - 1 - n]? else none
theorem atF_eq {α : Type} (xs : List α) (i : Int) : atF xs i = atI xs i := by
  cases i with
  | ofNat n =>
    show xs[n]? = (ixN xs.length ((n : Nat) : Int)).bind fun j => xs[j]?
    unfold ixN
    rw [if_pos (Int.natCast_nonneg n)]
    by_cases h : n < xs.length
    · rw [if_pos (by omega)]
      simp
    · rw [if_neg (by omega), List.getElem?_eq_none (by omega)]
      rfl
  | negSucc n =>
    show (if n < xs.length then xs[xs.length - 1 - n]? else none) = (ixN xs.length (Int.negSucc n)).bind fun j => xs[j]?
    unfold ixN
    have e : (Int.negSucc n : Int) = -((n : Int) + 1) := by omega
    have neg : ¬ (0 ≤ Int.negSucc n) := by omega
    by_cases h : n < xs.length
    · rw [if_pos h, if_neg neg, if_pos (by omega)]
      show xs[xs.length - 1 - n]? = xs[(Int.negSucc n + (xs.length : Int)).toNat]?
      congr 1
      omega
    · rw [if_neg h, if_neg neg, if_neg (by omega)]
      rfl

/-- the same envs, the object that is being made at x -/
def adr (x : Addr) : Sl → Sl
  | .slf _ c ds => .slf x c ds
  | y => y
def Sim (x : Addr) (r r' : Env) : Prop := r' = r.map (adr x)
section
variable {x : Addr} {r r' : Env}
theorem Sim.at (h : Sim x r r') (i : Nat) : r'[i]? = (r[i]?).map (adr x) := by
  rw [show r' = r.map (adr x) from h, List.getElem?_map]
theorem Sim.set (h : Sim x r r') (i : Nat) (y : Sl) (hy : adr x y = y := by rfl) : Sim x (r.set i y) (r'.set i y) := by
  unfold Sim
  rw [List.map_set, hy, show r' = r.map (adr x) from h]
theorem Sim.val (h : Sim x r r') {i : Nat} {d : D} (e : r[i]? = some (.val d)) : r'[i]? = some (.val d) := by rw [h.at i, e]; rfl
theorem Sim.own (h : Sim x r r') {i : Nat} {ds : List D} (e : r[i]? = some (.own ds)) : r'[i]? = some (.own ds) := by rw [h.at i, e]; rfl
theorem Sim.ownd (h : Sim x r r') {i : Nat} {ks : List Key} {ds : List D} (e : r[i]? = some (.ownd ks ds)) : r'[i]? = some (.ownd ks ds) := by rw [h.at i, e]; rfl
theorem Sim.slf (h : Sim x r r') {i : Nat} {y : Addr} {c : Nat} {ds : List D} (e : r[i]? = some (.slf y c ds)) : r'[i]? = some (.slf x c ds) := by rw [h.at i, e]; rfl
theorem Sim.setSlf (h : Sim x r r') (i : Nat) (y : Addr) (c : Nat) (ds : List D) : Sim x (r.set i (.slf y c ds)) (r'.set i (.slf x c ds)) := by
  unfold Sim
  rw [List.map_set, show r' = r.map (adr x) from h]
  rfl
theorem Sim.wipe (h : Sim x r r') : ∀ vs : List Nat, Sim x (wipeD r vs) (wipeD r' vs)
  | [] => h
  | v :: vs => (Sim.wipe h vs).set v .un
theorem map_adr_vals {ds : List D} {n : Nat} : (ds.map Sl.val ++ List.replicate n Sl.un).map (adr x) = ds.map Sl.val ++ List.replicate n Sl.un := by
  rw [List.map_append, List.map_map, List.map_replicate]
  rfl
theorem Sim.startD {N : List Str} {ds : List D} : Sim x (startD N ds) (startD N ds) := by
  unfold Sim DL.startD
  rw [map_adr_vals]
theorem Sim.startI {N : List Str} {c : Nat} {ds : List D} {y : Addr} : Sim x (startI N y c ds) (startI N x c ds) := by
  unfold Sim DL.startI
  rw [List.map_cons, map_adr_vals]
  rfl
end
def CF {α : Type} (F : Env → (α → Prop) → XP → Prop) (c : Env → R α) : Prop := ∀ {x : Addr} r r' Q EX, Sim x r r' → (c r).hold Q EX → F r' Q EX

/-! ### names, constants -/
def xVar (i : Nat) (r : Env) : R D := match r[i]? with
  | some (.val d) => .ok d
  | _ => .no
def xSee (i : Nat) (r : Env) : R D := match r[i]? with
  | some (.val d) => .ok d
  | some (.own ds) => .ok (.lst ds)
  | some (.ownd ks ds) => .ok (.dic ks ds)
  | _ => .no
def xC (d : D) (_ : Env) : R D := .ok d
theorem f_var {i : Nat} : CF (fVar i) (xVar i) := fun r r' Q EX s h => by
  unfold xVar at h
  unfold fVar
  cases e : r[i]? with
  | none => rw [e] at h; exact h.elim
  | some x =>
    rw [e] at h
    cases x <;> try exact h.elim
    rw [s.val e]
    exact h
theorem f_see {i : Nat} : CF (fSee i) (xSee i) := fun r r' Q EX s h => by
  unfold xSee at h
  unfold fSee
  cases e : r[i]? with
  | none => rw [e] at h; exact h.elim
  | some x =>
    rw [e] at h
    cases x <;> try exact h.elim
    · rw [s.val e]; exact h
    · rw [s.own e]; exact h
    · rw [s.ownd e]; exact h
theorem f_c {d : D} : CF (fC d) (xC d) := fun r r' Q EX s h => h

/-! ### operators -/
def gd (p : Prop) [Decidable p] (a : D) : Option D := if p then some a else none
theorem gd_some {p : Prop} [Decidable p] {a d : D} (h : gd p a = some d) : p ∧ a = d := by
  unfold gd at h
  by_cases q : p
  · rw [if_pos q] at h; exact ⟨q, Option.some.inj h⟩
  · rw [if_neg q] at h; cases h
abbrev O2 := D → D → Option D
def CG2 (g : G2) (c : O2) : Prop := ∀ x y d Q, c x y = some d → Q d → g x y Q
def x2 (c : O2) (a b : Env → R D) (r : Env) : R D := (a r).bind fun x => (b r).bind fun y => R.ofO (c x y)
theorem f_2 {g : G2} {c : O2} {A B : FE} {a b : Env → R D} (hg : CG2 g c) (ha : CF A a) (hb : CF B b) : CF (f2 g A B) (x2 c a b) := fun r r' Q EX s h =>
  ha r r' _ EX s ((hold_bind h).imp fun x h1 => hb r r' _ EX s ((hold_bind h1).imp fun y h2 => by
    obtain ⟨d, e, q⟩ := hold_ofO h2
    exact hg x y d Q e q))
def addX : O2
  | .int i, .int j => some (.int (i + j))
  | .str i, .str j => gd (i.length + j.length ≤ sizeLine) (.str (i ++ j))
  | .tup a, .tup b => gd (a.length + b.length ≤ sizeLine) (.tup (a ++ b))
  | .lst a, .lst b => gd (a.length + b.length ≤ sizeLine) (.lst (a ++ b))
  | _, _ => none
theorem g_add : CG2 addD addX := fun x y d Q e q => by
  cases x <;> cases y <;> first | (cases e; done) | skip
  · cases e; exact q
  all_goals
    obtain ⟨h, rfl⟩ := gd_some e
    exact ⟨h, q⟩
instance decMul (i j : Int) : Decidable (CMul i j) := by unfold CMul; exact inferInstance
instance decDivN (i j : Int) : Decidable (CDivN i j) := by unfold CDivN; exact inferInstance
instance decPow (i j : Int) : Decidable (CPow i j) := by unfold CPow; exact inferInstance
def ordX (p : Int → Int → Bool) (q : Str → Str → Bool) : O2
  | .int i, .int j => some (.bl (p i j))
  | .str i, .str j => some (.bl (q i j))
  | _, _ => none
theorem g_ord {p : Int → Int → Bool} {q : Str → Str → Bool} : CG2 (ordD p q) (ordX p q) := fun x y d Q e h => by
  cases x <;> cases y <;> first | (cases e; done) | (cases e; exact h)
abbrev ltX : O2 := ordX (fun i j => decide (i < j)) ltF
abbrev leX : O2 := ordX (fun i j => decide (i ≤ j)) fun i j => !ltF j i
abbrev gtX : O2 := ordX (fun i j => decide (j < i)) fun i j => ltF j i
abbrev geX : O2 := ordX (fun i j => decide (j ≤ i)) fun i j => !ltF i j
theorem g_lt : CG2 ltD ltX := by
  unfold ltX
  rw [ltF_eq]
  exact g_ord
theorem g_le : CG2 leD leX := by
  unfold leX
  rw [ltF_eq]
  exact g_ord
theorem g_gt : CG2 gtD gtX := by
  unfold gtX
  rw [ltF_eq]
  exact g_ord
def shpB (d : D) : Bool := plain d && SeqAt.shaped (pd d)
theorem shpB_iff {d : D} (h : shpB d = true) : shp d := by
  unfold shpB at h
  rw [Bool.and_eq_true] at h
  exact h
def eqX : O2 := fun x y => match bothS x y with
  | some b => some (.bl b)
  | none => gd ((shpB x && shpB y) = true) (.bl (eqb x y))
def neX : O2 := fun x y => match bothS x y with
  | some b => some (.bl (!b))
  | none => gd ((shpB x && shpB y) = true) (.bl (!eqb x y))
theorem g_eq : CG2 eqD eqX := fun x y d Q e q => by
  unfold eqX at e
  unfold eqD
  cases z : bothS x y with
  | some b => rw [z] at e; cases e; exact q
  | none =>
    rw [z] at e
    obtain ⟨h, rfl⟩ := gd_some e
    rw [Bool.and_eq_true] at h
    exact ⟨shpB_iff h.1, shpB_iff h.2, q⟩
theorem g_ne : CG2 neD neX := fun x y d Q e q => by
  unfold neX at e
  unfold neD
  cases z : bothS x y with
  | some b => rw [z] at e; cases e; exact q
  | none =>
    rw [z] at e
    obtain ⟨h, rfl⟩ := gd_some e
    rw [Bool.and_eq_true] at h
    exact ⟨shpB_iff h.1, shpB_iff h.2, q⟩
def inX (neg : Bool) : O2 := fun x y => match y with
  | .tup ds => gd ((flatD x && ds.all flatD) = true) (.bl (neg != ds.any fun z => eqb z x))
  | .lst ds => gd ((shpB x && shpB (.lst ds)) = true) (.bl (neg != ds.any fun z => eqb z x))
  | .str z => match x with
    | .str c => match c.cps.toList with
      | [n] => some (.bl (neg != decide (n ∈ z.cps.toList)))
      | _ => none
    | _ => none
  | .dic ks _ => match x with
    | .str c => some (.bl (neg != ks.any fun k => decide (k = Sum.inr c)))
    | .int c => some (.bl (neg != ks.any fun k => decide (k = Sum.inl c)))
    | _ => none
  | _ => none
theorem str_one {c : Str} {n : Nat} (h : c.cps.toList = [n]) : c = ⟨#[n]⟩ := by
  cases c with
  | mk a =>
    have : a = #[n] := Array.toList_inj.mp h
    rw [this]
theorem g_in {neg : Bool} : CG2 (inD neg) (inX neg) := fun x y d Q e q => by
  cases y <;> first | (cases e; done) | skip
  · rename_i z
    cases x <;> first | (cases e; done) | skip
    rename_i c
    unfold inX at e
    dsimp only at e
    match h : c.cps.toList, e with
    | [n], e => cases e; exact ⟨n, str_one h, q⟩
  · obtain ⟨h, rfl⟩ := gd_some e
    rw [Bool.and_eq_true] at h
    exact ⟨h.1, h.2, q⟩
  · obtain ⟨h, rfl⟩ := gd_some e
    rw [Bool.and_eq_true] at h
    exact ⟨shpB_iff h.1, shpB_iff h.2, q⟩
  · cases x <;> first | (cases e; done) | (cases e; exact q)
def ixX : O2 := fun x y => match x, y with
  | .tup ds, .int i => atF ds i
  | .lst ds, .int i => atF ds i
  | .str z, .int i => (atF z.cps.toList i).bind fun c => if Nat.ble z.length 16777216 = true then some (.str ⟨#[c]⟩) else none
  | .dic ks ds, y => (keyD y).bind fun k => dget ks ds k
  | _, _ => none
theorem g_ix : CG2 ixD ixX := fun x y d Q e q => by
  cases x <;> first | (cases e; done) | (cases y <;> (cases e; done)) | skip
  · rename_i z
    cases y <;> first | (cases e; done) | skip
    rename_i i
    obtain ⟨c, h1, h2⟩ := Option.bind_eq_some_iff.mp (show (atF z.cps.toList i).bind (fun c => if Nat.ble z.length 16777216 = true then some (D.str ⟨#[c]⟩) else none) = some d from e)
    by_cases hz : Nat.ble z.length 16777216 = true
    · rw [if_pos hz] at h2
      cases h2
      rw [atF_eq] at h1
      exact ⟨i, c, rfl, by rw [sizeLine_eq]; exact Nat.le_of_ble_eq_true hz, h1, q⟩
    · rw [if_neg hz] at h2; cases h2
  · cases y <;> first | (cases e; done) | skip
    exact ⟨_, d, rfl, by rw [← atF_eq]; exact e, q⟩
  · cases y <;> first | (cases e; done) | skip
    exact ⟨_, d, rfl, by rw [← atF_eq]; exact e, q⟩
  · rename_i ks ds
    obtain ⟨k, h1, h2⟩ := Option.bind_eq_some_iff.mp (show (keyD y).bind (fun k => dget ks ds k) = some d from e)
    exact ⟨k, d, h1, h2, q⟩
end DL
/-! What the readings compute: a run over data, part 2. -/
namespace DL
open PySem L2 PyProof.Rows

/-! ### tests, chains, and or not if -/
def xTb (a : Env → R D) (r : Env) : R Bool := (a r).bind fun d => match d with
  | .bl b => .ok b
  | _ => .no
theorem f_tb {A : FE} {a : Env → R D} (ha : CF A a) : CF (fTb A) (xTb a) := fun r r' Q EX s h => ha r r' _ EX s ((hold_bind h).imp fun d h1 => by
  cases d <;> first | exact h1.elim | exact ⟨_, rfl, h1⟩)
def xChain (c c' : O2) (a b e : Env → R D) (r : Env) : R D := (a r).bind fun x => (b r).bind fun y => match c x y with
  | some (.bl true) => (e r).bind fun u => R.ofO (c' y u)
  | some (.bl false) => .ok (.bl false)
  | _ => .no
theorem f_chain {g g' : G2} {c c' : O2} {A B C : FE} {a b e : Env → R D} (hg : CG2 g c) (hg' : CG2 g' c') (ha : CF A a) (hb : CF B b) (he : CF C e) : CF (fChain g g' A B C) (xChain c c' a b e) := fun r r' Q EX s h =>
  ha r r' _ EX s ((hold_bind h).imp fun x h1 => hb r r' _ EX s ((hold_bind h1).imp fun y h2 => by
    cases z : c x y with
    | none => rw [z] at h2; exact h2.elim
    | some d =>
      rw [z] at h2
      cases d <;> try exact h2.elim
      rename_i v
      refine hg x y _ _ z ⟨v, rfl, ?_⟩
      cases v with
      | false => rw [if_neg Bool.false_ne_true]; exact h2
      | true =>
        rw [if_pos rfl]
        exact he r r' _ EX s ((hold_bind h2).imp fun u h3 => by
          obtain ⟨d, e2, q⟩ := hold_ofO h3
          exact hg' y u d Q e2 q)))
def xAndT (a b : Env → R Bool) (r : Env) : R Bool := (a r).bind fun v => if v = true then b r else .ok false
def xOrT (a b : Env → R Bool) (r : Env) : R Bool := (a r).bind fun v => if v = true then .ok true else b r
def xNotT (a : Env → R Bool) (r : Env) : R Bool := (a r).bind fun v => .ok (!v)
theorem f_andT {A B : FT} {a b : Env → R Bool} (ha : CF A a) (hb : CF B b) : CF (fAndT A B) (xAndT a b) := fun r r' Q EX s h => ha r r' _ EX s ((hold_bind h).imp fun v h1 => by
  cases v with
  | true => rw [if_pos rfl] at h1 ⊢; exact hb r r' Q EX s h1
  | false => rw [if_neg Bool.false_ne_true] at h1 ⊢; exact h1)
theorem f_orT {A B : FT} {a b : Env → R Bool} (ha : CF A a) (hb : CF B b) : CF (fOrT A B) (xOrT a b) := fun r r' Q EX s h => ha r r' _ EX s ((hold_bind h).imp fun v h1 => by
  cases v with
  | true => rw [if_pos rfl] at h1 ⊢; exact h1
  | false => rw [if_neg Bool.false_ne_true] at h1 ⊢; exact hb r r' Q EX s h1)
theorem f_notT {A : FT} {a : Env → R Bool} (ha : CF A a) : CF (fNotT A) (xNotT a) := fun r r' Q EX s h => ha r r' _ EX s ((hold_bind h).imp fun v h1 => h1)
def xAnd (a b : Env → R D) (r : Env) : R D := (a r).bind fun d => match d with
  | .bl v => if v = true then b r else .ok (.bl false)
  | _ => .no
def xOr (a b : Env → R D) (r : Env) : R D := (a r).bind fun d => match d with
  | .bl v => if v = true then .ok (.bl true) else b r
  | _ => .no
def xNot (a : Env → R D) (r : Env) : R D := (a r).bind fun d => match d with
  | .bl v => .ok (.bl (!v))
  | _ => .no
def xIf (t : Env → R Bool) (a b : Env → R D) (r : Env) : R D := (t r).bind fun v => if v = true then a r else b r
theorem f_and {A B : FE} {a b : Env → R D} (ha : CF A a) (hb : CF B b) : CF (fAnd A B) (xAnd a b) := fun r r' Q EX s h => ha r r' _ EX s ((hold_bind h).imp fun d h1 => by
  cases d <;> try exact h1.elim
  rename_i v
  refine ⟨v, rfl, ?_⟩
  cases v with
  | true => exact hb r r' Q EX s h1
  | false => exact h1)
theorem f_not {A : FE} {a : Env → R D} (ha : CF A a) : CF (fNot A) (xNot a) := fun r r' Q EX s h => ha r r' _ EX s ((hold_bind h).imp fun d h1 => by
  cases d <;> try exact h1.elim
  exact ⟨_, rfl, h1⟩)
theorem f_if {T : FT} {A B : FE} {t : Env → R Bool} {a b : Env → R D} (ht : CF T t) (ha : CF A a) (hb : CF B b) : CF (fIf T A B) (xIf t a b) := fun r r' Q EX s h => ht r r' _ EX s ((hold_bind h).imp fun v h1 => by
  cases v with
  | true => rw [if_pos rfl] at h1 ⊢; exact ha r r' Q EX s h1
  | false => rw [if_neg Bool.false_ne_true] at h1 ⊢; exact hb r r' Q EX s h1)

/-! ### argument lists, displays, calls -/
def xNil (_ : Env) : R (List D) := .ok []
def xCons (a : Env → R D) (b : Env → R (List D)) (r : Env) : R (List D) := (a r).bind fun d => (b r).bind fun ds => .ok (d :: ds)
def xTup (a : Env → R (List D)) (r : Env) : R D := (a r).bind fun ds => if ds.length ≤ sizeLine then .ok (.tup ds) else .no
def xLst (a : Env → R (List D)) (r : Env) : R (List D) := (a r).bind fun ds => if ds.length ≤ sizeLine then .ok ds else .no
def xL (a : Env → R (List D)) (r : Env) : R D := (a r).bind fun ds => .ok (.lst ds)
theorem f_nil : CF fNil xNil := fun r r' Q EX s h => h
theorem f_cons {A : FE} {B : FA} {a : Env → R D} {b : Env → R (List D)} (ha : CF A a) (hb : CF B b) : CF (fCons A B) (xCons a b) := fun r r' Q EX s h =>
  ha r r' _ EX s ((hold_bind h).imp fun d h1 => hb r r' _ EX s ((hold_bind h1).imp fun ds h2 => h2))
theorem f_tup {A : FA} {a : Env → R (List D)} (ha : CF A a) : CF (fTup A) (xTup a) := fun r r' Q EX s h => ha r r' _ EX s ((hold_bind h).imp fun ds h1 => by
  by_cases z : ds.length ≤ sizeLine
  · rw [if_pos z] at h1; exact ⟨z, h1⟩
  · rw [if_neg z] at h1; exact h1.elim)
theorem f_lst {A : FA} {a : Env → R (List D)} (ha : CF A a) : CF (fLst A) (xLst a) := fun r r' Q EX s h => ha r r' _ EX s ((hold_bind h).imp fun ds h1 => by
  by_cases z : ds.length ≤ sizeLine
  · rw [if_pos z] at h1; exact ⟨z, h1⟩
  · rw [if_neg z] at h1; exact h1.elim)
theorem f_L {A : FA} {a : Env → R (List D)} (ha : CF A a) : CF (fL A) (xL a) := fun r r' Q EX s h => ha r r' _ EX s (hold_bind h)
def CCG {α : Type} (g : List D → (α → Prop) → Prop) (c : List D → Option α) : Prop := ∀ ds d Q, c ds = some d → Q d → g ds Q
def xCa {α : Type} (c : List D → Option α) (a : Env → R (List D)) (r : Env) : R α := (a r).bind fun ds => R.ofO (c ds)
theorem f_ca {g : CG} {c : List D → Option D} {A : FA} {a : Env → R (List D)} (hg : CCG g c) (ha : CF A a) : CF (fCa g A) (xCa c a) := fun r r' Q EX s h => ha r r' _ EX s ((hold_bind h).imp fun ds h1 => by
  obtain ⟨d, e, q⟩ := hold_ofO h1
  exact hg ds d Q e q)
def lenX : List D → Option D
  | [.tup xs] => some (.int xs.length)
  | [.lst xs] => some (.int xs.length)
  | [.str z] => gd (z.length ≤ sizeLine) (.int z.length)
  | _ => none
theorem g_len : CCG lenD lenX := fun ds d Q e q => by
  match ds, e with
  | [.tup xs], e => cases e; exact q
  | [.lst xs], e => cases e; exact q
  | [.str z], e => obtain ⟨h, rfl⟩ := gd_some e; exact ⟨h, q⟩
def strCX : List D → Option D
  | [.int i] => gd (i.natAbs.log2 < 1920) (.str (toString i))
  | [.str z] => some (.str z)
  | _ => none
theorem g_strC : CCG strC strCX := fun ds d Q e q => by
  match ds, e with
  | [.int i], e => obtain ⟨h, rfl⟩ := gd_some e; exact ⟨h, q⟩
  | [.str i], e => cases e; exact q
def tupCX : List D → Option D
  | [.lst xs] => some (.tup xs)
  | [.tup xs] => some (.tup xs)
  | _ => none
theorem g_tupC : CCG tupC tupCX := fun ds d Q e q => by
  match ds, e with
  | [.lst xs], e => cases e; exact q
  | [.tup xs], e => cases e; exact q
def blsX (f : List Bool → D) : List D → Option D
  | [.lst xs] => (blsOf xs).map f
  | _ => none
theorem g_bls {f : List Bool → D} : CCG (blsD f) (blsX f) := fun ds d Q e q => by
  match ds, e with
  | [.lst xs], e =>
    obtain ⟨bs, h1, h2⟩ := Option.map_eq_some_iff.mp (show (blsOf xs).map f = some d from e)
    subst h2
    show (match blsOf xs with
      | some bs => Q (f bs)
      | none => False)
    rw [h1]; exact q
def listX : List D → Option (List D)
  | [.lst xs] => some xs
  | [.tup xs] => some xs
  | _ => none
def isiX (tbl : Tag → Option Bool) (a : Env → R D) (r : Env) : R D := (a r).bind fun d => match tagD d with
  | some t => (match tbl t with
    | some b => .ok (.bl b)
    | none => .no)
  | none => .no
theorem f_isi {tbl : Tag → Option Bool} {A : FE} {a : Env → R D} (ha : CF A a) : CF (isiD tbl A) (isiX tbl a) := fun r r' Q EX s h => ha r r' _ EX s ((hold_bind h).imp fun d h1 => by
  cases e1 : tagD d with
  | none => rw [e1] at h1; exact h1.elim
  | some t =>
    simp only [e1] at h1 ⊢
    cases e2 : tbl t with
    | none => rw [e2] at h1; exact h1.elim
    | some b => rw [e2] at h1; exact h1)
def xFld (c i : Nat) (a : Env → R D) (r : Env) : R D := (a r).bind fun d => match d with
  | .obj c' fs => if c' = c then R.ofO fs[i]? else .no
  | _ => .no
theorem f_fld {c i : Nat} {A : FE} {a : Env → R D} (ha : CF A a) : CF (fFld c i A) (xFld c i a) := fun r r' Q EX s h => ha r r' _ EX s ((hold_bind h).imp fun d h1 => by
  cases d <;> try exact h1.elim
  rename_i c' fs
  dsimp only at h1 ⊢
  by_cases z : c' = c
  · rw [if_pos z] at h1 ⊢
    obtain ⟨d, e, q⟩ := hold_ofO h1
    rw [e]; exact q
  · rw [if_neg z] at h1; exact h1.elim)
def xStr1 (c : Str → D → Option D) (a b : Env → R D) (r : Env) : R D := (a r).bind fun x => match x with
  | .str z => (b r).bind fun y => R.ofO (c z y)
  | _ => .no
theorem f_str1 {g : Str → D → (D → Prop) → Prop} {c : Str → D → Option D} {A B : FE} {a b : Env → R D} (hg : ∀ z y d Q, c z y = some d → Q d → g z y Q) (ha : CF A a) (hb : CF B b) : CF (fStr1 g A B) (xStr1 c a b) := fun r r' Q EX s h => ha r r' _ EX s ((hold_bind h).imp fun x h1 => by
  cases x <;> try exact h1.elim
  exact hb r r' _ EX s ((hold_bind h1).imp fun y h2 => by
    obtain ⟨d, e, q⟩ := hold_ofO h2
    exact hg _ y d Q e q))
def joinX (a : Str) : D → Option D
  | .lst ds => (strsOf ds).bind fun ys => gd ((ys.map (·.length)).sum + ys.length * a.length ≤ 16777216) (.str (Txt.join a ys))
  | .tup ds => (strsOf ds).bind fun ys => gd ((ys.map (·.length)).sum + ys.length * a.length ≤ 16777216) (.str (Txt.join a ys))
  | _ => none
theorem g_join (z : Str) (y : D) (d : D) (Q : D → Prop) (e : joinX z y = some d) (q : Q d) : joinD z y Q := by
  cases y <;> first | (cases e; done) | skip
  all_goals
    rename_i ds
    obtain ⟨ys, h1, h2⟩ := Option.bind_eq_some_iff.mp (show (strsOf ds).bind (fun ys => gd ((ys.map (·.length)).sum + ys.length * z.length ≤ 16777216) (.str (Txt.join z ys))) = some d from e)
    obtain ⟨h, rfl⟩ := gd_some h2
    unfold joinD
    dsimp only
    rw [h1]
    exact ⟨h, q⟩

/-! ### repr -/
def shownB (d : D) : Bool := plain d && (pd d).showable && decide ((pd d).depth ≤ 60) && decide ((pd d).shown.length ≤ sizeLine)
def reprX : List D → Option D
  | [d] => gd (shownB d = true) (.str (pd d).shown)
  | _ => none
theorem g_repr : CCG reprD reprX := fun ds d Q e q => by
  match ds, e with
  | [x], e =>
    obtain ⟨h, rfl⟩ := gd_some e
    unfold shownB at h
    rw [Bool.and_eq_true, Bool.and_eq_true, Bool.and_eq_true, decide_eq_true_iff, decide_eq_true_iff] at h
    exact ⟨⟨h.1.1.1, h.1.1.2, h.1.2, h.2⟩, q⟩

/-! ### slices -/
def oNone (_ : Env) : R (Option Int) := .ok none
def oSome (a : Env → R D) (r : Env) : R (Option Int) := (a r).bind fun d => match d with
  | .int i => .ok (some i)
  | _ => .no
theorem f_oNone : CF fNone oNone := fun r r' Q EX s h => h
theorem f_oSome {A : FE} {a : Env → R D} (ha : CF A a) : CF (fSome A) (oSome a) := fun r r' Q EX s h => ha r r' _ EX s ((hold_bind h).imp fun d h1 => by
  cases d <;> first | exact h1.elim | exact ⟨_, rfl, h1⟩)
def xSlice (a : Env → R D) (l u : Env → R (Option Int)) (r : Env) : R D := (a r).bind fun x => (l r).bind fun lo => (u r).bind fun hi => match x with
  | .tup ds => .ok (.tup (cutD ds lo hi))
  | .lst ds => .ok (.lst (cutD ds lo hi))
  | .str z => if z.length ≤ sizeLine then .ok (.str (cutS z lo hi)) else .no
  | _ => .no
theorem f_slice {A : FE} {L U : FO} {a : Env → R D} {l u : Env → R (Option Int)} (ha : CF A a) (hl : CF L l) (hu : CF U u) : CF (fSlice A L U) (xSlice a l u) := fun r r' Q EX s h =>
  ha r r' _ EX s ((hold_bind h).imp fun x h1 => hl r r' _ EX s ((hold_bind h1).imp fun lo h2 => hu r r' _ EX s ((hold_bind h2).imp fun hi h3 => by
    cases x <;> try exact h3.elim
    · rename_i z
      dsimp only at h3 ⊢
      by_cases q : z.length ≤ sizeLine
      · rw [if_pos q] at h3; exact ⟨q, h3⟩
      · rw [if_neg q] at h3; exact h3.elim
    · exact h3
    · exact h3)))

/-! ### targets -/
def CT (g : TGd) (c : D → Env → Option Env) : Prop := ∀ {x : Addr} d r r' r1 K, Sim x r r' → c d r = some r1 → (∀ r2, Sim x r1 r2 → K r2) → g d r' K
def CTs (g : TGds) (c : List D → Env → Option Env) : Prop := ∀ {x : Addr} d r r' r1 K, Sim x r r' → c d r = some r1 → (∀ r2, Sim x r1 r2 → K r2) → g d r' K
def yVar (i : Nat) (d : D) (r : Env) : Option Env := some (r.set i (.val d))
theorem t_var {i : Nat} : CT (gVar i) (yVar i) := fun d r r' r1 K s e k => by
  cases e
  exact k _ (s.set i _)
def ysNil (ds : List D) (r : Env) : Option Env := match ds with
  | [] => some r
  | _ => none
def ysCons (g : D → Env → Option Env) (gs : List D → Env → Option Env) (ds : List D) (r : Env) : Option Env := match ds with
  | d :: t => (g d r).bind fun r1 => gs t r1
  | [] => none
def yTup (n : Nat) (gs : List D → Env → Option Env) (d : D) (r : Env) : Option Env := match d with
  | .tup ds => if ds.length = n then gs ds r else none
  | _ => none
theorem ts_nil : CTs gsNil ysNil := fun ds r r' r1 K s e k => by
  cases ds with
  | nil => cases e; exact ⟨rfl, k _ s⟩
  | cons d ds => cases e
theorem ts_cons {g : TGd} {gs : TGds} {c : D → Env → Option Env} {cs : List D → Env → Option Env} (h : CT g c) (h2 : CTs gs cs) : CTs (gsCons g gs) (ysCons c cs) := fun ds r r' r1 K s e k => by
  cases ds with
  | nil => cases e
  | cons d t =>
    obtain ⟨r2, e1, e2⟩ := Option.bind_eq_some_iff.mp (show (c d r).bind (fun r1 => cs t r1) = some r1 from e)
    exact ⟨d, t, rfl, h d r r' r2 _ s e1 fun r3 s3 => h2 t r2 r3 r1 K s3 e2 k⟩
theorem t_tup {n : Nat} {gs : TGds} {cs : List D → Env → Option Env} (h : CTs gs cs) : CT (gTupD n gs) (yTup n cs) := fun d r r' r1 K s e k => by
  cases d <;> first | (cases e; done) | skip
  rename_i ds
  unfold yTup at e
  dsimp only at e
  by_cases z : ds.length = n
  · rw [if_pos z] at e; exact ⟨ds, rfl, z, h ds r r' r1 K s e k⟩
  · rw [if_neg z] at e; cases e
def iRng1 (a : Env → R (List D)) (r : Env) : R (List D) := (a r).bind fun ds => match ds with
  | [.int n] => if -(2 ^ 62) ≤ n ∧ n < 2 ^ 62 then .ok (rangeD 0 n) else .no
  | _ => .no
theorem f_rng1 {A : FA} {a : Env → R (List D)} (ha : CF A a) : CF (fRng1 A) (iRng1 a) := fun r r' Q EX s h => ha r r' _ EX s ((hold_bind h).imp fun ds h1 => by
  match ds, h1 with
  | [.int n], h1 =>
    dsimp only at h1
    by_cases z : -(2 ^ 62) ≤ n ∧ n < 2 ^ 62
    · rw [if_pos z] at h1; exact ⟨n, rfl, z, h1⟩
    · rw [if_neg z] at h1; exact h1.elim)
/-! ### comprehensions -/
def xYes (_ : Env) : R Bool := .ok true
theorem f_yes : CF fYes xYes := fun r r' Q EX s h => h
/-- an answer without an exception -/
def R.cut {α : Type} : R α → R α
  | .ok a => .ok a
  | _ => .no
theorem hold_cut {α : Type} {m : R α} {Q : α → Prop} {EX : XP} (h : m.cut.hold Q EX) : m.hold Q NoX := by
  cases m <;> exact h
/-- the list so far, turned round, its length -/
def lcG (g : D → Env → Option Env) (t : Env → R Bool) (f : Env → R D) (r : Env) : List D → Nat → List D → R (Nat × List D)
  | [], n, acc => .ok (n, acc)
  | d :: ds, n, acc => match g d r with
    | none => .no
    | some r1 => (t r1).cut.bind fun b => if b = true then (f r1).cut.bind fun y => if Nat.blt n 16777216 = true then frc y fun y' => lcG g t f r ds (n + 1) (y' :: acc) else .no else lcG g t f r ds n acc
def xLc (s : Env → R (List D)) (vs : List Nat) (g : D → Env → Option Env) (t : Env → R Bool) (f : Env → R D) (r : Env) : R (List D) := (s r).bind fun ds => (lcG g t f (wipeD r vs) ds 0 []).bind fun p => .ok p.2.reverse
theorem lc_run {g : TGd} {T : FT} {F : FE} {cg : D → Env → Option Env} {t : Env → R Bool} {f : Env → R D} (hg : CT g cg) (ht : CF T t) (hf : CF F f) {x : Addr} {r r' : Env} (s : Sim x r r') {EX : XP} : ∀ (ds : List D) (n : Nat) (acc : List D) (Q : List D → Prop), n = acc.length →
    (lcG cg t f r ds n acc).hold (fun p => p.1 = p.2.length → Q p.2.reverse) EX → lcD g T F r' ds acc.reverse Q
  | [], n, acc, Q, hn, h => h hn
  | d :: ds, n, acc, Q, hn, h => by
    unfold lcG at h
    unfold lcD
    cases e : cg d r with
    | none => rw [e] at h; exact h.elim
    | some r1 =>
      rw [e] at h
      dsimp only at h
      refine hg d r r' r1 _ s e fun r2 s2 => ht r1 r2 _ NoX s2 (R.hold.imp (hold_cut (hold_bind h)) fun b h1 => ?_)
      cases b with
      | true =>
        rw [if_pos rfl] at h1 ⊢
        refine hf r1 r2 _ NoX s2 (R.hold.imp (hold_cut (hold_bind h1)) fun y h2 => ?_)
        by_cases z : Nat.blt n 16777216 = true
        · rw [if_pos z, frc_eq] at h2
          have hz : n < 16777216 := by simpa [Nat.blt_eq] using z
          refine ⟨by rw [List.length_reverse, sizeLine_eq, ← hn]; exact hz, ?_⟩
          have ih := lc_run hg ht hf s ds (n + 1) (y :: acc) Q (by rw [hn]; rfl) h2
          rwa [List.reverse_cons] at ih
        · rw [if_neg z] at h2; exact h2.elim
      | false =>
        rw [if_neg Bool.false_ne_true] at h1 ⊢
        exact lc_run hg ht hf s ds n acc Q hn h1
theorem f_lc {S : FI} {vs : List Nat} {g : TGd} {T : FT} {F : FE} {cs : Env → R (List D)} {cg : D → Env → Option Env} {t : Env → R Bool} {f : Env → R D} (hs : CF S cs) (hg : CT g cg) (ht : CF T t) (hf : CF F f) : CF (fLc S vs g T F) (xLc cs vs cg t f) := fun r r' Q EX s h =>
  hs r r' _ EX s ((hold_bind h).imp fun ds h1 => lc_run hg ht hf (s.wipe vs) ds 0 [] Q rfl ((hold_bind h1).imp fun p h2 _ => h2))
def lc2G (g : D → Env → Option Env) (t : Env → R Bool) (s1 : Env → R (List D)) (vs1 : List Nat) (g1 : D → Env → Option Env) (t1 : Env → R Bool) (f : Env → R D) (r : Env) : List D → Nat → List D → R (Nat × List D)
  | [], n, acc => .ok (n, acc)
  | d :: ds, n, acc => match g d r with
    | none => .no
    | some r1 => (t r1).cut.bind fun b => if b = true then (s1 r1).cut.bind fun es => (lcG g1 t1 f (wipeD r1 vs1) es n acc).cut.bind fun p => lc2G g t s1 vs1 g1 t1 f r ds p.1 p.2 else lc2G g t s1 vs1 g1 t1 f r ds n acc
def xLc2 (s : Env → R (List D)) (vs : List Nat) (g : D → Env → Option Env) (t : Env → R Bool) (s1 : Env → R (List D)) (vs1 : List Nat) (g1 : D → Env → Option Env) (t1 : Env → R Bool) (f : Env → R D) (r : Env) : R (List D) := (s r).bind fun ds => (lc2G g t s1 vs1 g1 t1 f (wipeD r vs) ds 0 []).bind fun p => .ok p.2.reverse
theorem lc2_run {g g1 : TGd} {T T1 : FT} {S1 : FI} {F : FE} {cg cg1 : D → Env → Option Env} {t t1 : Env → R Bool} {cs1 : Env → R (List D)} {f : Env → R D} {vs1 : List Nat} (hg : CT g cg) (ht : CF T t) (hs1 : CF S1 cs1) (hg1 : CT g1 cg1) (ht1 : CF T1 t1) (hf : CF F f) {x : Addr} {r r' : Env} (s : Sim x r r') {EX : XP} :
    ∀ (ds : List D) (n : Nat) (acc : List D) (Q : List D → Prop), n = acc.length → (lc2G cg t cs1 vs1 cg1 t1 f r ds n acc).hold (fun p => p.1 = p.2.length → Q p.2.reverse) EX → lc2D g T S1 vs1 g1 T1 F r' ds acc.reverse Q
  | [], n, acc, Q, hn, h => h hn
  | d :: ds, n, acc, Q, hn, h => by
    unfold lc2G at h
    unfold lc2D
    cases e : cg d r with
    | none => rw [e] at h; exact h.elim
    | some r1 =>
      rw [e] at h
      dsimp only at h
      refine hg d r r' r1 _ s e fun r2 s2 => ht r1 r2 _ NoX s2 (R.hold.imp (hold_cut (hold_bind h)) fun b h1 => ?_)
      cases b with
      | true =>
        rw [if_pos rfl] at h1 ⊢
        refine hs1 r1 r2 _ NoX s2 (R.hold.imp (hold_cut (hold_bind h1)) fun es h2 => ?_)
        refine lc_run hg1 ht1 hf (s2.wipe vs1) es n acc _ hn (R.hold.imp (hold_cut (hold_bind h2)) fun p h3 hp => ?_)
        exact lc2_run hg ht hs1 hg1 ht1 hf s ds p.1 p.2 Q hp h3
      | false =>
        rw [if_neg Bool.false_ne_true] at h1 ⊢
        exact lc2_run hg ht hs1 hg1 ht1 hf s ds n acc Q hn h1
theorem f_lc2 {S S1 : FI} {vs vs1 : List Nat} {g g1 : TGd} {T T1 : FT} {F : FE} {cs cs1 : Env → R (List D)} {cg cg1 : D → Env → Option Env} {t t1 : Env → R Bool} {f : Env → R D} (hs : CF S cs) (hg : CT g cg) (ht : CF T t) (hs1 : CF S1 cs1) (hg1 : CT g1 cg1) (ht1 : CF T1 t1) (hf : CF F f) :
    CF (fLc2 S vs g T S1 vs1 g1 T1 F) (xLc2 cs vs cg t cs1 vs1 cg1 t1 f) := fun r r' Q EX s h =>
  hs r r' _ EX s ((hold_bind h).imp fun ds h1 => lc2_run hg ht hs1 hg1 ht1 hf (s.wipe vs) ds 0 [] Q rfl ((hold_bind h1).imp fun p h2 _ => h2))
end DL
/-! What the readings compute: a run over data, part 3: statements, defs. -/
namespace DL
open PySem L2 PyProof.Rows

inductive RS where
  | nx (r : Env)
  | rt (d : D)
  | bk (r : Env)
  | ct (r : Env)
  | rn (ds : List D)
  | ex (x : XD)
  | no
def RS.hold (x : Addr) : RS → DE → XP → Prop
  | .nx r, A, _ => ∀ s, Sim x r s → A.nx s
  | .rt d, A, _ => A.rt d
  | .bk r, A, _ => ∀ s, Sim x r s → A.bk s
  | .ct r, A, _ => ∀ s, Sim x r s → A.ct s
  | .rn ds, A, _ => A.rn ds
  | .ex x, _, EX => EX x
  | .no, _, _ => False
def R.st {α : Type} (m : R α) (f : α → RS) : RS := match m with
  | .ok a => f a
  | .ex x => .ex x
  | .no => .no
theorem hold_st {α : Type} {m : R α} {f : α → RS} {x : Addr} {A : DE} {EX : XP} (h : (m.st f).hold x A EX) : m.hold (fun a => (f a).hold x A EX) EX := by
  cases m <;> exact h
def CS (F : FS) (c : Env → RS) : Prop := ∀ {x : Addr} r r' A EX, Sim x r r' → (c r).hold x A EX → F A EX r'
def yNext (r : Env) : RS := .nx r
def yNever (_ : Env) : RS := .no
theorem s_next : CS sNext yNext := fun r r' A EX s h => h r' s
def ySeq (a b : Env → RS) (r : Env) : RS := match a r with
  | .nx r1 => b r1
  | x => x
theorem s_seq {F F' : FS} {a b : Env → RS} (ha : CS F a) (hb : CS F' b) : CS (sSeq F F') (ySeq a b) := fun r r' A EX s h => by
  refine ha r r' _ EX s ?_
  unfold ySeq at h
  cases e : a r with
  | nx r1 => rw [e] at h; exact fun r2 s2 => hb r1 r2 A EX s2 h
  | rt d => rw [e] at h; exact h
  | bk r1 => rw [e] at h; exact h
  | ct r1 => rw [e] at h; exact h
  | rn d => rw [e] at h; exact h
  | ex x => rw [e] at h; exact h
  | no => rw [e] at h; exact h
def yIf (t : Env → R Bool) (a b : Env → RS) (r : Env) : RS := (t r).st fun v => if v = true then a r else b r
theorem s_if {T : FT} {F F' : FS} {t : Env → R Bool} {a b : Env → RS} (ht : CF T t) (ha : CS F a) (hb : CS F' b) : CS (sIf T F F') (yIf t a b) := fun r r' A EX s h => ht r r' _ EX s ((hold_st h).imp fun v h1 => by
  cases v with
  | true => rw [if_pos rfl] at h1 ⊢; exact ha r r' A EX s h1
  | false => rw [if_neg Bool.false_ne_true] at h1 ⊢; exact hb r r' A EX s h1)
def yExpr (a : Env → R D) (r : Env) : RS := (a r).st fun _ => .nx r
theorem s_expr {F : FE} {a : Env → R D} (ha : CF F a) : CS (sExpr F) (yExpr a) := fun r r' A EX s h => ha r r' _ EX s ((hold_st h).imp fun d h1 => h1 r' s)
def yRet (a : Env → R D) (r : Env) : RS := (a r).st fun d => .rt d
theorem s_ret {F : FE} {a : Env → R D} (ha : CF F a) : CS (sRet F) (yRet a) := fun r r' A EX s h => ha r r' _ EX s ((hold_st h).imp fun d h1 => h1)
def yRetN (_ : Env) : RS := .rt .non
def ySet (i : Nat) (a : Env → R D) (r : Env) : RS := (a r).st fun d => frc d fun d => .nx (r.set i (.val d))
theorem s_set {i : Nat} {F : FE} {a : Env → R D} (ha : CF F a) : CS (sSet i F) (ySet i a) := fun r r' A EX s h => ha r r' _ EX s ((hold_st h).imp fun d h1 => by
  rw [frc_eq] at h1
  exact h1 _ (s.set i _))
def ySetOwn (i : Nat) (a : Env → R (List D)) (r : Env) : RS := (a r).st fun d => frcs d fun d => .nx (r.set i (.own d))
theorem s_setOwn {i : Nat} {F : FA} {a : Env → R (List D)} (ha : CF F a) : CS (sSetOwn i F) (ySetOwn i a) := fun r r' A EX s h => ha r r' _ EX s ((hold_st h).imp fun d h1 => by
  rw [frcs_eq] at h1
  exact h1 _ (s.set i _))
def yOff (is : List Nat) (a : Env → RS) (r : Env) : RS := a (offs r is)
theorem Sim.offs {x : Addr} : ∀ (is : List Nat) {r r' : Env}, Sim x r r' → Sim x (offs r is) (offs r' is)
  | [], _, _, s => s
  | i :: is, r, r', s => by
    unfold DL.offs
    refine Sim.offs is ?_
    rw [s.at i]
    cases e : r[i]? with
    | none => exact s
    | some y =>
      show Sim x (r.set i y.off) (r'.set i (adr x y).off)
      unfold Sim
      rw [List.map_set, show r' = r.map (adr x) from s]
      congr 1
      cases y <;> rfl
theorem s_off {is : List Nat} {F : FS} {a : Env → RS} (ha : CS F a) : CS (sOff is F) (yOff is a) := fun r r' A EX s h => ha _ _ A EX (s.offs is) h
/-- put together, the spine made plain -/
def frcp {β : Type} : List D → List D → (List D → β) → β
  | [], b, k => k b
  | x :: xs, b, k => frcp xs b fun ys => k (x :: ys)
theorem frcp_eq {β : Type} : ∀ (a b : List D) (k : List D → β), frcp a b k = k (a ++ b)
  | [], b, k => rfl
  | x :: xs, b, k => by unfold frcp; rw [frcp_eq xs]; rfl
def yApp (i : Nat) (a : Env → R D) (r : Env) : RS := match r[i]? with
  | some (.own ds) => if Nat.blt ds.length 16777216 = true then (a r).st fun d => frc d fun d => frcp ds [d] fun es => .nx (r.set i (.own es)) else .no
  | _ => .no
theorem s_app {i : Nat} {F : FE} {a : Env → R D} (ha : CF F a) : CS (sAppC i F) (yApp i a) := fun r r' A EX s h => by
  unfold yApp at h
  unfold sAppC
  cases e : r[i]? with
  | none => rw [e] at h; exact h.elim
  | some x =>
    rw [e] at h
    cases x <;> try exact h.elim
    rename_i ds
    rw [s.own e]
    dsimp only at h ⊢
    by_cases z : Nat.blt ds.length 16777216 = true
    · rw [if_pos z] at h
      have hz : ds.length < 16777216 := by simpa [Nat.blt_eq] using z
      exact ⟨by rw [sizeLine_eq]; exact hz, ha r r' _ EX s ((hold_st h).imp fun d h1 => by
        rw [frc_eq, frcp_eq] at h1
        exact h1 _ (s.set i _))⟩
    · rw [if_neg z] at h; exact h.elim
def yAsg (g : D → Env → Option Env) (a : Env → R D) (r : Env) : RS := (a r).st fun d => match g d r with
  | some r1 => .nx r1
  | none => .no
theorem s_asg {g : TGd} {c : D → Env → Option Env} {F : FE} {a : Env → R D} (hg : CT g c) (ha : CF F a) : CS (sAsg g F) (yAsg c a) := fun r r' A EX s h => ha r r' _ EX s ((hold_st h).imp fun d h1 => by
  cases e : c d r with
  | none => rw [e] at h1; exact h1.elim
  | some r1 => rw [e] at h1; exact hg d r r' r1 _ s e h1)
def yPar (i j : Nat) (a : Env → R (List D)) (r : Env) : RS := (a r).st fun ds => match ds with
  | [d, d'] => frc d fun d => frc d' fun d' => .nx ((r.set i (.val d)).set j (.val d'))
  | _ => .no
theorem s_par {i j : Nat} {F : FA} {a : Env → R (List D)} (ha : CF F a) : CS (sPar i j F) (yPar i j a) := fun r r' A EX s h => ha r r' _ EX s ((hold_st h).imp fun ds h1 => by
  match ds, h1 with
  | [d, d'], h1 =>
    dsimp only at h1
    rw [frc_eq, frc_eq] at h1
    exact ⟨d, d', rfl, h1 _ ((s.set i _).set j _)⟩)
def forG (g : D → Env → Option Env) (b : Env → RS) : List D → Env → RS
  | [], r => .nx r
  | d :: ds, r => match g d r with
    | none => .no
    | some r1 => match b r1 with
      | .nx r2 => forG g b ds r2
      | .ct r2 => forG g b ds r2
      | .bk r2 => .nx r2
      | x => x
def yFor (s : Env → R (List D)) (g : D → Env → Option Env) (b : Env → RS) (r : Env) : RS := (s r).st fun ds => forG g b ds r
theorem for_run {g : TGd} {B : FS} {cg : D → Env → Option Env} {b : Env → RS} (hg : CT g cg) (hb : CS B b) {x : Addr} {A : DE} {EX : XP} : ∀ (ds : List D) (r r' : Env), Sim x r r' → (forG cg b ds r).hold x A EX → forD g B ds A EX r'
  | [], r, r', s, h => h r' s
  | d :: ds, r, r', s, h => by
    unfold forG at h
    unfold forD
    cases e : cg d r with
    | none => rw [e] at h; exact h.elim
    | some r1 =>
      rw [e] at h
      dsimp only at h
      refine hg d r r' r1 _ s e fun r2 s2 => hb r1 r2 _ EX s2 ?_
      cases e2 : b r1 with
      | nx r3 => rw [e2] at h; exact fun r4 s4 => for_run hg hb ds r3 r4 s4 h
      | ct r3 => rw [e2] at h; exact fun r4 s4 => for_run hg hb ds r3 r4 s4 h
      | bk r3 => rw [e2] at h; exact h
      | rt d => rw [e2] at h; exact h
      | rn d => rw [e2] at h; exact h
      | ex x => rw [e2] at h; exact h
      | no => rw [e2] at h; exact h
theorem s_for {S : FI} {g : TGd} {B : FS} {cs : Env → R (List D)} {cg : D → Env → Option Env} {b : Env → RS} (hs : CF S cs) (hg : CT g cg) (hb : CS B b) : CS (sFor S g B) (yFor cs cg b) := fun r r' A EX s h =>
  hs r r' _ EX s ((hold_st h).imp fun ds h1 => for_run hg hb ds r r' s h1)
/-- while, with that much fuel -/
def whG (t : Env → R Bool) (b : Env → RS) : Nat → Env → RS
  | 0, _ => .no
  | n + 1, r => (t r).st fun v => if v = true then (match b r with
    | .nx r2 => whG t b n r2
    | .ct r2 => whG t b n r2
    | .bk r2 => .nx r2
    | x => x) else .nx r
def yWhile (n : Nat) (t : Env → R Bool) (b : Env → RS) (r : Env) : RS := whG t b n r
theorem s_while {n : Nat} {T : FT} {B : FS} {t : Env → R Bool} {b : Env → RS} (ht : CF T t) (hb : CS B b) : CS (sWhile T B) (yWhile n t b) := fun {x} r r' A EX s h => by
  refine ⟨fun m r' => ∃ r, Sim x r r' ∧ (whG t b m r).hold x A EX, ⟨n, r, s, h⟩, fun m r1' ⟨r1, s1, h1⟩ => ?_⟩
  cases m with
  | zero => exact h1.elim
  | succ m =>
    unfold whG at h1
    refine ht r1 r1' _ EX s1 ((hold_st h1).imp fun v h2 => ?_)
    cases v with
    | false => rw [if_neg Bool.false_ne_true] at h2 ⊢; exact h2 r1' s1
    | true =>
      rw [if_pos rfl] at h2 ⊢
      refine hb r1 r1' _ EX s1 ?_
      cases e2 : b r1 with
      | nx r3 => rw [e2] at h2; exact fun r4 s4 => ⟨m, Nat.lt_succ_self m, r3, s4, h2⟩
      | ct r3 => rw [e2] at h2; exact fun r4 s4 => ⟨m, Nat.lt_succ_self m, r3, s4, h2⟩
      | bk r3 => rw [e2] at h2; exact h2
      | rt d => rw [e2] at h2; exact h2
      | rn d => rw [e2] at h2; exact h2
      | ex x => rw [e2] at h2; exact h2
      | no => rw [e2] at h2; exact h2
def yFldI (i c : Nat) (fl : List Str) (f : Str) (a : Env → R D) (r : Env) : RS := (a r).st fun d => match r[i]? with
  | some (.slf x c' ds) => if c' = c ∧ fl[ds.length]? = some f then .nx (r.set i (.slf x c (ds ++ [d]))) else .no
  | _ => .no
theorem s_fldI {i c : Nat} {fl : List Str} {f : Str} {F : FE} {a : Env → R D} (ha : CF F a) : CS (sFldI i c fl f F) (yFldI i c fl f a) := fun r r' A EX s h => ha r r' _ EX s ((hold_st h).imp fun d h1 => by
  cases e : r[i]? with
  | none => rw [e] at h1; exact h1.elim
  | some x =>
    rw [e] at h1
    cases x <;> try exact h1.elim
    rename_i y c' ds
    have e' := s.slf e
    rw [e']
    dsimp only at h1 ⊢
    by_cases z : c' = c ∧ fl[ds.length]? = some f
    · rw [if_pos z] at h1 ⊢; exact h1 _ (s.setSlf i _ _ _)
    · rw [if_neg z] at h1; exact h1.elim)

/-! ### defs -/
def spOf (c : List D → R D) : DSp := fun ds Q EX => (c ds).hold Q EX
def cfOf (N : List Str) (n : Nat) (b : Env → RS) (ds : List D) : R D := if ds.length = n then (match b (startD N ds) with
  | .nx _ => .ok .non
  | .rt d => .ok d
  | .ex x => .ex x
  | _ => .no) else .no
theorem spOf_len {N : List Str} {n : Nat} {b : Env → RS} {ds : List D} {Q : D → Prop} {EX : XP} (h : spOf (cfOf N n b) ds Q EX) : ds.length = n := by
  unfold spOf cfOf at h
  by_cases z : ds.length = n
  · exact z
  · rw [if_neg z] at h; exact h.elim
theorem spOf_pure {N : List Str} {n : Nat} {B : FS} {b : Env → RS} (hb : CS B b) {ds : List D} {Q : D → Prop} {EX : XP} (h : spOf (cfOf N n b) ds Q EX) : B { nx := fun _ => Q .non, rt := Q } EX (startD N ds) := by
  have hl := spOf_len h
  unfold spOf cfOf at h
  rw [if_pos hl] at h
  refine hb (x := 0) _ _ _ EX Sim.startD ?_
  cases e : b (startD N ds) with
  | nx r => rw [e] at h; exact fun _ _ => h
  | rt d => rw [e] at h; exact h
  | rn d => rw [e] at h; exact h.elim
  | ex x => rw [e] at h; exact h
  | bk r => rw [e] at h; exact h.elim
  | ct r => rw [e] at h; exact h.elim
  | no => rw [e] at h; exact h.elim
def cfI (N : List Str) (n m c : Nat) (b : Env → RS) (ds : List D) : R D := if ds.length = n then (match b (startI N 0 c ds) with
  | .nx (.slf _ c' es :: _) => if c' = c ∧ es.length = m then .ok (.tup es) else .no
  | .ex x => .ex x
  | _ => .no) else .no
theorem spI_len {N : List Str} {n m c : Nat} {b : Env → RS} {ds : List D} {Q : D → Prop} {EX : XP} (h : spOf (cfI N n m c b) ds Q EX) : ds.length = n := by
  unfold spOf cfI at h
  by_cases z : ds.length = n
  · exact z
  · rw [if_neg z] at h; exact h.elim
theorem spI_pure {G : Gm} {N : List Str} {n m c : Nat} {B : FS} {b : Env → RS} (hb : CS B b) (hm : (G.fld c).length = m) {ds : List D} {Q : D → Prop} {EX : XP} {x : Addr} (h : spOf (cfI N n m c b) ds Q EX) :
    B (DE.mk (endI (G.fld c) x c Q) (fun _ => False) (fun _ => False) (fun _ => False) (fun _ => False)) EX (startI N x c ds) := by
  have hl := spI_len h
  unfold spOf cfI at h
  rw [if_pos hl] at h
  refine hb (x := x) (startI N 0 c ds) _ _ EX Sim.startI ?_
  cases e : b (startI N 0 c ds) with
  | nx r =>
    rw [e] at h
    intro s2 s
    match r, h, s with
    | .slf y c' es :: rr, h, s =>
      dsimp only at h
      by_cases z : c' = c ∧ es.length = m
      · rw [if_pos z] at h
        rw [show s2 = (Sl.slf y c' es :: rr).map (adr x) from s]
        exact ⟨rfl, z.1, by rw [hm]; exact z.2, h⟩
      · rw [if_neg z] at h; exact h.elim
  | rn d => rw [e] at h; exact h.elim
  | ex x => rw [e] at h; exact h
  | rt d => rw [e] at h; exact h.elim
  | bk r => rw [e] at h; exact h.elim
  | ct r => rw [e] at h; exact h.elim
  | no => rw [e] at h; exact h.elim
/-- a call's exceptions and answer -/
def xCall (c : List D → R D) (a : Env → R (List D)) (r : Env) : R D := (a r).bind fun ds => frcs ds c
theorem f_call {c : List D → R D} {A : FA} {a : Env → R (List D)} (ha : CF A a) : CF (fCall (spOf c) A) (xCall c a) := fun r r' Q EX s h => ha r r' _ EX s ((hold_bind h).imp fun ds h1 => by
  rw [frcs_eq] at h1
  exact h1)
def xMeth (k : Nat) (c : List D → R D) (a : Env → R D) (b : Env → R (List D)) (r : Env) : R D := (a r).bind fun d => match d with
  | .obj k' fs => if k' = k then (b r).bind fun ds => frcs (.obj k' fs :: ds) c else .no
  | _ => .no
def xProp (k : Nat) (c : List D → R D) (a : Env → R D) (r : Env) : R D := (a r).bind fun d => match d with
  | .obj k' fs => if k' = k then (c [.obj k' fs]).cut else .no
  | _ => .no
theorem f_prop {k : Nat} {c : List D → R D} {A : FE} {a : Env → R D} (ha : CF A a) : CF (fProp k (spOf c) A) (xProp k c a) := fun r r' Q EX s h => ha r r' _ EX s ((hold_bind h).imp fun d h1 => by
  cases d <;> try exact h1.elim
  rename_i k' fs
  dsimp only at h1
  by_cases z : k' = k
  · subst z
    rw [if_pos rfl] at h1
    exact ⟨fs, rfl, hold_cut h1⟩
  · rw [if_neg z] at h1; exact h1.elim)
/-- what the construction of an object asks of its __init__ -/
def spIn (c : List D → R D) : List D → (List D → Prop) → XP → Prop := fun ds Q EX => (c ds).hold (fun d => match d with
  | .tup es => Q es
  | _ => False) EX
def xMake (k : Nat) (c : List D → R D) (a : Env → R (List D)) (r : Env) : R D := (a r).bind fun ds => (frcs ds c).bind fun d => match d with
  | .tup es => .ok (.obj k es)
  | _ => .no
theorem f_make {k : Nat} {c : List D → R D} {A : FA} {a : Env → R (List D)} (ha : CF A a) : CF (fMake k (spIn c) A) (xMake k c a) := fun r r' Q EX s h => ha r r' _ EX s ((hold_bind h).imp fun ds h1 => by
  rw [frcs_eq] at h1
  refine (hold_bind h1).imp fun d h2 => ?_
  cases d <;> first | exact h2.elim | exact h2)
/-! ### new lists -/
def yRetNew (i : Nat) (r : Env) : RS := match r[i]? with
  | some (.own ds) => .rn ds
  | _ => .no
theorem s_retNew {i : Nat} : CS (sRetNew i) (yRetNew i) := fun r r' A EX s h => by
  unfold yRetNew at h
  unfold sRetNew
  cases e : r[i]? with
  | none => rw [e] at h; exact h.elim
  | some x =>
    rw [e] at h
    cases x <;> try exact h.elim
    rw [s.own e]
    exact h
def yRetF (a : Env → R (List D)) (r : Env) : RS := (a r).st fun d => .rn d
def spNOf (c : List D → R (List D)) : List D → (List D → Prop) → XP → Prop := fun ds Q EX => (c ds).hold Q EX
def cfN (N : List Str) (n : Nat) (b : Env → RS) (ds : List D) : R (List D) := if ds.length = n then (match b (startD N ds) with
  | .rn d => .ok d
  | .ex x => .ex x
  | _ => .no) else .no
theorem spN_len {N : List Str} {n : Nat} {b : Env → RS} {ds : List D} {Q : List D → Prop} {EX : XP} (h : spNOf (cfN N n b) ds Q EX) : ds.length = n := by
  unfold spNOf cfN at h
  by_cases z : ds.length = n
  · exact z
  · rw [if_neg z] at h; exact h.elim
theorem spN_pure {N : List Str} {n : Nat} {B : FS} {b : Env → RS} (hb : CS B b) {ds : List D} {Q : List D → Prop} {EX : XP} (h : spNOf (cfN N n b) ds Q EX) : B { nx := fun _ => False, rt := fun _ => False, rn := Q } EX (startD N ds) := by
  have hl := spN_len h
  unfold spNOf cfN at h
  rw [if_pos hl] at h
  refine hb (x := 0) _ _ _ EX Sim.startD ?_
  cases e : b (startD N ds) with
  | rn d => rw [e] at h; exact h
  | ex x => rw [e] at h; exact h
  | nx r => rw [e] at h; exact h.elim
  | rt d => rw [e] at h; exact h.elim
  | bk r => rw [e] at h; exact h.elim
  | ct r => rw [e] at h; exact h.elim
  | no => rw [e] at h; exact h.elim
def xCallN (c : List D → R (List D)) (a : Env → R (List D)) (r : Env) : R (List D) := (a r).bind fun ds => frcs ds c
theorem f_callN {c : List D → R (List D)} {A : FA} {a : Env → R (List D)} (ha : CF A a) : CF (fCallN (spNOf c) A) (xCallN c a) := fun r r' Q EX s h => ha r r' _ EX s ((hold_bind h).imp fun ds h1 => by
  rw [frcs_eq] at h1
  exact h1)
end DL
/-! The data layer, part 15: comprehensions as statements, globals, small words. -/
namespace DL
open PySem L2 PyProof.Rows
section
variable {X : Cx} {G : Gm} {E : XK} {pos : Pos} {tg : Expr}
theorem cs_lcV {i : Nat} {y : Str} {py : Pos} {elt iter : Expr} {ifs : List Expr} {scope : Scope} {own : List (Str × Nat)} {spos : Pos} {S : FI} {t : TG} {g : TGd} {T : FT} {F : FE} (hN : X.N.Nodup) (hi : PI X tg iter (iE G E S)) (ok : BlkOk X.N X.env.scope scope own)
    (hg : ∀ (s : Shared) (H : Hp) (C : Addr) (cl : List (Str × Addr)) (fp : List Addr), PG (X.blk s H scope (compEnvC scope cl C X.env) fp) tg t) (hl : TgL G (own.map (·.2)) t g)
    (ht : ∀ (s : Shared) (H : Hp) (C : Addr) (cl : List (Str × Addr)) (fp : List Addr), PTs (X.blk s H scope (compEnvC scope cl C X.env) fp) ifs (ttD G E0 T))
    (he : ∀ (s : Shared) (H : Hp) (C : Addr) (cl : List (Str × Addr)) (fp : List Addr), PE (X.blk s H scope (compEnvC scope cl C X.env) fp) elt (tD G E0 F))
    (hsw : swapsWith (.ListComp elt [⟨tg, iter, ifs, 0⟩] scope pos) (some (.Name y py)) spos.line X.env = pure true := by exact sw_true rfl rfl rfl (by decide +kernel)) (hy : X.N[i]? = some y := by rfl) (hyl : X.env.scope.names.lookup y = some .local := by rfl)
    (hc : X.calm = true := by rfl) (hs : ∀ x, foldedSetIterable iter X.env x = pure x := by intro _; rfl) : PS X (.Assign [.Name y py] (.ListComp elt [⟨tg, iter, ifs, 0⟩] scope pos) spos) (sD G E (sSet i (fL (fLc S (own.map (·.2)) g T F)))) :=
  cs_ofF (cs_setLc (i := i) hN hi ok hg hl ht he hsw hy hyl hc hs) (lc_link hl)
section
variable {elt tg1 iter iter1 : Expr} {ifs ifs1 : List Expr} {scope : Scope} {own : List (Str × Nat)} {vs1 : List Nat} {S S1 : FI} {t t1 : TG} {g g1 : TGd} {T T1 : FT} {F : FE}
theorem cs_setLc2 {i : Nat} {y : Str} {py spos : Pos} (hN : X.N.Nodup) (hi : PI X tg iter (iE G E S)) (ok : BlkOk X.N X.env.scope scope own)
    (hg : ∀ (s : Shared) (H : Hp) (C : Addr) (cl : List (Str × Addr)) (fp : List Addr), PG (X.blk s H scope (compEnvC scope cl C X.env) fp) tg t) (hl : TgL G (own.map (·.2)) t g)
    (ht : ∀ (s : Shared) (H : Hp) (C : Addr) (cl : List (Str × Addr)) (fp : List Addr), PTs (X.blk s H scope (compEnvC scope cl C X.env) fp) ifs (ttD G E0 T))
    (hi1 : ∀ (s : Shared) (H : Hp) (C : Addr) (cl : List (Str × Addr)) (fp : List Addr), PI (X.blk s H scope (compEnvC scope cl C X.env) fp) tg1 iter1 (iS G E0 S1))
    (hg1 : ∀ (s : Shared) (H : Hp) (C : Addr) (cl : List (Str × Addr)) (fp : List Addr), PG (X.blk s H scope (compEnvC scope cl C X.env) fp) tg1 t1) (hl1 : TgL G vs1 t1 g1)
    (ht1 : ∀ (s : Shared) (H : Hp) (C : Addr) (cl : List (Str × Addr)) (fp : List Addr), PTs (X.blk s H scope (compEnvC scope cl C X.env) fp) ifs1 (ttD G E0 T1))
    (he : ∀ (s : Shared) (H : Hp) (C : Addr) (cl : List (Str × Addr)) (fp : List Addr), PE (X.blk s H scope (compEnvC scope cl C X.env) fp) elt (tD G E0 F))
    (hsw : swapsWith (.ListComp elt [⟨tg, iter, ifs, 0⟩, ⟨tg1, iter1, ifs1, 0⟩] scope pos) (some (.Name y py)) spos.line X.env = pure true := by exact sw_true rfl rfl rfl (by decide +kernel))
    (hy : X.N[i]? = some y := by rfl) (hyl : X.env.scope.names.lookup y = some .local := by rfl) (hv : ∀ i ∈ vs1, i ∈ own.map (·.2) := by decide) (hc : X.calm = true := by rfl) (hs : ∀ x, foldedSetIterable iter X.env x = pure x := by intro _; rfl) (hs1 : ∀ env x, foldedSetIterable iter1 env x = pure x := by intro _ _; rfl) :
    PS X (.Assign [.Name y py] (.ListComp elt [⟨tg, iter, ifs, 0⟩, ⟨tg1, iter1, ifs1, 0⟩] scope pos) spos) (sD G E (sSet i (fL (fLc2 S (own.map (·.2)) g T S1 vs1 g1 T1 F)))) :=
  cs_ofF (ps_setLc2 hc hN hy hyl hsw hi ok hv hg ht hi1 hg1 ht1 he hs hs1) (lc2_link hl hl1)
end
/-- a module's value -/
theorem ce_gval {x : Str} {v : V} {d : D} {u : Value} {pos : Pos} (hm : X.mg x = some u) (r : RelV v u) (rp : ∀ w, Rep G w d v) (hg : Gl X x := by rfl) (hd : (x == ("__debug__" : Str)) = false := by decide) : PE X (.Name x pos) (tD G E (fC d)) := ce_const (pe_glob hg hm r hd) rp
end
def sParOO (i j : Nat) (A F : FA) : FS := fun B EX r => A r (fun d => F r (fun ds => B.nx ((r.set i (.own d)).set j (.own ds))) EX) EX
section
variable {X : Cx} {G : Gm} {E : XK} {pos : Pos} {i j : Nat} {x y : Str} {a b : Expr} {px py pt : Pos} {kt k2 pt2}
theorem cs_parOO {A F : FA} (ha : PE X a (fD G E A)) (hb : PE X b (fD G E F)) (hN : X.N.Nodup) (hc : X.calm = true := by rfl) (hi : X.N[i]? = some x := by rfl) (hj : X.N[j]? = some y := by rfl) (hij : i ≠ j := by decide)
    (hx : X.env.scope.names.lookup x = some .local := by rfl) (hy : X.env.scope.names.lookup y = some .local := by rfl) (h1 : starEach [a, b] X.env = (false, eval a X.env) :: starEach [b] X.env := by rfl) (h2 : starEach [b] X.env = (false, eval b X.env) :: starEach [] X.env := by rfl)
    (hw : swappedStores [.Tuple [.Name x px, .Name y py] kt pt] (.Tuple [a, b] k2 pt2) X.env = pure (some [x, y]) := by rfl)
    (hs : swapsWithSole [.Tuple [.Name x px, .Name y py] kt pt] (.Tuple [a, b] k2 pt2) pos.line X.env = pure false := by rfl) :
    PS X (.Assign [.Tuple [.Name x px, .Name y py] kt pt] (.Tuple [a, b] k2 pt2) pos) (sD G E (sParOO i j A F)) := (ps_par hc hN hi hj hij hx hy (pa_cons ha (pa_cons hb pa_nil h2) h1) hw hs).weak fun B s H ⟨w0, H0, wk, r, w, A', EX, fr, sb, lk, ll, f⟩ =>
  ⟨w0, H0, r, w, _, EX, fr, lk, f, fun d p vs w1 H1 l1 ok1 hn m h1 r1 q1 => ⟨w0, H0, r, w1, _, EX, fr.go l1 ok1, lk, q1, fun ds p2 vs2 w2 H2 l2 ok2 hn2 m2 h2 r2 q2 =>
    ⟨.ref p, .ref p2, rfl, by
      have f1 := (fr.go l1 ok1).setOwn (i := i) (fun j y b e1 e2 e3 => fr.ownAt j y b e1 e2 e3) hn (SlotOk.own m h1 r1)
      have f2 := f1.go l2 ok2
      exact ll.nx _ _ w2 H2 (f2.setOwn f1.ownAt hn2 (SlotOk.own m2 h2 r2)) (sb.trans (l1.sub.trans l2.sub)) q2⟩⟩⟩
end
def yParO (i j : Nat) (a : List Sl → R D) (f : List Sl → R (List D)) (r : List Sl) : RS := (a r).st fun d => (f r).st fun ds => frc d fun d => frcs ds fun ds => .nx ((r.set i (.val d)).set j (.own ds))
def yParOO (i j : Nat) (a f : List Sl → R (List D)) (r : List Sl) : RS := (a r).st fun d => (f r).st fun ds => .nx ((r.set i (.own d)).set j (.own ds))
theorem s_parOO {i j : Nat} {A F : FA} {a f : List Sl → R (List D)} (ha : CF A a) (hf : CF F f) : CS (sParOO i j A F) (yParOO i j a f) := fun r r' B EX s h =>
  ha r r' _ EX s ((hold_st h).imp fun d h1 => hf r r' _ EX s ((hold_st h1).imp fun ds h2 => h2 _ ((s.set i _).set j _)))
theorem rep_dic {G : Gm} {w : Wd} {a : Addr} {ks : List Key} {ds : List D} {vs : List V} (h : KDic G.K G.pw a (ks.zip vs)) (hl : ks.length = vs.length) (r : Reps G w ds vs) : Rep G w (.dic ks ds) (.ref a) := by
  unfold Rep
  exact ⟨a, vs, rfl, .inr h, hl, r⟩
theorem hu64 {k : Nat} {A : Around} (hr : Room k A) : A.units + 64 < cLine := by have := hr.un; omega
theorem hu65 {k : Nat} {A : Around} (hr : Room k A) : A.units + 65 < cLine := by have := hr.un; omega
theorem hu1 {k : Nat} {A : Around} (hr : Room k A) : A.units + 1 < cLine := by have := hr.un; omega
end DL
namespace DL
open PySem L2
/-- BlkOk, by a look -/
def blkB (N : List Str) (sc scope : Scope) (own : List (Str × Nat)) : Bool :=
  (match scope.kind with | .function => true | _ => false) && scope.names.all (fun y => match scope.names.lookup y.1 with | some k => decide (k = y.2) | none => false) && own.all (fun p => match N[p.2]? with | some n => decide (n = p.1) | none => false) &&
  scope.names.all (fun y => !(decide (y.2 = .free)) || (match sc.names.lookup y.1 with | some k => decide (k = .cell) || decide (k = .free) | none => false)) &&
  scope.names.all (fun y => !(decide (y.2 = .local) || decide (y.2 = .cell)) || (own.map (·.1)).contains y.1 || !(N.contains y.1))
theorem blk_mk {N : List Str} {sc scope : Scope} {own : List (Str × Nat)} (h : blkB N sc scope own = true) : BlkOk N sc scope own := by
  unfold blkB at h
  simp only [Bool.and_eq_true, List.all_eq_true] at h
  obtain ⟨⟨⟨⟨h1, h2⟩, h3⟩, h4⟩, h5⟩ := h
  refine ⟨?_, fun y hy => ?_, fun p hp => ?_, fun y hy hf => ?_, fun y hy hl => ?_⟩
  · cases e : scope.kind <;> rw [e] at h1 <;> first | rfl | cases h1
  · have q := h2 y hy
    cases e : scope.names.lookup y.1 with
    | none => rw [e] at q; cases q
    | some k => rw [e] at q; rw [of_decide_eq_true q]
  · have q := h3 p hp
    cases e : N[p.2]? with
    | none => rw [e] at q; cases q
    | some k => rw [e] at q; rw [of_decide_eq_true q]
  · have q := h4 y hy
    rw [hf] at q
    cases e : sc.names.lookup y.1 with
    | none => rw [e] at q; cases q
    | some k =>
      rw [e] at q
      have q' : (decide (k = .cell) || decide (k = .free)) = true := by simpa using q
      rw [Bool.or_eq_true] at q'
      exact q'.imp (fun z => by rw [of_decide_eq_true z]) fun z => by rw [of_decide_eq_true z]
  · have q := h5 y hy
    have z : (decide (y.2 = .local) || decide (y.2 = .cell)) = true := by
      rw [Bool.or_eq_true]
      exact hl.imp (fun e => decide_eq_true e) fun e => decide_eq_true e
    rw [z] at q
    simp only [Bool.not_true, Bool.false_or, Bool.or_eq_true] at q
    rcases q with q | q
    · exact .inl (List.contains_iff_mem.mp q)
    · refine .inr fun m => ?_
      rw [List.contains_iff_mem.mpr m] at q
      cases q
end DL
/-! Plain words for the laws: how long a text of data is, reprs compared, loops, places. -/
namespace DL
open PySem L2 PyProof.Rows
mutual
/-- no shorter than the text of d -/
def wt : D → Nat
  | .non => 4
  | .bl _ => 5
  | .int i => i.natAbs.log2 + 2
  | .str s => 10 * s.length + 2
  | .tup ds => wts ds + 3
  | .lst ds => wts ds + 3
  | _ => 0
def wts : List D → Nat
  | [] => 0
  | d :: ds => wt d + 2 + wts ds
end
mutual
/-- plain, of that depth at most, its ints not too long, its signs signs -/
def okd : Nat → D → Bool
  | _, .non => true
  | _, .bl _ => true
  | _, .int i => decide (i.natAbs.log2 < 1920)
  | _, .str s => s.cps.toList.all fun c => decide (c < 16 ^ 8)
  | n + 1, .tup ds => okds n ds
  | n + 1, .lst ds => okds n ds
  | _, _ => false
def okds : Nat → List D → Bool
  | _, [] => true
  | n, d :: ds => okd n d && okds n ds
end
mutual
theorem okd_plain : ∀ (n : Nat) (d : D), okd n d = true → plain d = true
  | _, .non, _ => rfl
  | _, .bl _, _ => rfl
  | _, .int _, _ => rfl
  | _, .str _, _ => rfl
  | 0, .tup _, h => by unfold okd at h; cases h
  | 0, .lst _, h => by unfold okd at h; cases h
  | n + 1, .tup ds, h => by unfold okd at h; unfold plain; exact okds_plain n ds h
  | n + 1, .lst ds, h => by unfold okd at h; unfold plain; exact okds_plain n ds h
  | _, .dic _ _, h => by unfold okd at h; cases h
  | _, .obj _ _, h => by unfold okd at h; cases h
  | _, .exc _ _, h => by unfold okd at h; cases h
  | _, .jar, h => by unfold okd at h; cases h
theorem okds_plain : ∀ (n : Nat) (ds : List D), okds n ds = true → plains ds = true
  | _, [], _ => rfl
  | n, d :: ds, h => by
    unfold okds at h
    rw [Bool.and_eq_true] at h
    unfold plains
    rw [okd_plain n d h.1, okds_plain n ds h.2]; rfl
end
mutual
theorem okd_showable : ∀ (n : Nat) (d : D), okd n d = true → (pd d).showable = true ∧ (pd d).depth ≤ n
  | _, .non, _ => ⟨by simp [pd, PyData.showable], by simp [pd, PyData.depth]⟩
  | _, .bl _, _ => ⟨by simp [pd, PyData.showable], by simp [pd, PyData.depth]⟩
  | _, .int i, h => ⟨by simpa [pd, PyData.showable, okd] using h, by simp [pd, PyData.depth]⟩
  | _, .str _, _ => ⟨by simp [pd, PyData.showable], by simp [pd, PyData.depth]⟩
  | 0, .tup _, h => by unfold okd at h; cases h
  | 0, .lst _, h => by unfold okd at h; cases h
  | n + 1, .tup ds, h => by
    unfold okd at h
    have := okds_showable n ds h
    exact ⟨by simp [pd, PyData.showable, this.1], by simp [pd, PyData.depth]; exact this.2⟩
  | n + 1, .lst ds, h => by
    unfold okd at h
    have := okds_showable n ds h
    exact ⟨by simp [pd, PyData.showable, this.1], by simp [pd, PyData.depth]; exact this.2⟩
  | _, .dic _ _, h => by unfold okd at h; cases h
  | _, .obj _ _, h => by unfold okd at h; cases h
  | _, .exc _ _, h => by unfold okd at h; cases h
  | _, .jar, h => by unfold okd at h; cases h
theorem okds_showable : ∀ (n : Nat) (ds : List D), okds n ds = true → PyData.showableAll (pds ds) = true ∧ PyData.depthAll (pds ds) ≤ n
  | _, [], _ => ⟨by simp [pds, PyData.showableAll], by simp [pds, PyData.depthAll]⟩
  | n, d :: ds, h => by
    unfold okds at h
    rw [Bool.and_eq_true] at h
    have a := okd_showable n d h.1
    have b := okds_showable n ds h.2
    exact ⟨by simp [pds, PyData.showableAll, a.1, b.1], by simp only [pds, PyData.depthAll]; exact Nat.max_le.mpr ⟨a.2, b.2⟩⟩
end
mutual
theorem shown_wt : ∀ (n : Nat) (d : D), okd n d = true → (pd d).shown.length ≤ wt d
  | _, .non, _ => by simp only [pd, PyData.shown, wt]; decide
  | _, .bl b, _ => by cases b <;> (simp only [pd, PyData.shown, wt]; decide)
  | _, .int i, h => by
    simp only [pd, PyData.shown, wt]
    rw [PySem.ofString_length]
    exact int_text_length_le (a := i) (k := i.natAbs.log2 + 1) (by omega) (by omega)
  | _, .str s, h => by
    simp only [pd, PyData.shown, wt]
    refine StrLaws.reprText_len s fun c hc => ?_
    unfold okd at h
    exact of_decide_eq_true (List.all_eq_true.mp h c hc)
  | 0, .tup _, h => by unfold okd at h; cases h
  | 0, .lst _, h => by unfold okd at h; cases h
  | n + 1, .tup ds, h => by
    unfold okd at h
    have h1 := showns_wt n ds h
    have h2 := tupleText_len_le (PyData.shownAll (pds ds))
    simp only [pd, PyData.shown, wt]
    omega
  | n + 1, .lst ds, h => by
    unfold okd at h
    have h1 := showns_wt n ds h
    have h2 := listText_len_le (PyData.shownAll (pds ds))
    simp only [pd, PyData.shown, wt]
    omega
  | _, .dic _ _, h => by unfold okd at h; cases h
  | _, .obj _ _, h => by unfold okd at h; cases h
  | _, .exc _ _, h => by unfold okd at h; cases h
  | _, .jar, h => by unfold okd at h; cases h
theorem showns_wt : ∀ (n : Nat) (ds : List D), okds n ds = true → ((PyData.shownAll (pds ds)).map (·.length)).sum + 2 * (PyData.shownAll (pds ds)).length ≤ wts ds
  | _, [], _ => by simp [pds, PyData.shownAll]
  | n, d :: ds, h => by
    unfold okds at h
    rw [Bool.and_eq_true] at h
    have a := shown_wt n d h.1
    have b := showns_wt n ds h.2
    simp only [pds, PyData.shownAll, List.map_cons, List.sum_cons, List.length_cons, wts]
    omega
end
theorem shownOK_of {d : D} (h : okd 60 d = true) (hw : wt d ≤ sizeLine) : shownOK d :=
  ⟨okd_plain _ d h, (okd_showable _ d h).1, (okd_showable _ d h).2, Nat.le_trans (shown_wt _ d h) hw⟩
mutual
def eqDB : D → D → Bool
  | .non, .non => true
  | .bl a, .bl b => a == b
  | .int a, .int b => decide (a = b)
  | .str a, .str b => decide (a.cps.toList = b.cps.toList)
  | .tup a, .tup b => eqDBs a b
  | .lst a, .lst b => eqDBs a b
  | _, _ => false
def eqDBs : List D → List D → Bool
  | [], [] => true
  | a :: as, b :: bs => eqDB a b && eqDBs as bs
  | _, _ => false
end
mutual
theorem eqDB_eq : ∀ (a b : D), eqDB a b = true → a = b
  | .non, b, h => by cases b <;> first | rfl | (unfold eqDB at h; cases h)
  | .bl x, b, h => by cases b <;> first | (unfold eqDB at h; cases h; done) | (unfold eqDB at h; exact congrArg D.bl (by simpa using h))
  | .int x, b, h => by cases b <;> first | (unfold eqDB at h; cases h; done) | (unfold eqDB at h; exact congrArg D.int (of_decide_eq_true h))
  | .str x, b, h => by
    cases b <;> first | (unfold eqDB at h; cases h; done) | skip
    rename_i y
    unfold eqDB at h
    have e := of_decide_eq_true h
    cases x; cases y
    exact congrArg (fun z => D.str ⟨z⟩) (Array.toList_inj.mp e)
  | .tup x, b, h => by
    cases b <;> first | (unfold eqDB at h; cases h; done) | skip
    unfold eqDB at h
    exact congrArg D.tup (eqDBs_eq _ _ h)
  | .lst x, b, h => by
    cases b <;> first | (unfold eqDB at h; cases h; done) | skip
    unfold eqDB at h
    exact congrArg D.lst (eqDBs_eq _ _ h)
  | .dic _ _, b, h => by cases b <;> (unfold eqDB at h; cases h)
  | .obj _ _, b, h => by cases b <;> (unfold eqDB at h; cases h)
  | .exc _ _, b, h => by cases b <;> (unfold eqDB at h; cases h)
  | .jar, b, h => by cases b <;> (unfold eqDB at h; cases h)
theorem eqDBs_eq : ∀ (a b : List D), eqDBs a b = true → a = b
  | [], b, h => by cases b <;> first | rfl | (unfold eqDBs at h; cases h)
  | x :: xs, b, h => by
    cases b <;> first | (unfold eqDBs at h; cases h; done) | skip
    unfold eqDBs at h
    rw [Bool.and_eq_true] at h
    rw [eqDB_eq _ _ h.1, eqDBs_eq _ _ h.2]
end
theorem bothS_refl (z : Str) : bothS (.str z) (.str z) = some true := by
  unfold bothS
  simp
theorem CF.use {F : FE} {c : List Sl → R D} (h : CF F c) {r : List Sl} {d : D} (hr : r.map (adr 0) = r) (e : c r = .ok d) {Q : D → Prop} {EX : XP} (q : Q d) : F r Q EX := h (x := 0) r r Q EX hr.symm (by rw [e]; exact q)
theorem CS.use {F : FS} {c : List Sl → RS} (h : CS F c) {r r1 : List Sl} (hr : r.map (adr 0) = r) (e : c r = .nx r1) (hr1 : r1.map (adr 0) = r1) {A : DE} {EX : XP} (k : A.nx r1) : F A EX r := h (x := 0) r r A EX hr.symm (by
  rw [e]
  intro s hs
  rw [show s = r1.map (adr 0) from hs, hr1]
  exact k)
theorem atI_nat {α : Type} {xs : List α} {i : Nat} (h : i < xs.length) : atI xs (i : Int) = some xs[i] := by
  have e : ixN xs.length (i : Int) = some i := by
    unfold ixN
    rw [if_pos (by omega), if_pos (by omega)]
    simp
  unfold atI
  rw [e]
  simp [h]
theorem fmod_lt (n : Int) {m : Int} (h : 0 < m) : 0 ≤ n.fmod m ∧ n.fmod m < m := ⟨Int.fmod_nonneg_of_pos n h, Int.fmod_lt_of_pos n h⟩
theorem rangeD_int {lo hi : Int} {d : D} (h : d ∈ rangeD lo hi) : ∃ k : Int, d = .int k ∧ lo ≤ k ∧ k < hi := by
  unfold rangeD at h
  obtain ⟨i, hi', rfl⟩ := List.mem_map.mp h
  have := List.mem_range.mp hi'
  exact ⟨_, rfl, by omega, by omega⟩
theorem rangeD_len {lo hi : Int} : (rangeD lo hi).length = (hi - lo).toNat := by
  unfold rangeD
  rw [List.length_map, List.length_range]
end DL
/-! The data layer, part 17: what an own class answers to len, in, str, ==. -/
namespace DL
open PySem L2 PyProof.Rows
section
variable {G : Gm} {X : Cx} {E : XK} {k : Nat} {f C : Addr} {fd : FuncData} {ps : List Str} {sp : Sp}
/-- a def that lets nothing out is run at an Around -/
theorem run_at {A' : Around} {pins : List (Addr × Obj)} {σ : L2.St} {H : Hp} {s : Shared} {Q : VK} {us : List Value} {vs : List V} {E' : Value → Shared → Prop} (F : FnG X.prog X.w X.K X.mg X.base k f fd ps sp) (hg : A'.guards = some []) (hr : Room k A') (e0 : Env0 X.prog X.w X.K X.mg X.base A' X.stack s H)
    (hb : Binds X.K fd ps []) (I : Inv X pins σ H s) (r : Vals vs us) (h : sp vs H Q E0) : wpAny (model X.prog X.w) A' (call (.ref f) us) (EP X pins σ Q) E' s := by
  have nl : (us ++ []).length = ps.length := by
    rw [List.append_nil]
    exact r.length.symm.trans (F.len _ _ _ _ h)
  have hbs := hb s us I.kIn nl
  rw [List.append_nil] at hbs
  refine wpAny_call (codeAny_mono (F.run A' X.stack s H ⟨us, []⟩ us vs Q E0 hg hr e0 hbs r h) ?_)
  rintro (er | fl) s' hq
  · obtain ⟨_, _, _, _, _, _, _, _, _, _, _, _, z⟩ := hq
    exact z.elim
  · cases fl with
    | ret u =>
      obtain ⟨v, H', I3, rv, q3⟩ := I.after hq
      exact ⟨v, H', I3, rv, q3⟩
    | next => exact hq.elim
    | brk => exact hq.elim
    | cont => exact hq.elim
theorem cr_lenO (F : FnG X.prog X.w X.K X.mg X.base k f fd ps sp) (hg : X.A.guards = some []) (hr : Room (k + 1) X.A) (hb : Binds X.K fd ps []) (hs : PySem.W.findIn X.K (.ref C) "__len__" = some (some (.ref f))) (hf : PySem.W.isFn X.K (.ref f) = true) :
    CallR X (.builtin "len") (fun xs H Q => ∃ a dx fs, xs = [.ref a] ∧ H a = some (.ins C dx fs) ∧ sp [.ref a] H (fun v H' => ∃ n : Int, v = .int n ∧ (0 ≤ n ∧ n < 2 ^ 63) ∧ Q (.int n) H') E0) := by
  intro pins s σ H xs us Q I r h
  obtain ⟨a, dx, fs, rfl, ea, h⟩ := h
  obtain ⟨u, rfl, rx⟩ := vals1 r
  cases (show u = Value.ref a from rx)
  obtain ⟨mA, O, _⟩ := ins_get I.hok ea
  obtain ⟨od, J, _⟩ := O.look
  obtain ⟨m, hF⟩ := I.fr
  refine PySem.W.len_K hF I.ok.mod.kin J hs hf ?_
  refine wpAny_mono (run_at F hg hr.in1 I.env0.in1 hb I (vs := [.ref a]) (us := [.ref a]) (.cons rfl .nil) h) ?_ fun _ _ y => y
  rintro u s' ⟨v, H', I', rv, n, ev, h0, q⟩
  subst ev
  obtain ⟨t, rfl⟩ := (show ∃ t, u = Value.int n t from rv)
  exact ⟨h0, .int n, H', I'.tok _, ⟨_, rfl⟩, q⟩
theorem op_inO {neg : Bool} {op : CmpOp} (hop : op = if neg then .NotIn else .In) (F : FnG X.prog X.w X.K X.mg X.base k f fd ps sp) (hg : X.A.guards = some []) (hr : Room k X.A) (hb : Binds X.K fd ps []) (hs : PySem.W.findIn X.K (.ref C) "__contains__" = some (some (.ref f))) (hf : PySem.W.isFn X.K (.ref f) = true) :
    OpR X (compareOp op) (fun x y H Q => ∃ a dx fs, y = .ref a ∧ H a = some (.ins C dx fs) ∧ sp [.ref a, x] H (fun v H' => ∃ b : Bool, v = .bl b ∧ Q (.bl (neg != b)) H') E0) := by
  intro pins s σ H x y v u Q I rx ry h
  obtain ⟨a, dx, fs, rfl, ea, h⟩ := h
  cases (show u = Value.ref a from ry)
  obtain ⟨mA, O, _⟩ := ins_get I.hok ea
  obtain ⟨od, J, _⟩ := O.look
  obtain ⟨m, hF⟩ := I.fr
  have run := run_at (E' := X.xe) F hg hr I.env0 hb I (vs := [.ref a, x]) (us := [.ref a, v]) (.cons rfl (.cons rx .nil)) h
  cases neg with
  | false =>
    subst hop
    refine PySem.W.in_K hF I.ok.mod.kin J hs hf (wpAny_mono run ?_ fun _ _ y => y)
    rintro u s' ⟨z, H', I', rz, b, ez, q⟩
    subst ez
    cases (show u = Value.bool b from rz)
    rw [Bool.false_bne] at q
    exact wpAny_truthy_bool ⟨.bl b, H', I', rfl, q⟩
  | true =>
    subst hop
    refine PySem.W.notIn_K hF I.ok.mod.kin J hs hf (wpAny_mono run ?_ fun _ _ y => y)
    rintro u s' ⟨z, H', I', rz, b, ez, q⟩
    subst ez
    cases (show u = Value.bool b from rz)
    rw [Bool.true_bne] at q
    exact wpAny_truthy_bool ⟨.bl _, H', I', rfl, q⟩
/-- str(o) -/
theorem cr_strO (F : FnG X.prog X.w X.K X.mg X.base k f fd ps sp) (hg : X.A.guards = some []) (hr : Room (k + 2) X.A) (hb : Binds X.K fd ps []) (hs : PySem.W.findIn X.K (.ref C) "__str__" = some (some (.ref f))) (hf : PySem.W.isFn X.K (.ref f) = true) :
    CallR X (.type "str") (fun xs H Q => ∃ a dx fs, xs = [.ref a] ∧ H a = some (.ins C dx fs) ∧ sp [.ref a] H (fun v H' => ∃ z : Str, v = .str z ∧ Q (.str z) H') E0) := by
  intro pins s σ H xs us Q I r h
  obtain ⟨a, dx, fs, rfl, ea, h⟩ := h
  obtain ⟨u, rfl, rx⟩ := vals1 r
  cases (show u = Value.ref a from rx)
  obtain ⟨mA, O, _⟩ := ins_get I.hok ea
  obtain ⟨od, J, _⟩ := O.look
  have hu : X.A.in1.in1.units < cLine := by
    have := hr.un
    show X.A.units + 1 + 1 < cLine
    omega
  refine PySem.W.kso_call hu I.kIn J hs hf ?_
  refine wpAny_mono (run_at F hg hr.in1.in1 I.env0.in1.in1 hb I (vs := [.ref a]) (us := [.ref a]) (.cons rfl .nil) h) ?_ fun _ _ y => y
  rintro u s' ⟨v, H', I', rv, z, ev, q⟩
  subst ev
  obtain ⟨t, rfl⟩ := (show ∃ t, u = Value.str z t from rv)
  exact ⟨.str z, H', I', ⟨_, rfl⟩, q⟩
/-- a == b, both of that class -/
theorem op_eqO (F : FnG X.prog X.w X.K X.mg X.base k f fd ps sp) (hg : X.A.guards = some []) (hr : Room k X.A) (hb : Binds X.K fd ps []) (hs : PySem.W.findIn X.K (.ref C) "__eq__" = some (some (.ref f))) (hf : PySem.W.isFn X.K (.ref f) = true) :
    OpR X (compareOp .Eq) (fun x y H Q => ∃ a b dx dy fs gs, x = .ref a ∧ y = .ref b ∧ H a = some (.ins C dx fs) ∧ H b = some (.ins C dy gs) ∧ sp [.ref a, .ref b] H (fun v H' => ∃ z : Bool, v = .bl z ∧ Q (.bl z) H') E0) := by
  intro pins s σ H x y v u Q I rx ry h
  obtain ⟨a, b, dx, dy, fs, gs, rfl, rfl, ea, eb, h⟩ := h
  cases (show v = Value.ref a from rx)
  cases (show u = Value.ref b from ry)
  obtain ⟨mA, O, _⟩ := ins_get I.hok ea
  obtain ⟨od, J, _⟩ := O.look
  obtain ⟨mB, O', _⟩ := ins_get I.hok eb
  obtain ⟨od', J', _⟩ := O'.look
  obtain ⟨m, hF⟩ := I.fr
  have hu : X.A.units < cLine := by have := hr.un; omega
  show wpAny _ _ (richCompare .Eq (.ref a) (.ref b)) _ _ _
  refine PySem.W.cmp_K (op := .Eq) (tb := .ref C) hu hF I.ok.mod.kin J J'.type (by simp [PySem.W.notFirst]) hs hf ?_
  refine wpAny_mono (run_at F hg hr I.env0 hb I (vs := [.ref a, .ref b]) (us := [.ref a, .ref b]) (.cons rfl (.cons rfl .nil)) h) ?_ fun _ _ y => y
  rintro u s' ⟨z, H', I', rz, t, ez, q⟩
  subst ez
  cases (show u = Value.bool t from rz)
  exact ⟨.bl t, H', I', rfl, q⟩
end

/-! ### the same over data -/
section
variable {G : Gm} {X : Cx} {k : Nat} {f : Addr} {fd : FuncData} {ps : List Str} {sp : DSp}
def lenO (c : Nat) (sp : DSp) : CG := fun ds Q => match ds with
  | [.obj c' fs] => c' = c ∧ sp [.obj c' fs] (fun d => match d with
    | .int n => (0 ≤ n ∧ n < 2 ^ 63) ∧ Q (.int n)
    | _ => False) NoX
  | _ => False
def strO (c : Nat) (sp : DSp) : CG := fun ds Q => match ds with
  | [.obj c' fs] => c' = c ∧ sp [.obj c' fs] (fun d => match d with
    | .str n => Q (.str n)
    | _ => False) NoX
  | _ => False
theorem See.obj_rep {H0 : Hp} {w : Wd} {H : Hp} {c : Nat} {fs : List D} {v : V} (h : See G H0 w H (.obj c fs) v) : Rep G w (.obj c fs) v := h.rep (fun _ z => nomatch z) (fun _ _ z => nomatch z)
theorem cal_lenO {c : Nat} (F : FnG X.prog X.w X.K X.mg X.base k f fd ps (lift G sp)) (hb : Binds X.K fd ps []) (hg : X.A.guards = some []) (hr : Room (k + 1) X.A) (hs : PySem.W.findIn X.K (.ref (G.cls c)) "__len__" = some (some (.ref f))) (hf : PySem.W.isFn X.K (.ref f) = true) :
    CaL G X (.builtin "len") (lenO c sp) := by
  refine ⟨_, cr_lenO F hg hr hb hs hf, fun H0 w H ds vs Q QD ok sx g k => ?_⟩
  match ds, g with
  | [.obj c' fs], g =>
    obtain ⟨hc, g2⟩ := g
    subst hc
    obtain ⟨v, rfl, s1⟩ := sx.one
    have rp := s1.obj_rep
    obtain ⟨a, dx, gs, rfl, e, _, _, htb⟩ := rp.obj_of
    refine ⟨a, dx, gs, rfl, ok.sub _ _ e, w, [.obj c' fs], _, NoX, ok, Reps.cons rp Reps.nil, g2, fun d v w' H' l ok' r q => ?_, LkE.none htb⟩
    cases d <;> try exact q.elim
    rename_i n
    exact ⟨n, r.int_of, q.1, k _ _ w' H' l ok' Rep.int q.2⟩
theorem cal_strO {c : Nat} (F : FnG X.prog X.w X.K X.mg X.base k f fd ps (lift G sp)) (hb : Binds X.K fd ps []) (hg : X.A.guards = some []) (hr : Room (k + 2) X.A) (hs : PySem.W.findIn X.K (.ref (G.cls c)) "__str__" = some (some (.ref f))) (hf : PySem.W.isFn X.K (.ref f) = true) :
    CaL G X (.type "str") (strO c sp) := by
  refine ⟨_, cr_strO F hg hr hb hs hf, fun H0 w H ds vs Q QD ok sx g k => ?_⟩
  match ds, g with
  | [.obj c' fs], g =>
    obtain ⟨hc, g2⟩ := g
    subst hc
    obtain ⟨v, rfl, s1⟩ := sx.one
    have rp := s1.obj_rep
    obtain ⟨a, dx, gs, rfl, e, _, _, htb⟩ := rp.obj_of
    refine ⟨a, dx, gs, rfl, ok.sub _ _ e, w, [.obj c' fs], _, NoX, ok, Reps.cons rp Reps.nil, g2, fun d v w' H' l ok' r q => ?_, LkE.none htb⟩
    cases d <;> try exact q.elim
    rename_i n
    exact ⟨n, r.str_of, k _ _ w' H' l ok' Rep.str q⟩
/-- a == b, both of that class -/
def eqO (c : Nat) (sp : DSp) : G2 := fun x y Q => match x, y with
  | .obj c1 fs, .obj c2 gs => c1 = c ∧ c2 = c ∧ sp [.obj c1 fs, .obj c2 gs] (fun d => match d with
    | .bl b => Q (.bl b)
    | _ => False) NoX
  | _, _ => False
theorem opl_eqO {c : Nat} (F : FnG X.prog X.w X.K X.mg X.base k f fd ps (lift G sp)) (hb : Binds X.K fd ps []) (hg : X.A.guards = some []) (hr : Room k X.A) (hs : PySem.W.findIn X.K (.ref (G.cls c)) "__eq__" = some (some (.ref f))) (hf : PySem.W.isFn X.K (.ref f) = true) :
    OpL G X (compareOp .Eq) (eqO c sp) := by
  refine ⟨_, op_eqO F hg hr hb hs hf, fun H0 w H x y v u Q QD ok sx sy g k => ?_⟩
  cases x <;> try exact g.elim
  cases y <;> try exact g.elim
  rename_i c1 fs c2 gs
  obtain ⟨rfl, rfl, g⟩ := g
  have rx := sx.obj_rep
  have ry := sy.obj_rep
  obtain ⟨a, dx, hs1, rfl, e1, _, _, htb⟩ := rx.obj_of
  obtain ⟨b, dy, hs2, rfl, e2, _⟩ := ry.obj_of
  refine ⟨a, b, dx, dy, hs1, hs2, rfl, rfl, ok.sub _ _ e1, ok.sub _ _ e2, w, [.obj _ fs, .obj _ gs], _, NoX, ok, Reps.cons rx (Reps.cons ry Reps.nil), g, fun d v w' H' l ok' r q => ?_, LkE.none htb⟩
  cases d <;> try exact q.elim
  exact ⟨_, r.bl_of, k _ _ w' H' l ok' Rep.bl q⟩
end

/-! ### what they compute -/
def lenOX (c : Nat) (m : List D → R D) : List D → Option D
  | [.obj c' fs] => if c' = c then (match m [.obj c' fs] with
    | .ok (.int n) => gd (0 ≤ n ∧ n < 2 ^ 63) (.int n)
    | _ => none) else none
  | _ => none
theorem g_lenO {c : Nat} {m : List D → R D} : CCG (lenO c (spOf m)) (lenOX c m) := fun ds d Q e q => by
  match ds, e with
  | [.obj c' fs], e =>
    unfold lenOX at e
    dsimp only at e
    by_cases h : c' = c
    · rw [if_pos h] at e
      refine ⟨h, ?_⟩
      unfold spOf
      match z : m [.obj c' fs], e with
      | .ok (.int n), e =>
        obtain ⟨h2, rfl⟩ := gd_some e
        exact ⟨h2, q⟩
    · rw [if_neg h] at e; cases e
def strOX (c : Nat) (m : List D → R D) : List D → Option D
  | [.obj c' fs] => if c' = c then (match m [.obj c' fs] with
    | .ok (.str n) => some (.str n)
    | _ => none) else none
  | _ => none
theorem g_strO {c : Nat} {m : List D → R D} : CCG (strO c (spOf m)) (strOX c m) := fun ds d Q e q => by
  match ds, e with
  | [.obj c' fs], e =>
    unfold strOX at e
    dsimp only at e
    by_cases h : c' = c
    · rw [if_pos h] at e
      refine ⟨h, ?_⟩
      unfold spOf
      match z : m [.obj c' fs], e with
      | .ok (.str n), e => cases e; exact q
    · rw [if_neg h] at e; cases e
def eqOX (c : Nat) (m : List D → R D) : O2 := fun x y => match x, y with
  | .obj c1 fs, .obj c2 gs => if c1 = c ∧ c2 = c then (match m [.obj c1 fs, .obj c2 gs] with
    | .ok (.bl b) => some (.bl b)
    | _ => none) else none
  | _, _ => none
theorem g_eqO {c : Nat} {m : List D → R D} : CG2 (eqO c (spOf m)) (eqOX c m) := fun x y d Q e q => by
  cases x <;> first | (cases e; done) | skip
  cases y <;> first | (cases e; done) | skip
  rename_i c1 fs c2 gs
  unfold eqOX at e
  dsimp only at e
  by_cases h : c1 = c ∧ c2 = c
  · rw [if_pos h] at e
    refine ⟨h.1, h.2, ?_⟩
    unfold spOf
    match z : m [.obj c1 fs, .obj c2 gs], e with
    | .ok (.bl b), e => cases e; exact q
  · rw [if_neg h] at e; cases e
end DL
/-! The data layer, part 18: index, pop. -/
namespace DL
open PySem L2 PyProof.Rows
variable {G : Gm} {X : Cx} {E : XK}

/-! ### o.index(x): a tuple of texts, a list of data -/
def fIxM (A B : FE) : FE := fun r Q EX => A r (fun x => match x with
  | .tup ds => B r (fun y => match y with
    | .str z => (match strsOf ds with
      | some ys => (match ys.findIdx? (fun t => decide (t.cps.toList = z.cps.toList)) with
        | some j => Q (.int (j : Nat))
        | none => False)
      | none => False)
    | _ => False) EX
  | _ => False) EX
theorem str_ext {a b : Str} (h : a.cps.toList = b.cps.toList) : a = b := by
  cases a; cases b
  exact congrArg (fun z => (⟨z⟩ : Str)) (Array.toList_inj.mp h)
theorem find_first {ys : List Str} {z : Str} {j : Nat} (h : ys.findIdx? (fun t => decide (t.cps.toList = z.cps.toList)) = some j) : ys[j]? = some z ∧ ∀ m, m < j → ys[m]? ≠ some z := by
  obtain ⟨hj, h1, h2⟩ := List.findIdx?_eq_some_iff_getElem.mp h
  refine ⟨?_, fun m hm e => ?_⟩
  · rw [List.getElem?_eq_getElem hj, str_ext (of_decide_eq_true h1)]
  · have hm' : m < ys.length := by omega
    rw [List.getElem?_eq_getElem hm'] at e
    have := h2 m hm
    rw [Option.some.inj e] at this
    simp at this
theorem ce_index {o e : Expr} {apos cpos : Pos} {A B : FE} (ho : PE X o (tD G E A)) (he : PE X e (tD G E B)) (hK : X.K = G.K := by rfl) (hs : starEach [e] X.env = (false, eval e X.env) :: starEach [] X.env := by rfl) (hplain : (backTo cpos (starEach [] X.env)).any (·.1) = false := by rfl)
    (hfew : ((backTo cpos (starEach [e] X.env)).all (fun x => !x.1) && (backToKw cpos (keywordEach [] X.env)).all (fun x => x.1.isSome)
      && decide ([e].length + ([] : List Keyword).length + (if ([] : List Keyword).isEmpty then 0 else 1) < 30)) = true := by rfl)
    (hbase : attributeBase o "index" X.env (eval o X.env) = eval o X.env := by rfl) (hline : (apos.endLine == cpos.line) = true := by rfl) : PE X (.Call (.Attribute o "index" apos) [e] [] cpos) (tD G E (fIxM A B)) :=
  PE.weak (pe_mG ty_tup PySem.F.plainAttrs_tuple PySem.F.slot_tuple_index PySem.F.type_tuple_index mt_tup_index ho (pa_cons he pa_nil hs) hbase hfew hline hs hplain) fun s H Q ⟨w0, H0, r, w, QD, EX, fr, lk, f, k⟩ => by
  refine ⟨w0, H0, r, w, _, EX, fr, lk, f, fun x v w1 H1 l1 ok1 r1 q1 => ?_⟩
  cases x <;> try exact q1.elim
  rename_i ds
  obtain ⟨a, vs, rfl, t1, rr⟩ := r1.tup_of
  have t2 := tpT_sub ok1.sub t1
  refine ⟨⟨a, vs, rfl, hK ▸ t2⟩, w0, H0, r, w1, _, EX, fr.go l1 ok1, lk, q1, fun y u w2 H2 l2 ok2 r2 q2 => ?_⟩
  cases y <;> try exact q2.elim
  rename_i z
  dsimp only at q2
  cases e1 : strsOf ds with
  | none => rw [e1] at q2; exact q2.elim
  | some ys =>
    rw [e1] at q2
    dsimp only at q2
    cases e2 : ys.findIdx? (fun t => decide (t.cps.toList = z.cps.toList)) with
    | none => rw [e2] at q2; exact q2.elim
    | some j =>
      rw [e2] at q2
      rw [strsOf_eq e1] at rr
      obtain ⟨h1, h2⟩ := find_first e2
      have t3 := (tpT_sub (fun b o e => ok2.sub b o (l2.sub.hd b o e)) t1).sqt
      rw [rr.strs] at t3
      exact ⟨a, ys, z, j, rfl, by rw [r2.str_of], hK ▸ t3, h1, h2, k _ _ w2 H2 (l1.trans l2) ok2 Rep.int q2⟩
def xIxM (a b : List Sl → R D) (r : List Sl) : R D := (a r).bind fun x => match x with
  | .tup ds => (b r).bind fun y => match y with
    | .str z => (match strsOf ds with
      | some ys => (match ys.findIdx? (fun t => decide (t.cps.toList = z.cps.toList)) with
        | some j => .ok (.int (j : Nat))
        | none => .no)
      | none => .no)
    | _ => .no
  | _ => .no
theorem f_ixM {A B : FE} {a b : List Sl → R D} (ha : CF A a) (hb : CF B b) : CF (fIxM A B) (xIxM a b) := fun r r' Q EX s h => ha r r' _ EX s ((hold_bind h).imp fun x h1 => by
  cases x <;> try exact h1.elim
  rename_i ds
  refine hb r r' _ EX s ((hold_bind h1).imp fun y h2 => ?_)
  cases y <;> try exact h2.elim
  rename_i z
  dsimp only at h2 ⊢
  cases e1 : strsOf ds with
  | none => rw [e1] at h2; exact h2.elim
  | some ys =>
    rw [e1] at h2
    dsimp only at h2 ⊢
    cases e2 : ys.findIdx? (fun t => decide (t.cps.toList = z.cps.toList)) with
    | none => rw [e2] at h2; exact h2.elim
    | some j => rw [e2] at h2; exact h2)

/-! ### x.append(y.pop(e)) -/
theorem Reps.erase {w : Wd} : ∀ {ds : List D} {vs : List V} (n : Nat), Reps G w ds vs → Reps G w (ds.eraseIdx n) (vs.eraseIdx n)
  | [], vs, n, h => by rw [h.of_nil]; exact Reps.nil
  | d :: ds, vs, n, h => by
    obtain ⟨v, r, e, h1, h2⟩ := h.of_cons
    subst e
    cases n with
    | zero => exact h2
    | succ n => exact Reps.cons h1 (Reps.erase n h2)
def sAppPop (i j : Nat) (A : FE) : FS := fun B EX r => match r[i]?, r[j]? with
  | some (.own ds), some (.own _) => ds.length < sizeLine ∧ A r (fun d => match d, r[j]? with
    | .int n, some (.own es) => es.length ≤ sizeLine ∧ ∃ k y, ixN es.length n = some k ∧ es[k]? = some y ∧ B.nx ((r.set j (.own (es.eraseIdx k))).set i (.own (ds ++ [y])))
    | _, _ => False) EX
  | _, _ => False
theorem cs_appPop {i j : Nat} {x y : Str} {e : Expr} {p p2 apos apos2 cpos cpos2 pos : Pos} {A : FE} (he : PE X e (tD G E A)) (hij : i ≠ j := by decide) (hN : X.N[i]? = some x := by rfl) (hM : X.N[j]? = some y := by rfl)
    (hv : Vis X.env.scope x := by first | exact Or.inl rfl | exact Or.inr (Or.inl rfl) | exact Or.inr (Or.inr rfl)) (hw : Vis X.env.scope y := by first | exact Or.inl rfl | exact Or.inr (Or.inl rfl) | exact Or.inr (Or.inr rfl))
    (hs : starEach [e] X.env = (false, eval e X.env) :: starEach [] X.env := by rfl) (hplain : ∀ q, (backTo q (starEach [] X.env)).any (·.1) = false := by intro _; rfl)
    (hs2 : starEach [Expr.Call (.Attribute (.Name y p2) "pop" apos2) [e] [] cpos2] X.env = (false, eval (.Call (.Attribute (.Name y p2) "pop" apos2) [e] [] cpos2) X.env) :: starEach [] X.env := by rfl)
    (hfew : ((backTo cpos2 (starEach [e] X.env)).all (fun x => !x.1) && (backToKw cpos2 (keywordEach [] X.env)).all (fun x => x.1.isSome)
      && decide ([e].length + ([] : List Keyword).length + (if ([] : List Keyword).isEmpty then 0 else 1) < 30)) = true := by rfl)
    (hfew2 : ((backTo cpos (starEach [Expr.Call (.Attribute (.Name y p2) "pop" apos2) [e] [] cpos2] X.env)).all (fun x => !x.1) && (backToKw cpos (keywordEach [] X.env)).all (fun x => x.1.isSome)
      && decide ([Expr.Call (.Attribute (.Name y p2) "pop" apos2) [e] [] cpos2].length + ([] : List Keyword).length + (if ([] : List Keyword).isEmpty then 0 else 1) < 30)) = true := by rfl)
    (hbase : attributeBase (.Name x p) "append" X.env (eval (.Name x p) X.env) = eval (.Name x p) X.env := by rfl) (hbase2 : attributeBase (.Name y p2) "pop" X.env (eval (.Name y p2) X.env) = eval (.Name y p2) X.env := by rfl)
    (hline : (apos.endLine == cpos.line) = true := by rfl) (hline2 : (apos2.endLine == cpos2.line) = true := by rfl) (hd : (x == ("__debug__" : Str)) = false := by decide) (hcd : (x == ("__classdict__" : Str)) = false := by decide) (hd2 : (y == ("__debug__" : Str)) = false := by decide) (hcd2 : (y == ("__classdict__" : Str)) = false := by decide)
    (hsw : swapsWith (.Call (.Attribute (.Name x p) "append" apos) [.Call (.Attribute (.Name y p2) "pop" apos2) [e] [] cpos2] [] cpos) none pos.line X.env = pure false := by rfl) :
    PS X (.Expr (.Call (.Attribute (.Name x p) "append" apos) [.Call (.Attribute (.Name y p2) "pop" apos2) [e] [] cpos2] [] cpos) pos) (sD G E (sAppPop i j A)) :=
  PS.weak (ps_expr (pe_bm PySem.F.plainAttrs_list PySem.F.slot_list_append PySem.F.type_list_append mt_append (pe_var hN hv hd hcd) (pa_cons (pe_bm PySem.F.plainAttrs_list PySem.F.slot_list_pop PySem.F.type_list_pop mt_popAt (pe_var hM hw hd2 hcd2) (pa_cons he pa_nil hs) hbase2 hfew hline2 hs (hplain _)) pa_nil hs2) hbase hfew2 hline hs2 (hplain _)) hsw) fun B s H ⟨w0, H0, wk, r, w, A', EX, fr, sb, lk, ll, f0⟩ => by
  unfold sAppPop at f0
  cases e1 : r[i]? with
  | none => rw [e1] at f0; exact f0.elim
  | some sl =>
    cases e2 : r[j]? with
    | none => rw [e1, e2] at f0; cases sl <;> exact f0.elim
    | some sl2 =>
      rw [e1, e2] at f0
      cases sl <;> try (cases sl2 <;> exact f0.elim)
      cases sl2 <;> try exact f0.elim
      rename_i ds es
      obtain ⟨hz, f0⟩ := f0
      obtain ⟨a, vs, q, m, h1, rp⟩ := fr.slot i _ e1
      obtain ⟨b, us, q', m', h1', rp'⟩ := fr.slot j _ e2
      refine ⟨_, q, ⟨.inl ⟨rfl, vs, .inl (.of h1)⟩, ?_⟩⟩
      refine ⟨_, q', ⟨.inl ⟨rfl, us, .inl (.of h1')⟩, w0, H0, r, w, _, EX, fr, lk, f0, fun d v w1 H1 l1 ok1 r1 q1 => ?_⟩⟩
      cases d <;> try exact q1.elim
      rename_i n
      dsimp only at q1
      obtain ⟨hz2, k, y', hk, hy, q2⟩ := q1
      have fr1 := fr.go l1 ok1
      obtain ⟨a2, vs2, qa, m2, h2, rp2⟩ := fr1.slot i _ e1
      obtain ⟨b2, us2, qb, m3, h3, rp3⟩ := fr1.slot j _ e2
      rw [q] at qa
      cases qa
      rw [q'] at qb
      cases qb
      obtain ⟨u, hu, ru⟩ := rp3.getD hy
      have hk' : ixN us2.length n = some k := by rw [← rp3.length]; exact hk
      obtain ⟨g1, g2, g3, g4⟩ := ixN_seq hk'
      have hlen : us2.length ≤ sizeLine := by rw [← rp3.length]; exact hz2
      refine ⟨b, us2, n, k, u, rfl, by rw [r1.int_of], h3, ?_, ?_, g1, hu, ?_⟩
      · have := sizeLine_eq; omega
      · have := sizeLine_eq; omega
      · have fr2 := fr1.chg (y := .own (es.eraseIdx k)) (o := .lst (us2.eraseIdx k)) e2 rfl q' m3 (SlotOk.own m3 upd_same (rp3.erase k))
        have e1' : (r.set j (.own (es.eraseIdx k)))[i]? = some (.own ds) := by rw [List.getElem?_set_ne fun z => hij z.symm]; exact e1
        obtain ⟨a4, vs4, qa4, m4, h4, rp4⟩ := fr2.slot i _ e1'
        rw [q] at qa4
        cases qa4
        refine ⟨a, vs4, u, rfl, rfl, h4, by rw [← rp4.length]; exact hz, ?_⟩
        have fr3 := fr2.chg (y := .own (ds ++ [y'])) (o := .lst (vs4 ++ [u])) e1' rfl q m4 (SlotOk.own m4 upd_same (rp4.append (Reps.cons ru Reps.nil)))
        exact ll.nx _ _ w1 _ fr3 (sb.trans l1.sub) q2
end DL
/-! The data layer, part 19: calls with keywords and defaults. -/
namespace DL
open PySem L2 PyProof.Rows

/-- where a parameter's value comes from: a place, a keyword, a default -/
inductive Src where
  | p (i : Nat) | k (i : Nat) | d (i : Nat)
def pick {α : Type} (sel : List Src) (us ws ds : List α) : List α := sel.filterMap fun x => match x with
  | .p i => us[i]?
  | .k i => ws[i]?
  | .d i => ds[i]?
theorem pick_cons {α : Type} (x : Src) (sel : List Src) (us ws ds : List α) : pick (x :: sel) us ws ds = (match x with
  | .p i => us[i]?
  | .k i => ws[i]?
  | .d i => ds[i]?).toList ++ pick sel us ws ds := by
  unfold pick
  rw [List.filterMap_cons]
  cases x <;> (dsimp only; split <;> rename_i h <;> rw [h] <;> rfl)
theorem vals_get {i : Nat} : ∀ {vs : List V} {us : List Value}, Vals vs us → Vals (vs[i]?).toList (us[i]?).toList := fun {vs us} h => by
  induction h generalizing i with
  | nil => simp; exact .nil
  | cons r t ih =>
    cases i with
    | zero => exact .cons r .nil
    | succ i => simpa using ih (i := i)
theorem vals_pick {vs zs dvs : List V} {us ws its : List Value} (h1 : Vals vs us) (h2 : Vals zs ws) (h3 : Vals dvs its) : ∀ sel : List Src, Vals (pick sel vs zs dvs) (pick sel us ws its)
  | [] => .nil
  | x :: sel => by
    rw [pick_cons, pick_cons]
    refine Vals.append ?_ (vals_pick h1 h2 h3 sel)
    cases x with
    | p i => exact vals_get h1
    | k i => exact vals_get h2
    | d i => exact vals_get h3
theorem reps_get {G : Gm} {w : Wd} {i : Nat} {ds : List D} {vs : List V} (h : Reps G w ds vs) : Reps G w (ds[i]?).toList (vs[i]?).toList := by
  cases e : ds[i]? with
  | none =>
    have hl : vs[i]? = none := by
      rw [List.getElem?_eq_none_iff] at e ⊢
      rw [← h.length]; exact e
    rw [hl]; exact Reps.nil
  | some d =>
    obtain ⟨v, e2, r⟩ := h.getD e
    rw [e2]
    exact Reps.cons r Reps.nil
theorem reps_pick {G : Gm} {w : Wd} {ds es dd : List D} {vs zs dvs : List V} (h1 : Reps G w ds vs) (h2 : Reps G w es zs) (h3 : Reps G w dd dvs) : ∀ sel : List Src, Reps G w (pick sel ds es dd) (pick sel vs zs dvs)
  | [] => Reps.nil
  | x :: sel => by
    rw [pick_cons, pick_cons]
    refine Reps.append ?_ (reps_pick h1 h2 h3 sel)
    cases x with
    | p i => exact reps_get h1
    | k i => exact reps_get h2
    | d i => exact reps_get h3
/-- how a call binds: n values, keywords ks, defaults dd -/
def BdK (K : PySem.W.Frag) (fd : FuncData) (ps : List Str) (n : Nat) (ks : List Str) (sel : List Src) (dd : List D) : Prop :=
  ∃ (its : List Value) (dvs : List V), Vals dvs its ∧ (∀ (G : Gm), G.K = K → ∀ w : Wd, Reps G w dd dvs) ∧ ∀ (s : Shared) (us ws : List Value), K.In s.heap → us.length = n → ws.length = ks.length → BindsTo s fd ⟨us, ks.zip ws⟩ (ps.zip (pick sel us ws its))

/-! ### the written arguments -/
structure CW (X : Cx) (es : List Expr) (kws : List Keyword) (ks : List Str) (t : L2.St → Hp → (List V → List V → Hp → Prop) → Prop) : Prop where
  run : ∀ (pos : Pos) (pins : List (Addr × Obj)) (s : Shared) (σ : L2.St) (H : Hp) (f : Value) (first : List Value) (Qv : Value → Shared → Prop) (R : List V → List V → Hp → Prop), PySem.W.keepIn X.K f = true → Inv X pins σ H s → t σ H R →
    (∀ us ws vs zs s' H', Inv X pins σ H' s' → Vals vs us → Vals zs ws → R vs zs H' → wpAny (model X.prog X.w) X.A (call f (first ++ us) (ks.zip ws)) Qv X.xe s') →
    wpAny (model X.prog X.w) X.A (callWith pos f first (backTo pos (starEach es X.env)) (backToKw pos (keywordEach kws X.env))) Qv X.xe s
section
variable {X : Cx} {e : Expr} {es : List Expr} {kws : List Keyword} {ks : List Str} {t tk : TA}
theorem cw_kw0 (hk : PK X kws tk) (hall : ∀ pos, (backToKw pos (keywordEach kws X.env)).all (·.1.isSome) = true := by intro _; rfl) (hks : ∀ pos, (backToKw pos (keywordEach kws X.env)).filterMap (·.1) = ks := by intro _; rfl)
    (hpl : ∀ pos, ((backTo pos (starEach [] X.env)).any (·.1) || (backToKw pos (keywordEach kws X.env)).any (·.1.isNone)) = false := by intro _; rfl) :
    CW X [] kws ks (fun σ H R => tk σ H fun zs H2 => R [] zs H2) := ⟨fun pos pins s σ H f first Qv R hf I h k => by
  refine PySem.W.callWith_KW0 (h₀ := X.base) I.ok.mod.kin hf (hall pos) ?_ (hpl pos)
  refine thn (hk.run pos pins s σ H _ I h) fun ws s2 ⟨zs, H2, I2, rz, q2⟩ => ⟨I2.kIn, ?_⟩
  rw [hks pos]
  exact k [] ws [] zs s2 H2 I2 .nil rz q2⟩
theorem cw_pos (ha : PA X (e :: es) t) (he : starEach (e :: es) X.env = (false, eval e X.env) :: starEach es X.env := by rfl) (hpl : ∀ pos, (backTo pos (starEach es X.env)).any (·.1) = false := by intro _; rfl) :
    CW X (e :: es) [] [] (fun σ H R => t σ H fun vs H1 => R vs [] H1) := ⟨fun pos pins s σ H f first Qv R hf I h k => by
  refine PySem.W.callWith_K (h₀ := X.base) I.ok.mod.kin hf (thn (ha.run pos pins s σ H _ I h) ?_) he (hpl pos)
  rintro us s1 ⟨vs, H1, I1, r, q⟩
  exact ⟨I1.kIn, k us [] vs [] s1 H1 I1 r .nil q⟩⟩
end

/-! ### over data -/
abbrev FK := Env → (List D → List D → Prop) → XP → Prop
def tkD (G : Gm) (E : XK) (F : FK) : L2.St → Hp → (List V → List V → Hp → Prop) → Prop := fun s H R => ∃ w0 H0 r w QD EX, Fr G w0 H0 r s w H ∧ LkE G E w0 H0 EX ∧ F r QD EX ∧ ∀ ds es vs zs w' H', Le w H w' H' → Ok w' H' → Reps G w' ds vs → Reps G w' es zs → QD ds es → R vs zs H'
def fKw (A B : FA) : FK := fun r Q EX => A r (fun ds => B r (fun es => Q ds es) EX) EX
section
variable {X : Cx} {G : Gm} {E : XK} {k n : Nat} {f C : Addr} {fd : FuncData} {ps ks : List Str} {sel : List Src} {dd : List D} {x m : Str} {p pos apos kpos : Pos} {e o : Expr} {es : List Expr} {kws : List Keyword} {A : FE} {B B2 : FA} {F : FK} {sp : DSp} {nm : Option Str}
theorem _root_.L2.PK.weak {t t' : TA} (h : PK X kws t) (k : ∀ s H Q, t' s H Q → t s H Q) : PK X kws t' := ⟨fun ps p s σ H Q I q => h.run ps p s σ H Q I (k σ H Q q)⟩
theorem ck_nil : PK X [] (taD G E fNil) := PK.weak pk_nil fun s H Q ⟨w0, H0, r, w, QD, EX, fr, lk, f, k⟩ => k [] [] w H (.refl w H) fr.ok Reps.nil f
theorem ck_cons (ha : PE X e (tD G E A)) (hr : PK X kws (taD G E B)) : PK X (⟨nm, e, kpos⟩ :: kws) (taD G E (fCons A B)) := (pk_cons ha hr).weak fun s H Q ⟨w0, H0, r, w, QD, EX, fr, lk, f, k⟩ =>
  ⟨w0, H0, r, w, _, EX, fr, lk, f, fun d v w1 H1 l1 ok1 r1 q1 => ⟨w0, H0, r, w1, _, EX, fr.go l1 ok1, lk, q1, fun ds vs w2 H2 l2 ok2 r2 q2 => k (d :: ds) (v :: vs) w2 H2 (l1.trans l2) ok2 (Reps.cons (r1.mono l2.sub) r2) q2⟩⟩
theorem _root_.DL.CW.weak {t t' : L2.St → Hp → (List V → List V → Hp → Prop) → Prop} (h : CW X es kws ks t) (k : ∀ s H R, t' s H R → t s H R) : CW X es kws ks t' := ⟨fun pos pins s σ H f first Qv R hf I q => h.run pos pins s σ H f first Qv R hf I (k σ H R q)⟩
theorem ck_kw0 (hk : PK X kws (taD G E B2)) (hall : ∀ pos, (backToKw pos (keywordEach kws X.env)).all (·.1.isSome) = true := by intro _; rfl) (hks : ∀ pos, (backToKw pos (keywordEach kws X.env)).filterMap (·.1) = ks := by intro _; rfl)
    (hpl : ∀ pos, ((backTo pos (starEach [] X.env)).any (·.1) || (backToKw pos (keywordEach kws X.env)).any (·.1.isNone)) = false := by intro _; rfl) :
    CW X [] kws ks (tkD G E (fKw fNil B2)) := (cw_kw0 hk hall hks hpl).weak fun s H R ⟨w0, H0, r, w, QD, EX, fr, lk, f, k⟩ =>
  ⟨w0, H0, r, w, _, EX, fr, lk, f, fun es zs w2 H2 l2 ok2 r2 q2 => k [] es [] zs w2 H2 l2 ok2 Reps.nil r2 q2⟩
theorem ck_pos (ha : PA X (e :: es) (taD G E B)) (he : starEach (e :: es) X.env = (false, eval e X.env) :: starEach es X.env := by rfl) (hpl : ∀ pos, (backTo pos (starEach es X.env)).any (·.1) = false := by intro _; rfl) :
    CW X (e :: es) [] [] (tkD G E (fKw B fNil)) := (cw_pos ha he hpl).weak fun s H R ⟨w0, H0, r, w, QD, EX, fr, lk, f, k⟩ =>
  ⟨w0, H0, r, w, _, EX, fr, lk, f, fun ds vs w2 H2 l2 ok2 r2 q2 => k ds [] vs [] w2 H2 l2 ok2 r2 Reps.nil q2⟩
/-- f(.., k = ..) -/
def fCallK (n m : Nat) (sel : List Src) (dd : List D) (sp : DSp) (F : FK) : FE := fun r Q EX => F r (fun ds es => ds.length = n ∧ es.length = m ∧ sp (pick sel ds es dd) Q EX) EX
end
end DL
/-! The data layer, part 20: how calls bind; defs with defaults; objects made with keywords; what they compute. -/
namespace DL
open PySem L2 PyProof.Rows
section
variable {K : PySem.W.Frag} {x qual : Str} {st : Stmt} {f : Addr} {fd : FuncData} {ps : List Str}
/-- no defaults -/
theorem bdk_of (F : Fun K x qual st f fd) (n : Nat) (ks : List Str) (sel : List Src)
    (h : ∀ (kV doc pm : Value) (an : Option Addr) (cdv ct : Value) (us ws : List Value), us.length = n → ws.length = ks.length → bindArgs (PySem.W.fnOf x qual (defArgs st) (defBody st) (defScope st) .none kV doc pm an cdv ct) ⟨us, ks.zip ws⟩ = pure (ps.zip (pick sel us ws []))) : BdK K fd ps n ks sel [] := by
  obtain ⟨oc, od, kV, doc, pm, an, cdv, ct, osl, rfl, lk, hcd⟩ := F.ex
  exact ⟨[], [], .nil, fun _ _ _ => Reps.nil, fun s us ws _ h1 h2 => .of_eq (h kV doc pm an cdv ct us ws h1 h2)⟩
/-- a def with defaults, as it stands -/
abbrev FunF (K : PySem.W.Frag) (x qual : Str) (st : Stmt) (dvs : List V) (f : Addr) (fd : FuncData) : Prop := FunD K x qual (defArgs st) (defBody st) (defScope st) dvs [] f fd
theorem bdk_dfl {dvs : List V} {dd : List D} (F : FunF K x qual st dvs f fd) (hd : dvs ≠ []) (hr : ∀ (G : Gm), G.K = K → ∀ w : Wd, Reps G w dd dvs) (n : Nat) (ks : List Str) (sel : List Src)
    (h : ∀ (T : Addr) (kV doc pm : Value) (an : Option Addr) (cdv ct : Value) (us ws its : List Value), us.length = n → ws.length = ks.length → its.length = dvs.length →
      ∃ k, bindArgs (PySem.W.fnOf x qual (defArgs st) (defBody st) (defScope st) (.ref T) kV doc pm an cdv ct) ⟨us, ks.zip ws⟩ = seqItems? (.ref T) >>= k ∧ k (some its.toArray) = pure (ps.zip (pick sel us ws its))) : BdK K fd ps n ks sel dd := by
  obtain ⟨oc, od, dV, kV, doc, pm, an, cdv, ct, osl, rfl, lk, hcd, hD, hK⟩ := F.ex
  rcases hD with ⟨e, _⟩ | ⟨_, T, o, its, m, rfl, lT, oT, rT⟩
  · exact absurd e hd
  · refine ⟨its, dvs, rT, hr, fun s us ws X h1 h2 => ?_⟩
    obtain ⟨k, e1, e2⟩ := h T kV doc pm an cdv ct us ws its h1 h2 rT.length.symm
    refine BindsTo.of_looks fun M => ?_
    rw [e1]
    exact looks_items X lT oT (.of_pure e2)
end
section
variable {P : Program} {w : World} {K : PySem.W.Frag} {mg : Str → Option Value} {base : Heap} {k : Nat} {f : Addr} {N ps : List Str} {sp : Sp}
theorem FunD.okG {x qual : Str} {params : Arguments} {bd : List Stmt} {scope : Scope} {dvs : List V} {kws : List (Str × V)} {fd : FuncData} (F : FunD K x qual params bd scope dvs kws f fd) (S : FnScope N ps scope) (len : ∀ vs H Q E, sp vs H Q E → vs.length = ps.length)
    (body : ∀ (cdv : Value) (A : Around) (outer : List PySem.Env) (s : Shared) (H : Hp) (vs : List V) (Q : VK) (E : XK), A.guards = some [] → Room k (A.deeper (envOfC qual scope s.heap.objs.size f cdv)) → sp vs H Q E →
      ∃ t, PSs (cxOf (L2.CX P w) P w K mg base N qual scope f cdv A outer s H E) bd t ∧ t { nx := fun _ H' => Q .non H', rt := Q } (L2.start N vs) H) : FnG P w K mg base (k + 1) f fd ps sp := by
  obtain ⟨oc, od, dV, kV, doc, pm, an, cdv, ct, osl, rfl, lk, hcd, _, _⟩ := F.ex
  refine ⟨len, fun A outer s H args us vs Q E hg hr e0 hb rv hsp => ?_⟩
  have nl := len _ _ _ _ hsp
  have inK : K.In s.heap := e0.mod.kin.keeps fun b o e => (e0.bs b o e).1
  have lim : s.heap.NoLimit := e0.mod.nolimit.keeps fun b o e => (e0.bs b o e).1
  have kinds : ∀ y ∈ ps.zip us, scope.names.lookup y.1 = some .local ∨ (scope.names.lookup y.1 = some .cell ∧ ((cellsFrom (s.heap.objs.size + 1) scope.names []).lookup y.1).isSome = true) := by
    rintro ⟨n, v⟩ hy
    exact (S.par n (List.of_mem_zip hy).1).imp id fun q => ⟨q, PySem.W.cellsFrom_some _ _ _ (.inl q)⟩
  refine codeAny_call_function hr.depth (inK _ _ lk) rfl S.co S.gen rfl (PySem.W.codeRec_of inK hcd) (hb _ _ _ _ ?_)
  refine wpAny_newFunctionEnv_cells S.kind kinds fun env he s1 x1 => ?_
  subst he
  refine ⟨lim.keeps x1.toInCall.keep, codeAny_func ?_⟩
  obtain ⟨t, ht, hq⟩ := body cdv A outer s H vs Q E hg (hr.deeper _) hsp
  have I := inv_start (CX := L2.CX P w) (E := E) (qual := qual) (f := f) (cd := cdv) S hr.hd e0 nl rv x1
  refine wpAny_mono (ht.run [] s1 (L2.start N vs) H _ I hq) (fun fl s' hs => ?_) (fun e s' hs => hs)
  cases fl with
  | ret u =>
    obtain ⟨v, _, H', J, r, q⟩ := hs
    exact ⟨v, H', J.os, J.bare, J.base, J.hok, r, q⟩
  | next =>
    obtain ⟨_, H', J, q⟩ := hs
    exact ⟨V.non, H', J.os, J.bare, J.base, J.hok, rfl, q⟩
  | brk => exact (hs.elim fun _ z => z.elim fun _ y => (show False from y.2).elim)
  | cont => exact (hs.elim fun _ z => z.elim fun _ y => (show False from y.2).elim)
end
/-! ### C(.., k = ..) -/
def shiftS : Src → Src
  | .p i => .p (i + 1)
  | x => x
def selI (sel : List Src) : List Src := .p 0 :: sel.map shiftS
theorem pick_selI {α : Type} (sel : List Src) (a : α) (us ws its : List α) : pick (selI sel) (a :: us) ws its = a :: pick sel us ws its := by
  unfold selI
  rw [pick_cons]
  show a :: pick (sel.map shiftS) (a :: us) ws its = a :: pick sel us ws its
  congr 1
  induction sel with
  | nil => rfl
  | cons x sel ih =>
    rw [List.map_cons, pick_cons, pick_cons, ih]
    cases x <;> simp [shiftS]
section
variable {X : Cx} {G : Gm} {E : XK} {k n : Nat} {f C : Addr} {fd : FuncData} {ps ks : List Str} {sel : List Src} {dd : List D} {x : Str} {p pos : Pos} {es : List Expr} {kws : List Keyword} {F : FK}
theorem run_gmakeK {sp : Sp} {pins : List (Addr × Obj)} {σ : L2.St} {H : Hp} {s : Shared} {Q : VK} {us ws args : List Value} {vs : List V} (M : Mk X.K C f) (F : FnG X.prog X.w X.K X.mg X.base k f fd ps sp) (hgd : X.A.guards = some []) (hr : Room (k + 1) X.A)
    (hb : ∀ (s' : Shared) (a : Value), X.K.In s'.heap → BindsTo s' fd ⟨a :: us, ks.zip ws⟩ (ps.zip (a :: args))) (hx : PassX X E) (I : Inv X pins σ H s) (r : Vals vs args)
    (h : ∀ x dx, H x = none → H dx = none → dx ≠ x → sp (.ref x :: vs) (upd (upd H dx (.own x)) x (.ins C dx [])) (fun v H2 => v = .non ∧ Q (.ref x) H2) E) :
    wpAny (model X.prog X.w) X.A (call (.ref C) us (ks.zip ws)) (EP X pins σ Q) X.xe s := by
  have hq := h (s.heap.objs.size + 1) s.heap.objs.size (I.hok.fresh (Nat.le_succ _)) I.fresh (Nat.ne_of_lt (Nat.lt_succ_self _))
  have J := Inv.made (C := C) I
  have both : Vals (V.ref (s.heap.objs.size + 1) :: vs) (Value.ref (s.heap.objs.size + 1) :: args) := .cons rfl r
  refine wpAny_call (make_map (f := f) I.kIn M.makes M.init (beq_iff_eq.mp M.fn) (codeAny_mono (F.run _ X.stack _ _ ⟨Value.ref (s.heap.objs.size + 1) :: us, ks.zip ws⟩ (Value.ref (s.heap.objs.size + 1) :: args) _ _ E (guards_make hgd) (hr.make C us (ks.zip ws))
    (J.env0.make C us (ks.zip ws)) (hb _ _ J.kIn) both hq) ?_))
  rintro (er | fl) s' hq'
  · exact hx pins σ _ _ er s' J hq'
  · cases fl with
    | ret u =>
      obtain ⟨v, H', I3, rv, ev, q3⟩ := J.after hq'
      subst ev
      exact ⟨rv, V.ref (s.heap.objs.size + 1), H', I3, rfl, q3⟩
    | next => exact hq'.elim
    | brk => exact hq'.elim
    | cont => exact hq'.elim
def fMakeK (c n m : Nat) (sel : List Src) (dd : List D) (sp : List D → (List D → Prop) → XP → Prop) (F : FK) : FE := fun r Q EX => F r (fun ds es => ds.length + 1 = n ∧ es.length = m ∧ sp (pick sel ds es dd) (fun gs => Q (.obj c gs)) EX) EX
theorem ce_makeK {c : Nat} {spI : List D → (List D → Prop) → XP → Prop} (M : Mk X.K (G.cls c) f) (Fn : FnG X.prog X.w X.K X.mg X.base k f fd ps (liftI G c spI)) (hm : X.mg x = some (.ref (G.cls c))) (hb : BdK X.K fd ps n ks (selI sel) dd) (hgd : X.A.guards = some []) (hr : Room (k + 1) X.A) (hx : PassX X E)
    (hc : CW X es kws ks (tkD G E F)) (hg : Gl X x := by rfl) (hdb : (x == ("__debug__" : Str)) = false := by decide) (hKG : G.K = X.K := by rfl) : PE X (.Call (.Name x p) es kws pos) (tD G E (fMakeK c n ks.length sel dd spI F)) := ⟨fun pins s σ H Q I h => by
  obtain ⟨w0, H0, r, w, QD, EX, fr, lk, f0, kk⟩ := h
  obtain ⟨its, dvs, rd, rD, bd⟩ := hb
  refine wpAny_Call_Name_kw (ld_glob I hg hm ?_ hdb)
  refine hc.run pos pins s σ H (.ref (G.cls c)) [] _ _ M.kp I ⟨w0, H0, r, w, _, EX, fr, lk, f0, fun ds es vs zs w1 H1 l1 ok1 r1 r2 q1 => (⟨w1, ds, es, l1, ok1, r1, r2, q1⟩ : ∃ w1 ds es, Le w H w1 H1 ∧ Ok w1 H1 ∧ Reps G w1 ds vs ∧ Reps G w1 es zs ∧ ds.length + 1 = n ∧ es.length = ks.length ∧ spI (pick sel ds es dd) (fun gs => QD (.obj c gs)) EX)⟩ ?_
  rintro us ws vs zs s' H' I' rv rz ⟨w1, ds, es, l1, ok1, r1, r2, hn, hm', q⟩
  refine run_gmakeK (us := us) (args := pick sel us ws its) M Fn hgd hr (fun s2 a hin => ?_) hx I' (vals_pick rv rz rd sel) fun y dy ny ndy ne => ?_
  · have := bd s2 (a :: us) ws hin (by rw [List.length_cons, ← rv.length, ← r1.length]; exact hn) (by rw [← rz.length, ← r2.length]; exact hm')
    rw [pick_selI] at this
    exact this
  · exact ⟨w1, H', y, dy, pick sel vs zs dvs, pick sel ds es dd, _, EX, rfl, ny, ndy, ne, rfl, ok1, reps_pick r1 r2 (rD G hKG w1) sel, q, fun es fs w2 H2 dz l2 ok2 mi h2 hf r3 q2 => ⟨rfl, by
      refine kk (.obj c es) (.ref y) (w2.frz H2 y) H2 (l1.trans (l2.frz mi.1 ny)) (ok2.frz mi.2.1) ?_ q2
      unfold Rep
      exact ⟨y, dz, fs, rfl, by rw [frz_at]; exact h2, hf, r3.mono (.frz mi.1), (l2.sub.tb.trans l1.sub.tb).trans (fr.le.sub.tb.trans lk.2)⟩⟩, lk.go (fr.le.trans l1)⟩⟩
end
/-- () as a default -/
theorem rep_unit {G : Gm} {K : PySem.W.Frag} {w : Wd} {a : Addr} {n : Nat} {sl : Array (Option Value)} (h : K.lookup a = some ⟨.type "tuple", none, .seq #[] n, sl⟩) (hK : G.K = K) : Rep G w (.tup []) (.ref a) := by
  unfold Rep
  exact ⟨a, [], rfl, .inr ⟨_, #[], n, by rw [hK]; exact h, rfl, rfl, rfl, Nat.zero_le _, .nil⟩, Reps.nil⟩
/-! ### what they compute -/
def xKw (a b : List Sl → R (List D)) (r : List Sl) : R (List D × List D) := (a r).bind fun ds => (b r).bind fun es => .ok (ds, es)
def CK (F : FK) (c : List Sl → R (List D × List D)) : Prop := ∀ {x : Addr} r r' Q EX, Sim x r r' → (c r).hold (fun p => Q p.1 p.2) EX → F r' Q EX
theorem f_kw {A B : FA} {a b : List Sl → R (List D)} (ha : CF A a) (hb : CF B b) : CK (fKw A B) (xKw a b) := fun r r' Q EX s h =>
  ha r r' _ EX s ((hold_bind h).imp fun ds h1 => hb r r' _ EX s ((hold_bind h1).imp fun es h2 => h2))
def xCallK (n m : Nat) (sel : List Src) (dd : List D) (c : List D → R D) (a : List Sl → R (List D × List D)) (r : List Sl) : R D := (a r).bind fun p => if p.1.length = n ∧ p.2.length = m then frcs (pick sel p.1 p.2 dd) c else .no
theorem f_callK {n m : Nat} {sel : List Src} {dd : List D} {c : List D → R D} {F : FK} {a : List Sl → R (List D × List D)} (ha : CK F a) : CF (fCallK n m sel dd (spOf c) F) (xCallK n m sel dd c a) := fun r r' Q EX s h => ha r r' _ EX s ((hold_bind h).imp fun p h1 => by
  by_cases z : p.1.length = n ∧ p.2.length = m
  · rw [if_pos z, frcs_eq] at h1
    exact ⟨z.1, z.2, h1⟩
  · rw [if_neg z] at h1; exact h1.elim)
def xMakeK (k n m : Nat) (sel : List Src) (dd : List D) (c : List D → R D) (b : List Sl → R (List D × List D)) (r : List Sl) : R D := (b r).bind fun p => if p.1.length + 1 = n ∧ p.2.length = m then (frcs (pick sel p.1 p.2 dd) c).bind fun d => (match d with
  | .tup es => .ok (.obj k es)
  | _ => .no) else .no
theorem f_makeK {k n m : Nat} {sel : List Src} {dd : List D} {c : List D → R D} {F : FK} {b : List Sl → R (List D × List D)} (hb : CK F b) : CF (fMakeK k n m sel dd (spIn c) F) (xMakeK k n m sel dd c b) := fun r r' Q EX s h => hb r r' _ EX s ((hold_bind h).imp fun p h2 => by
  by_cases z2 : p.1.length + 1 = n ∧ p.2.length = m
  · rw [if_pos z2, frcs_eq] at h2
    refine ⟨z2.1, z2.2, ?_⟩
    refine (hold_bind h2).imp fun d h3 => ?_
    cases d <;> first | exact h3.elim | exact h3
  · rw [if_neg z2] at h2; exact h2.elim)
end DL
namespace DL
open PySem L2
/-- a def of the text with its promise, and how it stands -/
def DefU (P : Program) (w : World) (G : Gm) (mg : Str → Option Value) (base : Heap) (k : Nat) (f : Addr) (ps : List Str) (U : FuncData → Prop) (sp : Sp) : Prop := ∃ fd, FnG P w G.K mg base k f fd ps sp ∧ U fd
end DL
/-! The data layer, part 21: own lists: by +, moved, walked. -/
namespace DL
open PySem L2 PyProof.Rows
section
variable {X : Cx} {G : Gm} {E : XK} {a b e : Expr} {pos : Pos} {A B : FE}
/-- a + b of lists, as a new list -/
def fAddN (A B : FE) : FA := fun r Q EX => A r (fun x => B r (fun y => match x, y with
  | .lst xs, .lst ys => xs.length + ys.length ≤ sizeLine ∧ Q (xs ++ ys)
  | _, _ => False) EX) EX
theorem cf_add (ha : PE X a (bD G E A)) (hb : PE X b (bD G E B)) (hK : X.K = G.K := by rfl) : PE X (.BinOp a .Add b pos) (fD G E (fAddN A B)) := (pe_op op_catR ha hb).weak fun s H Q ⟨w0, H0, r, w, QD, EX, fr, lk, f, k⟩ => by
  refine ⟨w0, H0, r, w, _, EX, fr, lk, f, fun x v w1 H1 l1 ok1 s1 q1 => ?_⟩
  refine ⟨w0, H0, r, w1, _, EX, fr.go l1 ok1, lk, q1, fun y u w2 H2 l2 ok2 s2 q2 => ?_⟩
  cases x <;> try exact q2.elim
  cases y <;> try exact q2.elim
  rename_i xs ys
  obtain ⟨hz, q2⟩ := q2
  obtain ⟨p, vs, rfl, t1, r1⟩ := (s1.go l2).lst_of ok2
  obtain ⟨q, us, rfl, t2, r2⟩ := s2.lst_of ok2
  refine ⟨p, q, vs, us, rfl, rfl, hK ▸ t1, hK ▸ t2, by rw [← r1.length, ← r2.length]; exact hz, fun n hn => ?_⟩
  exact k _ n _ w2 _ ((l1.trans l2).trans (Le.new hn)) (ok2.new hn) ((l1.trans l2).none_of hn) (Mine.new (w := w) (H := H) (fr.le.trans (l1.trans l2)) ok2 hn) upd_same (r1.append r2) q2
def xAddN (a b : List Sl → R D) (r : List Sl) : R (List D) := (a r).bind fun x => (b r).bind fun y => match x, y with
  | .lst xs, .lst ys => if Nat.ble (xs.length + ys.length) 16777216 = true then .ok (xs ++ ys) else .no
  | _, _ => .no
theorem f_addN {a b : List Sl → R D} (ha : CF A a) (hb : CF B b) : CF (fAddN A B) (xAddN a b) := fun r r' Q EX s h => ha r r' _ EX s ((hold_bind h).imp fun x h1 => hb r r' _ EX s ((hold_bind h1).imp fun y h2 => by
  cases x <;> try exact h2.elim
  cases y <;> try exact h2.elim
  rename_i xs ys
  dsimp only at h2 ⊢
  by_cases z : Nat.ble (xs.length + ys.length) 16777216 = true
  · rw [if_pos z] at h2
    exact ⟨by rw [sizeLine_eq]; exact Nat.le_of_ble_eq_true z, h2⟩
  · rw [if_neg z] at h2; exact h2.elim))
/-- x = y, y an own list that is not looked at again: it is x's from here on -/
def sMove (i j : Nat) : FS := fun A _ r => match r[j]? with
  | some (.own ds) => A.nx ((r.set j .un).set i (.own ds))
  | _ => False
theorem Fr.un {w0 : Wd} {H0 : Hp} {r : Env} {s : L2.St} {w : Wd} {H : Hp} (f : Fr G w0 H0 r s w H) (j : Nat) : Fr G w0 H0 (r.set j .un) s w H where
  ok := f.ok
  le := f.le
  len := by rw [List.length_set]; exact f.len
  slot := fun i x e => by
    by_cases z : j = i
    · subst z
      have hj : j < r.length := by
        have q := (List.getElem?_eq_some_iff.mp e).1
        simpa using q
      rw [List.getElem?_set_self hj] at e
      cases e
      trivial
    · rw [List.getElem?_set_ne z] at e
      exact f.slot i x e
  dist := fun i k x y a e1 e2 o1 o2 q1 q2 => by
    have nn : ∀ {n : Nat} {u : Sl}, (r.set j .un)[n]? = some u → u.isOwn = true → r[n]? = some u := fun {n u} en on => by
      by_cases z : j = n
      · subst z
        have hj : j < r.length := by
          have q := (List.getElem?_eq_some_iff.mp en).1
          simpa using q
        rw [List.getElem?_set_self hj] at en
        cases en
        cases on
      · rw [List.getElem?_set_ne z] at en; exact en
    exact f.dist i k x y a (nn e1 o1) (nn e2 o2) o1 o2 q1 q2
theorem cs_move (i j : Nat) {x y : Str} {p pos' : Pos} (hN : X.N.Nodup) (hi : X.N[i]? = some x := by rfl) (hj : X.N[j]? = some y := by rfl) (hij : i ≠ j := by decide) (hx : Loc X.env.scope x := by first | exact Or.inl rfl | exact Or.inr rfl) (hv : Vis X.env.scope y := by first | exact Or.inl rfl | exact Or.inr (Or.inl rfl) | exact Or.inr (Or.inr rfl))
    (hs : swapsWith (.Name y p) (some (.Name x pos')) pos.line X.env = pure false := by rfl) (hd : (y == ("__debug__" : Str)) = false := by decide) (hcd : (y == ("__classdict__" : Str)) = false := by decide)
    (hf : X.fn x = true ∨ X.env.scope.names.lookup x = some .local := by first | exact .inl rfl | exact .inr rfl | assumption) : PS X (.Assign [.Name x pos'] (.Name y p) pos) (sD G E (sMove i j)) := (ps_set hN hi hx (pe_var hj hv hd hcd) hs hf).weak fun B s H ⟨w0, H0, wk, r, w, A, EX, fr, sb, lk, ll, f⟩ => by
  unfold sMove at f
  cases e : r[j]? with
  | none => rw [e] at f; exact f.elim
  | some sl =>
    rw [e] at f
    cases sl <;> try exact f.elim
    rename_i ds
    obtain ⟨a, vs, q, m, h1, rp⟩ := fr.slot j _ e
    refine ⟨_, q, ll.nx _ _ w H ?_ sb f⟩
    have fu := Fr.un fr j
    refine ⟨fu.ok, fu.le, by rw [List.length_set, List.length_set]; simpa using fu.len, fun k y' e' => ?_, fun k l y1 y2 b e1 e2 o1 o2 q1 q2 => ?_⟩
    · by_cases z : i = k
      · subst z
        have hk : i < (r.set j .un).length := by
          have q' := (List.getElem?_eq_some_iff.mp e').1
          simpa using q'
        rw [List.getElem?_set_self hk] at e'
        cases e'
        rw [List.getElem?_set_self (fu.len ▸ hk)]
        exact ⟨a, vs, rfl, m, h1, rp⟩
      · rw [List.getElem?_set_ne z] at e'
        rw [List.getElem?_set_ne z]
        exact fu.slot k y' e'
    · -- two own slots at one address
      have old : ∀ {n : Nat} {u : Sl}, n ≠ i → ((r.set j .un).set i (.own ds))[n]? = some u → u.isOwn = true → r[n]? = some u ∧ n ≠ j := fun {n u} hn en on => by
        rw [List.getElem?_set_ne fun z => hn z.symm] at en
        by_cases z : j = n
        · subst z
          have hj' : j < r.length := by
            have q' := (List.getElem?_eq_some_iff.mp en).1
            simpa using q'
          rw [List.getElem?_set_self hj'] at en
          cases en
          cases on
        · rw [List.getElem?_set_ne z] at en
          exact ⟨en, fun y => z y.symm⟩
      have hil : ∀ {n : Nat} {u : Sl}, n = i → ((r.set j .un).set i (.own ds))[n]? = some u → i < s.length := fun {n u} en e => by
        have q' := (List.getElem?_eq_some_iff.mp e).1
        rw [List.length_set, List.length_set, en] at q'
        exact fr.len ▸ q'
      by_cases z1 : k = i
      · by_cases z2 : l = i
        · rw [z1, z2]
        · exfalso
          obtain ⟨e3, n3⟩ := old z2 e2 o2
          rw [z1, List.getElem?_set_self (hil z1 e1)] at q1
          rw [List.getElem?_set_ne fun z => z2 z.symm] at q2
          have ea : a = b := by cases q1; rfl
          subst ea
          exact n3 (fr.dist l j y2 _ a e3 e o2 rfl q2 q)
      · obtain ⟨e3, n3⟩ := old z1 e1 o1
        rw [List.getElem?_set_ne fun z => z1 z.symm] at q1
        by_cases z2 : l = i
        · exfalso
          rw [z2, List.getElem?_set_self (hil z2 e2)] at q2
          have ea : a = b := by cases q2; rfl
          subst ea
          exact n3 (fr.dist k j y1 _ a e3 e o1 rfl q1 q)
        · obtain ⟨e4, n4⟩ := old z2 e2 o2
          rw [List.getElem?_set_ne fun z => z2 z.symm] at q2
          exact fr.dist k l y1 y2 b e3 e4 o1 o2 q1 q2
end
def yMove (i j : Nat) (r : Env) : RS := match r[j]? with
  | some (.own ds) => .nx ((r.set j .un).set i (.own ds))
  | _ => .no
theorem s_move {i j : Nat} : CS (sMove i j) (yMove i j) := fun r r' A EX s h => by
  unfold yMove at h
  unfold sMove
  cases e : r[j]? with
  | none => rw [e] at h; exact h.elim
  | some x =>
    rw [e] at h
    cases x <;> try exact h.elim
    rw [s.own e]
    exact h _ ((s.set j .un).set i _)
end DL
/-! The data layer, part 22: {k: v, ..}, a new dict as a value. -/
namespace DL
open PySem L2 PyProof.Rows
section
variable {X : Cx} {G : Gm} {E : XK} {a b e : Expr} {pos : Pos} {A B : FE}
inductive CPs : List (FE × FE) → List ((DL.Env → R D) × (DL.Env → R D)) → Prop where
  | nil : CPs [] []
  | cons {A B : FE} {a b : DL.Env → R D} {ps qs} (ha : CF A a) (hb : CF B b) (h : CPs ps qs) : CPs ((A, B) :: ps) ((a, b) :: qs)
end
end DL
/-! The data layer, part 23: -x. -/
namespace DL
open PySem L2 PyProof.Rows
section
variable {X : Cx} {G : Gm} {E : XK} {a b e : Expr} {pos : Pos} {A B : FE}
def xNeg (a : DL.Env → R D) (r : DL.Env) : R D := (a r).bind fun d => match d with
  | .int n => .ok (.int (-n))
  | _ => .no
end
end DL
/-! The data layer, part 24: a, b = e, [..] where a name is a cell: the tuple is made and taken apart. -/
namespace DL
open PySem L2 PyProof.Rows
section
variable {X : Cx} {G : Gm} {E : XK} {pos : Pos} {i j : Nat} {x y : Str} {a b : Expr} {px py pt : Pos} {kt k2 pt2}
end
end DL
/-! A walk over a list, a tuple or a text, whichever it is. -/
namespace DL
open PySem L2 PyProof.Rows
/-- what is walked of a list, a tuple, a text -/
def seqD : D → Option (List D)
  | .lst ds => some ds
  | .tup ds => some ds
  | .str z => some (signs z)
  | _ => none
def fItA (A : FE) : FI := fun r Q EX => A r (fun d => ∃ ds, seqD d = some ds ∧ Q ds) EX
section
variable {X : Cx} {G : Gm} {E : XK} {tg l : Expr} {A : FE}
def iAnyT (K : PySem.W.Frag) (tl : TE) : TI := fun σ H R => tl σ H fun x H1 =>
  (∃ a, x = .ref a ∧ (∃ xs, SqL K H1 a xs) ∧ R (Itl K a) H1) ∨ (∃ a, x = .ref a ∧ (∃ xs, SqT K H1 a xs) ∧ R (Itt K a) H1) ∨ (∃ z, x = .str z ∧ R (Its z) H1)
theorem pi_anyT {tl : TE} (hl : PE X l tl) : PI X tg l (iAnyT X.K tl) := by
  refine ⟨fun pins s σ H R I h => ?_⟩
  refine thn (hl.run pins s σ H _ I h) fun v s1 ⟨x, H1, I1, r1, q1⟩ => ?_
  rcases q1 with ⟨a, e, ⟨xs, hq⟩, q⟩ | ⟨a, e, ⟨xs, hq⟩, q⟩ | ⟨z, e, q⟩
  · subst e
    cases r1
    obtain ⟨its, rv, p, hz⟩ := I1.list hq
    refine wpAny_pyIter_list p.isList ?_
    refine ⟨s1.heap.objs.size, [s1.heap.objs.size], _, _, H1, rfl, I1.kept (t' := s1.toks) fun b o e => Heap.get?_push_of_some _ e, turn_list a _, ⟨_, Heap.get?_push_size _ rfl, rfl, rfl⟩, fun b hb => ?_, q⟩
    have e : b = s1.heap.objs.size := by simpa using hb
    subst e
    exact I1.fpOk (Nat.le_refl _) (I1.hok.fresh (Nat.le_refl _))
  · subst e
    cases r1
    obtain ⟨its, rv, p, hz⟩ := I1.tuple hq
    refine wpAny_pyIter_tuple (show s1.heap.IsTuple a its.toArray from p) ?_
    refine ⟨s1.heap.objs.size, [s1.heap.objs.size], _, _, H1, rfl, I1.kept (t' := s1.toks) fun b o e => Heap.get?_push_of_some _ e, turn_tuple a _, ⟨_, Heap.get?_push_size _ rfl, rfl, rfl⟩, fun b hb => ?_, q⟩
    have e : b = s1.heap.objs.size := by simpa using hb
    subst e
    exact I1.fpOk (Nat.le_refl _) (I1.hok.fresh (Nat.le_refl _))
  · subst e
    obtain ⟨t, rfl⟩ := r1
    cases ha : z.cps.all (· < 128)
    · exact wpAny_pyIter_wide ha (pi_one (tk := s1.toks) I1 _ (turn_str _ z t "str_iterator" (.inr rfl)) ⟨_, Heap.get?_push_size _ rfl, rfl, rfl⟩ q)
    · exact wpAny_pyIter_ascii ha (pi_one (tk := s1.toks) I1 _ (turn_str _ z t "str_ascii_iterator" (.inl rfl)) ⟨_, Heap.get?_push_size _ rfl, rfl, rfl⟩ q)
theorem cis_any (h : PE X l (tD G E A)) (hK : X.K = G.K := by rfl) : PI X tg l (iS G E (fItA A)) := (pi_anyT h).weak fun s H R ⟨w0, H0, r, w, QD, EX, fr, lk, f, k⟩ =>
  ⟨w0, H0, r, w, _, EX, fr, lk, f, fun d v w1 H1 l1 ok1 r1 ⟨ds, ed, q⟩ => by
    cases d <;> first | (cases ed; done) | skip
    · rename_i z zz
      cases ed
      exact .inr (.inr ⟨z, r1.str_of, k (signs z) _ w1 H1 l1 ok1 src_str q⟩)
    · cases ed
      obtain ⟨a, vs, ev, h1, r2⟩ := r1.tup_of
      exact .inr (.inl ⟨a, ev, ⟨vs, hK ▸ sqT_sub ok1.sub h1.sqt⟩, k _ _ w1 H1 l1 ok1 (src_tup (hK ▸ h1.sqt) r2) q⟩)
    · cases ed
      obtain ⟨a, vs, ev, h1, r2⟩ := r1.lst_of
      exact .inl ⟨a, ev, ⟨vs, hK ▸ (lsT_sub ok1.sub h1).sql⟩, k _ _ w1 H1 l1 ok1 (src_list (hK ▸ h1) r2) q⟩⟩
theorem cie_any (h : PE X l (bD G E A)) (hK : X.K = G.K := by rfl) : PI X tg l (iE G E (fItA A)) := (pi_anyT h).weak fun s H R ⟨w0, H0, r, w, QD, EX, fr, lk, f, k⟩ =>
  ⟨w0, H0, r, w, _, EX, fr, lk, f, fun d v w1 H1 l1 ok1 r1 ⟨ds, ed, q⟩ => by
    cases d <;> first | (cases ed; done) | skip
    · rename_i z zz
      cases ed
      rcases r1 with r1 | ⟨_, _, _, _, e2, _⟩ | ⟨_, _, _, _, _, e2, _⟩
      · exact .inr (.inr ⟨z, r1.str_of, k (signs z) _ w1 H1 l1 ok1 src_str.toE q⟩)
      · cases e2
      · cases e2
    · cases ed
      rcases r1 with r1 | ⟨_, _, _, _, e2, _⟩ | ⟨_, _, _, _, _, e2, _⟩
      · obtain ⟨a, vs, ev, h1, r2⟩ := r1.tup_of
        exact .inr (.inl ⟨a, ev, ⟨vs, hK ▸ sqT_sub ok1.sub h1.sqt⟩, k _ _ w1 H1 l1 ok1 (src_tup (hK ▸ h1.sqt) r2).toE q⟩)
      · cases e2
      · cases e2
    · cases ed
      rcases r1 with r1 | ⟨a, vs, es, ev, e2, m, h1, r2⟩ | ⟨_, _, _, _, _, e2, _⟩
      · obtain ⟨a, vs, ev, h1, r2⟩ := r1.lst_of
        exact .inl ⟨a, ev, ⟨vs, hK ▸ (lsT_sub ok1.sub h1).sql⟩, k _ _ w1 H1 l1 ok1 (src_list (hK ▸ h1) r2).toE q⟩
      · cases e2
        exact .inl ⟨a, ev, ⟨vs, .inl (.of h1)⟩, k _ _ w1 H1 l1 ok1 (src_listE m.2.1 h1 r2) q⟩
      · cases e2⟩
end
def iA (a : Env → R D) (r : Env) : R (List D) := (a r).bind fun d => match seqD d with
  | some ds => .ok ds
  | none => .no
theorem f_itA {A : FE} {a : Env → R D} (ha : CF A a) : CF (fItA A) (iA a) := fun r r' Q EX s h => ha r r' _ EX s ((hold_bind h).imp fun d h1 => by
  cases e : seqD d with
  | none => rw [e] at h1; exact h1.elim
  | some ds => rw [e] at h1; exact ⟨ds, rfl, h1⟩)
end DL
/-! list * int. -/
namespace DL
open PySem L2 PyProof.Rows
variable {G : Gm} {X : Cx}
theorem vals_rep {xs : List V} {its : List Value} (r : Vals xs its) : ∀ n : Nat, Vals (List.replicate n xs).flatten (List.replicate n its).flatten
  | 0 => .nil
  | n + 1 => by
    rw [List.replicate_succ, List.replicate_succ, List.flatten_cons, List.flatten_cons]
    exact Vals.append r (vals_rep r n)
theorem op_mulL : OpR X (binaryOp .Mult) (fun x y H Q => ∃ l xs n, x = V.ref l ∧ y = V.int n ∧ LsT X.K H l xs ∧ 0 ≤ n ∧ n ≤ 16777216 ∧ xs.length * n.toNat ≤ 16777216 ∧ ∀ p, H p = none → Q (.ref p) (upd H p (.lst (List.replicate n.toNat xs).flatten))) := by
  intro pins s σ H x y v u Q I rx ry h
  obtain ⟨l, xs, n, rfl, rfl, hs, h0, h1, hz, q⟩ := h
  obtain rfl : v = Value.ref l := rx
  obtain ⟨k, rfl⟩ := ry
  obtain ⟨its, m, rv, ho⟩ := hs.at I
  have hsl := sizeLine_eq
  have hl : its.length = xs.length := rv.length.symm
  have hz' : its.toArray.size * n.toNat ≤ 16777216 := by rw [List.size_toArray, hl]; exact hz
  refine wpAny_binaryOp_repeat_ref (T := "list") (U := "int") (by decide) ⟨_, ho, rfl⟩ (fun s' => typeIs_int s' n k) noFill_list_mul F.fills_int_mul F.slot_int_rmul repeat_list F.slot_int_index.lookup
    (call_meets F.slot_int_rmul (typeIs_int s n k) F.entry_int_rmul (F.args_int_rmul_2 _ _) (int___rmul___int_list n k l its.toArray m)
      ⟨ho, rfl, ⟨_, ho, rfl⟩, call_meets F.slot_list_mul ⟨_, ho, rfl⟩ F.entry_list_mul (F.args_list_mul_2 _ _)
        (AutoListH.list___mul___list_int_3 l its.toArray m n k (by simp [Builtin.List.listFitsIndex]; omega) (by omega) (by simp only [Builtin.List.listTooLong, decide_eq_true_eq]; omega))
        ⟨ho, ?_⟩⟩)
  rw [listMul_foldl_if]
  refine ⟨V.ref s.heap.objs.size, upd H s.heap.objs.size (.lst (List.replicate n.toNat xs).flatten), I.lnew (t' := s.toks) (vals_rep rv n.toNat) ?_, rfl, q _ I.fresh⟩
  rw [List.length_flatten, List.map_replicate, List.sum_replicate_nat, Nat.mul_comm, sizeLine_eq]
  exact hz
theorem tuple_mul1 (l : Addr) (items : Array Value) (n : Nat) (dd : Option Addr) (sl : Array (Option Value)) (u : Tok) :
    Meets (Builtin.«tuple.__mul__» ⟨[.ref l, .int 1 u], []⟩) (fun _ R s => s.heap.get? l = some { cls := .type "tuple", dict := dd, data := .seq items n, slots := sl } ∧ R (.ok (.ret (Value.ref l))) s) :=
  .of_wp fun prog w A R s h => by
    obtain ⟨hp, g, d, tk, os⟩ := s
    obtain ⟨hl, h⟩ := h
    have f1 := AutoSeq1.idx_int
    have c0 : (decide ((1 : Int) < -(2 ^ 63)) || decide ((1 : Int) ≥ 2 ^ 63)) = false := by decide
    have c1 : (items.isEmpty || (1 : Int) == 1) = true := by simp
    wp_walk using wpAny_loadPart' hl
    repeat (first
      | (refine wpAny_ite_false (decide_eq_false (by rw [c0]; exact Bool.false_ne_true)) ?_; wp_walk using wpAny_loadPart' hl)
      | (refine wpAny_ite_true (decide_eq_true c1) ?_; wp_walk using wpAny_loadPart' hl))
    exact ⟨_, rfl, h⟩
def rRepA (K : PySem.W.Frag) : R2 := fun x y H Q => ∃ l k xs, x = .ref l ∧ y = .int k ∧ SqT K H l xs ∧ ((k = 1 ∧ Q (.ref l) H) ∨ (xs ≠ [] ∧ 2 ≤ k ∧ k ≤ 1000 ∧ xs.length ≤ 1000 ∧ NewT H (List.replicate k.toNat xs).flatten Q))
theorem op_repA : OpR X (binaryOp .Mult) (rRepA X.K) := by
  intro pins s σ H x y v u Q I rx ry h
  obtain ⟨l, k, xs, rfl, rfl, hT, h⟩ := h
  cases rx
  obtain ⟨t, rfl⟩ := ry
  obtain ⟨its, r, ⟨⟨cls, dd, data, sl⟩, ho, hc, n, hd⟩, hs⟩ := I.tuple hT
  simp only at hc hd
  subst hc hd
  rcases h with ⟨rfl, q⟩ | ⟨hne, h1, h2, hz, q⟩
  · exact wpAny_binaryOp_repeat_ref (T := "tuple") (U := "int") (by decide) ⟨_, ho, rfl⟩ (fun s' => typeIs_int s' 1 t) noFill_tuple_mul F.fills_int_mul F.slot_int_rmul repeat_tuple F.slot_int_index.lookup
      (call_meets F.slot_int_rmul (typeIs_int s 1 t) F.entry_int_rmul (F.args_int_rmul_2 _ _) (int_rmul_tuple 1 t l its.toArray n dd sl)
        ⟨ho, rfl, ⟨_, ho, rfl⟩, call_meets F.slot_tuple_mul ⟨_, ho, rfl⟩ F.entry_tuple_mul (F.args_tuple_mul_2 _ _) (tuple_mul1 l its.toArray n dd sl t) ⟨ho, ⟨.ref l, H, I, rfl, q⟩⟩⟩)
  have hle : its.length = xs.length := r.length.symm
  have hn : its ≠ [] := fun e => hne (by
    rw [e] at hle
    exact List.eq_nil_of_length_eq_zero hle.symm)
  have hi : its.toArray.isEmpty = false := by
    cases its with
    | nil => exact absurd rfl hn
    | cons a b => rfl
  have hsz0 : its.toArray.size = xs.length := by rw [List.size_toArray, hle]
  have hm : ((its.toArray.size : Nat) : Int) * k ≤ 1000000 := by
    rw [hsz0]
    have a1 : ((xs.length : Nat) : Int) * k ≤ 1000 * k := Int.mul_le_mul_of_nonneg_right (by omega) (by omega)
    omega
  have flen : (List.replicate k.toNat its).flatten.length ≤ sizeLine := by
    rw [PyProof.Rows.lm_len_rep_flat, hle, sizeLine_eq]
    have a1 : k.toNat * xs.length ≤ 1000 * 1000 := Nat.mul_le_mul (by omega) hz
    omega
  have c0 : (decide (k < -(2 ^ 63)) || decide (k ≥ 2 ^ 63)) = false := by
    rw [decide_eq_false (by omega), decide_eq_false (by omega)] <;> rfl
  have c1 : (its.toArray.isEmpty || k == 1) = false := by
    rw [hi, Bool.false_or]
    exact beq_eq_false_iff_ne.mpr (by omega)
  have c2 : (decide (k ≤ 0) || its.toArray.isEmpty) = false := by
    rw [hi, Bool.or_false]
    exact decide_eq_false (by omega)
  have c4 : Builtin.Tuple.tupleTooMany (((its.toArray.size : Nat) : Int) * k) = false := by
    unfold Builtin.Tuple.tupleTooMany
    rw [sizeLine_eq]
    exact decide_eq_false (by omega)
  refine wpAny_binaryOp_repeat_ref (T := "tuple") (U := "int") (by decide) ⟨_, ho, rfl⟩ (fun s' => typeIs_int s' k t) noFill_tuple_mul F.fills_int_mul F.slot_int_rmul repeat_tuple F.slot_int_index.lookup
    (call_meets F.slot_int_rmul (typeIs_int s k t) F.entry_int_rmul (F.args_int_rmul_2 _ _) (int_rmul_tuple k t l its.toArray n dd sl)
      ⟨ho, rfl, ⟨_, ho, rfl⟩, call_meets F.slot_tuple_mul ⟨_, ho, rfl⟩ F.entry_tuple_mul (F.args_tuple_mul_2 _ _) (tuple_mulW l its.toArray n dd sl k t c0 c1 c2 (by omega) c4 (by rw [size_rep, List.size_toArray]; exact flen)) ⟨ho, ?_⟩⟩)
  rw [size_rep]
  refine laidT I (vals_rep r k.toNat) ?_ q
  rw [PyProof.Rows.lm_len_rep_flat, sizeLine_eq]
  have a1 : k.toNat * xs.length ≤ 1000 * 1000 := Nat.mul_le_mul (by omega) hz
  omega
def mulAD : G2 := fun x y Q => match x, y with
  | .int i, .int j => CMul i j ∧ Q (.int (i * j))
  | .lst a, .int n => (0 ≤ n ∧ n ≤ 16777216 ∧ a.length * n.toNat ≤ 16777216) ∧ Q (.lst (List.replicate n.toNat a).flatten)
  | .tup a, .int n => (a ≠ [] ∧ 1 ≤ n ∧ n ≤ 1000 ∧ a.length ≤ 1000) ∧ Q (.tup (List.replicate n.toNat a).flatten)
  | _, _ => False
theorem Reps.repl {w : Wd} {ds : List D} {vs : List V} (r : Reps G w ds vs) : ∀ n : Nat, Reps G w (List.replicate n ds).flatten (List.replicate n vs).flatten
  | 0 => Reps.nil
  | n + 1 => by
    rw [List.replicate_succ, List.replicate_succ, List.flatten_cons, List.flatten_cons]
    exact r.append (Reps.repl r n)
theorem opl_mulA (hK : X.K = G.K := by rfl) : OpL G X (binaryOp .Mult) mulAD := by
  refine ⟨_, op_mul.or (op_mulL.or op_repA), fun H0 w H x y v u Q QD ok sx sy g k => ?_⟩
  cases x with
  | int i => cases y with
    | int j => exact .inl ⟨i, j, sx.int_of, sy.int_of, g.1, k _ _ w H (.refl w H) ok Rep.int g.2⟩
    | _ => exact g.elim
  | lst a => cases y with
    | int n =>
      obtain ⟨p, vs, rfl, s1, r1⟩ := sx.lst_of ok
      refine .inr (.inl ⟨p, vs, n, rfl, sy.int_of, hK ▸ s1, g.1.1, g.1.2.1, by rw [← r1.length]; exact g.1.2.2, fun p hp => ?_⟩)
      obtain ⟨w2, l2, ok2, rp⟩ := newLst (p := p) ok hp (r1.repl n.toNat)
      exact k _ _ w2 _ l2 ok2 rp g.2
    | _ => exact g.elim
  | tup a => cases y with
    | int n =>
      obtain ⟨p, vs, rfl, s1, r1⟩ := sx.tup_of ok
      refine .inr (.inr ⟨p, n, vs, rfl, sy.int_of, hK ▸ s1, ?_⟩)
      by_cases h1 : n = 1
      · subst h1
        refine .inl ⟨rfl, k _ _ w H (.refl w H) ok sx.tup_rep ?_⟩
        have := g.2
        simpa using this
      · refine .inr ⟨fun e => ?_, by have := g.1.2.1; omega, g.1.2.2.1, by rw [← r1.length]; exact g.1.2.2.2, fun p o hp hd => ?_⟩
        · subst e
          exact g.1.1 (List.length_eq_zero_iff.mp r1.length)
        · obtain ⟨w2, l2, ok2, rp⟩ := newTup (p := p) ok hp hd (r1.repl n.toNat)
          exact k _ _ w2 _ l2 ok2 rp g.2
    | _ => exact g.elim
  | _ => exact g.elim
def mulAX : O2
  | .int i, .int j => gd (CMul i j) (.int (i * j))
  | .lst a, .int n => gd (0 ≤ n ∧ n ≤ 16777216 ∧ a.length * n.toNat ≤ 16777216) (.lst (List.replicate n.toNat a).flatten)
  | .tup a, .int n => gd ((!a.isEmpty) = true ∧ 1 ≤ n ∧ n ≤ 1000 ∧ a.length ≤ 1000) (.tup (List.replicate n.toNat a).flatten)
  | _, _ => none
theorem g_mulA : CG2 mulAD mulAX := fun x y d Q e q => by
  cases x <;> cases y <;> first | (cases e; done) | skip
  · obtain ⟨h, rfl⟩ := gd_some e
    exact ⟨h, q⟩
  · obtain ⟨h, rfl⟩ := gd_some e
    exact ⟨⟨fun e => by subst e; exact absurd h.1 (by decide), h.2⟩, q⟩
  · obtain ⟨h, rfl⟩ := gd_some e
    exact ⟨h, q⟩
end DL
/-! isinstance of an own class: what the text's top must have written. -/
namespace DL
open PySem L2 PyProof.Rows
end DL
/-! xs[::-1] of a tuple or a list. -/
namespace HTR
open PySem PySem.Spec PyProof.Rows L2 HT
section
variable {prog : Program} {w : World} {A : Around} {E : Value → Shared → Prop} {s : Shared}
end
end HTR
namespace DL
open PySem L2 PyProof.Rows
variable {G : Gm} {X : Cx} {E : XK}
end DL
/-! Own dicts: {}, {k: v}, d[k] = v; x = xs.pop(). -/
namespace DL
open PySem L2 PyProof.Rows
def putA {α : Type} (ks : List Key) (ds : List α) (k : Key) (d : α) : List α := if (ks.any fun x => decide (x = k)) = true then (ks.zip ds).map fun p => if p.1 = k then d else p.2 else ds ++ [d]
section
variable {G : Gm}
theorem Reps.zipMap {w : Wd} {k : Key} {d : D} {v : V} (r : Rep G w d v) : ∀ {ks : List Key} {ds : List D} {vs : List V}, Reps G w ds vs → Reps G w ((ks.zip ds).map fun p => if p.1 = k then d else p.2) ((ks.zip vs).map fun p => if p.1 = k then v else p.2)
  | [], ds, vs, h => Reps.nil
  | x :: ks, [], vs, h => by rw [h.of_nil]; exact Reps.nil
  | x :: ks, e :: ds, vs, h => by
    obtain ⟨u, t, rfl, h1, h2⟩ := h.of_cons
    simp only [List.zip_cons_cons, List.map_cons]
    refine Reps.cons ?_ (Reps.zipMap r h2)
    split
    · exact r
    · exact h1
theorem Reps.put {w : Wd} {k : Key} {d : D} {v : V} (r : Rep G w d v) {ks : List Key} {ds : List D} {vs : List V} (h : Reps G w ds vs) : Reps G w (putA ks ds k d) (putA ks vs k v) := by
  unfold putA
  split
  · exact Reps.zipMap r h
  · exact h.append (Reps.cons r Reps.nil)
end
section
variable {X : Cx} {G : Gm} {E : XK} {pos : Pos} {e : Expr}
end
def sPopV (i j : Nat) : FS := fun B _ r => match r[j]? with
  | some (.own es) => (match es[es.length - 1]? with
    | some y => B.nx ((r.set j (.own es.dropLast)).set i (.val y))
    | none => False)
  | _ => False
section
variable {X : Cx} {G : Gm} {E : XK} {pos : Pos} {e : Expr}
theorem SlotOk.ownd {H0 : Hp} {w : Wd} {H : Hp} {ks : List Key} {ds : List D} {a : Addr} {vs : List V} (m : Mine H0 w a) (h : H a = some (.dK (ks.zip vs))) (hl : ks.length = vs.length) (r : Reps G w ds vs) : SlotOk G H0 w H (.ownd ks ds) (some (some (.ref a))) := ⟨a, vs, rfl, m, h, hl, r⟩
theorem cs_popV {i j : Nat} {x y : Str} {p2 apos cpos pos' : Pos} (hN : X.N.Nodup) (hij : i ≠ j := by decide) (hi : X.N[i]? = some x := by rfl) (hj : X.N[j]? = some y := by rfl) (hx : Loc X.env.scope x := by first | exact Or.inl rfl | exact Or.inr rfl)
    (hw : Vis X.env.scope y := by first | exact Or.inl rfl | exact Or.inr (Or.inl rfl) | exact Or.inr (Or.inr rfl)) (hd2 : (y == ("__debug__" : Str)) = false := by decide) (hcd2 : (y == ("__classdict__" : Str)) = false := by decide)
    (hbase : attributeBase (.Name y p2) "pop" X.env (eval (.Name y p2) X.env) = eval (.Name y p2) X.env := by rfl) (hline : (apos.endLine == cpos.line) = true := by rfl)
    (hs : swapsWith (.Call (.Attribute (.Name y p2) "pop" apos) [] [] cpos) (some (.Name x pos')) pos.line X.env = pure false := by rfl)
    (hf : X.fn x = true ∨ X.env.scope.names.lookup x = some .local := by first | exact .inl rfl | exact .inr rfl | assumption) :
    PS X (.Assign [.Name x pos'] (.Call (.Attribute (.Name y p2) "pop" apos) [] [] cpos) pos) (sD G E (sPopV i j)) :=
  (ps_set hN hi hx (pe_bm0 PySem.F.plainAttrs_list PySem.F.slot_list_pop PySem.F.type_list_pop mt_pop (pe_var hj hw hd2 hcd2) hbase hline) hs hf).weak fun B s H ⟨w0, H0, wk, r, w, A', EX, fr, sb, lk, ll, f⟩ => by
  unfold sPopV at f
  cases e1 : r[j]? with
  | none => rw [e1] at f; exact f.elim
  | some sl =>
    rw [e1] at f
    cases sl <;> try exact f.elim
    rename_i es
    dsimp only at f
    cases e2 : es[es.length - 1]? with
    | none => rw [e2] at f; exact f.elim
    | some y' =>
      rw [e2] at f
      dsimp only at f
      obtain ⟨a, vs, q, m, h1, rp⟩ := fr.slot j _ e1
      obtain ⟨u, hu, ru⟩ := rp.getD e2
      refine ⟨_, q, ⟨.inl ⟨rfl, vs, .inl (.of h1)⟩, ?_⟩⟩
      refine ⟨a, vs, u, rfl, rfl, h1, by rw [← rp.length]; exact hu, ?_⟩
      have rd : Reps G w es.dropLast vs.dropLast := by
        rw [List.dropLast_eq_take, List.dropLast_eq_take, ← rp.length]
        exact rp.take _
      have fr2 := fr.chg (y := .own es.dropLast) (o := .lst vs.dropLast) e1 rfl q m (SlotOk.own m upd_same rd)
      exact ll.nx _ _ w _ (fr2.setV ru) sb f
end
def yPopV (i j : Nat) (r : Env) : RS := match r[j]? with
  | some (.own es) => (match es[es.length - 1]? with
    | some y => .nx ((r.set j (.own es.dropLast)).set i (.val y))
    | none => .no)
  | _ => .no
theorem s_popV {i j : Nat} : CS (sPopV i j) (yPopV i j) := fun r r' A EX s h => by
  unfold yPopV at h
  unfold sPopV
  cases e : r[j]? with
  | none => rw [e] at h; exact h.elim
  | some x =>
    rw [e] at h
    cases x <;> try exact h.elim
    rename_i es
    rw [s.own e]
    dsimp only at h ⊢
    cases e2 : es[es.length - 1]? with
    | none => rw [e2] at h; exact h.elim
    | some y =>
      rw [e2] at h
      exact h _ ((s.set j _).set i _)
end DL
/-! xs.insert(i, e) of an own list. -/
namespace DL
open PySem L2 PyProof.Rows
section
variable {X : Cx} {G : Gm} {E : XK}
def sIns (i : Nat) (A B : FE) : FS := fun C EX r => match r[i]? with
  | some (.own ds) => ds.length < sizeLine ∧ A r (fun n => B r (fun d => ∃ k : Nat, n = .int (k : Int) ∧ k ≤ 16777216 ∧ C.nx (r.set i (.own (ds.take k ++ [d] ++ ds.drop k)))) EX) EX
  | _ => False
theorem cs_ins {i : Nat} {x : Str} {e e2 : Expr} {p apos cpos pos : Pos} {A B : FE} (he : PE X e (tD G E A)) (he2 : PE X e2 (tD G E B)) (hN : X.N[i]? = some x := by rfl) (hv : Vis X.env.scope x := by first | exact Or.inl rfl | exact Or.inr (Or.inl rfl) | exact Or.inr (Or.inr rfl))
    (hs : starEach [e, e2] X.env = (false, eval e X.env) :: starEach [e2] X.env := by rfl) (hs2 : starEach [e2] X.env = (false, eval e2 X.env) :: starEach [] X.env := by rfl) (hplain : (backTo cpos (starEach [e2] X.env)).any (·.1) = false := by rfl)
    (hfew : ((backTo cpos (starEach [e, e2] X.env)).all (fun x => !x.1) && (backToKw cpos (keywordEach [] X.env)).all (fun x => x.1.isSome)
      && decide ([e, e2].length + ([] : List Keyword).length + (if ([] : List Keyword).isEmpty then 0 else 1) < 30)) = true := by rfl)
    (hbase : attributeBase (.Name x p) "insert" X.env (eval (.Name x p) X.env) = eval (.Name x p) X.env := by rfl) (hline : (apos.endLine == cpos.line) = true := by rfl) (hd : (x == ("__debug__" : Str)) = false := by decide) (hcd : (x == ("__classdict__" : Str)) = false := by decide)
    (hsw : swapsWith (.Call (.Attribute (.Name x p) "insert" apos) [e, e2] [] cpos) none pos.line X.env = pure false := by rfl) :
    PS X (.Expr (.Call (.Attribute (.Name x p) "insert" apos) [e, e2] [] cpos) pos) (sD G E (sIns i A B)) :=
  PS.weak (ps_expr (pe_bm PySem.F.plainAttrs_list PySem.F.slot_list_insert PySem.F.type_list_insert mt_insert (pe_var hN hv hd hcd) (pa_cons he (pa_cons he2 pa_nil hs2) hs) hbase hfew hline hs hplain) hsw) fun B' s H ⟨w0, H0, wk, r, w, A', EX, fr, sb, lk, ll, f0⟩ => by
  unfold sIns at f0
  cases e1 : r[i]? with
  | none => rw [e1] at f0; exact f0.elim
  | some sl =>
    rw [e1] at f0
    cases sl <;> try exact f0.elim
    rename_i ds
    obtain ⟨hz, f0⟩ := f0
    obtain ⟨a, vs, q, m, h1, rp⟩ := fr.slot i _ e1
    refine ⟨_, q, ⟨.inl ⟨rfl, vs, .inl (.of h1)⟩, w0, H0, r, w, _, EX, fr, lk, f0, fun n u w1 H1 l1 ok1 r1 q1 => ?_⟩⟩
    have fr1 := fr.go l1 ok1
    refine ⟨w0, H0, r, w1, _, EX, fr1, lk, q1, fun d v w2 H2 l2 ok2 r2 ⟨k, en, hk, q2⟩ => ?_⟩
    have fr2 := fr1.go l2 ok2
    obtain ⟨a', vs', q', m', h1', rp'⟩ := fr2.slot i _ e1
    rw [q] at q'
    cases q'
    subst en
    have eu : u = .int (k : Int) := r1.int_of
    subst eu
    refine ⟨a, vs', (k : Int), v, rfl, rfl, h1', by rw [← rp'.length]; exact hz, by omega, by omega, ?_⟩
    rw [Int.toNat_natCast]
    have fr3 := fr2.chg (y := .own (ds.take k ++ [d] ++ ds.drop k)) (o := .lst (vs'.take k ++ [v] ++ vs'.drop k)) e1 rfl q m' (SlotOk.own m' upd_same (((rp'.take k).append (Reps.cons r2 Reps.nil)).append (rp'.drop k)))
    exact ll.nx _ _ w2 _ fr3 (sb.trans (l1.sub.trans l2.sub)) q2
end
end DL
/-! in, not in of a tuple whose items are data of any depth. -/
namespace DL
open PySem L2 PyProof.Rows
section
variable {X : Cx} {G : Gm}
theorem op_notInTD (hu : X.A.units + 65 < cLine) : OpR X (compareOp .NotIn) (fun x y H Q => ∃ d ds, Dp X.K H x d ∧ Dp X.K H y (.tuple ds) ∧ SeqAt.shaped d = true ∧ SeqAt.shaped (.tuple ds) = true ∧ Q (.bl (true != ds.any fun z => PyData.eqv z d)) H) := by
  intro pins s σ H x y v u Q I rx ry h
  obtain ⟨d, ds, hd, he, sd, se, q⟩ := h
  rw [Bool.true_bne] at q
  obtain ⟨as, r1⟩ := Dp.reads I d x v hd rx
  obtain ⟨bs, r2⟩ := Dp.reads I (.tuple ds) y u he ry
  exact SeqAt.notIn_tuple_reads r2 r1 (SeqAt.canLay_of_shaped se) (SeqAt.canLay_of_shaped sd) (room_in_shaped sd hu) ⟨.bl _, H, I, rfl, q⟩
def inTD (neg : Bool) : G2 := fun x y Q => match y with
  | .tup ds => shp x ∧ shp (.tup ds) ∧ Q (.bl (neg != ds.any fun z => eqb z x))
  | _ => False
theorem opl_inTG {op : CmpOp} {neg : Bool} (h : OpR X (compareOp op) (fun x y H Q => ∃ d ds, Dp X.K H x d ∧ Dp X.K H y (.tuple ds) ∧ SeqAt.shaped d = true ∧ SeqAt.shaped (.tuple ds) = true ∧ Q (.bl (neg != ds.any fun z => PyData.eqv z d)) H)) (hK : X.K = G.K := by rfl) : OpL G X (compareOp op) (inTD neg) := by
  refine ⟨_, h, fun H0 w H x y v u Q QD ok sx sy g k => ?_⟩
  cases y with
  | tup ds =>
    obtain ⟨⟨p1, p2⟩, ⟨p3, p4⟩, g⟩ := g
    have e : pd (.tup ds) = .tuple (ds.map pd) := by rw [← pds_map]; conv => lhs; unfold pd
    have d1 := sx.dp ok p1
    have d2 := sy.dp ok p3
    rw [e] at d2 p4
    refine ⟨pd x, ds.map pd, hK ▸ d1, hK ▸ d2, p2, p4, ?_⟩
    rw [List.any_map]
    exact k _ _ w H (.refl w H) ok Rep.bl g
  | _ => exact g.elim
theorem opl_notinT (hu : X.A.units + 65 < cLine) (hK : X.K = G.K := by rfl) : OpL G X (compareOp .NotIn) (inTD true) := opl_inTG (op_notInTD hu) hK
end
def inTX (neg : Bool) : O2 := fun x y => match y with
  | .tup ds => gd ((shpB x && shpB (.tup ds)) = true) (.bl (neg != ds.any fun z => eqb z x))
  | _ => none
theorem g_inT {neg : Bool} : CG2 (inTD neg) (inTX neg) := fun x y d Q e q => by
  cases y <;> first | (cases e; done) | skip
  rename_i ds
  unfold inTX gd at e
  dsimp only at e
  by_cases z : (shpB x && shpB (.tup ds)) = true
  · rw [if_pos z] at e
    cases e
    rw [Bool.and_eq_true] at z
    exact ⟨shpB_iff z.1, shpB_iff z.2, q⟩
  · rw [if_neg z] at e; cases e
/-! ### a, b = e, {..} where a name is a cell -/
section
variable {X : Cx} {G : Gm} {E : XK} {pos : Pos} {i j : Nat} {x y : Str} {a b : Expr} {px py pt : Pos} {kt k2 pt2}
end
end DL
/-! != of own objects (their class has __eq__, no __ne__). -/
namespace OwnNe
open PySem PySem.Spec PySem.W PyProof.Rows
section
variable {prog : Program} {w : World} {A : Around} {E : Value → Shared → Prop} {s : Shared} {K : Frag} {x C L f : Addr} {h₀ : Heap} {m : Str → Option Value} {ox : Obj} {od : Option Obj} {name : Str} {b tb : Value}
theorem ifBoundB_K {M : Model} {id : String} {args : List Value} {Q : Option Value → Shared → Prop} (X : K.In s.heap) (I : InstAt s.heap x ox C od) (hs : findIn K (.ref C) name = some (some (.builtin id))) (hb : ∀ self, bindSpecial (.builtin id) self = pure (.builtin id, [self]))
    (h : wpAny M A (call (.builtin id) (.ref x :: args)) (fun v => Q (some v)) E s) : wpAny M A (callSpecialIfBound? (.ref x) name args) Q E s := by
  simp only [callSpecialIfBound?, bindSpecialIfBound?]
  refine wpAny_holding (wpAny_bind (wpAny_bind (wpAny_bind (I.type.here ((looks_findIn X hs).here ?_)))))
  simp only [hb]
  refine wpAny_bind (wpAny_askSetting (wpAny_ite ?_))
  have fin : wpAny M A (call (.builtin id) ([.ref x] ++ args) >>= fun v => pure (some v)) Q E s := wpAny_bind (wpAny_mono h (fun v s' h' => wpAny_pure h') fun _ _ h' => h')
  split
  · exact wpAny_bind (wpAny_pure (wpAny_pure fin))
  · exact wpAny_tryCatch (wpAny_bind (wpAny_pure (wpAny_pure fin)))
theorem tryNe_K {Q : Option Value → Shared → Prop} (hu : A.units + 1 < cLine) (X : K.In s.heap) (I : InstAt s.heap x ox C od) (hne : findIn K (.ref C) "__ne__" = some (some (.builtin "object.__ne__"))) (hs : findIn K (.ref C) "__eq__" = some (some (.ref f))) (hf : isFn K (.ref f) = true) (hm : mroIn K C (.type "object") = some true)
    (h : wpAny (model prog w) A.in1 (call (.ref f) [.ref x, b]) (fun v s' => ∃ z, v = .bool z ∧ Q (some (.bool (!z))) s') E s) : wpAny (model prog w) A (tryCompare (.ref x) "__ne__" b) Q E s := by
  have hI : Looks (model prog w) s.heap (isInstance (.ref x) (.type "object")) true := I.type.andThen (looks_subIn X (t := .ref C) hm)
  unfold tryCompare
  refine wpAny_bind (ifBoundB_K X I hne F.cmp_object.ne.bind (wpAny_call (codeAny_call_builtin F.cmp_object.ne.plain F.cmpEntry_ne (check_slot F.cmpKind_ne F.cmpSplit_ne hI (F.cmpArgs_ne _ _) ?_))))
  unfold Builtin.«object.__ne__»
  repeat (first
    | with_reducible refine wpAny_cRoomFor hu ?_
    | (refine wpAny_bind (m := callSpecialIfBound? (.ref x) (Str.ofString "__eq__") [b])
        (ifBound_K X I hs hf (wpAny_mono h (fun r s' hr => by
          obtain ⟨z, rfl, hq⟩ := hr
          repeat (first | exact hq | exact wpAny_pure hq | exact wpAny_pure (wpAny_pure hq) | exact ⟨_, rfl, wpAny_pure hq⟩ | exact ⟨_, rfl, hq⟩ | exact wpAny_truthy_bool hq | (refine wpAny_bind (m := truthy (.bool _)) (wpAny_truthy_bool ?_)) | wp_step)) fun _ _ e => e)))
    | wp_step)
theorem ne_K {Q : Value → Shared → Prop} (hu : A.units + 1 < cLine) (F : Fr h₀ L s.heap m) (X₀ : K.In h₀) (I : InstAt s.heap x ox C od) (hb : Looks (model prog w) s.heap (typeOf b) tb) (hn : notFirst K C tb = true) (hne : findIn K (.ref C) "__ne__" = some (some (.builtin "object.__ne__")))
    (hs : findIn K (.ref C) "__eq__" = some (some (.ref f))) (hf : isFn K (.ref f) = true) (hm : mroIn K C (.type "object") = some true)
    (h : wpAny (model prog w) A.in1 (call (.ref f) [.ref x, b]) (fun v s' => ∃ z, v = .bool z ∧ Q (.bool (!z)) s') E s) : wpAny (model prog w) A (richCompare .NotEq (.ref x) b) Q E s := by
  have X := X₀.keeps F.keep
  have one : wpAny (model prog w) A (tryCompare (.ref x) (cmpInfo .NotEq).2.1 b) (fun r s' => ∃ v, r = some v ∧ Q v s') E s :=
    tryNe_K hu X I hne hs hf hm (wpAny_mono h (fun v s' ⟨z, e, q⟩ => ⟨z, e, _, rfl, q⟩) fun _ _ e => e)
  unfold richCompare
  simp only [oneThing_ref]
  refine wpAny_holding (wpAny_bind (wpAny_cRoomFor (by omega) ?_))
  refine wpAny_bind (I.type.here (wpAny_bind (hb.here ?_)))
  split
  · rename_i q
    have e : subIn K tb (.ref C) = some false := by
      rcases Bool.or_eq_true_iff.mp hn with e | e
      · rw [beq_iff_eq.mp e] at q; simp at q
      · exact beq_iff_eq.mp e
    refine wpAny_bind ((looks_subIn X e).here ?_)
    simp only [Bool.false_eq_true, if_false]
    refine wpAny_bind (wpAny_mono one (fun r s' z => ?_) fun _ _ e => e)
    obtain ⟨v, rfl, hq⟩ := z
    exact wpAny_pure hq
  · refine wpAny_bind (wpAny_pure ?_)
    simp only [Bool.false_eq_true, if_false]
    refine wpAny_bind (wpAny_mono one (fun r s' z => ?_) fun _ _ e => e)
    obtain ⟨v, rfl, hq⟩ := z
    exact wpAny_pure hq
end
end OwnNe
namespace DL
open PySem L2 PyProof.Rows
section
variable {X : Cx} {G : Gm} {E : XK} {k : Nat} {f C : Addr} {fd : FuncData} {ps : List Str} {sp : Sp}
/-- a != b, both of that class -/
theorem op_neO (F : FnG X.prog X.w X.K X.mg X.base k f fd ps sp) (hg : X.A.guards = some []) (hr : Room (k + 1) X.A) (hb : Binds X.K fd ps []) (hne : PySem.W.findIn X.K (.ref C) "__ne__" = some (some (.builtin "object.__ne__"))) (hs : PySem.W.findIn X.K (.ref C) "__eq__" = some (some (.ref f))) (hf : PySem.W.isFn X.K (.ref f) = true) (hm : PySem.W.mroIn X.K C (.type "object") = some true) :
    OpR X (compareOp .NotEq) (fun x y H Q => ∃ a b dx dy fs gs, x = .ref a ∧ y = .ref b ∧ H a = some (.ins C dx fs) ∧ H b = some (.ins C dy gs) ∧ sp [.ref a, .ref b] H (fun v H' => ∃ z : Bool, v = .bl z ∧ Q (.bl (!z)) H') E0) := by
  intro pins s σ H x y v u Q I rx ry h
  obtain ⟨a, b, dx, dy, fs, gs, rfl, rfl, ea, eb, h⟩ := h
  cases (show v = Value.ref a from rx)
  cases (show u = Value.ref b from ry)
  obtain ⟨mA, O, _⟩ := ins_get I.hok ea
  obtain ⟨od, J, _⟩ := O.look
  obtain ⟨mB, O', _⟩ := ins_get I.hok eb
  obtain ⟨od', J', _⟩ := O'.look
  obtain ⟨m, hF⟩ := I.fr
  have hu : X.A.units + 1 < cLine := by have := hr.un; omega
  show wpAny _ _ (richCompare .NotEq (.ref a) (.ref b)) _ _ _
  refine OwnNe.ne_K (tb := .ref C) hu hF I.ok.mod.kin J J'.type (by simp [PySem.W.notFirst]) hne hs hf hm ?_
  refine wpAny_mono (run_at F hg hr.in1 I.env0.in1 hb I (vs := [.ref a, .ref b]) (us := [.ref a, .ref b]) (.cons rfl (.cons rfl .nil)) h) ?_ fun _ _ y => y
  rintro u s' ⟨z, H', I', rz, t, ez, q⟩
  subst ez
  cases (show u = Value.bool t from rz)
  exact ⟨t, rfl, .bl (!t), H', I', rfl, q⟩
end
section
variable {G : Gm} {X : Cx} {k : Nat} {f : Addr} {fd : FuncData} {ps : List Str} {sp : DSp}
def neO (c : Nat) (sp : DSp) : G2 := fun x y Q => eqO c sp x y fun d => match d with
  | .bl b => Q (.bl (!b))
  | _ => False
theorem opl_neO {c : Nat} (F : FnG X.prog X.w X.K X.mg X.base k f fd ps (lift G sp)) (hb : Binds X.K fd ps []) (hg : X.A.guards = some []) (hr : Room (k + 1) X.A) (hne : PySem.W.findIn X.K (.ref (G.cls c)) "__ne__" = some (some (.builtin "object.__ne__"))) (hm : PySem.W.mroIn X.K (G.cls c) (.type "object") = some true) (hs : PySem.W.findIn X.K (.ref (G.cls c)) "__eq__" = some (some (.ref f))) (hf : PySem.W.isFn X.K (.ref f) = true) :
    OpL G X (compareOp .NotEq) (neO c sp) := by
  refine ⟨_, op_neO F hg hr hb hne hs hf hm, fun H0 w H x y v u Q QD ok sx sy g k => ?_⟩
  unfold neO at g
  cases x <;> try exact g.elim
  cases y <;> try exact g.elim
  rename_i c1 fs c2 gs
  obtain ⟨rfl, rfl, g⟩ := g
  have rx := sx.obj_rep
  have ry := sy.obj_rep
  obtain ⟨a, dx, hs1, rfl, e1, _, _, htb⟩ := rx.obj_of
  obtain ⟨b, dy, hs2, rfl, e2, _⟩ := ry.obj_of
  refine ⟨a, b, dx, dy, hs1, hs2, rfl, rfl, ok.sub _ _ e1, ok.sub _ _ e2, w, [.obj _ fs, .obj _ gs], _, NoX, ok, Reps.cons rx (Reps.cons ry Reps.nil), g, fun d v w' H' l ok' r q => ?_, LkE.none htb⟩
  cases d <;> try exact q.elim
  exact ⟨_, r.bl_of, k _ _ w' H' l ok' Rep.bl q⟩
end
def neOX (c : Nat) (m : List D → R D) : O2 := fun x y => match eqOX c m x y with
  | some (.bl b) => some (.bl (!b))
  | _ => none
theorem g_neO {c : Nat} {m : List D → R D} : CG2 (neO c (spOf m)) (neOX c m) := fun x y d Q e q => by
  unfold neOX at e
  cases h : eqOX c m x y with
  | none => rw [h] at e; cases e
  | some z =>
    rw [h] at e
    cases z <;> try (cases e; done)
    cases e
    exact g_eqO x y _ _ h q
end DL
/-! set(xs) and sorted(set(xs)), xs a list of texts. -/
namespace SetStr
open PySem PySem.Spec PyProof.Rows L2
open PySem.W (Frag)
def kS (e : Int × Value) : Str := match e.2 with
  | .str k _ => k
  | _ => Str.empty
def GS (P : Program) (w : World) (e : Int × Value) : Prop := ∃ k tk, e.2 = Value.str k tk ∧ e.1 = (strKind P w).hash k
/-- a set whose members are the texts of L, laid out so that it can be walked -/
def SSt (P : Program) (w : World) (h : Heap) (a : Addr) (L : List Str) (n : Nat) : Prop :=
  ∃ o es ep t, h.get? a = some o ∧ o.ExactSet ∧ o.data = .set es ep t ∧ (∀ e ∈ es.toList, GS P w e) ∧ (es.toList.map kS).Nodup ∧ (∀ k, k ∈ L ↔ k ∈ es.toList.map kS) ∧
    es.size < scanBound ∧ t.fits es.size = true ∧ es.size = n ∧ Ris t.place.toList ∧ (w.params.followText "set-order" = true ∨ t.led = true)
section
variable {P : Program} {w : World} {A : Around} {E : Value → Shared → Prop} {s : Shared} {a : Addr} {L : List Str} {n : Nat}
theorem SSt.keep {h h' : Heap} (R : SSt P w h a L n) (k : ∀ o, h.get? a = some o → h'.get? a = some o) : SSt P w h' a L n := by
  obtain ⟨o, es, ep, t, ho, r⟩ := R
  exact ⟨o, es, ep, t, k o ho, r⟩
end
end SetStr
/-! set(xs), xs a list of texts: the call. -/
namespace SetStr
open PySem PySem.Spec PyProof.Rows L2
section
variable {P : Program} {w : World} {A : Around} {R : Result → Shared → Prop} {I : Addr} {fp wr : List Addr} {G : Array GenState → Array GenState → Prop} {n : Nat} {Pv : Nat → Value → Prop} {St : Nat → Shared → Prop}
end
section
variable {P : Program} {w : World} {A : Around} {E : Value → Shared → Prop} {s : Shared}
open SS in
end
end SetStr
/-! sorted(s), s a set of texts. -/
namespace SetStr
open PySem PySem.Spec PyProof.Rows L2
section
variable {P : Program} {w : World} {A : Around} {E : Value → Shared → Prop} {s : Shared} {a : Addr} {L : List Str} {n : Nat}
end
end SetStr
/-! sorted(set(xs)) over data: the texts of xs, each once, in their order. -/
namespace DL
open PySem PySem.Spec L2 PyProof.Rows
section
variable {X : Cx}
end
section
variable {X : Cx} {G : Gm} {E : XK} {e : Expr} {A : FE} {p p2 pos pos2 : Pos}
end
end DL
/-! An __init__ with defaults. -/
namespace DL
open PySem L2 PyProof.Rows
section
variable {G : Gm}
theorem okID {dvs : List V} {P : Program} {w : World} {mg : Str → Option Value} {base : Heap} {k : Nat} {f : Addr} {N ps : List Str} {x qual : Str} {st : Stmt} {fd : FuncData} {sp : DSp} {B : FS} {c : Nat} (F : FunF G.K x qual st dvs f fd) (S : FnScope N ps (defScope st)) (len : ∀ ds Q EX, sp ds Q EX → ds.length + 1 = ps.length)
    (body : ∀ (cdv : Value) (A : Around) (outer : List PySem.Env) (s : Shared) (H : Hp) (E : XK), A.guards = some [] → Room k (A.deeper (envOfC qual (defScope st) s.heap.objs.size f cdv)) →
      PSs (cxOf (L2.CX P w) P w G.K mg base N qual (defScope st) f cdv A outer s H E) (defBody st) (sD G E B))
    (pure : ∀ ds Q EX x, sp ds Q EX → B (DE.mk (endI (G.fld c) x c Q) (fun _ => False) (fun _ => False) (fun _ => False) (fun _ => False)) EX (startI N x c ds)) : FnG P w G.K mg base (k + 1) f fd ps (liftI G c fun ds Q EX => sp ds (fun d => match d with
        | .tup es => Q es
        | _ => False) EX) := by
  refine FunD.okG F S (fun vs H Q E ⟨w, H1, x, dx, vr, ds, QD, EX, e, _, _, _, _, _, r, h, _⟩ => by rw [e, List.length_cons, ← r.length]; exact len _ _ _ h) fun cdv A outer s H vs Q E hg hr ⟨w, H1, x, dx, vr, ds, QD, EX, ev, nx, ndx, ne, eH, ok, r, h, k, lk⟩ => ⟨_, body cdv A outer s H E hg hr, ?_⟩
  subst ev
  have l1 : Le w H1 w H := by
    rw [eH]
    exact (Le.new ndx).trans (Le.new (by rw [upd_ne fun e => ne e.symm]; exact nx))
  have ok1 : Ok w H := by
    rw [eH]
    exact (ok.new ndx).new (by rw [upd_ne fun e => ne e.symm]; exact nx)
  have mx : Mine H1 w x := ⟨ok.none_hd nx, ok.none_jr nx, nx⟩
  have fr : Fr G w H1 (startI N x c ds) (L2.start N (.ref x :: vr)) w H := by
    have base := fr_start (N := N.drop 1) ok1 r
    refine ⟨ok1, l1, ?_, fun i y e => ?_, fun i j y z a e1 e2 o1 o2 _ _ => ?_⟩
    · unfold startI L2.start
      simp [r.length]
    · cases i with
      | zero =>
        unfold startI at e
        simp at e
        subst e
        unfold L2.start
        exact ⟨x, dx, [], by simp, mx, by rw [eH, upd_same], ⟨G.fld c, by simp⟩, by simp, Reps.nil, rfl⟩
      | succ i =>
        have e' : (startD (N.drop 1) ds)[i]? = some y := by
          unfold startI at e
          unfold startD
          simpa [Nat.sub_sub, Nat.add_comm] using e
        have := base.slot i y e'
        have e2 : (L2.start N (.ref x :: vr))[i + 1]? = (L2.start (N.drop 1) vr)[i]? := by
          unfold L2.start
          simp [Nat.sub_sub, Nat.add_comm]
        rw [e2]
        have noO : y.isOwn = false := by
          unfold startD at e'
          by_cases hn : i < ds.length
          · rw [List.getElem?_append_left (by simpa using hn), List.getElem?_map] at e'
            have hd : ds[i]? = some ds[i] := by simp [hn]
            rw [hd] at e'
            cases e'
            rfl
          · rw [List.getElem?_append_right (by simpa using hn), List.getElem?_replicate] at e'
            split at e'
            · cases e'; rfl
            · cases e'
        cases y with
        | un => trivial
        | val d => exact this
        | own _ => cases noO
        | ownd _ _ => cases noO
        | slf _ _ _ => cases noO
    · have zero : ∀ {n : Nat} {u : Sl}, (startI N x c ds)[n]? = some u → u.isOwn = true → n = 0 := fun {n u} en on => by
        cases n with
        | zero => rfl
        | succ n =>
          exfalso
          unfold startI at en
          rw [List.getElem?_cons_succ] at en
          by_cases hn : n < ds.length
          · rw [List.getElem?_append_left (by simpa using hn), List.getElem?_map] at en
            have hd : ds[n]? = some ds[n] := by simp [hn]
            rw [hd] at en
            cases en
            cases on
          · rw [List.getElem?_append_right (by simpa using hn), List.getElem?_replicate] at en
            split at en
            · cases en; cases on
            · cases en
      rw [zero e1 o1, zero e2 o2]
  refine ⟨w, H1, w, startI N x c ds, w, _, EX, fr, .refl w, lk, ?_, pure ds _ EX x h⟩
  refine ⟨fun r s w' H' fr5 _ q => ?_, fun d v w' H' l ok' rp q => q.elim, fun _ _ _ _ _ _ q => q.elim, fun _ _ _ _ _ _ q => q.elim, fun _ _ _ _ _ _ _ _ _ _ q => q.elim⟩
  match r, q, fr5 with
  | Sl.slf x' c' es :: rr, q, fr6 =>
    obtain ⟨rfl, rfl, hl, hq⟩ := q
    obtain ⟨a, dy, fs, e2, m, h1, ⟨l, hl2⟩, hz', rp, rfl⟩ := fr6.slot 0 _ rfl
    have el : l = [] := by
      have h3 := congrArg List.length hl2
      rw [List.length_append, List.length_map, ← hl, rp.length, List.length_map] at h3
      exact List.eq_nil_of_length_eq_zero (by omega)
    subst el
    rw [List.append_nil] at hl2
    exact k es fs w' H' dy fr6.le fr6.ok m h1 hl2.symm rp hq
end
end DL
/-! dict([(text, value), ..]), a new dict as a value; the texts are told once each. -/
namespace DL
open PySem L2 PyProof.Rows
variable {G : Gm} {X : Cx} {E : XK}
end DL
/-! The attribute of an exception that is a value. -/
namespace DL
open PySem L2 PyProof.Rows
section
variable {X : Cx} {G : Gm} {E : XK} {e : Expr} {A : FE} {nm : Str} {pos : Pos}
end
end DL
/-! Own exceptions that keep one value: made, raised. -/
namespace ExL
open PySem PySem.W PySem.Calls PyProof.Rows PySem.HandSPX
/-- an exception of the class at C, not filled -/
abbrev emptyX (C t : Addr) : Obj := { cls := .ref C, data := .fields #[.ref t, .none, .none, .none, .bool false, .none] }
theorem one_fits (v : Value) : [v].length ≤ sizeLine := by rw [sizeLine_eq]; exact (by decide : 1 ≤ 16777216)
section
open Builtin Builtin.ObjectAttr
variable {prog : Program} {w : World} {A : Around} {R : Result → Shared → Prop} {hp : Heap} {g : Array GenState} {d : Drawn} {t : Nat} {os : OsState} {K : Frag} {B : String} {bmB : List Value}
/-- self.name = v where the exception has no dict yet -/
theorem store_first {name : Str} {tk : Tok} {v : Value} {x C t0 : Addr} {cd : ClassData} (SF : StoreFacts B bmB "object.__setattr__" "object") (X : K.In hp) (hx : hp.get? x = some (emptyX C t0)) (hcd : clsIn K C = some cd) (hov : excOver K C bmB = true) (hh : cd.hasDict = true) (ha : takerIn K C name = some none)
    (hq : ∀ h' tk' dx, (∀ b o, b ≠ x → hp.get? b = some o → h'.get? b = some o) → hp.objs.size ≤ dx → dx ≠ x → h'.get? x = some { emptyX C t0 with dict := some dx } → h'.Ns1 dx (fun y => if y = name then some v else none) → R (.ok (.ret .none)) ⟨h', g, d, tk', os⟩) :
    codeAny (model prog w) A (.call (.builtin "object.__setattr__") ⟨[.ref x, .str name tk, v], []⟩) R ⟨hp, g, d, t, os⟩ := by
  have J : InstAt hp x (emptyX C t0) C none := ⟨hx, rfl, rfl, trivial⟩
  have Lc : Looks (model prog w) hp (classData C) cd := looks_clsIn X hcd
  have xn : x ≠ hp.objs.size := Nat.ne_of_lt (Heap.lt_size hx)
  refine osa_openX (s := ⟨hp, g, d, t, os⟩) SF X J hov ha fun b => ?_
  obtain ⟨nm, bs, mro, ns, qn, hd, sn, sb, ab, col, del⟩ := cd
  cases (show hd = true from hh)
  show wpAny _ _ (storeInOwnDict (.ref x) (.ref C) (.str name tk) name v b) _ _ _
  unfold storeInOwnDict ownDictForStores
  repeat (first | with_reducible refine store_in_new ?_ ?_ | with_reducible refine wpAny_loadPart_at hx ?_ | with_reducible refine Lc.at ?_ | wp_step)
  · exact ⟨_, #[], _, (Heap.get?_update_ne _ _ _ _ xn.symm).trans (Heap.get?_push_at rfl rfl), rfl, fun e he => absurd he (by simp), fun _ => rfl⟩
  · intro h' tk' hn' hs
    have x1 : (hp.push { cls := .type "dict", data := .dict #[] }).get? x = some (emptyX C t0) := Heap.get?_push_of_some _ hx
    refine hq h' tk' hp.objs.size (fun b o hb ho => (hs.2 b (Nat.ne_of_lt (Heap.lt_size ho))).trans ((Heap.get?_update_ne _ _ _ _ hb).trans (Heap.get?_push_of_some _ ho))) (Nat.le_refl _) xn.symm ((hs.2 x xn).trans (Heap.get?_update_self _ x1 rfl)) hn'
end
/-- what is made -/
structure Made1 (nm : Str) (h h' : Heap) (e C d : Addr) (v : Value) : Prop where
  keep : ∀ b o, h.get? b = some o → h'.get? b = some o
  new : h.objs.size ≤ e
  obj : ∃ oe vs, h'.get? e = some oe ∧ oe.cls = .ref C ∧ oe.dict = some d ∧ oe.data = .fields vs ∧ vs[1]? = some .none
  dbig : h.objs.size ≤ d
  dne : d ≠ e
  ns : h'.Ns1 d (fun y => if y = nm then some v else none)
/-! ### given -/
def argsG (p1 p2 : Pos) : Arguments := { posonlyargs := [], args := [{ arg := "self", annotation := none, pos := p1 }, { arg := "given", annotation := none, pos := p2 }], vararg := none, kwonlyargs := [], kw_defaults := [], kwarg := none, defaults := [] }
def bodyG (q1 q2 q3 q4 : Pos) : List Stmt := [.Assign [.Attribute (.Name "self" q1) "given" q2] (.Name "given" q3) q4]
def scopeG : Scope := { kind := .function, names := [(PySem.Str.ofString "self", .local), (PySem.Str.ofString "given", .local)], isGenerator := false, isCoroutine := false, more := [] }
/-- what the written part says of such a class x at C, over the base B, and of its __init__ at f -/
structure ClG (K : Frag) (mg : Str → Option Value) (x : Str) (C f : Addr) (bmB : List Value) (newId : String) : Prop where
  gl : mg x = some (.ref C)
  cls : ∃ nm q N bs bm sn sub ab col dd k0 k1 k2 k3 k5, K.lookup C = some (excClassObj nm q C N bs bm true sn sub ab col dd k0 k1 k2 k3 k5 newId) ∧ excTail bmB bm = true
  sa : findIn K (.ref C) "__setattr__" = some (some (.builtin "object.__setattr__"))
  tk : takerIn K C "given" = some none
  it : findIn K (.ref C) "__init__" = some (some (.ref f))
  ty : typeIn K (.ref f) = some (.type "function")
  kp : keepIn K (.ref C) = true
  sb : subIn K (.ref C) (.type "BaseException") = some true
  tc : typeIn K (.ref C) = some (.type "type")
  fn : ∃ (q : Str) (oc : Value) (od : Option Addr) (doc pm : Value) (an : Option Addr) (cdv ct : Value) (osl : Array (Option Value)) (p1 p2 q1 q2 q3 q4 : Pos), K.lookup f = some ⟨oc, od, .func (fnOf "__init__" q (argsG p1 p2) (bodyG q1 q2 q3 q4) scopeG .none .none doc pm an cdv ct), osl⟩ ∧ codeIn K cdv q = true
section
variable {prog : Program} {w : World} {A : Around} {R : Result → Shared → Prop} {s : Shared} {K : Frag} {mg : Str → Option Value} {x : Str} {C f : Addr} {B newId initId : String} {bmB : List Value}
theorem runs_initG (SF : StoreFacts B bmB "object.__setattr__" "object") (T : ClG K mg x C f bmB newId) {e t0 : Addr} {v : Value} (X : K.In s.heap) (lim : s.heap.NoLimit) (he : s.heap.get? e = some (emptyX C t0)) (room : A.depth < recursionLimit)
    (hq : ∀ h' tk dx, (∀ b o, b ≠ e → s.heap.get? b = some o → h'.get? b = some o) → h'.get? e = some { emptyX C t0 with dict := some dx } → s.heap.objs.size ≤ dx → dx ≠ e → h'.Ns1 dx (fun y => if y = "given" then some v else none) → R (.ok (.ret .none)) { s with heap := h', toks := tk }) :
    codeAny (model prog w) A (.call (.ref f) ⟨[.ref e, v], []⟩) R s := by
  obtain ⟨qq, oc, od, doc, pm, an, cdv, ct, osl, p1, p2, q1, q2, q3, q4, ho, hcd⟩ := T.fn
  obtain ⟨nm, q, N, bs, bm, sn, sub, ab, col, dd, k0, k1, k2, k3, k5, hC, hbm⟩ := T.cls
  have hcl : clsIn K C = some { name := nm, bases := bs, mro := .ref C :: bm, ns := N, qualname := q, hasDict := true, slotNames := sn, subclasses := sub, abstract := ab, collection := col, hasDel := false } := by unfold clsIn; rw [hC] <;> rfl
  have hov : excOver K C bmB = true := by
    unfold excOver
    rw [hcl]
    show (C == C && excTail bmB bm) = true
    rw [hbm, beq_self_eq_true]; rfl
  refine Att.call_fn (binds := [("self", .ref e), ("given", v)]) X lim ho hcd room (BindsTo.of_eq (by first | rfl | with_unfolding_all rfl)) (by first | rfl | decide | with_unfolding_all rfl) (fun s1 IC => ?_) rfl rfl rfl
  obtain ⟨h1, t1, rfl⟩ := IC.toInCall.same
  have kp : ∀ b o, s.heap.get? b = some o → h1.get? b = some o := IC.toInCall.keep
  have hn := IC.toInCall.ns
  have he1 := kp _ _ he
  have big : s.heap.objs.size < h1.objs.size := hn.lt
  have ld : ∀ {y : Str} {u : Value} {pos : Pos} {Q : Value → Shared → Prop} {A' : Around} {E : Value → Shared → Prop} {m : Str → Option Value}, h1.Ns s.heap.objs.size m → m y = some u → (envOfC qq scopeG s.heap.objs.size f cdv).kindOf y = some .local → (y == ("__debug__" : Str)) = false → Q u ⟨h1, s.gens, s.drawn, t1, s.os⟩ → wpAny (model prog w) A' (eval (.Name y pos) (envOfC qq scopeG s.heap.objs.size f cdv)) Q E ⟨h1, s.gens, s.drawn, t1, s.os⟩ := fun a1 a2 a3 a4 a5 => wpAny_Name (wpAny_loadName_local rfl a3 a1 a2 a5) a4
  show wpAny _ _ (execs _ _) _ _ _
  refine wpAny_execs_cons (plainObj_wpAny_Assign_Attribute ?_)
  refine ld (y := "given") hn (by first | rfl | with_unfolding_all rfl | kernel_rfl) (by first | rfl | with_unfolding_all rfl | kernel_rfl) (by decide) ?_
  refine ld (y := "self") (u := .ref e) hn (by first | rfl | with_unfolding_all rfl | kernel_rfl) (by first | rfl | with_unfolding_all rfl | kernel_rfl) (by decide) ?_
  refine set_plain (X.keeps kp) (ox := emptyX C t0) (od := none) ⟨he1, rfl, rfl, trivial⟩ T.sa ?_
  refine store_first SF (X.keeps kp) he1 hcl hov rfl T.tk fun h3 tk3 dx k3 dn dne hx3 hn3 => ?_
  show wpAny _ _ (execs _ _) _ _ _
  exact wpAny_execs_nil (hq h3 tk3 dx (fun b o hb z => k3 b o hb (kp b o z)) hx3 (Nat.le_of_lt (Nat.lt_of_lt_of_le big dn)) dne hn3)
theorem makesG (SF : StoreFacts B bmB "object.__setattr__" "object") (FB : ExcBaseFacts B newId initId bmB) (T : ClG K mg x C f bmB newId) {v : Value} (X : K.In s.heap) (lim : s.heap.NoLimit) (room : A.depth + 1 < recursionLimit)
    (hq : ∀ h' tk e d, Made1 "given" s.heap h' e C d v → R (.ok (.ret (.ref e))) { s with heap := h', toks := tk }) : codeAny (model prog w) A (.call (.ref C) ⟨[v], []⟩) R s := by
  obtain ⟨nm, q, N, bs, bm, sn, sub, ab, col, dd, k0, k1, k2, k3, k5, hC, hbm⟩ := T.cls
  obtain ⟨hp, g, dr, tk, os⟩ := s
  have kp : ∀ b o, hp.get? b = some o → ((hp.push (kdv_tup [v])).push (emptyX C hp.objs.size)).get? b = some o := fun b o z => Heap.get?_push_of_some _ (Heap.get?_push_of_some _ z)
  have at_ : ((hp.push (kdv_tup [v])).push (emptyX C hp.objs.size)).get? (hp.objs.size + 1) = some (emptyX C hp.objs.size) := by heap_get
  refine call_own FB (fun Y => excTail_contains Y bm hbm) (X _ _ hC) (looks_findIn X T.it) (fun self => bind_fn X self T.ty) (one_fits v) ?_
  refine runs_initG (s := ⟨(hp.push (kdv_tup [v])).push (emptyX C hp.objs.size), g, dr, tk, os⟩) SF T (X.keeps kp) (lim.keeps kp) at_ room fun h' tk' dx k' hx dn dne hns => ?_
  have old : ∀ b o, hp.get? b = some o → h'.get? b = some o := fun b o z => k' b o (Nat.ne_of_lt (Nat.lt_succ_of_lt (Heap.lt_size z))) (kp b o z)
  have big : hp.objs.size + 1 + 1 ≤ dx := by
    have z := dn
    first
      | exact z
      | (rw [Heap.size_push, Heap.size_push] at z; exact z)
  exact ⟨rfl, hq h' tk' (hp.objs.size + 1) dx ⟨old, Nat.le_succ _, ⟨_, _, hx, rfl, rfl, rfl, rfl⟩, by show hp.objs.size ≤ dx; omega, dne, hns⟩⟩
end
/-! ### index -/
def argsI (p1 p2 : Pos) : Arguments := { posonlyargs := [], args := [{ arg := "self", annotation := none, pos := p1 }, { arg := "index", annotation := none, pos := p2 }], vararg := none, kwonlyargs := [], kw_defaults := [], kwarg := none, defaults := [] }
def bodyI (q1 q2 q3 q4 : Pos) : List Stmt := [.Assign [.Attribute (.Name "self" q1) "index" q2] (.Name "index" q3) q4]
def scopeI : Scope := { kind := .function, names := [(PySem.Str.ofString "self", .local), (PySem.Str.ofString "index", .local)], isGenerator := false, isCoroutine := false, more := [] }
/-- what the written part says of such a class x at C, over the base B, and of its __init__ at f -/
structure ClI (K : Frag) (mg : Str → Option Value) (x : Str) (C f : Addr) (bmB : List Value) (newId : String) : Prop where
  gl : mg x = some (.ref C)
  cls : ∃ nm q N bs bm sn sub ab col dd k0 k1 k2 k3 k5, K.lookup C = some (excClassObj nm q C N bs bm true sn sub ab col dd k0 k1 k2 k3 k5 newId) ∧ excTail bmB bm = true
  sa : findIn K (.ref C) "__setattr__" = some (some (.builtin "object.__setattr__"))
  tk : takerIn K C "index" = some none
  it : findIn K (.ref C) "__init__" = some (some (.ref f))
  ty : typeIn K (.ref f) = some (.type "function")
  kp : keepIn K (.ref C) = true
  sb : subIn K (.ref C) (.type "BaseException") = some true
  tc : typeIn K (.ref C) = some (.type "type")
  fn : ∃ (q : Str) (oc : Value) (od : Option Addr) (doc pm : Value) (an : Option Addr) (cdv ct : Value) (osl : Array (Option Value)) (p1 p2 q1 q2 q3 q4 : Pos), K.lookup f = some ⟨oc, od, .func (fnOf "__init__" q (argsI p1 p2) (bodyI q1 q2 q3 q4) scopeI .none .none doc pm an cdv ct), osl⟩ ∧ codeIn K cdv q = true
section
variable {prog : Program} {w : World} {A : Around} {R : Result → Shared → Prop} {s : Shared} {K : Frag} {mg : Str → Option Value} {x : Str} {C f : Addr} {B newId initId : String} {bmB : List Value}
theorem runs_initI (SF : StoreFacts B bmB "object.__setattr__" "object") (T : ClI K mg x C f bmB newId) {e t0 : Addr} {v : Value} (X : K.In s.heap) (lim : s.heap.NoLimit) (he : s.heap.get? e = some (emptyX C t0)) (room : A.depth < recursionLimit)
    (hq : ∀ h' tk dx, (∀ b o, b ≠ e → s.heap.get? b = some o → h'.get? b = some o) → h'.get? e = some { emptyX C t0 with dict := some dx } → s.heap.objs.size ≤ dx → dx ≠ e → h'.Ns1 dx (fun y => if y = "index" then some v else none) → R (.ok (.ret .none)) { s with heap := h', toks := tk }) :
    codeAny (model prog w) A (.call (.ref f) ⟨[.ref e, v], []⟩) R s := by
  obtain ⟨qq, oc, od, doc, pm, an, cdv, ct, osl, p1, p2, q1, q2, q3, q4, ho, hcd⟩ := T.fn
  obtain ⟨nm, q, N, bs, bm, sn, sub, ab, col, dd, k0, k1, k2, k3, k5, hC, hbm⟩ := T.cls
  have hcl : clsIn K C = some { name := nm, bases := bs, mro := .ref C :: bm, ns := N, qualname := q, hasDict := true, slotNames := sn, subclasses := sub, abstract := ab, collection := col, hasDel := false } := by unfold clsIn; rw [hC] <;> rfl
  have hov : excOver K C bmB = true := by
    unfold excOver
    rw [hcl]
    show (C == C && excTail bmB bm) = true
    rw [hbm, beq_self_eq_true]; rfl
  refine Att.call_fn (binds := [("self", .ref e), ("index", v)]) X lim ho hcd room (BindsTo.of_eq (by first | rfl | with_unfolding_all rfl)) (by first | rfl | decide | with_unfolding_all rfl) (fun s1 IC => ?_) rfl rfl rfl
  obtain ⟨h1, t1, rfl⟩ := IC.toInCall.same
  have kp : ∀ b o, s.heap.get? b = some o → h1.get? b = some o := IC.toInCall.keep
  have hn := IC.toInCall.ns
  have he1 := kp _ _ he
  have big : s.heap.objs.size < h1.objs.size := hn.lt
  have ld : ∀ {y : Str} {u : Value} {pos : Pos} {Q : Value → Shared → Prop} {A' : Around} {E : Value → Shared → Prop} {m : Str → Option Value}, h1.Ns s.heap.objs.size m → m y = some u → (envOfC qq scopeI s.heap.objs.size f cdv).kindOf y = some .local → (y == ("__debug__" : Str)) = false → Q u ⟨h1, s.gens, s.drawn, t1, s.os⟩ → wpAny (model prog w) A' (eval (.Name y pos) (envOfC qq scopeI s.heap.objs.size f cdv)) Q E ⟨h1, s.gens, s.drawn, t1, s.os⟩ := fun a1 a2 a3 a4 a5 => wpAny_Name (wpAny_loadName_local rfl a3 a1 a2 a5) a4
  show wpAny _ _ (execs _ _) _ _ _
  refine wpAny_execs_cons (plainObj_wpAny_Assign_Attribute ?_)
  refine ld (y := "index") hn (by first | rfl | with_unfolding_all rfl | kernel_rfl) (by first | rfl | with_unfolding_all rfl | kernel_rfl) (by decide) ?_
  refine ld (y := "self") (u := .ref e) hn (by first | rfl | with_unfolding_all rfl | kernel_rfl) (by first | rfl | with_unfolding_all rfl | kernel_rfl) (by decide) ?_
  refine set_plain (X.keeps kp) (ox := emptyX C t0) (od := none) ⟨he1, rfl, rfl, trivial⟩ T.sa ?_
  refine store_first SF (X.keeps kp) he1 hcl hov rfl T.tk fun h3 tk3 dx k3 dn dne hx3 hn3 => ?_
  show wpAny _ _ (execs _ _) _ _ _
  exact wpAny_execs_nil (hq h3 tk3 dx (fun b o hb z => k3 b o hb (kp b o z)) hx3 (Nat.le_of_lt (Nat.lt_of_lt_of_le big dn)) dne hn3)
theorem makesI (SF : StoreFacts B bmB "object.__setattr__" "object") (FB : ExcBaseFacts B newId initId bmB) (T : ClI K mg x C f bmB newId) {v : Value} (X : K.In s.heap) (lim : s.heap.NoLimit) (room : A.depth + 1 < recursionLimit)
    (hq : ∀ h' tk e d, Made1 "index" s.heap h' e C d v → R (.ok (.ret (.ref e))) { s with heap := h', toks := tk }) : codeAny (model prog w) A (.call (.ref C) ⟨[v], []⟩) R s := by
  obtain ⟨nm, q, N, bs, bm, sn, sub, ab, col, dd, k0, k1, k2, k3, k5, hC, hbm⟩ := T.cls
  obtain ⟨hp, g, dr, tk, os⟩ := s
  have kp : ∀ b o, hp.get? b = some o → ((hp.push (kdv_tup [v])).push (emptyX C hp.objs.size)).get? b = some o := fun b o z => Heap.get?_push_of_some _ (Heap.get?_push_of_some _ z)
  have at_ : ((hp.push (kdv_tup [v])).push (emptyX C hp.objs.size)).get? (hp.objs.size + 1) = some (emptyX C hp.objs.size) := by heap_get
  refine call_own FB (fun Y => excTail_contains Y bm hbm) (X _ _ hC) (looks_findIn X T.it) (fun self => bind_fn X self T.ty) (one_fits v) ?_
  refine runs_initI (s := ⟨(hp.push (kdv_tup [v])).push (emptyX C hp.objs.size), g, dr, tk, os⟩) SF T (X.keeps kp) (lim.keeps kp) at_ room fun h' tk' dx k' hx dn dne hns => ?_
  have old : ∀ b o, hp.get? b = some o → h'.get? b = some o := fun b o z => k' b o (Nat.ne_of_lt (Nat.lt_succ_of_lt (Heap.lt_size z))) (kp b o z)
  have big : hp.objs.size + 1 + 1 ≤ dx := by
    have z := dn
    first
      | exact z
      | (rw [Heap.size_push, Heap.size_push] at z; exact z)
  exact ⟨rfl, hq h' tk' (hp.objs.size + 1) dx ⟨old, Nat.le_succ _, ⟨_, _, hx, rfl, rfl, rfl, rfl⟩, by show hp.objs.size ≤ dx; omega, dne, hns⟩⟩
end
end ExL
namespace ExL
open PySem PySem.Spec PyProof.Rows L2
theorem rel_one {nm : Str} {v : V} {u : Value} (r : RelV v u) (f : Str) : RelO (List.lookup f [(nm, v)]) (if f = nm then some u else none) := by
  by_cases e : f = nm
  · rw [if_pos e, e, show List.lookup nm [(nm, v)] = some v by rw [List.lookup_cons, beq_self_eq_true]]
    exact r
  · have q : (f == nm) = false := by simpa using e
    rw [if_neg e, show List.lookup f [(nm, v)] = none by rw [List.lookup_cons, q]; rfl]
    trivial
/-- X(e), to be raised: its own dict d is new -/
def tMk1 (C : Addr) (nm : Str) (ta : TA) : L2.St → Hp → XK → Prop := fun σ H Q => ta σ H fun vs H1 => ∃ v, vs = [v] ∧ ∀ d, H1 d = none → Q (.ref C) (some d) (upd H1 d (.xd [(nm, v)]))
section
variable {X : Cx} {C f : Addr} {x : Str} {B newId initId : String} {bmB : List Value}
theorem pmkG {a : Expr} {ta : TA} {p pos : Pos} {k : Nat} (SF : StoreFacts B bmB "object.__setattr__" "object") (FB : ExcBaseFacts B newId initId bmB) (T : ClG X.K X.mg x C f bmB newId) (hr : Room k X.A) (ha : PA X [a] ta) (hg : Gl X x := by rfl) (hdb : (x == ("__debug__" : Str)) = false := by decide)
    (he : starEach (a :: []) X.env = (false, eval a X.env) :: starEach [] X.env := by rfl) (hpl : (backTo pos (starEach [] X.env)).any (·.1) = false := by rfl) : PMk X (.Call (.Name x p) [a] [] pos) (tMk1 C "given" ta) := by
  intro pins s σ H Q I h
  refine wpAny_Call_Name_kw (ld_glob I hg T.gl ?_ hdb)
  refine PySem.W.callWith_K (h₀ := X.base) I.ok.mod.kin T.kp (thn (ha.run pos pins s σ H _ I h) fun us s1 hh => ?_) he hpl
  obtain ⟨vs, H1, I1, r1, v, rfl, q1⟩ := hh
  refine ⟨I1.kIn, ?_⟩
  obtain ⟨u, rfl, ru⟩ := vals1 r1
  show wpAny _ _ (call (.ref C) [u]) _ _ _
  have lim := I1.nolimit
  obtain ⟨hp, g, dr, tk, os⟩ := s1
  refine wpAny_call (makesG SF FB T I1.kIn lim (by have := hr.dp; omega) fun h' tk' e d M => ?_)
  show MkP X pins σ Q (.ref e) ⟨h', g, dr, tk', os⟩
  obtain ⟨oe, fv, hoe, hc, hd, hdat, h1⟩ := M.obj
  obtain ⟨G', g1, g2⟩ := restrict h' fun b => decide (b ≠ e)
  have gk : ∀ b, b ≠ e → G'.get? b = h'.get? b := fun b hb => g1 b (decide_eq_true hb)
  have ge : G'.get? e = none := g2 e (by simp)
  have old : ∀ b o, hp.get? b = some o → G'.get? b = some o := fun b o z => (gk b (Nat.ne_of_lt (Nat.lt_of_lt_of_le (Heap.lt_size z) M.new))).trans (M.keep b o z)
  have ob : ObjOk X.prog X.w (upd H1 d (.xd [(("given" : Str), v)])) G' d (.xd [(("given" : Str), v)]) := ⟨_, M.ns.at (fun o z => (gk d M.dne).trans z), fun y => rel_one ru y⟩
  have J : Inv X pins σ (upd H1 d (.xd [(("given" : Str), v)])) ⟨G', g, dr, tk', os⟩ := I1.laid (t' := tk') old M.dbig ob
  refine ⟨e, oe, fv, ⟨G', g, dr, tk', os⟩, _, .ref C, some d, rfl, J, fun b o z => ?_, ge, hoe, ⟨hc, hd⟩, hdat, h1, ?_, rfl, I1.bare, raises_own T.sb T.tc, q1 d (I1.hok.fresh M.dbig)⟩
  · by_cases hb : b = e
    · have z' : G'.get? b = some o := z
      rw [hb, ge] at z'; cases z'
    · exact (gk b hb).symm.trans z
  · rw [upd_ne (Ne.symm M.dne)]
    exact I1.hok.fresh M.new
end
section
variable {X : Cx} {C f : Addr} {x : Str} {B newId initId : String} {bmB : List Value}
theorem pmkI {a : Expr} {ta : TA} {p pos : Pos} {k : Nat} (SF : StoreFacts B bmB "object.__setattr__" "object") (FB : ExcBaseFacts B newId initId bmB) (T : ClI X.K X.mg x C f bmB newId) (hr : Room k X.A) (ha : PA X [a] ta) (hg : Gl X x := by rfl) (hdb : (x == ("__debug__" : Str)) = false := by decide)
    (he : starEach (a :: []) X.env = (false, eval a X.env) :: starEach [] X.env := by rfl) (hpl : (backTo pos (starEach [] X.env)).any (·.1) = false := by rfl) : PMk X (.Call (.Name x p) [a] [] pos) (tMk1 C "index" ta) := by
  intro pins s σ H Q I h
  refine wpAny_Call_Name_kw (ld_glob I hg T.gl ?_ hdb)
  refine PySem.W.callWith_K (h₀ := X.base) I.ok.mod.kin T.kp (thn (ha.run pos pins s σ H _ I h) fun us s1 hh => ?_) he hpl
  obtain ⟨vs, H1, I1, r1, v, rfl, q1⟩ := hh
  refine ⟨I1.kIn, ?_⟩
  obtain ⟨u, rfl, ru⟩ := vals1 r1
  show wpAny _ _ (call (.ref C) [u]) _ _ _
  have lim := I1.nolimit
  obtain ⟨hp, g, dr, tk, os⟩ := s1
  refine wpAny_call (makesI SF FB T I1.kIn lim (by have := hr.dp; omega) fun h' tk' e d M => ?_)
  show MkP X pins σ Q (.ref e) ⟨h', g, dr, tk', os⟩
  obtain ⟨oe, fv, hoe, hc, hd, hdat, h1⟩ := M.obj
  obtain ⟨G', g1, g2⟩ := restrict h' fun b => decide (b ≠ e)
  have gk : ∀ b, b ≠ e → G'.get? b = h'.get? b := fun b hb => g1 b (decide_eq_true hb)
  have ge : G'.get? e = none := g2 e (by simp)
  have old : ∀ b o, hp.get? b = some o → G'.get? b = some o := fun b o z => (gk b (Nat.ne_of_lt (Nat.lt_of_lt_of_le (Heap.lt_size z) M.new))).trans (M.keep b o z)
  have ob : ObjOk X.prog X.w (upd H1 d (.xd [(("index" : Str), v)])) G' d (.xd [(("index" : Str), v)]) := ⟨_, M.ns.at (fun o z => (gk d M.dne).trans z), fun y => rel_one ru y⟩
  have J : Inv X pins σ (upd H1 d (.xd [(("index" : Str), v)])) ⟨G', g, dr, tk', os⟩ := I1.laid (t' := tk') old M.dbig ob
  refine ⟨e, oe, fv, ⟨G', g, dr, tk', os⟩, _, .ref C, some d, rfl, J, fun b o z => ?_, ge, hoe, ⟨hc, hd⟩, hdat, h1, ?_, rfl, I1.bare, raises_own T.sb T.tc, q1 d (I1.hok.fresh M.dbig)⟩
  · by_cases hb : b = e
    · have z' : G'.get? b = some o := z
      rw [hb, ge] at z'; cases z'
    · exact (gk b hb).symm.trans z
  · rw [upd_ne (Ne.symm M.dne)]
    exact I1.hok.fresh M.new
end
end ExL
/-! raise over data; the state of an except suite, its exception tracked. -/
namespace DL
open PySem L2 PyProof.Rows
section
variable {X : Cx} {G : Gm} {E : XK} {e : Expr} {pos : Pos}
/-- raise of an own exception that keeps one value -/
def sRaise (c : Nat) (A : FA) : FS := fun _ EX r => A r (fun ds => ∃ d, ds = [d] ∧ EX ⟨c, some d⟩) EX
theorem cs_raise {c : Nat} {nm : Str} {A : FA} (tk : Takes X (fun cls d _ H => E cls d H)) (he : PMk X e (ExL.tMk1 (G.cls c) nm (taD G E A))) (hf : G.fld c = [nm]) (hc : X.calm = true := by rfl) :
    PS X (.Raise (some e) none pos) (sD G E (sRaise c A)) := (ps_raise hc tk he).weak fun B s H ⟨w0, H0, wk, r, w, Ad, EX, fr, sb, lk, ll, f⟩ =>
  ⟨w0, H0, r, w, _, EX, fr, lk, f, fun ds vs w1 H1 l1 ok1 rs q1 => by
    obtain ⟨d, rfl, q⟩ := q1
    obtain ⟨v, vr, rfl, rv, rn⟩ := rs.of_cons
    rw [rn.of_nil]
    refine ⟨v, rfl, fun dx hdx => ?_⟩
    have l2 := (fr.le.trans l1).trans (Le.new (o := .xd [(nm, v)]) hdx)
    have n0 : H0 dx = none := by
      cases z : H0 dx with
      | none => rfl
      | some o => exact absurd hdx ((fr.le.trans l1).dom dx (by rw [z]; exact fun y => by cases y))
    have ok2 := ok1.new (o := .xd [(nm, v)]) hdx
    have hn := ok1.none_hd hdx
    exact lk.1 ⟨c, some d⟩ (some dx) (w1.frz (upd H1 dx (.xd [(nm, v)])) dx) _ (l2.frz hn n0) (ok2.frz (ok1.none_jr hdx)) ⟨dx, nm, v, rfl, hf, by rw [frz_at, upd_same], rv.mono (.frz hn)⟩ q⟩
end
/-! ### an exception, tracked -/
def XO (cls : Value) (od : Option Addr) (a : Addr) : HO := .ext fun h => ∃ (oe : Obj) (vs : Array Value), h.get? a = some oe ∧ oe.cls = cls ∧ oe.dict = od ∧ oe.data = .fields vs
theorem XO.at {C : Addr} {od : Option Addr} {a : Addr} : XcAt (XO (.ref C) od a) C od a := fun P w H h x => x.1
theorem XO.ok {P : Program} {w : World} {H : Hp} {h : Heap} {cls : Value} {od : Option Addr} {a : Addr} {oe : Obj} {vs : Array Value} (ha : h.get? a = some oe) (hz : Zc cls od oe) (hd : oe.data = .fields vs) : ObjOk P w H h a (XO cls od a) :=
  ⟨⟨oe, vs, ha, hz.1, hz.2, hd⟩, ⟨oe, ha⟩, fun h1 h2 ⟨o, u, e, r⟩ k => ⟨o, u, k o e, r⟩⟩
section
variable {X : Cx} {pins : List (Addr × Obj)} {σ : L2.St} {H : Hp} {s : Shared}
/-- an except suite: what is caught stands at a, and is tracked -/
theorem inv_caught {a : Addr} {oe : Obj} {vs : Array Value} {cls : Value} {od : Option Addr} (I : Inv X pins σ H s) (ha : s.heap.get? a = some oe) (hz : Zc cls od oe) (hd : oe.data = .fields vs) (na : H a = none)
    (hnew : X.s_0.heap.get? a = none) (nL : a ≠ X.env.locals) (hp : ∀ p ∈ X.pn ++ pins, p.1 ≠ a) : Inv (X.suite a (X.pn ++ pins)) [] σ (upd H a (XO cls od a)) s := by
  have keep : ∀ {b o}, X.s_0.heap.get? b = some o → b ≠ a := fun {b o} e z => by
    rw [z, hnew] at e; cases e
  have un := I.base
  refine ⟨I.ok.suite _ _, I.os, I.bare, ⟨un.keep, un.slot, fun b o e n x => ?_, un.there, fun b xs e => ?_, fun b o u e => ?_, fun b ps e => ?_⟩, I.loc, I.cell, ?_, fun x c e => ?_, fun p hm => ?_, fun b u e => ?_, I.len⟩
  · rw [upd_ne (keep e)]; exact un.free b o e n x
  · have q := un.tups b xs e
    rw [upd_ne (ne_of_none q na)]; exact q
  · have q := un.frzs b o u e
    rw [upd_ne (ne_of_none q na)]; exact q
  · obtain ⟨more, q⟩ := un.tbls b ps e
    exact ⟨more, by rw [upd_ne (ne_of_none q na)]; exact q⟩
  · rw [upd_ne (Ne.symm nL)]; exact I.free
  · have ne : c ≠ a := fun z => by
      obtain ⟨v, o, ho, hdc⟩ := I.cell x c e
      rw [z, ha] at ho; cases ho
      rw [hd] at hdc; cases hdc
    rw [upd_ne ne]; exact I.freeC x c e
  · have hm' : p ∈ X.pn ++ pins := by rw [List.append_nil] at hm; exact hm
    obtain ⟨p1, p2, p3, p4, p5⟩ := I.pin p hm'
    exact ⟨p1, by rw [upd_ne (hp p hm')]; exact p2, p3, p4, p5⟩
  · by_cases hb : b = a
    · subst hb; rw [upd_same] at e; cases e
      exact XO.ok ha hz hd
    · rw [upd_ne hb] at e
      exact (I.hok b u e).stay (fun c v _ q => q) (fun c q => by rw [upd_ne (ne_of_none q na)]; exact q) fun c xs q => by rw [upd_ne (ne_of_none q na)]; exact q
theorem inv_back {a : Addr} {pn' : List (Addr × Obj)} (I : Inv (X.suite a (X.pn ++ pins)) pn' σ H s) (ok : X.Ok) : Inv X pins σ H s :=
  ⟨ok, I.os, I.bare, I.base, I.loc, I.cell, I.free, I.freeC, fun p hm => I.pin p (List.mem_append_left _ hm), I.hok, I.len⟩
end
end DL
/-! try .. except over data: what is caught is tracked in the suite. -/
namespace DL
open PySem L2 PyProof.Rows
/-! ### the tests of the clauses -/
/-- the test ty says ex of an exception's class -/
def TstOk (X : Cx) (ty : Expr) (ex : Value → Option Bool) : Prop := ∀ (a : Addr) (pn ps : List (Addr × Obj)) (σ : L2.St) (H : Hp) (s : Shared) (oe : Obj) (b : Bool) (R : Bool → Shared → Prop) (E1 : Value → Shared → Prop),
  Inv (X.suite a pn) ps σ H s → s.heap.get? a = some oe → ex oe.cls = some b → (∀ h1, (∀ c o, s.heap.get? c = some o → h1.get? c = some o) → R b { s with heap := h1 }) →
    wpAny (model X.prog X.w) (X.A.mark (some (.ref a))) (eval ty X.env) (fun c s1 => wpAny (model X.prog X.w) (X.A.mark (some (.ref a))) (excMatches (.ref a) c) R E1 s1) E1 s
theorem ld_cls {X : Cx} {x : Str} {c : Value} {a : Addr} {pn ps : List (Addr × Obj)} {σ : L2.St} {H : Hp} {s : Shared} {p : Pos} {Q E1 : Value → Shared → Prop} (hc : Names X x c) (I : Inv (X.suite a pn) ps σ H s) (q : Q c s) :
    wpAny (model X.prog X.w) (X.A.mark (some (.ref a))) (eval (.Name x p) X.env) Q E1 s := by
  obtain ⟨g, db, m | ⟨m, v, nn⟩⟩ := hc
  · exact ld_glob (X := X.suite a pn) I g m q db
  · exact ld_blt (X := X.suite a pn) I g m v q nn db
theorem ty_at {M : Model} {h : Heap} {a : Addr} {oe : Obj} (ha : h.get? a = some oe) : PySem.W.Looks M h (typeOf (.ref a)) oe.cls := fun A Q E s k q => wpAny_typeOf_ref (k _ _ ha) q
section
variable {X : Cx} {p p1 p2 p3 : Pos} {x x1 x2 x3 : Str} {c c1 c2 c3 : Value} {kk : Nat}
theorem tst_name (hc : Names X x c) : TstOk X (.Name x p) (fun cls => PySem.W.exmOne X.K cls c) := fun a pn ps σ H s oe b R E1 I ha hx k =>
  ld_cls hc I ((PySem.W.exm_one (M := model X.prog X.w) I.kIn (ty_at ha) hx).here (k s.heap fun _ _ z => z))
end
/-! ### the clauses -/
structure Clz where
  ex : Value → Option Bool
  io : Option Nat
  ts : TS
def endZ (D : Ends) : Option Nat → Ends
  | none => D
  | some i => { nx := fun t H => D.nx (t.set i none) H, rt := D.rt, bk := fun t H => D.bk (t.set i none) H, ct := fun t H => D.ct (t.set i none) H }
def putZ (t : L2.St) (a : Addr) : Option Nat → L2.St
  | none => t
  | some i => t.set i (some (.ref a))
def wZ (D : Ends) : List Clz → WX
  | [] => fun _ _ _ _ => False
  | c :: r => fun cls d t H => ∃ b, c.ex cls = some b ∧ (b = true → ∀ a, H a = none → c.ts (endZ D c.io) (putZ t a c.io) (upd H a (XO cls d a))) ∧ (b = false → wZ D r cls d t H)
inductive ClsOk (X : Cx) : List ExceptHandler → List Clz → Prop
  | nil : ClsOk X [] []
  | bare {ty : Expr} {ex : Value → Option Bool} {u : Stmt} {su : List Stmt} {q : Pos} {hd : List ExceptHandler} {l : List Clz} {ts : TS} (ht : TstOk X ty ex) (hu : ∀ a pn, PSs (X.suite a pn) (u :: su) ts) (r : ClsOk X hd l) :
      ClsOk X (.ExceptHandler (some ty) none (u :: su) q :: hd) (⟨ex, none, ts⟩ :: l)
  | named {ty : Expr} {ex : Value → Option Bool} {u : Stmt} {su : List Stmt} {q : Pos} {hd : List ExceptHandler} {l : List Clz} {ts : TS} {i : Nat} {n : Str} (hi : X.N[i]? = some n) (hk : X.env.kindOf n = some .local) (ht : TstOk X ty ex)
      (hu : ∀ a pn, PSs (X.suite a pn) (u :: su) ts) (r : ClsOk X hd l) : ClsOk X (.ExceptHandler (some ty) (some n) (u :: su) q :: hd) (⟨ex, some i, ts⟩ :: l)
theorem fly_more {B h h1 : Heap} {l : List PySem.Env} {a : Addr} {Z : Obj → Prop} (f : HandSPX.FlyingZ B l a Z h) (k : ∀ c o, h.get? c = some o → h1.get? c = some o) : HandSPX.FlyingZ B l a Z h1 := by
  obtain ⟨f1, f2, f3, oe, vs, T, oT, ts, e1, e2, e3, e4, e5, e6, e7, e8⟩ := f
  exact ⟨fun c o z => k c o (f1 c o z), f2, f3.of_keeps fun c o z _ => ⟨o, k c o z, rfl⟩, oe, vs, T, oT, ts, k _ _ e1, e2, e3, e4, e5, e6, k _ _ e7, e8⟩
section
variable {X : Cx} {body : List Stmt} {h₀ : ExceptHandler} {hds : List ExceptHandler} {l : List Clz} {pos : Pos} {tb : XK → TS}
/-- what the clauses wish of an exception of the body, whatever the names hold by then -/
def eZ (X : Cx) (D : Ends) (l : List Clz) : XK := fun cls d H => ∀ t : L2.St, t.length = X.N.length → wZ D l cls d t H
theorem ps_tryZ (hs : X.stack = X.env :: X.outer) (hf : X.env.frame = some X.env.locals) (hN : X.N.Nodup) (hex : X.ex = [])
    (hb : ∀ (E : XK) (pn : List (Addr × Obj)) (xe : Value → Shared → Prop), Takes (X.tr pn xe) (fun cls d _ H => E cls d H) → PassesOwn (model X.prog X.w) X.A X.env xe → PSs (X.tr pn xe) body (tb E))
    (hc : ClsOk X (h₀ :: hds) l) : PS X (.Try body (h₀ :: hds) [] [] pos) (fun D t H => tb (eZ X D l) D t H) := ⟨fun pins s σ H D I w => by
  have ok := I.ok
  have fr0 : X.A.frames = some (X.env :: X.outer) := ok.frames.trans (congrArg some hs)
  have caught : ∀ (u : Value) (s1 : Shared), XE (X.tr (X.pn ++ pins) fun e s1 => wpAny (model X.prog X.w) X.A (noteFrame e X.env) (fun _ s2 => wpAny (model X.prog X.w) X.A (setFlight e none) (fun _ s3 => wpAny (model X.prog X.w) X.A (handleBy e X.env (h₀ :: hds)) (SP X pins D) X.xe s3) X.xe s2) X.xe s1) (fun cls d _ H => eZ X D l cls d H) u s1 →
      wpAny (model X.prog X.w) X.A (noteFrame u X.env) (fun _ s2 => wpAny (model X.prog X.w) X.A (setFlight u none) (fun _ s3 => wpAny (model X.prog X.w) X.A (handleBy u X.env (h₀ :: hds)) (SP X pins D) X.xe s3) X.xe s2) X.xe s1 := by
    rintro u s1 ⟨a, B, sI, pq, t, H1, cls, d, rfl, JJ, gr, upS, sky, na, os1, ab, wish⟩
    have J : Inv X pins t H1 sI := JJ.ofTry ok
    rw [show (X.tr (X.pn ++ pins) _).stack = X.env :: X.outer from hs] at sky
    refine L2.Sky.land Zc.steady fr0 hf sky fun g3 fly up3 => ?_
    have offF : a ∉ frs (X.env :: X.outer) := fun hm => by
      obtain ⟨oe, vs, x1, x2, x3⟩ := fly.there
      obtain ⟨_, o2, y1, y2⟩ := fly.2.2.1.mem hm
      rw [x1] at y1; cases y1
      exact y2 _ x3
    have offL : a ≠ X.env.locals := fun z => offF (List.mem_filterMap.mpr ⟨X.env, List.mem_cons_self, by rw [hf, z]⟩)
    have notB : ∀ {c : Addr} {o : Obj}, sI.heap.get? c = some o → c ≠ a := fun {c o} z y => by
      subst y
      have q := gr c o z (by rw [show (X.tr (X.pn ++ pins) _).stack = X.env :: X.outer from hs]; exact offF)
      rw [fly.2.1] at q; cases q
    have fresh : X.s_0.heap.get? a = none := by
      cases z : X.s_0.heap.get? a with
      | none => rfl
      | some o =>
        obtain ⟨o1, y⟩ := J.base.there a o z (by rw [hex]; exact fun m => by cases m)
        exact absurd rfl (notB y)
    have apart : ∀ p ∈ X.pn ++ pins, p.1 ≠ a := fun p hm => notB (J.pin p hm).1
    have lands : ∀ {g : Heap}, HandSPX.FlyingZ B (X.env :: X.outer) a (Zc cls d) g → sI.heap.UpToSlots g → ∃ oe, g.get? a = some oe ∧ oe.cls = cls ∧ Inv (X.suite a (X.pn ++ pins)) [] t (upd H1 a (XO cls d a)) { s1 with heap := g } := fun {g} f u => by
      obtain ⟨oe, vs, x1, x2, x3⟩ := f.there
      exact ⟨oe, x1, x2.1, inv_caught (J.landed (s' := { s1 with heap := g }) gr f.1 u os1 ab) x1 x2 x3 na fresh offL apart⟩
    have all : ∀ {hs1 : List ExceptHandler} {l1 : List Clz}, ClsOk X hs1 l1 → ∀ g : Heap, HandSPX.FlyingZ B (X.env :: X.outer) a (Zc cls d) g → sI.heap.UpToSlots g → wZ D l1 cls d t H1 →
        wpAny (model X.prog X.w) X.A (handleBy (.ref a) X.env hs1) (SP X pins D) X.xe { s1 with heap := g } := by
      intro hs1 l1 hk
      induction hk with
      | nil => exact fun g f u z => z.elim
      | @bare ty ex u su q hd l2 ts ht hu r ih =>
        rintro g f up ⟨b, tb1, yes, no⟩
        obtain ⟨oe, x1, x2, S⟩ := lands f up
        refine wpAny_handleBy_cons (codeAny_handlers_test ?_) (fun z => by cases z)
        refine ht a _ [] _ _ _ oe b _ _ S x1 (by rw [x2]; exact tb1) fun g4 k4 => ?_
        have f4 := fly_more f k4
        have up4 := up.trans (Heap.UpToSlots.of_keeps k4)
        cases b with
        | false => exact ih g4 f4 up4 (no rfl)
        | true =>
          refine codeAny_handlers_suite (HandSPX.lands_againZ f4 fun g5 f5 up5 => ?_)
          obtain ⟨oe5, x5, x6, S5⟩ := lands f5 (up4.trans up5)
          refine wpAny_mono ((hu a _).run [] _ t _ _ S5 (yes rfl a na)) (fun fl s6 z => ?_) (fun _ _ z => z.elim)
          cases fl with
          | ret v => obtain ⟨v6, t6, H6, S6, rv, z⟩ := z; exact ⟨v6, t6, H6, inv_back S6 ok, rv, z⟩
          | next => obtain ⟨t6, H6, S6, z⟩ := z; exact ⟨t6, H6, inv_back S6 ok, z⟩
          | brk => obtain ⟨t6, H6, S6, z⟩ := z; exact ⟨t6, H6, inv_back S6 ok, z⟩
          | cont => obtain ⟨t6, H6, S6, z⟩ := z; exact ⟨t6, H6, inv_back S6 ok, z⟩
      | @named ty ex u su q hd l2 ts i n hi hkl ht hu r ih =>
        rintro g f up ⟨b, tb1, yes, no⟩
        obtain ⟨oe, x1, x2, S⟩ := lands f up
        refine wpAny_handleBy_cons (codeAny_handlers_test ?_) (fun z => by cases z)
        refine ht a _ [] _ _ _ oe b _ _ S x1 (by rw [x2]; exact tb1) fun g4 k4 => ?_
        have f4 := fly_more f k4
        have up4 := up.trans (Heap.UpToSlots.of_keeps k4)
        cases b with
        | false => exact ih g4 f4 up4 (no rfl)
        | true =>
          refine codeAny_handlers_suite_as (HandSPX.lands_againZ f4 fun g5 f5 up5 => ?_)
          obtain ⟨oe5, x5, x6, S5⟩ := lands f5 (up4.trans up5)
          refine store_ok (X := X.suite a (X.pn ++ pins)) (v := .ref a) S5 hN hi (.inl hkl) rfl (fun s5 S6 => ?_) (.inr hkl)
          have gone : ∀ {t6 : L2.St} {H6 : Hp} {s6 : Shared} {Q : Shared → Prop}, Inv (X.suite a (X.pn ++ pins)) [] t6 H6 s6 → (∀ s7, Inv X pins (t6.set i none) H6 s7 → Q s7) →
              wpAny (model X.prog X.w) X.A (do bindName X.env n .none; unbindBehindTheSuite X.env n q) (fun _ s7 => Q s7) X.xe s6 := fun {t6 H6 s6 Q} S6 hq => gone_ok (inv_back S6 ok) hN hi hkl hq
          refine wpAny_mono ((hu a _).run [] s5 _ _ _ S6 (yes rfl a na)) (fun fl s6 z => ?_) (fun _ _ z => z.elim)
          cases fl with
          | ret v => obtain ⟨v6, t6, H6, S7, rv, z⟩ := z; exact gone S7 fun s7 J7 => ⟨v6, _, H6, J7, rv, z⟩
          | next => obtain ⟨t6, H6, S7, z⟩ := z; exact gone S7 fun s7 J7 => ⟨_, H6, J7, z⟩
          | brk => obtain ⟨t6, H6, S7, z⟩ := z; exact gone S7 fun s7 J7 => ⟨_, H6, J7, z⟩
          | cont => obtain ⟨t6, H6, S7, z⟩ := z; exact gone S7 fun s7 J7 => ⟨_, H6, J7, z⟩
    exact all hc g3 fly (upS.trans up3) (wish t J.len)
  refine wpAny_Try_except (wpAny_mono ((hb (eZ X D l) (X.pn ++ pins) _ (fun u s1 x => caught u s1 x) PassesOwn.looking).run [] s σ H D (I.toTry _) w) (fun f s1 z => ?_) (fun e s1 z => z))
  cases f with
  | next => obtain ⟨t1, H1, J, z⟩ := z; exact wpAny_execs_nil ⟨t1, H1, J.ofTry ok, z⟩
  | brk => obtain ⟨t1, H1, J, z⟩ := z; exact ⟨t1, H1, J.ofTry ok, z⟩
  | cont => obtain ⟨t1, H1, J, z⟩ := z; exact ⟨t1, H1, J.ofTry ok, z⟩
  | ret v => obtain ⟨v1, t1, H1, J, rv, z⟩ := z; exact ⟨v1, t1, H1, J.ofTry ok, rv, z⟩⟩
end
end DL
/-! try .. except over data: clauses that return. -/
namespace DL
open PySem L2 PyProof.Rows
/-- a clause: which classes it takes, the slot of its name, its suite -/
structure Hdl where
  ex : Nat → Option Bool
  io : Option Nat
  S : FS
def putE (r : Env) (x : XD) : Option Nat → Env
  | none => r
  | some i => r.set i (.val (.exc x.c x.d.toList))
def endE (A : DE) : DE := { nx := fun _ => False, rt := A.rt, rn := A.rn }
def hdl (n : Nat) : List Hdl → DE → XD → Prop
  | [], _, _ => False
  | h :: t, A, x => ∃ b, h.ex x.c = some b ∧ if b = true then h.S (endE A) NoX (putE (List.replicate n .un) x h.io) else hdl n t A x
def sTry (n : Nat) (B : FS) (l : List Hdl) : FS := fun A EX r => B A (hdl n l A) r
abbrev NoE : XK := fun _ _ _ => False
inductive HdsD (X : Cx) (G : Gm) : List ExceptHandler → List Hdl → Prop
  | nil : HdsD X G [] []
  | bare {ty : Expr} {ex : Nat → Option Bool} {ev : Value → Option Bool} {u : Stmt} {su : List Stmt} {q : Pos} {hd : List ExceptHandler} {l : List Hdl} {S : FS} (hx : ∀ c b, ex c = some b → ev (.ref (G.cls c)) = some b) (ht : TstOk X ty ev)
      (hu : ∀ a pn, PSs (X.suite a pn) (u :: su) (sD G NoE S)) (r : HdsD X G hd l) : HdsD X G (.ExceptHandler (some ty) none (u :: su) q :: hd) (⟨ex, none, S⟩ :: l)
  | named {ty : Expr} {ex : Nat → Option Bool} {ev : Value → Option Bool} {u : Stmt} {su : List Stmt} {q : Pos} {hd : List ExceptHandler} {l : List Hdl} {S : FS} {i : Nat} {n : Str} (hi : X.N[i]? = some n) (hk : X.env.kindOf n = some .local)
      (hx : ∀ c b, ex c = some b → ev (.ref (G.cls c)) = some b) (ht : TstOk X ty ev) (hu : ∀ a pn, PSs (X.suite a pn) (u :: su) (sD G NoE S)) (r : HdsD X G hd l) : HdsD X G (.ExceptHandler (some ty) (some n) (u :: su) q :: hd) (⟨ex, some i, S⟩ :: l)
inductive Zs (G : Gm) : List Hdl → List Clz → Prop
  | nil : Zs G [] []
  | cons {h : Hdl} {z : Clz} {l : List Hdl} {k : List Clz} (hx : ∀ c b, h.ex c = some b → z.ex (.ref (G.cls c)) = some b) (hi : z.io = h.io) (ht : z.ts = sD G NoE h.S) (r : Zs G l k) : Zs G (h :: l) (z :: k)
theorem HdsD.zs {X : Cx} {G : Gm} {hs : List ExceptHandler} {l : List Hdl} (h : HdsD X G hs l) : ∃ k, ClsOk X hs k ∧ Zs G l k := by
  induction h with
  | nil => exact ⟨[], .nil, .nil⟩
  | bare hx ht hu r ih =>
    obtain ⟨k, h1, h2⟩ := ih
    exact ⟨_ :: k, .bare ht hu h1, .cons hx rfl rfl h2⟩
  | named hi hk hx ht hu r ih =>
    obtain ⟨k, h1, h2⟩ := ih
    exact ⟨_ :: k, .named hi hk ht hu h1, .cons hx rfl rfl h2⟩
section
variable {G : Gm} {w0 w1 wk : Wd} {H0 H1 : Hp} {n : Nat} {A : DE} {D : Ends}
theorem fr_un {w : Wd} {H : Hp} {t : L2.St} (ok : Ok w H) (le : Le w0 H0 w H) (ht : t.length = n) : Fr G w0 H0 (List.replicate n .un) t w H where
  ok := ok
  le := le
  len := by rw [List.length_replicate, ht]
  slot := fun i x e => by
    have q := List.getElem?_eq_some_iff.mp e
    obtain ⟨h, q⟩ := q
    rw [List.getElem_replicate] at q
    subst q
    trivial
  dist := fun i j x y a e1 e2 o1 _ _ _ => by
    obtain ⟨h, q⟩ := List.getElem?_eq_some_iff.mp e1
    rw [List.getElem_replicate] at q
    subst q
    cases o1
theorem wZ_of (ll : Lk G w0 H0 wk A D) {x : XD} {od : Option Addr} (le : Le w0 H0 w1 H1) (ok : Ok w1 H1) (ex : ExAt G w1 H1 x od) (htb : w0.tb = G.tb) {t : L2.St} (ht : t.length = n) {l : List Hdl} {k : List Clz} (zs : Zs G l k) (h : hdl n l A x) : wZ D k (.ref (G.cls x.c)) od t H1 := by
  induction zs with
  | nil => exact h
  | @cons h1 z l2 k2 hx hi hts r ih =>
    obtain ⟨b, e, q⟩ := h
    refine ⟨b, hx _ _ e, fun hb a na => ?_, fun hb => ih (by rw [hb, if_neg Bool.false_ne_true] at q; exact q)⟩
    rw [hb, if_pos rfl] at q
    rw [hts, hi]
    have n0 : H0 a = none := by
      cases y : H0 a with
      | none => rfl
      | some o => exact absurd na (le.dom a (by rw [y]; exact fun y => by cases y))
    have hn := ok.none_hd na
    have ok2 : Ok (w1.frz (upd H1 a (XO (.ref (G.cls x.c)) od a)) a) (upd H1 a (XO (.ref (G.cls x.c)) od a)) := (ok.new na).frz (ok.none_jr na)
    have le2 := ((le.trans (Le.new (o := XO (.ref (G.cls x.c)) od a) na)).frz hn n0)
    have base : Fr G w0 H0 (List.replicate n .un) t _ _ := fr_un (G := G) ok2 le2 ht
    have rp : Rep G (w1.frz (upd H1 a (XO (.ref (G.cls x.c)) od a)) a) (.exc x.c x.d.toList) (.ref a) := by
      have at_ : (w1.frz (upd H1 a (XO (.ref (G.cls x.c)) od a)) a).hd a = some (XO (.ref (G.cls x.c)) od a) := by rw [frz_at, upd_same]
      unfold Rep
      unfold ExAt at ex
      obtain ⟨c, dd⟩ := x
      cases dd with
      | none =>
        have ex : od = none := ex
        subst ex
        exact ⟨a, _, none, [], rfl, at_, XO.at, Reps.nil, .inl ⟨rfl, rfl⟩⟩
      | some d =>
        obtain ⟨dx, nm, v, rfl, hf, hd, rv⟩ := ex
        exact ⟨a, _, some dx, [v], rfl, at_, XO.at, Reps.cons (rv.mono (.frz hn)) Reps.nil, .inr ⟨dx, nm, v, rfl, rfl, hf, by rw [frz_ne (ne_of_none hd hn)]; exact hd⟩⟩
    have lks : ∀ io, Lk G w0 H0 (w1.frz (upd H1 a (XO (.ref (G.cls x.c)) od a)) a) (endE A) (endZ D io) := fun io => by
      have rt : (endZ D io).rt = D.rt := by cases io <;> rfl
      refine ⟨fun r s w H _ _ z => (show False from z).elim, fun d v w H l o rv z => ?_, fun r s w H _ _ z => (show False from z).elim, fun r s w H _ _ z => (show False from z).elim, fun ds a vs w H l o m e rv z => ?_⟩
      · rw [rt]; exact ll.rt d v w H l o rv z
      · rw [rt]; exact ll.rn ds a vs w H l o m e rv z
    cases hio : h1.io with
    | none =>
      rw [hio] at q
      exact ⟨w0, H0, _, _, _, _, NoX, base, .refl _, LkE.none htb, lks none, q⟩
    | some i =>
      rw [hio] at q
      exact ⟨w0, H0, _, _, _, _, NoX, base.setV rp, .refl _, LkE.none htb, lks (some i), q⟩
end
section
variable {X : Cx} {G : Gm} {E : XK} {body : List Stmt} {h₀ : ExceptHandler} {hds : List ExceptHandler} {l : List Hdl} {pos : Pos} {B : FS} {n : Nat}
theorem cs_try (hn : X.N.length = n) (hs : X.stack = X.env :: X.outer) (hf : X.env.frame = some X.env.locals) (hN : X.N.Nodup) (hex : X.ex = [])
    (hb : ∀ (E : XK) (pn : List (Addr × Obj)) (xe : Value → Shared → Prop), Takes (X.tr pn xe) (fun cls d _ H => E cls d H) → PassesOwn (model X.prog X.w) X.A X.env xe → PSs (X.tr pn xe) body (sD G E B))
    (hh : HdsD X G (h₀ :: hds) l) : PS X (.Try body (h₀ :: hds) [] [] pos) (sD G E (sTry n B l)) := by
  obtain ⟨k, h1, h2⟩ := hh.zs
  refine (ps_tryZ (tb := fun E => sD G E B) hs hf hN hex hb h1).weak fun D s H ⟨w0, H0, wk, r, w, A, EX, fr, sb, lk, ll, f⟩ => ?_
  exact ⟨w0, H0, wk, r, w, A, _, fr, sb, ⟨fun x od w1 H1 le ok ex q t ht => wZ_of ll le ok ex lk.2 (ht.trans hn) h2 q, lk.2⟩, ll, f⟩
end
/-! ### runs -/
def yRaise (c : Nat) (a : Env → R (List D)) (r : Env) : RS := (a r).st fun ds => match ds with
  | [d] => .ex ⟨c, some d⟩
  | _ => .no
theorem s_raise {c : Nat} {A : FA} {a : Env → R (List D)} (ha : CF A a) : CS (sRaise c A) (yRaise c a) := fun r r' Ad EX s h => ha r r' _ EX s ((hold_st h).imp fun ds h1 => by
  match ds, h1 with
  | [d], h1 => exact ⟨d, rfl, h1⟩)
structure HdY where
  ex : Nat → Option Bool
  io : Option Nat
  s : Env → RS
def RS.fin : RS → RS
  | .rt d => .rt d
  | .rn ds => .rn ds
  | _ => .no
def yHdl (n : Nat) : List HdY → XD → RS
  | [], _ => .no
  | h :: t, x => match h.ex x.c with
    | some true => (h.s (putE (List.replicate n .un) x h.io)).fin
    | some false => yHdl n t x
    | none => .no
def yTry (n : Nat) (b : Env → RS) (l : List HdY) (r : Env) : RS := match b r with
  | .ex x => yHdl n l x
  | y => y
inductive HdsY : List Hdl → List HdY → Prop
  | nil : HdsY [] []
  | cons {ex : Nat → Option Bool} {io : Option Nat} {S : FS} {s : Env → RS} {l : List Hdl} {k : List HdY} (h : CS S s) (r : HdsY l k) : HdsY (⟨ex, io, S⟩ :: l) (⟨ex, io, s⟩ :: k)
theorem sim_put {x : Addr} {n : Nat} {xd : XD} : ∀ io, Sim x (putE (List.replicate n .un) xd io) (putE (List.replicate n .un) xd io)
  | none => by
    show _ = List.map _ _
    unfold putE
    rw [List.map_replicate]; rfl
  | some i => by
    have h : Sim x (List.replicate n Sl.un) (List.replicate n .un) := by
      show _ = List.map _ _
      rw [List.map_replicate]; rfl
    exact h.set i _
theorem hdl_of {n : Nat} {A : DE} {x : XD} {y : Addr} {EX : XP} {l : List Hdl} {k : List HdY} (h : HdsY l k) (q : (yHdl n k x).hold y A EX) : hdl n l A x := by
  induction h with
  | nil => exact q
  | @cons ex io S s l2 k2 hs r ih =>
    unfold yHdl at q
    cases e : ex x.c with
    | none => rw [show (HdY.mk ex io s).ex x.c = none from e] at q; exact q.elim
    | some b =>
      rw [show (HdY.mk ex io s).ex x.c = some b from e] at q
      cases b with
      | false => exact ⟨false, e, by rw [if_neg Bool.false_ne_true]; exact ih q⟩
      | true =>
        refine ⟨true, e, ?_⟩
        rw [if_pos rfl]
        refine hs (x := y) _ _ _ _ (sim_put io) ?_
        have q' : RS.hold y (RS.fin (s (putE (List.replicate n .un) x io))) A EX := q
        cases z : s (putE (List.replicate n .un) x io) with
        | rt d => rw [z] at q'; exact q'
        | rn d => rw [z] at q'; exact q'
        | nx d => rw [z] at q'; exact q'.elim
        | bk d => rw [z] at q'; exact q'.elim
        | ct d => rw [z] at q'; exact q'.elim
        | ex d => rw [z] at q'; exact q'.elim
        | no => rw [z] at q'; exact q'.elim
theorem s_try {n : Nat} {B : FS} {b : Env → RS} {l : List Hdl} {k : List HdY} (hb : CS B b) (h : HdsY l k) : CS (sTry n B l) (yTry n b k) := fun {x} r r' A EX s q => by
  refine hb (x := x) r r' A (hdl n l A) s ?_
  unfold yTry at q
  cases e : b r with
  | ex xd => rw [e] at q; exact hdl_of h q
  | nx d => rw [e] at q; exact q
  | rt d => rw [e] at q; exact q
  | bk d => rw [e] at q; exact q
  | ct d => rw [e] at q; exact q
  | rn d => rw [e] at q; exact q
  | no => rw [e] at q; exact q
end DL
/-! Defs that may be called within an except suite. -/
namespace DL
open PySem L2 PyProof.Rows
/-- room, whatever is handled -/
structure RmW (k : Nat) (A : Around) : Prop where
  dp : A.depth + 3 * k + 5 < recursionLimit
  un : A.units + 16 * k + 200 < cLine
theorem RmW.of {k : Nat} {A : Around} (r : Room k A) : RmW k A := ⟨r.dp, r.un⟩
theorem RmW.mono {j k : Nat} {A : Around} (r : RmW k A) (h : j ≤ k) : RmW j A := ⟨by have := r.dp; omega, by have := r.un; omega⟩
theorem RmW.deeper {k : Nat} {A : Around} (r : RmW (k + 1) A) (env : PySem.Env) : RmW k (A.deeper env) :=
  ⟨by have := r.dp; show A.depth + 1 + 3 * k + 5 < recursionLimit; omega, by have := r.un; show A.units + 3 + 16 * k + 200 < cLine; omega⟩
theorem RmW.depth {k : Nat} {A : Around} (r : RmW k A) : A.depth < recursionLimit := by have := r.dp; omega
theorem RmW.mark {k : Nat} {A : Around} {v : Option Value} (r : RmW k A) : RmW k (A.mark v) := ⟨r.dp, r.un⟩
structure FnW (P : Program) (w : World) (K : PySem.W.Frag) (mg : Str → Option Value) (base : Heap) (k : Nat) (f : Addr) (fd : FuncData) (ps : List Str) (sp : Sp) : Prop where
  len : ∀ vs H Q E, sp vs H Q E → vs.length = ps.length
  run : ∀ (A : Around) (outer : List PySem.Env) (s : Shared) (H : Hp) (args : Args) (us : List Value) (vs : List V) (Q : VK) (E : XK), A.guards = some [] → RmW k A → Env0 P w K mg base A outer s H → BindsTo s fd args (ps.zip us) → Vals vs us → sp vs H Q E →
    codeAny (model P w) A (.call (.ref f) args) (CR (L2.CX P w) outer P w H s Q E) s
theorem FnW.mono {P : Program} {w : World} {K : PySem.W.Frag} {mg : Str → Option Value} {base : Heap} {j k : Nat} {f : Addr} {fd : FuncData} {ps : List Str} {sp : Sp} (F : FnW P w K mg base j f fd ps sp) (h : j ≤ k) : FnW P w K mg base k f fd ps sp :=
  ⟨F.len, fun A outer s H args us vs Q E hg hr => F.run A outer s H args us vs Q E hg (hr.mono h)⟩
section
variable {P : Program} {w : World} {K : PySem.W.Frag} {mg : Str → Option Value} {base : Heap} {k : Nat} {f : Addr} {N ps : List Str} {sp : Sp}
end
section
variable {G : Gm} {P : Program} {w : World} {mg : Str → Option Value} {base : Heap} {k : Nat} {f : Addr} {N ps : List Str}
end
section
variable {X : Cx} {G : Gm} {E : XK} {k : Nat} {f : Addr} {fd : FuncData} {ps : List Str} {sp : DSp} {x : Str} {p pos : Pos} {e : Expr} {es : List Expr} {B : FA}
end
end DL
/-! The head by one run of the kernel: a part of the heap is looked at behind the top, by tests on it. -/
namespace HdM
open PySem PySem.Spec PyProof.Rows L2 DL
/-! ### the part: the module's names xs, what they name in four steps -/
def refsAt (g : Addr → Option Obj) (l : List Addr) : List Addr := l.flatMap fun a => match g a with
  | some o => He.refsO o
  | none => []
def lev (g : Addr → Option Obj) : Nat → List Addr → List Addr
  | 0, l => l
  | n + 1, l => l ++ lev g n (refsAt g l)
def partG (xs : List Str) (g : Addr → Option Obj) : PySem.W.Frag := He.frG g (mainGlobals :: cStatics :: lev g 4 (xs.map (He.ga (He.frG g [mainGlobals]))))
def partH (xs : List Str) (h : Heap) : PySem.W.Frag := partG xs h.get?
def partT (xs : List Str) (s : PySem.W.SharedT) : PySem.W.Frag := partG xs (HandSHeadRun.getT s)
theorem part_eq (xs : List Str) (s : PySem.W.SharedT) : partT xs s = partH xs s.abs.heap := by
  have e : HandSHeadRun.getT s = s.abs.heap.get? := funext fun a => HandSHeadRun.getT_eq s a
  unfold partT partH
  rw [e]
/-! ### a def -/
structure DfM where
  ad : PySem.W.Frag → Addr
  name : Str
  qual : Str
  params : Arguments
  body : List Stmt
  scope : Scope
  dfl : List He.Dv := []
def fnAt (K : PySem.W.Frag) (a : Addr) : He.FnW := match K.lookup a with
  | some ⟨_, _, .func d, _⟩ => some (d.name, d.qualname, d.params, d.body, d.scope, d.globals, d.closure, d.builtins)
  | _ => none
def DfM.val (d : DfM) : He.FnW := some (d.name, d.qual, d.params, .stmts d.body, d.scope, mainGlobals, [], builtinsNs)
def DfM.dvs (K : PySem.W.Frag) (d : DfM) : List V := d.dfl.map (He.Dv.v K)
def DfM.ok (K : PySem.W.Frag) (d : DfM) : Bool := PySem.W.keepIn K (.ref (d.ad K)) && (match K.lookup (d.ad K) with
  | some ⟨_, _, .func e, _⟩ => PySem.W.codeIn K e.code d.qual && He.dflB K e.defaults (d.dvs K)
  | _ => false)
theorem DfM.funD {K : PySem.W.Frag} {d : DfM} (e : fnAt K (d.ad K) = d.val) (c : d.ok K = true) : ∃ fd, FunD K d.name d.qual d.params d.body d.scope (d.dvs K) [] (d.ad K) fd := by
  obtain ⟨kp, c2⟩ := Bool.and_eq_true_iff.mp c
  cases q : K.lookup (d.ad K) with
  | none => rw [q] at c2; cases c2
  | some o =>
    obtain ⟨oc, od, dt, osl⟩ := o
    unfold fnAt at e
    rw [q] at c2 e
    cases dt with
    | func fd =>
      obtain ⟨m1, m2, m3, m4, m5, m6, m7, m8, m9, m10, m11, m12, m13, m14, m15⟩ := fd
      have z : (some (m1, m2, m3, m4, m5, m6, m7, m15) : He.FnW) = some (d.name, d.qual, d.params, .stmts d.body, d.scope, mainGlobals, [], builtinsNs) := e
      simp only [Option.some.injEq, Prod.mk.injEq] at z
      obtain ⟨z1, z2, z3, z4, z5, z6, z7, z8⟩ := z
      subst z1 z2 z3 z4 z5 z6 z7 z8
      obtain ⟨k1, k2⟩ := Bool.and_eq_true_iff.mp (show (PySem.W.codeIn K m13 d.qual && He.dflB K m8 (d.dvs K)) = true from c2)
      exact ⟨_, ⟨oc, od, m8, m9, m10, m11, m12, m13, m14, osl, rfl, q, k1, He.dflB_ok k2, .inl rfl⟩, kp⟩
    | _ => cases c2
theorem fun_of {K : PySem.W.Frag} {x q : Str} {st : Stmt} {f : Addr} (h : ∃ fd, FunD K x q (defArgs st) (defBody st) (defScope st) [] [] f fd) : ∃ fd, L2.Fun K x q st f fd := by
  obtain ⟨fd, ⟨oc, od, dV, kV, doc, pm, an, cdv, ct, osl, rfl, lk, cd, df, _⟩, kp⟩ := h
  rcases df with ⟨_, rfl⟩ | ⟨n, _⟩
  · exact ⟨_, ⟨oc, od, kV, doc, pm, an, cdv, ct, osl, rfl, lk, cd⟩, kp⟩
  · exact absurd rfl n
/-! ### tests -/
/-- the getter of a property -/
def getF (K : PySem.W.Frag) (P : Addr) : Addr := match PySem.W.recIn K P "property" with
  | some (.ref f :: _) => f
  | _ => 0
def getB (K : PySem.W.Frag) (P : Addr) : Bool := match PySem.W.recIn K P "property" with
  | some (.ref _ :: _) => true
  | _ => false
theorem get_ok {K : PySem.W.Frag} {P : Addr} (h : getB K P = true) : ∃ r, PySem.W.recIn K P "property" = some (.ref (getF K P) :: r) := by
  unfold getB at h
  unfold getF
  split at h
  · rename_i f r e
    exact ⟨r, by rw [e]⟩
  · cases h
def unitB (K : PySem.W.Frag) (a : Addr) : Bool := match K.lookup a with
  | some ⟨.type c, none, .seq its _, _⟩ => decide (c = "tuple") && its.toList.isEmpty
  | _ => false
theorem unit_ok {K : PySem.W.Frag} {a : Addr} (h : unitB K a = true) : ∃ n sl, K.lookup a = some ⟨.type "tuple", none, .seq #[] n, sl⟩ := by
  unfold unitB at h
  split at h
  · rename_i c its n sl e
    obtain ⟨h1, h2⟩ := Bool.and_eq_true_iff.mp h
    have ec : c = "tuple" := of_decide_eq_true h1
    have ei : its = #[] := by
      cases its with
      | mk l =>
        cases l with
        | nil => rfl
        | cons x y => cases h2
    exact ⟨n, sl, by rw [e, ec, ei]⟩
  · cases h
def intB (K : PySem.W.Frag) (x : Str) (i : Int) : Bool := match PySem.W.nsIn K mainGlobals x with
  | some (some (.int j _)) => decide (j = i)
  | _ => false
theorem int_ok {K : PySem.W.Frag} {x : Str} {i : Int} (h : intB K x i = true) : ∃ t, PySem.W.nsIn K mainGlobals x = some (some (.int i t)) := by
  unfold intB at h
  split at h
  · rename_i j t e
    have ej : j = i := of_decide_eq_true h
    exact ⟨t, by rw [e, ej]⟩
  · cases h
/-- a dict of the written part, but for its hashes -/
def entB : List DictEntry → List (Key × V) → Bool
  | [], [] => true
  | e :: r, (k, v) :: t => keyIs k e.key && (He.relB v e.val && entB r t)
  | _, _ => false
def dicB (K : PySem.W.Frag) (a : Addr) (kvs : List (Key × V)) : Bool := match K.lookup a with
  | some ⟨.type c, none, .dict es _, sl⟩ => decide (c = "dict") && (sl.toList.isEmpty && (!(a == sysModules) && entB es.toList kvs))
  | _ => false
def hashesAt (K : PySem.W.Frag) (a : Addr) : List Int := match K.lookup a with
  | some ⟨_, _, .dict es _, _⟩ => es.toList.map (·.hash)
  | _ => []
theorem kent_of {w : World} : ∀ {es : List DictEntry} {kvs : List (Key × V)}, entB es kvs = true → es.map (·.hash) = kvs.map (fun p => keyH w p.1) → KEnt w es kvs
  | [], [], _, _ => trivial
  | [], _ :: _, h, _ => by cases h
  | _ :: _, [], h, _ => by cases h
  | e :: r, (k, v) :: t, h, q => by
    obtain ⟨h1, h⟩ := Bool.and_eq_true_iff.mp (show (keyIs k e.key && (He.relB v e.val && entB r t)) = true from h)
    obtain ⟨h2, h3⟩ := Bool.and_eq_true_iff.mp h
    have q : e.hash :: r.map (·.hash) = keyH w k :: t.map (fun p => keyH w p.1) := q
    injection q with q1 q2
    exact ⟨h1, q1, He.relB_ok h2, kent_of h3 q2⟩
theorem dic_ok {K : PySem.W.Frag} {w : World} {a : Addr} {kvs : List (Key × V)} (h : dicB K a kvs = true) (q : hashesAt K a = kvs.map (fun p => keyH w p.1)) : KDic K w a kvs := by
  unfold dicB at h
  unfold hashesAt at q
  split at h
  · rename_i c es n sl e
    obtain ⟨h1, h⟩ := Bool.and_eq_true_iff.mp h
    obtain ⟨h2, h⟩ := Bool.and_eq_true_iff.mp h
    obtain ⟨h3, h4⟩ := Bool.and_eq_true_iff.mp h
    have ec : c = "dict" := of_decide_eq_true h1
    have es0 : sl = #[] := by
      cases sl with
      | mk l =>
        cases l with
        | nil => rfl
        | cons x y => cases h2
    rw [e] at q
    exact ⟨es, n, by rw [e, ec, es0], by simpa using h3, kent_of h4 q⟩
  · cases h
/-! ### the Hook -/
abbrev AlM : Type := Bool × List He.FnW × List (List Int)
def lookM (fs : List (PySem.W.Frag → Bool)) (fn : List DfM) (dc : List (PySem.W.Frag → Addr)) (K : PySem.W.Frag) : AlM :=
  ((fs.all fun f => f K) && fn.all fun d => d.ok K, fn.map fun d => fnAt K (d.ad K), dc.map fun a => hashesAt K (a K))
def wantM (fn : List DfM) (hs : List (List Key)) (w : World) : AlM := (true, fn.map DfM.val, hs.map fun l => l.map (keyH w))
def SaysM (fs : List (PySem.W.Frag → Bool)) (fn : List DfM) (dc : List (PySem.W.Frag → Addr)) (hs : List (List Key)) (w : World) (K : PySem.W.Frag) : Prop := lookM fs fn dc K = wantM fn hs w
def hookM (xs : List Str) (fs : List (PySem.W.Frag → Bool)) (fn : List DfM) (dc : List (PySem.W.Frag → Addr)) (hs : List (List Key)) : PySem.W.Hook where
  α := AlM
  obs := fun s => lookM fs fn dc (partH xs s.heap)
  val := wantM fn hs
  says := fun w h => ∃ K : PySem.W.Frag, K.In h ∧ SaysM fs fn dc hs w K
  of := fun _ _ e => ⟨_, He.frG_in, e⟩
  keeps := fun _ _ _ ⟨K, hK, c⟩ k => ⟨K, PySem.W.Frag.In.keeps hK k, c⟩
def obM (xs : List Str) (fs : List (PySem.W.Frag → Bool)) (fn : List DfM) (dc : List (PySem.W.Frag → Addr)) (s : PySem.W.SharedT) : AlM := lookM fs fn dc (partT xs s)
theorem obM_eq {xs : List Str} {fs : List (PySem.W.Frag → Bool)} {fn : List DfM} {dc : List (PySem.W.Frag → Addr)} {hs : List (List Key)} (s : PySem.W.SharedT) : obM xs fs fn dc s = (hookM xs fs fn dc hs).obs s.abs := by
  unfold obM
  rw [part_eq]; rfl
section
variable {fs : List (PySem.W.Frag → Bool)} {fn : List DfM} {dc : List (PySem.W.Frag → Addr)} {hs : List (List Key)} {w : World} {K : PySem.W.Frag}
theorem SaysM.fact (c : SaysM fs fn dc hs w K) (i : Nat) {f : PySem.W.Frag → Bool} (h : fs[i]? = some f := by rfl) : f K = true := by
  have c1 : ((fs.all fun f => f K) && fn.all fun d => d.ok K) = true := congrArg (fun z : AlM => z.1) c
  exact List.all_eq_true.mp (Bool.and_eq_true_iff.mp c1).1 f (List.mem_of_getElem? h)
theorem SaysM.def_ (c : SaysM fs fn dc hs w K) (i : Nat) {d : DfM} (h : fn[i]? = some d := by rfl) : ∃ fd, FunD K d.name d.qual d.params d.body d.scope (d.dvs K) [] (d.ad K) fd := by
  have c1 : ((fs.all fun f => f K) && fn.all fun d => d.ok K) = true := congrArg (fun z : AlM => z.1) c
  have e : (fn.map fun d => fnAt K (d.ad K)) = fn.map DfM.val := congrArg (fun z : AlM => z.2.1) c
  have e2 : (fn.map fun d => fnAt K (d.ad K))[i]? = (fn.map DfM.val)[i]? := by rw [e]
  rw [List.getElem?_map, List.getElem?_map, h] at e2
  exact DfM.funD (Option.some.inj e2) (List.all_eq_true.mp (Bool.and_eq_true_iff.mp c1).2 d (List.mem_of_getElem? h))
theorem SaysM.hash (c : SaysM fs fn dc hs w K) (i : Nat) {a : PySem.W.Frag → Addr} {l : List Key} (h : dc[i]? = some a := by rfl) (h2 : hs[i]? = some l := by rfl) : hashesAt K (a K) = l.map (keyH w) := by
  have e : (dc.map fun a => hashesAt K (a K)) = hs.map fun l => l.map (keyH w) := congrArg (fun z : AlM => z.2.2) c
  have e2 : (dc.map fun a => hashesAt K (a K))[i]? = (hs.map fun l => l.map (keyH w))[i]? := by rw [e]
  rw [List.getElem?_map, List.getElem?_map, h, h2] at e2
  exact Option.some.inj e2
end
/-! ### the end -/
theorem walk_ofM {l : PySem.W.OpenLaw} {n k : Nat} {q : Program} {loose : List Str} {XP : (Str → Option Value) → Heap → Prop} {d : DefRec} {sp : DSp} {x : Str} {xs : List Str} {fs : List (PySem.W.Frag → Bool)} {fn : List DfM} {dc : List (PySem.W.Frag → Addr)} {hs : List (List Key)}
    (hn : l.most = some n) (hn2 : n ≤ sizeLine) (hdf : d.params.defaults = []) (hr : Room k callerA)
    (F : ∀ (w : World) (K : PySem.W.Frag) (mg : Str → Option Value) (fa : Addr) (h : Heap), K.In h → SaysM fs fn dc hs w K → h.Ns mainGlobals mg → mg d.name = some (.ref fa) →
      ∃ (G : Gm) (fd : FuncData), G.K = K ∧ G.tb = [] ∧ (∀ (s : Shared) (u : Value), BindsTo s fd ⟨[u], []⟩ [(x, u)]) ∧
        ∀ base : Heap, K.In base → base.Ns mainGlobals mg → FnG l.prog w K mg base k fa fd [x] (lift G sp))
    (hsp : ∀ (ns : List Int), ns.length ≤ n → (∀ z ∈ ns, Builtin.Int.intBits z ≤ 1048576) → sp [.lst (ns.map D.int)] (fun d => d = .bl true) NoX) :
    PySem.W.WalkO q loose XP (hookM xs fs fn dc hs).says l.row.toRowW d [] (fun f vs => PySem.call f vs) := by
  refine Att.attach_callB hn hdf fun w s₀ s₁ mg mb fa o pm cd doc a vs ns G' Y ho hd hcd hmg hobj hints hlen hbits hg => ?_
  obtain ⟨K, KX, c⟩ := Y
  obtain ⟨G, fd, rfl, et, hb, hF⟩ := F w K mg fa _ KX c G'.T.g hmg
  exact law_callD KX et G'.T.g G'.T.b G'.T.builtins G'.T.nolimit hg hobj hints (Nat.le_trans hlen hn2) hr hF hb (hsp ns hlen hbits)
end HdM
/-! A lambda that is handed to a def which calls it in a try: over data. -/
namespace DL
open PySem L2 PyProof.Rows
section
variable {X : Cx} {pins : List (Addr × Obj)} {σ : L2.St} {H : Hp} {s : Shared}
end
/-! ### the maker's names, as the lambda sees them -/
def Sl.seen : Sl → Sl
  | .val d => .val d
  | _ => .un
theorem Fr.seen {G : Gm} {w0 w w1 : Wd} {H0 H H1 : Hp} {r : Env} {t : L2.St} (f : Fr G w0 H0 r t w H) (l : Le w H w1 H1) (ok : Ok w1 H1) : Fr G w1 H1 (r.map Sl.seen) t w1 H1 where
  ok := ok
  le := .refl w1 H1
  len := by rw [List.length_map]; exact f.len
  slot := fun i x e => by
    rw [List.getElem?_map] at e
    cases q : r[i]? with
    | none => rw [q] at e; cases e
    | some y =>
      rw [q] at e
      cases e
      have h := f.slot i y q
      cases y with
      | val d =>
        obtain ⟨v, e2, rv⟩ := h
        exact ⟨v, e2, rv.mono l.sub⟩
      | _ => trivial
  dist := fun i j x y a e1 e2 o1 o2 _ _ => by
    rw [List.getElem?_map] at e1
    cases q : r[i]? with
    | none => rw [q] at e1; cases e1
    | some y =>
      rw [q] at e1
      cases e1
      cases y <;> cases o1
end DL
/-! x(lambda: ..), x a def that calls what it got first in a try: over data. -/
namespace DL
open PySem L2 PyProof.Rows
section
variable {X : Cx} {pins : List (Addr × Obj)} {σ : L2.St} {H : Hp} {s : Shared}
end
section
variable {X : Cx} {G : Gm} {E : XK} {k n it : Nat} {x a told : Str} {st : Stmt} {g c P : Addr} {fd : FuncData} {Ng : List Str} {params : Arguments} {body : Expr} {scope : Scope} {p lpos pos p1 p2 p3 p4 p5 : Pos} {h₀ : ExceptHandler} {hds : List ExceptHandler} {rest : List Stmt} {l : List Hdl} {R : FS} {A : FE}
end
end DL
/-! A def that calls what it got in a try: its run. -/
namespace DL
open PySem L2 PyProof.Rows
end DL
/-! The law's call where tables of code objects are written (defs that make lambdas). -/
namespace DL
open PySem PySem.Spec L2 PyProof.Rows
/-- what is known of a code object and its table, ahead of the law's call -/
structure TabI (K : PySem.W.Frag) (h : Heap) (c P : Addr) : Prop where
  code : PySem.W.CodeHd h c P
  out : K.lookup P = none
  empty : h.get? P = some { cls := .none, data := .fields #[] }
section
variable {P : Program} {w : World} {G : Gm} {mg mb : Str → Option Value} {k : Nat} {fa a : Addr} {fd : FuncData} {x : Str} {sp : DSp} {s₁ : Shared} {vs : List Value} {ns : List Int}
end
end DL
/-! The head's Hook where defs make lambdas: their code objects and tables. -/
namespace HdM
open PySem PySem.Spec PyProof.Rows L2 DL
end HdM
/-! Own exceptions: the facts of a class, from tests on the part. -/
namespace ExL
open PySem PySem.Spec PyProof.Rows L2
/-- the class's object, from the test of the kit -/
theorem cls_of {K : PySem.W.Frag} {C : Addr} {bmB : List Value} {newId : String} (q : PySem.W.excInitIn K C bmB newId = true) (hd : PySem.W.hasDictIn K C = true) :
    ∃ nm q N bs bm sn sub ab col dd k0 k1 k2 k3 k5, K.lookup C = some (excClassObj nm q C N bs bm true sn sub ab col dd k0 k1 k2 k3 k5 newId) ∧ PySem.W.excTail bmB bm = true := by
  unfold PySem.W.excInitIn at q
  split at q
  · rename_i dd cd sl lk
    split at q
    · rename_i C1 bm k0 k1 k2 k3 n k5 em es
      simp only [Bool.and_eq_true, beq_iff_eq, Bool.not_eq_true'] at q
      obtain ⟨⟨⟨e1, e2⟩, e3⟩, e4⟩ := q
      subst e1 e2
      have hd2 : cd.hasDict = true := by
        unfold PySem.W.hasDictIn PySem.W.clsIn at hd
        rw [lk] at hd
        exact hd
      obtain ⟨nm, bs, mro, ns, qn, hdc, sn, sub, ab, col, del⟩ := cd
      dsimp only at em e3 hd2
      subst em e3 hd2
      cases sl with
      | mk l =>
        have es : l = [k0, k1, k2, k3, some (.builtin n), k5] := es
        subst es
        exact ⟨nm, qn, ns, bs, bm, sn, sub, ab, col, dd, k0, k1, k2, k3, k5, lk, e4⟩
    · cases q
  · cases q
/-- no keyword-only defaults -/
def kwB (K : PySem.W.Frag) (f : Addr) : Bool := match K.lookup f with
  | some ⟨_, _, .func d, _⟩ => decide (d.kwdefaults = .none)
  | _ => false
section
variable {K : PySem.W.Frag} {mg : Str → Option Value} {x : Str} {C f : Addr} {bmB : List Value} {newId : String}
theorem fn_of {q : Str} {params : Arguments} {body : List Stmt} {scope : Scope} (F : ∃ fd, FunD K "__init__" q params body scope [] [] f fd) (kw : kwB K f = true) :
    ∃ (oc : Value) (od : Option Addr) (doc pm : Value) (an : Option Addr) (cdv ct : Value) (osl : Array (Option Value)), K.lookup f = some ⟨oc, od, .func (PySem.W.fnOf "__init__" q params body scope .none .none doc pm an cdv ct), osl⟩ ∧ PySem.W.codeIn K cdv q = true := by
  obtain ⟨fd, ⟨oc, od, dV, kV, doc, pm, an, cdv, ct, osl, rfl, lk, cd, df, _⟩, _⟩ := F
  have e1 : dV = .none := by
    rcases df with ⟨_, e⟩ | ⟨n, _⟩
    · exact e
    · exact absurd rfl n
  have e2 : kV = .none := by
    unfold kwB at kw
    rw [lk] at kw
    exact of_decide_eq_true kw
  subst e1 e2
  exact ⟨oc, od, doc, pm, an, cdv, ct, osl, lk, cd⟩
theorem clG_of {q : Str} {p1 p2 q1 q2 q3 q4 : Pos} (gl : mg x = some (.ref C)) (h1 : PySem.W.excInitIn K C bmB newId = true) (h2 : PySem.W.hasDictIn K C = true) (h3 : PySem.W.findIn K (.ref C) "__setattr__" = some (some (.builtin "object.__setattr__"))) (h4 : PySem.W.takerIn K C "given" = some none)
    (h5 : PySem.W.findIn K (.ref C) "__init__" = some (some (.ref f))) (h6 : PySem.W.typeIn K (.ref f) = some (.type "function")) (h7 : PySem.W.keepIn K (.ref C) = true) (h8 : PySem.W.subIn K (.ref C) (.type "BaseException") = some true) (h9 : PySem.W.typeIn K (.ref C) = some (.type "type"))
    (F : ∃ fd, FunD K "__init__" q (argsG p1 p2) (bodyG q1 q2 q3 q4) scopeG [] [] f fd) (kw : kwB K f = true) : ClG K mg x C f bmB newId := by
  obtain ⟨oc, od, doc, pm, an, cdv, ct, osl, lk, cd⟩ := fn_of F kw
  exact ⟨gl, cls_of h1 h2, h3, h4, h5, h6, h7, h8, h9, q, oc, od, doc, pm, an, cdv, ct, osl, p1, p2, q1, q2, q3, q4, lk, cd⟩
theorem clI_of {q : Str} {p1 p2 q1 q2 q3 q4 : Pos} (gl : mg x = some (.ref C)) (h1 : PySem.W.excInitIn K C bmB newId = true) (h2 : PySem.W.hasDictIn K C = true) (h3 : PySem.W.findIn K (.ref C) "__setattr__" = some (some (.builtin "object.__setattr__"))) (h4 : PySem.W.takerIn K C "index" = some none)
    (h5 : PySem.W.findIn K (.ref C) "__init__" = some (some (.ref f))) (h6 : PySem.W.typeIn K (.ref f) = some (.type "function")) (h7 : PySem.W.keepIn K (.ref C) = true) (h8 : PySem.W.subIn K (.ref C) (.type "BaseException") = some true) (h9 : PySem.W.typeIn K (.ref C) = some (.type "type"))
    (F : ∃ fd, FunD K "__init__" q (argsI p1 p2) (bodyI q1 q2 q3 q4) scopeI [] [] f fd) (kw : kwB K f = true) : ClI K mg x C f bmB newId := by
  obtain ⟨oc, od, doc, pm, an, cdv, ct, osl, lk, cd⟩ := fn_of F kw
  exact ⟨gl, cls_of h1 h2, h3, h4, h5, h6, h7, h8, h9, q, oc, od, doc, pm, an, cdv, ct, osl, p1, p2, q1, q2, q3, q4, lk, cd⟩
end
end ExL
/-! A def that makes lambdas: its body knows its code object. -/
namespace DL
open PySem PySem.Spec L2 PyProof.Rows
section
variable {P : Program} {w : World} {K : PySem.W.Frag} {mg : Str → Option Value} {base : Heap} {k : Nat} {f c : Addr} {N ps : List Str} {sp : Sp}
end
section
variable {G : Gm} {P : Program} {w : World} {mg : Str → Option Value} {base : Heap} {k : Nat} {f c : Addr} {N ps : List Str}
end
/-! ### the context of a lambda's body -/
section
variable {X : Cx} {A1 : Around} {outer : List PySem.Env} {s2 : Shared} {H2 : Hp} {E1 : XK} {scope : Scope} {f c1 : Addr}
end
end DL
/-! {} as a value. -/
namespace DL
open PySem L2 PyProof.Rows
section
variable {X : Cx} {G : Gm} {E : XK} {pos : Pos}
theorem ce_emp : PE X (.Dict [] [] pos) (tD G E (fC (.dic [] []))) := PE.weak pe_dnewK fun s H Q ⟨w0, H0, r, w, QD, EX, fr, lk, f, k⟩ => fun p hp => by
  refine k (.dic [] []) (.ref p) (w.frz (upd H p (.dK [])) p) _ ((Le.new hp).frz (fr.ok.none_hd hp) hp) ((fr.ok.new hp).frz (fr.ok.none_jr hp)) ?_ f
  unfold Rep
  exact ⟨p, [], rfl, .inl (by rw [frz_at, upd_same]; rfl), rfl, Reps.nil⟩
end
end DL
/-! repr of a dict of flat values. -/
namespace DL
open PySem L2 PyProof.Rows
def kPd : Key → PyData
  | .inl i => .int i
  | .inr s => .str s
def dkv : List Key → List D → List (PyData × PyData)
  | k :: ks, d :: ds => (kPd k, pd d) :: dkv ks ds
  | _, _ => []
def flatB : D → Bool
  | .non => true
  | .bl _ => true
  | .int _ => true
  | .str _ => true
  | _ => false
def EntR : List DictEntry → List (Key × V) → Prop
  | [], [] => True
  | e :: r, (k, v) :: t => keyIs k e.key = true ∧ RelV v e.val ∧ EntR r t
  | _, _ => False
theorem entR_k {w : World} : ∀ {es : List DictEntry} {kvs : List (Key × V)}, KEnt w es kvs → EntR es kvs
  | [], [], _ => trivial
  | e :: r, (k, v) :: t, h => by
    unfold KEnt at h
    exact ⟨h.1, h.2.2.1, entR_k h.2.2.2⟩
  | [], _ :: _, h => by unfold KEnt at h; exact h.elim
  | _ :: _, [], h => by unfold KEnt at h; exact h.elim
theorem entR_p {P : Program} {w : World} : ∀ {kvs : List (Key × V)} {ys : List (Key × Value)} {es : List DictEntry}, KV kvs ys → Pairs (mixKind P w) es ys → EntR es kvs
  | [], _, _, .nil, .nil => trivial
  | (k, v) :: t, _, _, .cons h1 h2, .cons h3 h4 h5 => ⟨by rw [show k = _ from h1.1]; exact h3, by rw [h4]; exact h1.2, entR_p h2 h5⟩
theorem reads_key {h : Heap} {k : Key} {v : Value} (e : keyIs k v = true) : Reads h v (kPd k) [] := by
  rcases keyIs_shape e with ⟨i, t, rfl, rfl⟩ | ⟨x, t, rfl, rfl⟩
  · exact Reads.int i t
  · exact Reads.str x t
section
variable {G : Gm}
theorem reads_flat {w : Wd} {h : Heap} {d : D} {v : V} {u : Value} (r : Rep G w d v) (f : flatB d = true) (e : RelV v u) : Reads h u (pd d) [] := by
  cases d <;> first | (cases f; done) | skip
  · cases r.non_of
    cases e
    unfold pd
    exact Reads.none
  · cases r.bl_of
    cases e
    unfold pd
    exact Reads.bool _
  · cases r.int_of
    obtain ⟨t, rfl⟩ := e
    unfold pd
    exact Reads.int _ t
  · cases r.str_of
    obtain ⟨t, rfl⟩ := e
    unfold pd
    exact Reads.str _ t
theorem reads_dk {w : Wd} {h : Heap} : ∀ {ks : List Key} {vs : List V} {ds : List D} {es : List DictEntry}, ks.length = vs.length → EntR es (ks.zip vs) → Reps G w ds vs → ds.all flatB = true →
    ReadsAll h (es.map (·.key)) ((dkv ks ds).map (·.1)) [] ∧ ReadsAll h (es.map (·.val)) ((dkv ks ds).map (·.2)) []
  | [], [], ds, es, _, e, r, _ => by
    cases ds with
    | nil =>
      cases es with
      | nil => exact ⟨.nil, .nil⟩
      | cons _ _ => exact e.elim
    | cons d t => obtain ⟨_, _, z, _⟩ := r.of_cons; cases z
  | [], _ :: _, _, _, hl, _, _, _ => by cases hl
  | _ :: _, [], _, _, hl, _, _, _ => by cases hl
  | k :: ks, v :: vs, ds, es, hl, e, r, f => by
    cases ds with
    | nil => cases r.of_nil
    | cons d t =>
      obtain ⟨_, _, z, r1, r2⟩ := r.of_cons
      cases z
      cases es with
      | nil => exact e.elim
      | cons e0 es =>
        rw [List.zip_cons_cons] at e
        obtain ⟨e1, e2, e3⟩ := e
        rw [List.all_cons, Bool.and_eq_true] at f
        have ih := reads_dk (h := h) (Nat.succ.inj hl) e3 r2 f.2
        exact ⟨.cons (reads_key e1) ih.1, .cons (reads_flat r1 f.1 e2) ih.2⟩
end
def dicOK (ks : List Key) (ds : List D) : Prop := ds.all flatB = true ∧ (PyData.dict (dkv ks ds)).showable = true ∧ (PyData.dict (dkv ks ds)).depth ≤ 60 ∧ (PyData.dict (dkv ks ds)).shown.length ≤ sizeLine
instance (ks : List Key) (ds : List D) : Decidable (dicOK ks ds) := by unfold dicOK; exact inferInstance
def reprD2 : CG := fun xs Q => reprD xs Q ∨ ∃ ks ds, xs = [.dic ks ds] ∧ dicOK ks ds ∧ Q (.str (PyData.dict (dkv ks ds)).shown)
section
variable {G : Gm} {X : Cx}
theorem cal_repr2 (hg : X.A.guards = some []) (hu : X.A.units + 64 < cLine) (hK : X.K = G.K := by rfl) : CaL G X (.builtin "repr") reprD2 := by
  obtain ⟨r1, c1, k1⟩ := cal_repr (G := G) hg hu hK
  refine ⟨fun xs H Q => r1 xs H Q ∨ ∃ a w ks vs ds, xs = [.ref a] ∧ (H a = some (.dK (ks.zip vs)) ∨ KDic G.K G.pw a (ks.zip vs)) ∧ ks.length = vs.length ∧ Reps G w ds vs ∧ dicOK ks ds ∧ Q (.str (PyData.dict (dkv ks ds)).shown) H, ?_, fun H0 w H ds vs Q QD ok sx g k => ?_⟩
  · intro pins s σ H xs us Q I r h
    rcases h with h | ⟨a, w, ks, vs, ds, rfl, hd, hl, rr, ⟨o1, o2, o3, o4⟩, q⟩
    · exact c1 pins s σ H xs us Q I r h
    · obtain ⟨u, rfl, rx⟩ := vals1 r
      cases (show u = Value.ref a from rx)
      have rd : ∃ as, Reads s.heap (.ref a) (PyData.dict (dkv ks ds)) as ∧ sysModules ∉ as := by
        have ns : ∀ {p : Addr}, (p == sysModules) = false → sysModules ∉ (p :: [] ++ [] : List Addr) := fun z m => by
          rw [List.append_nil, List.mem_singleton] at m
          rw [← m] at z
          simp at z
        rcases hd with hd | ⟨es, n, lk, hs, he⟩
        · obtain ⟨_, hs, ys, kv, o, es, ep, ho, hc, hda, _, pp, _⟩ := (show ObjOk X.prog X.w H s.heap a (.dK (ks.zip vs)) from I.hok a _ hd)
          obtain ⟨x1, x2⟩ := reads_dk (h := s.heap) hl (entR_p kv pp) rr o1
          exact ⟨_, Reads.dict ho hc.1 hda x1 x2, ns hs⟩
        · obtain ⟨x1, x2⟩ := reads_dk (h := s.heap) hl (entR_k he) rr o1
          exact ⟨_, Reads.dict (I.kIn _ _ (hK ▸ lk)) rfl rfl x1 x2, ns hs⟩
      obtain ⟨as, rd, hn⟩ := rd
      exact repr_of_reads' rd o2 (fun _ => hn) hg (by omega) (fun _ _ e => e) (fun h' u tk hk => ⟨.str _, H, I.kept hk, ⟨_, rfl⟩, q⟩) o4
  · rcases g with g | ⟨ks, es, rfl, o, q⟩
    · exact .inl (k1 H0 w H ds vs Q QD ok sx g k)
    · obtain ⟨v, rfl, s1⟩ := sx.one
      obtain ⟨a, us, rfl, hd, hl, rr⟩ := s1.dic_of ok
      exact .inr ⟨a, w, ks, us, es, rfl, hd, hl, rr, o, k _ _ w H (.refl w H) ok Rep.str q⟩
end
def reprX2 (xs : List D) : Option D := match reprX xs with
  | some d => some d
  | none => match xs with
    | [.dic ks ds] => if dicOK ks ds then some (.str (PyData.dict (dkv ks ds)).shown) else none
    | _ => none
theorem g_repr2 : CCG reprD2 reprX2 := fun xs d Q e q => by
  unfold reprX2 at e
  cases z : reprX xs with
  | some d2 =>
    rw [z] at e
    cases e
    exact .inl (g_repr xs _ Q z q)
  | none =>
    rw [z] at e
    match xs, e with
    | [.dic ks ds], e =>
      have e : (if dicOK ks ds then some (D.str (PyData.dict (dkv ks ds)).shown) else none) = some d := e
      by_cases o : dicOK ks ds
      · rw [if_pos o] at e
        cases e
        exact .inr ⟨ks, ds, rfl, o, q⟩
      · rw [if_neg o] at e; cases e
/-- what is shown of a value, of dicts too -/
def shw : D → Str
  | .dic ks ds => (PyData.dict (dkv ks ds)).shown
  | d => (pd d).shown
def shwOK : D → Prop
  | .dic ks ds => dicOK ks ds
  | d => shownOK d
theorem reprX2_ok {d : D} (h : shwOK d) : reprX2 [d] = some (.str (shw d)) := by
  have pl : ∀ d : D, shownOK d → reprX [d] = some (.str (pd d).shown) := fun d h => by
    show gd (shownB d = true) _ = _
    unfold gd
    rw [if_pos]
    unfold shownB
    rw [h.1, h.2.1, decide_eq_true h.2.2.1, decide_eq_true h.2.2.2]; rfl
  cases d with
  | dic ks ds =>
    have h : dicOK ks ds := h
    unfold reprX2
    rw [show reprX [.dic ks ds] = none from rfl]
    show (if dicOK ks ds then some (D.str (PyData.dict (dkv ks ds)).shown) else none) = _
    rw [if_pos h]; rfl
  | non => unfold reprX2; rw [pl _ h]; rfl
  | bl b => unfold reprX2; rw [pl _ h]; rfl
  | int i => unfold reprX2; rw [pl _ h]; rfl
  | str s => unfold reprX2; rw [pl _ h]; rfl
  | tup ds => unfold reprX2; rw [pl _ h]; rfl
  | lst ds => unfold reprX2; rw [pl _ h]; rfl
  | obj c ds => unfold reprX2; rw [pl _ h]; rfl
  | exc c ds => unfold reprX2; rw [pl _ h]; rfl
  | jar => unfold reprX2; rw [pl _ h]; rfl
end DL
/-! list(x), x a text too. -/
namespace DL
open PySem L2 PyProof.Rows
section
variable {X : Cx} {G : Gm}
end
end DL
/-! x in o, both values (x of any kind). -/
namespace DL
open PySem L2 PyProof.Rows
section
variable {X : Cx} {G : Gm} {E : XK} {a b : Expr} {pos : Pos}
/-- an operator's rule over values -/
structure OpV (G : Gm) (X : Cx) (op : Value → Value → Sem Value) (g : G2) : Prop where
  ex : ∃ r, OpR X op r ∧ ∀ w H x y v u Q (QD : D → Prop), Ok w H → Rep G w x v → Rep G w y u → g x y QD →
    (∀ d z w' H', Le w H w' H' → Ok w' H' → Rep G w' d z → QD d → Q z H') → r v u H Q
theorem OpV.link {op : Value → Value → Sem Value} {g : G2} {rr : R2} {A B : FE} (k0 : ∀ w H x y v u Q (QD : D → Prop), Ok w H → Rep G w x v → Rep G w y u → g x y QD →
    (∀ d z w' H', Le w H w' H' → Ok w' H' → Rep G w' d z → QD d → Q z H') → rr v u H Q) (s : L2.St) (H : Hp) (Q : VK) (h : tD G E (f2 g A B) s H Q) : tOp rr (tD G E A) (tD G E B) s H Q := by
  obtain ⟨w0, H0, r, w, QD, EX, fr, lk, f, k⟩ := h
  refine ⟨w0, H0, r, w, _, EX, fr, lk, f, fun x v w1 H1 l1 ok1 s1 q1 => ?_⟩
  refine ⟨w0, H0, r, w1, _, EX, fr.go l1 ok1, lk, q1, fun y u w2 H2 l2 ok2 s2 q2 => ?_⟩
  exact k0 w2 H2 x y v u Q QD ok2 (s1.mono l2.sub) s2 q2 fun d z w3 H3 l3 ok3 r3 q3 => k d z w3 H3 ((l1.trans l2).trans l3) ok3 r3 q3
theorem ce_cmpV {op : CmpOp} {g : G2} {A B : FE} (ho : OpV G X (compareOp op) g) (ha : PE X a (tD G E A)) (hb : PE X b (tD G E B)) (hm : behindInMarks op b = false := by first | exact nomark _ (by decide) (by decide) | rfl) : PE X (.Compare a [op] [b] pos) (tD G E (f2 g A B)) := by
  obtain ⟨rr, hr, k0⟩ := ho.ex
  exact (pe_cmpR hr ha hb hm).weak (OpV.link (op := compareOp op) k0)
theorem ct_cmpV {op : CmpOp} {g : G2} {A B : FE} (ho : OpV G X (compareOp op) g) (ha : PE X a (tD G E A)) (hb : PE X b (tD G E B)) (hm : behindInMarks op b = false := by first | exact nomark _ (by decide) (by decide) | rfl) : PT X (.Compare a [op] [b] pos) (ttD G E (fTb (f2 g A B))) := by
  obtain ⟨rr, hr, k0⟩ := ho.ex
  exact ct_of_tTest (pt_cmpR hr ha hb hm) (OpV.link (op := compareOp op) k0)
end
section
variable {G : Gm} {X : Cx} {k : Nat} {f : Addr} {fd : FuncData} {ps : List Str} {sp : DSp}
def inV (c : Nat) (sp : DSp) (neg : Bool) : G2 := fun x y Q => match y with
  | .obj c' fs => c' = c ∧ sp [.obj c' fs, x] (fun d => match d with
    | .bl b => Q (.bl (neg != b))
    | _ => False) NoX
  | _ => False
theorem opv_in {c : Nat} {neg : Bool} {op : CmpOp} (hop : op = if neg then .NotIn else .In) (F : FnG X.prog X.w X.K X.mg X.base k f fd ps (lift G sp)) (hb : Binds X.K fd ps []) (hg : X.A.guards = some []) (hr : Room k X.A) (hs : PySem.W.findIn X.K (.ref (G.cls c)) "__contains__" = some (some (.ref f))) (hf : PySem.W.isFn X.K (.ref f) = true) :
    OpV G X (compareOp op) (inV c sp neg) := by
  refine ⟨_, op_inO hop F hg hr hb hs hf, fun w H x y v u Q QD ok rx rp g k => ?_⟩
  cases y <;> try exact g.elim
  rename_i c' fs
  obtain ⟨rfl, g⟩ := g
  obtain ⟨a, dx, gs, rfl, e, _, _, htb⟩ := rp.obj_of
  refine ⟨a, dx, gs, rfl, ok.sub _ _ e, w, [.obj c' fs, x], _, NoX, ok, Reps.cons rp (Reps.cons rx Reps.nil), g, fun d v w' H' l ok' r q => ?_, LkE.none htb⟩
  cases d <;> try exact q.elim
  exact ⟨_, r.bl_of, k _ _ w' H' l ok' Rep.bl q⟩
end
def inVX (c : Nat) (m : List D → R D) (neg : Bool) : O2 := fun x y => match y with
  | .obj c' fs => if c' = c then (match m [.obj c' fs, x] with
    | .ok (.bl b) => some (.bl (neg != b))
    | _ => none) else none
  | _ => none
theorem g_inV {c : Nat} {m : List D → R D} {neg : Bool} : CG2 (inV c (spOf m) neg) (inVX c m neg) := fun x y d Q e q => by
  cases y <;> first | (cases e; done) | skip
  rename_i c' fs
  unfold inVX at e
  dsimp only at e
  by_cases h : c' = c
  · rw [if_pos h] at e
    refine ⟨h, ?_⟩
    show (m [.obj c' fs, x]).hold _ _
    cases z : m [.obj c' fs, x] with
    | no => rw [z] at e; cases e
    | ex _ => rw [z] at e; cases e
    | ok d2 =>
      rw [z] at e
      cases d2 <;> first | (cases e; done) | skip
      cases e
      exact q
  · rw [if_neg h] at e; cases e
theorem inVX_ok {c : Nat} {m : List D → R D} {neg : Bool} {fs : List D} {x : D} {b : Bool} (h : m [.obj c fs, x] = .ok (.bl b)) : inVX c m neg x (.obj c fs) = some (.bl (neg != b)) := by
  unfold inVX
  dsimp only
  rw [if_pos rfl, h]
/-! ### x is None, x a value of any kind -/
def isNV (neg : Bool) : G2 := fun x y Q => match y with
  | .non => Q (.bl (neg != isNon x))
  | _ => False
section
variable {G : Gm} {X : Cx}
theorem opv_is : OpV G X (compareOp .Is) (isNV false) := by
  refine ⟨_, op_isN, fun w H x y v u Q QD ok rx ry g k => ?_⟩
  cases y with
  | non =>
    refine ⟨ry.non_of, ?_⟩
    rw [rx.non_iff]
    have g : QD (.bl (false != isNon x)) := g
    rw [Bool.false_bne] at g
    exact k _ _ w H (.refl w H) ok Rep.bl g
  | _ => exact g.elim
end
def isNVX (neg : Bool) : O2 := fun x y => match y with
  | .non => some (.bl (neg != isNon x))
  | _ => none
theorem g_isNV {neg : Bool} : CG2 (isNV neg) (isNVX neg) := fun x y d Q e q => by
  cases y <;> first | (cases e; done) | (cases e; exact q)
end DL
/-! text * int. -/
namespace DL
open PySem L2 PyProof.Rows
section
variable {G : Gm} {X : Cx}
end
instance (z : Str) (n : Int) : Decidable (MulOk z n) := by unfold MulOk; exact inferInstance
end DL
/-! str(x), x a tuple or a list. -/
namespace DL
open PySem L2 PyProof.Rows
section
variable {G : Gm} {X : Cx}
theorem call_strT (hg : X.A.guards = some []) (hu : X.A.units + 64 < cLine) : CallR X (.type "str") (fun xs H Q => ∃ a d, xs = [.ref a] ∧ Dp X.K H (.ref a) d ∧ d.showable = true ∧ d.hasDict = false ∧ d.depth ≤ 60 ∧ d.shown.length ≤ sizeLine ∧ Q (.str d.shown) H) := by
  intro pins s σ H xs us Q I r h
  obtain ⟨a, d, rfl, hd, h1, h2, h3, h4, q⟩ := h
  obtain ⟨u, rfl, rx⟩ := vals1 r
  cases (show u = Value.ref a from rx)
  obtain ⟨as, rd⟩ := Dp.reads I d _ _ hd rx
  exact str_of_reads rd h1 (PyData.noDict_hsm h2) hg (by omega) (fun _ _ e => e) (fun h' u tk hk => ⟨.str _, H, I.kept hk, ⟨_, rfl⟩, q⟩) h4
def strC2 : CG := fun ds Q => strC ds Q ∨ ∃ es, ds = [.tup es] ∧ shownOK (.tup es) ∧ Q (.str (pd (.tup es)).shown)
theorem cal_str2 (hg : X.A.guards = some []) (hu : X.A.units + 64 < cLine) (hK : X.K = G.K := by rfl) : CaL G X (.type "str") strC2 := by
  obtain ⟨r1, c1, k1⟩ := cal_str (G := G) (X := X)
  refine ⟨_, c1.or (call_strT hg hu), fun H0 w H ds vs Q QD ok sx g k => ?_⟩
  rcases g with g | ⟨es, rfl, ⟨p, a, b, c⟩, q⟩
  · exact .inl (k1 H0 w H ds vs Q QD ok sx g k)
  · obtain ⟨v, rfl, s1⟩ := sx.one
    obtain ⟨ad, us, rfl, _⟩ := s1.tup_rep.tup_of
    exact .inr ⟨ad, pd (.tup es), rfl, hK ▸ s1.dp ok p, a, pd_noDict _ p, b, c, k _ _ w H (.refl w H) ok Rep.str q⟩
end
def strCX2 (ds : List D) : Option D := match strCX ds with
  | some d => some d
  | none => match ds with
    | [.tup es] => gd (shownB (.tup es) = true) (.str (pd (.tup es)).shown)
    | _ => none
theorem g_strC2 : CCG strC2 strCX2 := fun xs d Q e q => by
  unfold strCX2 at e
  cases z : strCX xs with
  | some d2 =>
    rw [z] at e
    cases e
    exact .inl (g_strC xs _ Q z q)
  | none =>
    rw [z] at e
    match xs, e with
    | [.tup es], e =>
      obtain ⟨h, rfl⟩ := gd_some (show gd (shownB (.tup es) = true) (D.str (pd (.tup es)).shown) = some d from e)
      unfold shownB at h
      rw [Bool.and_eq_true, Bool.and_eq_true, Bool.and_eq_true, decide_eq_true_iff, decide_eq_true_iff] at h
      exact .inr ⟨es, rfl, ⟨h.1.1.1, h.1.1.2, h.1.2, h.2⟩, q⟩
end DL
/-! x == (), x != (), x a tuple of anything. -/
namespace DL
open PySem L2 PyProof.Rows
section
variable {G : Gm} {X : Cx}
end
end DL
/-! xs.count(True), xs.index(True): lists of bools. -/
namespace DL
open PySem L2 PyProof.Rows
section
variable {G : Gm} {X : Cx} {E : XK}
variable {o e : Expr} {apos cpos : Pos} {A B : FE}
end
end DL
/-! x in xs, xs a list of tuples, x a dict too. -/
namespace DL
open PySem L2 PyProof.Rows
section
variable {A : Around} {s : Shared}
end
section
variable {G : Gm} {X : Cx}
end
end DL
/-! int(text). -/
namespace DL
open PySem L2 PyProof.Rows
section
variable {G : Gm} {X : Cx}
end
end DL
/-! Classmethods: their defs (the class in an unread slot), their calls by position. -/
namespace DL
open PySem L2 PyProof.Rows
/-- the frame of a classmethod: the class stands in the first slot -/
def startC (N : List Str) (ds : List D) : Env := Sl.un :: startD N.tail ds
theorem fr_startC {G : Gm} {w : Wd} {H : Hp} {c : Str} {N : List Str} {ds : List D} {v : V} {vs : List V} (ok : Ok w H) (r : Reps G w ds vs) : Fr G w H (startC (c :: N) ds) (L2.start (c :: N) (v :: vs)) w H := by
  have f := fr_start (N := N) ok r
  have e : L2.start (c :: N) (v :: vs) = some v :: L2.start N vs := by
    unfold L2.start
    rw [List.length_cons, List.length_cons, Nat.add_sub_add_right]; rfl
  rw [e]
  refine ⟨ok, .refl w H, by unfold startC; rw [List.length_cons, List.length_cons, List.tail_cons, f.len], fun i x h => ?_, fun i j x y a e1 e2 o1 o2 h1 h2 => ?_⟩
  · cases i with
    | zero => cases h; trivial
    | succ i => exact f.slot i x h
  · cases i with
    | zero => cases e1; cases o1
    | succ i =>
      cases j with
      | zero => cases e2; cases o2
      | succ j => exact congrArg (· + 1) (f.dist i j x y a e1 e2 o1 o2 h1 h2)
theorem Sim.startC {x : Addr} {N : List Str} {ds : List D} : Sim x (Sl.un :: DL.startD N ds) (Sl.un :: DL.startD N ds) := by
  have h := Sim.startD (x := x) (N := N) (ds := ds)
  unfold Sim at h ⊢
  rw [List.map_cons, ← h]; rfl
theorem spOf_pureC {N : List Str} {n : Nat} {B : FS} {b : Env → RS} (hb : CS B b) {ds : List D} {Q : D → Prop} {EX : XP} (h : spOf (cfOf N n fun r => b (Sl.un :: r)) ds Q EX) : B { nx := fun _ => Q .non, rt := Q } EX (Sl.un :: startD N ds) := by
  have hl := spOf_len h
  unfold spOf cfOf at h
  rw [if_pos hl] at h
  refine hb (x := 0) _ _ _ EX Sim.startC ?_
  cases e : b (Sl.un :: startD N ds) with
  | nx r => simp only [e] at h; exact fun _ _ => h
  | rt d => simp only [e] at h; exact h
  | rn d => simp only [e] at h; exact h.elim
  | ex x => simp only [e] at h; exact h
  | bk r => simp only [e] at h; exact h.elim
  | ct r => simp only [e] at h; exact h.elim
  | no => simp only [e] at h; exact h.elim
def liftC (G : Gm) (C : Addr) (sp : DSp) : Sp := fun vs H Q E => ∃ vr, vs = .ref C :: vr ∧ lift G sp vr H Q E
section
variable {P : Program} {w : World} {mg : Str → Option Value} {base : Heap} {k : Nat} {f C : Addr} {c : Str} {N ps : List Str} {G : Gm}
theorem okCm {x qual : Str} {st : Stmt} {fd : FuncData} {sp : DSp} {B : FS} (F : Fun G.K x qual st f fd) (S : FnScope (c :: N) (c :: ps) (defScope st)) (len : ∀ ds Q EX, sp ds Q EX → ds.length = ps.length)
    (body : ∀ (cdv : Value) (A : Around) (outer : List PySem.Env) (s : Shared) (H : Hp) (E : XK), A.guards = some [] → Room k (A.deeper (envOfC qual (defScope st) s.heap.objs.size f cdv)) →
      PSs (cxOf (L2.CX P w) P w G.K mg base (c :: N) qual (defScope st) f cdv A outer s H E) (defBody st) (sD G E B))
    (pure : ∀ ds Q EX, sp ds Q EX → B { nx := fun _ => Q .non, rt := Q } EX (startC (c :: N) ds)) : FnG P w G.K mg base (k + 1) f fd (c :: ps) (liftC G C sp) := by
  refine Fun.okG F S (fun vs H Q E ⟨vr, e, w, ds, QD, EX, _, r, h, _⟩ => by rw [e, List.length_cons, List.length_cons, ← r.length]; exact congrArg (· + 1) (len _ _ _ h)) fun cdv A outer s H vs Q E hg hr ⟨vr, e, w, ds, QD, EX, ok, r, h, k, lk⟩ => ⟨_, body cdv A outer s H E hg hr, ?_⟩
  subst e
  exact ⟨w, H, w, startC (c :: N) ds, w, { nx := fun _ => QD .non, rt := QD }, EX, fr_startC ok r, .refl w, lk, ⟨fun r s w' H' fr _ q => k .non .non w' H' fr.le fr.ok Rep.non q, fun d v w' H' l ok' rp q => k d v w' H' l ok' rp q, fun _ _ _ _ _ _ q => q.elim, fun _ _ _ _ _ _ q => q.elim, fun _ _ _ _ _ _ _ _ _ _ q => q.elim⟩, pure ds QD EX h⟩
end
section
variable {X : Cx} {G : Gm} {E : XK} {k : Nat} {f C p g : Addr} {mc : Value} {fd : FuncData} {ps : List Str} {dvs : List V} {dsv : List Value} {x m : Str} {pos apos npos : Pos} {e o : Expr} {es : List Expr} {B : FA} {sp : DSp} {pl : Sem Bool}
theorem run_cmG {sp : Sp} {q : Addr} {pins : List (Addr × Obj)} {σ : L2.St} {H : Hp} {s : Shared} {Q : VK} {us : List Value} {vs : List V} (F : FnG X.prog X.w X.K X.mg X.base k g fd ps sp) (hgd : X.A.guards = some []) (hr : Room k X.A) (hb : Binds X.K fd ps dsv) (hd : Vals dvs dsv) (hx : PassX X E)
    (I : Inv X ((q, PySem.W.methodObj (.ref g) (.ref C)) :: pins) σ H s) (r : Vals vs us) (h : sp ((.ref C :: vs) ++ dvs) H Q E) : wpAny (model X.prog X.w) X.A (call (.ref q) us) (EP X pins σ Q) X.xe s := by
  have both : Vals ((V.ref C :: vs) ++ dvs) ((Value.ref C :: us) ++ dsv) := Vals.append (.cons rfl r) hd
  have nl : ((Value.ref C :: us) ++ dsv).length = ps.length := both.length.symm.trans (F.len _ _ _ _ h)
  refine wpAny_call (PySem.W.method_call (ClX.pin_at I) (codeAny_mono (F.run X.A X.stack s H ⟨.ref C :: us, []⟩ ((.ref C :: us) ++ dsv) ((.ref C :: vs) ++ dvs) Q E hgd hr I.env0 (hb s (.ref C :: us) I.kIn nl) both h) ?_))
  rintro (er | fl) s' hq
  · exact hx pins σ H s er s' (ClX.unpin I) hq
  · cases fl <;> first
      | exact ClX.unpinE (I.after hq)
      | exact hq.elim
theorem ce_cmeth (hm : X.mg x = some (.ref C)) (r : ClX.CRead X.K C mc) (c : ClX.CMet X.K C mc m p g) (F : FnG X.prog X.w X.K X.mg X.base k g fd ps (liftC G C sp)) (hb : Binds X.K fd ps []) (hgd : X.A.guards = some []) (hr : Room k X.A) (hx : PassX X E)
    (ha : PA X (e :: es) (taD G E B)) (hg : Gl X x := by rfl) (hdb : (x == ("__debug__" : Str)) = false := by decide)
    (hst : starEach (e :: es) X.env = (false, eval e X.env) :: starEach es X.env := by rfl) (hpl : (backTo pos (starEach es X.env)).any (·.1) = false := by rfl)
    (ht : eval (.Call (.Attribute (.Name x npos) m apos) (e :: es) [] pos) X.env = (do
      let ov ← eval (.Name x npos) X.env
      standAt apos.atName
      let (f, first) ← holding [ov] (getMethod ov m pl)
      callWith pos f first (backTo pos (starEach (e :: es) X.env)) (backToKw pos (keywordEach [] X.env))) := by rfl) :
    PE X (.Call (.Attribute (.Name x npos) m apos) (e :: es) [] pos) (tD G E (fCall sp B)) := by
  refine ⟨fun pins s σ H Q I h => ?_⟩
  obtain ⟨w0, H0, r0, w, QD, EX, fr, lk, f0, kk⟩ := h
  have hn : PE X (.Name x npos) (tC (.ref C)) := pe_glob hg hm rfl hdb
  refine PySem.W.methodCall_KW (pl := pl) (thn (hn.run pins s σ H (fun v H1 => v = .ref C ∧ H1 = H) I ⟨rfl, rfl⟩) ?_) ht
  rintro u s1 ⟨v, H1, I1, rx, rfl, rfl⟩
  cases (show u = Value.ref C from rx)
  refine ClX.getmethcm_ok I1 r c fun s2 I2 => ?_
  refine ClX.callwith_cm I2 (ClX.base_none I1 (Nat.le_refl _)) c.fi (thn (ha.run pos _ s2 σ H1 _ I2 ⟨w0, H0, r0, w, (fun ds => sp ds QD EX), EX, fr, lk, f0, fun ds vs w1 H2 l1 ok1 r1 q1 => (⟨w1, ds, l1, ok1, r1, q1⟩ : ∃ w1 ds, Le w H1 w1 H2 ∧ Ok w1 H2 ∧ Reps G w1 ds vs ∧ sp ds QD EX)⟩) fun us s3 ⟨vs, H2, I3, rv, w1, ds, l1, ok1, r1, q1⟩ => ⟨⟨ClX.pin_at I3, I3.kIn⟩, ?_⟩) hst hpl
  refine run_cmG (dvs := []) (dsv := []) F hgd hr hb .nil hx I3 rv ?_
  rw [List.append_nil]
  exact ⟨vs, rfl, w1, ds, QD, EX, ok1, r1, q1, fun d v w2 H2 l2 ok2 r2 q2 => kk d v w2 H2 (l1.trans l2) ok2 r2 q2, lk.go (fr.le.trans l1)⟩
end
end DL
/-! x == o, x of a type of the language, o an own object: o's own __eq__ answers. -/
namespace DL
open PySem PySem.Spec PyProof.Rows PySem.W PySem.SeqAt
section
variable {prog : Program} {w : World} {A : Around} {E : Value → Shared → Prop} {s : Shared} {K : Frag} {x C f : Addr} {ox : Obj} {od : Option Obj} {a : Value} {Ta id : String}
theorem cmpR_K {Q : Value → Shared → Prop} (hu : A.units < cLine) (X : K.In s.heap) (I : InstAt s.heap x ox C od) (ha : s.TypeIs a Ta) (hsub : subIn K (.ref C) (.type Ta) = some false) (h1 : Slot Ta (cmpInfo .Eq).2.1 id)
    (hc1 : ∀ Q' : Value → Shared → Prop, Q' .notImplemented s → wpAny (model prog w) A (call (.builtin id) [a, .ref x]) Q' E s)
    (hs : findIn K (.ref C) (cmpInfo .Eq).2.2 = some (some (.ref f))) (hf : isFn K (.ref f) = true)
    (h : wpAny (model prog w) A (call (.ref f) [.ref x, a]) (PySem.W.CmpBack Q) E s) : wpAny (model prog w) A (richCompare .Eq a (.ref x)) Q E s := by
  have one : wpAny (model prog w) A (tryCompare (.ref x) (cmpInfo .Eq).2.2 a) (fun r s' => ∃ v, r = some v ∧ Q v s') E s := by
    unfold tryCompare
    refine wpAny_bind (ifBound_K X I hs hf (wpAny_mono h (fun v s' hv => ?_) fun _ _ e => e))
    cases v <;> first | exact hv.elim | exact wpAny_pure ⟨_, rfl, hv⟩
  rcases hi : cmpInfo CmpOp.Eq with ⟨sym, ff, r⟩
  rw [hi] at h1 one
  simp only [richCompare, hi, ha.oneThing_none]
  try with_reducible refine wpAny_holding ?_
  refine wpAny_bind (wpAny_cRoomFor_or (.inr hu) ?_)
  refine wpAny_bind (wpAny_typeOf ha (wpAny_bind (I.type.here ?_)))
  have hne : (Value.type Ta != Value.ref C) = true := by simp
  simp only [hne, if_true]
  refine wpAny_bind ((looks_subIn X hsub).here ?_)
  simp only [Bool.false_eq_true, if_false, Bool.not_false, if_true]
  refine wpAny_bind (m := tryCompare a _ (.ref x)) (wpAny_tryCompare_declines ha h1 (hc1 _ ⟨rfl, ?_⟩))
  refine wpAny_bind (wpAny_mono one (fun r s' z => ?_) fun _ _ e => e)
  obtain ⟨v, rfl, hq⟩ := z
  exact wpAny_pure hq
end
end DL
/-! x == o, x a text, an int, None, a tuple, a list, a dict, o an own object. -/
namespace DL
open PySem L2 PyProof.Rows PySem.SeqAt
theorem str_inst (z : Str) (t : Tok) (x dx C : Addr) :
    Meets (Builtin.«str.__eq__» ⟨[.str z t, .ref x], []⟩) (fun _ R s => s.heap.get? x = some (PySem.W.instObj C dx) ∧ R (.ok (.ret .notImplemented)) s) :=
  .of_wp fun prog w A R s h => by
    obtain ⟨hp, g, d, tk, os⟩ := s
    obtain ⟨hl, h⟩ := h
    wp_walk using wpAny_loadPart' hl
    exact ⟨_, rfl, h⟩
theorem int_inst (z : Int) (t : Tok) (x dx C : Addr) :
    Meets (Builtin.«int.__eq__» ⟨[.int z t, .ref x], []⟩) (fun _ R s => s.heap.get? x = some (PySem.W.instObj C dx) ∧ R (.ok (.ret .notImplemented)) s) :=
  .of_wp fun prog w A R s h => by
    obtain ⟨hp, g, d, tk, os⟩ := s
    obtain ⟨hl, h⟩ := h
    wp_walk using wpAny_loadPart' hl
    exact ⟨_, rfl, h⟩
theorem tup_inst (l : Addr) (items : Array Value) (n : Nat) (dd : Option Addr) (sl : Array (Option Value)) (x dx C : Addr) (K : PySem.W.Frag) (od : Option Obj) :
    Meets (Builtin.«tuple.__eq__» ⟨[.ref l, .ref x], []⟩) (fun _ R s => s.heap.get? l = some { cls := .type "tuple", dict := dd, data := .seq items n, slots := sl } ∧ PySem.W.InstAt s.heap x (PySem.W.instObj C dx) C od ∧ K.In s.heap ∧ PySem.W.subIn K (.ref C) (.type "tuple") = some false ∧ R (.ok (.ret .notImplemented)) s) :=
  .of_wp fun prog w A R s h => by
    obtain ⟨hp, g, d, tk, os⟩ := s
    obtain ⟨hl, J, X, hs, h⟩ := h
    wp_walk using wpAny_loadPart' hl, J.type.here, (PySem.W.looks_subIn X hs).here
    exact ⟨_, rfl, h⟩
theorem list_inst (l : Addr) (items : Array Value) (n : Nat) (dd : Option Addr) (sl : Array (Option Value)) (x dx C : Addr) (K : PySem.W.Frag) (od : Option Obj) :
    Meets (Builtin.«list.__eq__» ⟨[.ref l, .ref x], []⟩) (fun _ R s => s.heap.get? l = some { cls := .type "list", dict := dd, data := .seq items n, slots := sl } ∧ PySem.W.InstAt s.heap x (PySem.W.instObj C dx) C od ∧ K.In s.heap ∧ PySem.W.subIn K (.ref C) (.type "list") = some false ∧ R (.ok (.ret .notImplemented)) s) :=
  .of_wp fun prog w A R s h => by
    obtain ⟨hp, g, d, tk, os⟩ := s
    obtain ⟨hl, J, X, hs, h⟩ := h
    wp_walk using wpAny_loadPart' hl, J.type.here, (PySem.W.looks_subIn X hs).here
    exact ⟨_, rfl, h⟩
theorem dict_inst (l : Addr) (es : Array DictEntry) (n : Nat) (dd : Option Addr) (sl : Array (Option Value)) (x dx C : Addr) (K : PySem.W.Frag) (od : Option Obj) :
    Meets (Builtin.«dict.__eq__» ⟨[.ref l, .ref x], []⟩) (fun _ R s => s.heap.get? l = some { cls := .type "dict", dict := dd, data := .dict es n, slots := sl } ∧ PySem.W.InstAt s.heap x (PySem.W.instObj C dx) C od ∧ K.In s.heap ∧ PySem.W.subIn K (.ref C) (.type "dict") = some false ∧ R (.ok (.ret .notImplemented)) s) :=
  .of_wp fun prog w A R s h => by
    obtain ⟨hp, g, d, tk, os⟩ := s
    obtain ⟨hl, J, X, hs, h⟩ := h
    wp_walk using wpAny_loadPart' hl, J.type.here, (PySem.W.looks_subIn X hs).here
    exact ⟨_, rfl, h⟩
/-- C is no subclass of these -/
structure OffB (K : PySem.W.Frag) (C : Addr) : Prop where
  str : PySem.W.subIn K (.ref C) (.type "str") = some false
  int : PySem.W.subIn K (.ref C) (.type "int") = some false
  non : PySem.W.subIn K (.ref C) (.type "NoneType") = some false
  tup : PySem.W.subIn K (.ref C) (.type "tuple") = some false
  lst : PySem.W.subIn K (.ref C) (.type "list") = some false
  dic : PySem.W.subIn K (.ref C) (.type "dict") = some false
section
variable {X : Cx} {k : Nat} {f C : Addr} {fd : FuncData} {ps : List Str} {sp : Sp}
def rEqR (K : PySem.W.Frag) (pw : World) (C : Addr) (sp : Sp) : R2 := fun x y H Q => ∃ b dx fs, y = .ref b ∧ H b = some (.ins C dx fs) ∧ ((∃ z, x = .str z) ∨ (∃ i, x = .int i) ∨ x = .non ∨ (∃ a vs, x = .ref a ∧ SqT K H a vs) ∨ (∃ a vs, x = .ref a ∧ SqL K H a vs) ∨ ∃ a kvs, x = .ref a ∧ (H a = some (.dK kvs) ∨ KDic K pw a kvs)) ∧
  sp [.ref b, x] H (fun v H' => ∃ z : Bool, v = .bl z ∧ Q (.bl z) H') E0
theorem op_eqR {pw : World} (F : FnG X.prog X.w X.K X.mg X.base k f fd ps sp) (hg : X.A.guards = some []) (hr : Room k X.A) (hb : Binds X.K fd ps []) (hs : PySem.W.findIn X.K (.ref C) "__eq__" = some (some (.ref f))) (hf : PySem.W.isFn X.K (.ref f) = true) (off : OffB X.K C) :
    OpR X (compareOp .Eq) (rEqR X.K pw C sp) := by
  intro pins s σ H x y v u Q I rx ry h
  obtain ⟨b, dx, fs, rfl, eb, hx, h⟩ := h
  cases (show u = Value.ref b from ry)
  obtain ⟨mB, O', _⟩ := ins_get I.hok eb
  obtain ⟨od, J, _⟩ := O'.look
  have hu : X.A.units < cLine := by have := hr.un; omega
  have X0 := I.kIn
  have go : wpAny (model X.prog X.w) X.A (call (.ref f) [.ref b, v]) (PySem.W.CmpBack (EP X pins σ Q)) X.xe s := by
    refine wpAny_mono (run_at F hg hr I.env0 hb I (vs := [.ref b, x]) (us := [.ref b, v]) (.cons rfl (.cons rx .nil)) h) ?_ fun _ _ y => y
    rintro u s' ⟨z, H', I', rz, t, ez, q⟩
    subst ez
    cases (show u = Value.bool t from rz)
    exact ⟨.bl t, H', I', rfl, q⟩
  show wpAny _ _ (richCompare .Eq v (.ref b)) _ _ _
  rcases hx with ⟨z, rfl⟩ | ⟨i, rfl⟩ | rfl | ⟨a, vs, rfl, st⟩ | ⟨a, vs, rfl, st⟩ | ⟨a, kvs, rfl, st⟩
  · obtain ⟨t, rfl⟩ := rx
    exact cmpR_K hu X0 J (typeIs_str s z t) off.str PySem.F.slot_str_eq (fun Q' hq => call_meets PySem.F.slot_str_eq (typeIs_str s z t) PySem.F.entry_str_eq (PySem.F.args_str_eq_2 _ _) (str_inst z t b _ C) ⟨O'.obj, hq⟩) hs hf go
  · obtain ⟨t, rfl⟩ := rx
    exact cmpR_K hu X0 J (typeIs_int s i t) off.int PySem.F.slot_int_eq (fun Q' hq => call_meets PySem.F.slot_int_eq (typeIs_int s i t) PySem.F.entry_int_eq (PySem.F.args_int_eq_2 _ _) (int_inst i t b _ C) ⟨O'.obj, hq⟩) hs hf go
  · cases (show v = Value.none from rx)
    exact cmpR_K hu X0 J rfl off.non PySem.F.slot_NoneType_eq (fun Q' hq => call_gives PySem.F.slot_NoneType_eq rfl PySem.F.entry_NoneType_eq (PySem.F.args_NoneType_eq_2 _ _) (PySem.SeqAt.NoneType___eq___none_ref_0 b) hq) hs hf go
  · cases (show v = Value.ref a from rx)
    obtain ⟨its, _, ⟨⟨cls, dd, data, sl⟩, ho, hc, n, hd⟩, _⟩ := I.tuple st
    simp only at hc hd
    subst hc hd
    exact cmpR_K hu X0 J ⟨_, ho, rfl⟩ off.tup PySem.F.slot_tuple_eq (fun Q' hq => call_meets PySem.F.slot_tuple_eq ⟨_, ho, rfl⟩ PySem.F.entry_tuple_eq (PySem.F.args_tuple_eq_2 _ _) (tup_inst a its.toArray n dd sl b _ C X.K (some od)) ⟨ho, J, X0, off.tup, hq⟩) hs hf go
  · cases (show v = Value.ref a from rx)
    obtain ⟨its, _, pl, _⟩ := I.list st
    obtain ⟨⟨cls, dd, data, sl⟩, ho, hc, n, hd⟩ := pl.isList
    simp only at hc hd
    subst hc hd
    exact cmpR_K hu X0 J ⟨_, ho, rfl⟩ off.lst PySem.F.slot_list_eq (fun Q' hq => call_meets PySem.F.slot_list_eq ⟨_, ho, rfl⟩ PySem.F.entry_list_eq (PySem.F.args_list_eq_2 _ _) (list_inst a its.toArray n dd sl b _ C X.K (some od)) ⟨ho, J, X0, off.lst, hq⟩) hs hf go
  · cases (show v = Value.ref a from rx)
    have key : ∀ {es : Array DictEntry} {n : Nat} {dd : Option Addr} {sl : Array (Option Value)}, s.heap.get? a = some { cls := .type "dict", dict := dd, data := .dict es n, slots := sl } → wpAny (model X.prog X.w) X.A (richCompare .Eq (.ref a) (.ref b)) (EP X pins σ Q) X.xe s := fun {es n dd sl} ho =>
      cmpR_K hu X0 J ⟨_, ho, rfl⟩ off.dic PySem.F.slot_dict_eq (fun Q' hq => call_meets PySem.F.slot_dict_eq ⟨_, ho, rfl⟩ PySem.F.entry_dict_eq (PySem.F.args_dict_eq_2 _ _) (dict_inst a es n dd sl b _ C X.K (some od)) ⟨ho, J, X0, off.dic, hq⟩) hs hf go
    rcases st with hd | ⟨es, n, lk, _, _⟩
    · obtain ⟨_, _, ys, kv, ⟨cls, dd, data, sl⟩, es, ep, ho, hc, hda, _, _, _⟩ := (show ObjOk X.prog X.w H s.heap a (.dK kvs) from I.hok a _ hd)
      have hc := hc.1
      simp only at hc hda
      subst hc hda
      exact key ho
    · exact key (I.kIn _ _ lk)
end
end DL
/-! o == x, o != x: o an own object, x a text, an int, None, a tuple, a list, a dict. -/
namespace DL
open PySem L2 PyProof.Rows PySem.SeqAt
theorem looks_ty {M : Model} {s : Shared} {v : Value} {T : String} (h : s.TypeIs v T) : PySem.W.Looks M s.heap (typeOf v) (.type T) := by
  cases v with
  | ref a =>
    obtain ⟨o, ho, hc⟩ := h
    exact hc ▸ (PySem.W.Looks.ld ho).andThen .now
  | _ => exact PySem.W.Looks.of_pure h
def KindL (K : PySem.W.Frag) (pw : World) (H : Hp) (x : V) : Prop := (∃ z, x = .str z) ∨ (∃ i, x = .int i) ∨ x = .non ∨ (∃ a vs, x = .ref a ∧ SqT K H a vs) ∨ (∃ a vs, x = .ref a ∧ SqL K H a vs) ∨ ∃ a kvs, x = .ref a ∧ (H a = some (.dK kvs) ∨ KDic K pw a kvs)
/-- the language's types are no subclasses of C -/
structure SideB (K : PySem.W.Frag) (C : Addr) : Prop where
  str : PySem.W.notFirst K C (.type "str") = true
  int : PySem.W.notFirst K C (.type "int") = true
  non : PySem.W.notFirst K C (.type "NoneType") = true
  tup : PySem.W.notFirst K C (.type "tuple") = true
  lst : PySem.W.notFirst K C (.type "list") = true
  dic : PySem.W.notFirst K C (.type "dict") = true
section
variable {X : Cx} {k : Nat} {f C : Addr} {fd : FuncData} {ps : List Str} {sp : Sp}
theorem kind_ty {pw : World} {pins : List (Addr × Obj)} {σ : L2.St} {H : Hp} {s : Shared} {x : V} {v : Value} (sd : SideB X.K C) (I : Inv X pins σ H s) (rx : RelV x v) (hx : KindL X.K pw H x) : ∃ T, s.TypeIs v T ∧ PySem.W.notFirst X.K C (.type T) = true := by
  rcases hx with ⟨z, rfl⟩ | ⟨i, rfl⟩ | rfl | ⟨a, vs, rfl, st⟩ | ⟨a, vs, rfl, st⟩ | ⟨a, kvs, rfl, st⟩
  · obtain ⟨t, rfl⟩ := rx
    exact ⟨_, typeIs_str s z t, sd.str⟩
  · obtain ⟨t, rfl⟩ := rx
    exact ⟨_, typeIs_int s i t, sd.int⟩
  · cases (show v = Value.none from rx)
    exact ⟨"NoneType", rfl, sd.non⟩
  · cases (show v = Value.ref a from rx)
    obtain ⟨its, _, ⟨o, ho, hc, n, hd⟩, _⟩ := I.tuple st
    exact ⟨_, ⟨o, ho, hc⟩, sd.tup⟩
  · cases (show v = Value.ref a from rx)
    obtain ⟨its, _, pl, _⟩ := I.list st
    obtain ⟨o, ho, hc, n, hd⟩ := pl.isList
    exact ⟨_, ⟨o, ho, hc⟩, sd.lst⟩
  · cases (show v = Value.ref a from rx)
    rcases st with hd | ⟨es, n, lk, _, _⟩
    · obtain ⟨_, _, ys, kv, o, es, ep, ho, hc, hda, _, _, _⟩ := (show ObjOk X.prog X.w H s.heap a (.dK kvs) from I.hok a _ hd)
      exact ⟨_, ⟨o, ho, hc.1⟩, sd.dic⟩
    · exact ⟨_, ⟨_, I.kIn _ _ lk, rfl⟩, sd.dic⟩
def rEqL (K : PySem.W.Frag) (pw : World) (C : Addr) (sp : Sp) (n : Bool → Bool) : R2 := fun x y H Q => ∃ a dx fs, x = .ref a ∧ H a = some (.ins C dx fs) ∧ KindL K pw H y ∧ sp [.ref a, y] H (fun v H' => ∃ z : Bool, v = .bl z ∧ Q (.bl (n z)) H') E0
theorem op_eqL {pw : World} (F : FnG X.prog X.w X.K X.mg X.base k f fd ps sp) (hg : X.A.guards = some []) (hr : Room k X.A) (hb : Binds X.K fd ps []) (hs : PySem.W.findIn X.K (.ref C) "__eq__" = some (some (.ref f))) (hf : PySem.W.isFn X.K (.ref f) = true) (sd : SideB X.K C) :
    OpR X (compareOp .Eq) (rEqL X.K pw C sp id) := by
  intro pins s σ H x y v u Q I rx ry h
  obtain ⟨a, dx, fs, rfl, ea, hy, h⟩ := h
  cases (show v = Value.ref a from rx)
  obtain ⟨mA, O, _⟩ := ins_get I.hok ea
  obtain ⟨od, J, _⟩ := O.look
  obtain ⟨m, hF⟩ := I.fr
  obtain ⟨T, hT, hn⟩ := kind_ty sd I ry hy
  have hu : X.A.units < cLine := by have := hr.un; omega
  show wpAny _ _ (richCompare .Eq (.ref a) u) _ _ _
  refine PySem.W.cmp_K (op := .Eq) (tb := .type T) hu hF I.ok.mod.kin J (looks_ty hT) hn hs hf ?_
  refine wpAny_mono (run_at F hg hr I.env0 hb I (vs := [.ref a, y]) (us := [.ref a, u]) (.cons rfl (.cons ry .nil)) h) ?_ fun _ _ y => y
  rintro u s' ⟨z, H', I', rz, t, ez, q⟩
  subst ez
  cases (show u = Value.bool t from rz)
  exact ⟨.bl t, H', I', rfl, q⟩
theorem op_neL {pw : World} (F : FnG X.prog X.w X.K X.mg X.base k f fd ps sp) (hg : X.A.guards = some []) (hr : Room (k + 1) X.A) (hb : Binds X.K fd ps []) (hne : PySem.W.findIn X.K (.ref C) "__ne__" = some (some (.builtin "object.__ne__"))) (hs : PySem.W.findIn X.K (.ref C) "__eq__" = some (some (.ref f))) (hf : PySem.W.isFn X.K (.ref f) = true) (hm : PySem.W.mroIn X.K C (.type "object") = some true) (sd : SideB X.K C) :
    OpR X (compareOp .NotEq) (rEqL X.K pw C sp (!·)) := by
  intro pins s σ H x y v u Q I rx ry h
  obtain ⟨a, dx, fs, rfl, ea, hy, h⟩ := h
  cases (show v = Value.ref a from rx)
  obtain ⟨mA, O, _⟩ := ins_get I.hok ea
  obtain ⟨od, J, _⟩ := O.look
  obtain ⟨m, hF⟩ := I.fr
  obtain ⟨T, hT, hn⟩ := kind_ty sd I ry hy
  have hu : X.A.units + 1 < cLine := by have := hr.un; omega
  show wpAny _ _ (richCompare .NotEq (.ref a) u) _ _ _
  refine OwnNe.ne_K (tb := .type T) hu hF I.ok.mod.kin J (looks_ty hT) hn hne hs hf hm ?_
  refine wpAny_mono (run_at F hg hr.in1 I.env0.in1 hb I (vs := [.ref a, y]) (us := [.ref a, u]) (.cons rfl (.cons ry .nil)) h) ?_ fun _ _ y => y
  rintro u s' ⟨z, H', I', rz, t, ez, q⟩
  subst ez
  cases (show u = Value.bool t from rz)
  exact ⟨t, rfl, .bl (!t), H', I', rfl, q⟩
end
end DL
/-! ==, != between an own object and a text, an int, None, a tuple, a list, a dict: rules over values. -/
namespace DL
open PySem L2 PyProof.Rows
def kindB : D → Bool
  | .str _ => true
  | .int _ => true
  | .non => true
  | .tup _ => true
  | .lst _ => true
  | .dic _ _ => true
  | _ => false
section
variable {G : Gm} {X : Cx} {k : Nat} {f : Addr} {fd : FuncData} {ps : List Str} {sp : DSp}
theorem kind_of {w : Wd} {H : Hp} {d : D} {v : V} (ok : Ok w H) (h : Rep G w d v) (hk : kindB d = true) : KindL G.K G.pw H v := by
  cases d <;> first | (cases hk; done) | skip
  · exact .inr (.inr (.inl h.non_of))
  · exact .inr (.inl ⟨_, h.int_of⟩)
  · exact .inl ⟨_, h.str_of⟩
  · obtain ⟨a, xs, rfl, tp, _⟩ := h.tup_of
    exact .inr (.inr (.inr (.inl ⟨a, xs, rfl, (tpT_sub ok.sub tp).sqt⟩)))
  · obtain ⟨a, xs, rfl, sq, _⟩ := h.lst_of
    exact .inr (.inr (.inr (.inr (.inl ⟨a, xs, rfl, (lsT_sub ok.sub sq).sql⟩))))
  · obtain ⟨a, vs, rfl, sq, _⟩ := h.dic_of
    rcases sq with e | e
    · exact .inr (.inr (.inr (.inr (.inr ⟨a, _, rfl, .inl (ok.sub _ _ e)⟩))))
    · exact .inr (.inr (.inr (.inr (.inr ⟨a, _, rfl, .inr e⟩))))
end
end DL
/-! bool(o), o an own object with __bool__. -/
namespace PySem.W
open PySem PySem.Calls PyProof.Rows
section
variable {prog : Program} {w : World} {A : Around} {E : Value → Shared → Prop} {s : Shared} {K : Frag} {x C L f : Addr} {h₀ : Heap} {m : Str → Option Value} {ox : Obj} {od : Option Obj}
theorem kbo_call {Q : Value → Shared → Prop} (F' : Fr h₀ L s.heap m) (X₀ : K.In h₀) (I : InstAt s.heap x ox C od) (hs : findIn K (.ref C) "__bool__" = some (some (.ref f))) (hf : isFn K (.ref f) = true)
    (h : wpAny (model prog w) A.in1.in1 (call (.ref f) [.ref x]) (BoolBack fun b => Q (.bool b)) E s) : wpAny (model prog w) A (call (.type "bool") [.ref x]) Q E s := by
  refine callType_codes (T := "bool") (Bi := Builtin.«object.__init__») (Q₁ := fun r s₁ => ∃ b, r = .bool b ∧ Q r s₁) PySem.F.called_bool (PySem.F.typeCall_bool_1 _) PySem.F.entry_object_init ?_ ?_
  · refine codeAny_of_tree ?_
    show wpAny _ A.in1.in1 (do checkBuiltinCall "bool.__new__" ⟨[.type "bool", .ref x], []⟩; again (.builtin "bool.__new__" ⟨[.type "bool", .ref x], []⟩)) _ _ s
    refine wpAny_bind (wpAny_of_eq (PySem.F.newCall_bool_1 _) (wpAny_pure ⟨plainId_quiet (by decide +kernel) _, codeAny_builtin PySem.F.entry_bool_new ?_⟩))
    rw [Around.under_plainId (by decide +kernel) _]
    have f1 := PySem.F.conv_sub_bool
    have tr : ∀ {R : Bool → Shared → Prop}, (∀ b s', Q (.bool b) s' → R b s') → wpAny (model prog w) A.in1.in1 (truthy (.ref x)) R E s := fun k => truthy_K F' X₀ I hs hf (wpAny_mono h (fun r s' hr => by
      cases r <;> first | exact hr.elim | skip
      exact k _ _ hr) fun _ _ y => y)
    obtain ⟨hp, g, d, tk, os⟩ := s
    repeat (any_goals (first | assumption | (with_reducible refine tr ?_) | wp_step))
    intro b s' hq
    repeat (any_goals (first | assumption | wp_step))
    all_goals first | exact hq | exact ⟨b, rfl, hq⟩ | exact ⟨_, rfl, b, rfl, hq⟩ | rfl | exact b
  · rintro obj s₁ ⟨b, rfl, hq⟩
    exact ⟨rfl, PySem.F.args_object_init_2 _ _, object_init_meets PySem.F.called_bool.init.lookup PySem.F.called_bool.made (by decide) prog w A.in1 _ s₁ ⟨rfl, rfl, hq⟩⟩
end
end PySem.W
namespace DL
open PySem L2 PyProof.Rows
section
variable {X : Cx} {k : Nat} {f C : Addr} {fd : FuncData} {ps : List Str} {sp : Sp}
/-- bool(o) -/
theorem cr_boolO (F : FnG X.prog X.w X.K X.mg X.base k f fd ps sp) (hg : X.A.guards = some []) (hr : Room (k + 2) X.A) (hb : Binds X.K fd ps []) (hs : PySem.W.findIn X.K (.ref C) "__bool__" = some (some (.ref f))) (hf : PySem.W.isFn X.K (.ref f) = true) :
    CallR X (.type "bool") (fun xs H Q => ∃ a dx fs, xs = [.ref a] ∧ H a = some (.ins C dx fs) ∧ sp [.ref a] H (fun v H' => ∃ b : Bool, v = .bl b ∧ Q (.bl b) H') E0) := by
  intro pins s σ H xs us Q I r h
  obtain ⟨a, dx, fs, rfl, ea, h⟩ := h
  obtain ⟨u, rfl, rx⟩ := vals1 r
  cases (show u = Value.ref a from rx)
  obtain ⟨mA, O, _⟩ := ins_get I.hok ea
  obtain ⟨od, J, _⟩ := O.look
  obtain ⟨m, hF⟩ := I.fr
  refine PySem.W.kbo_call hF I.ok.mod.kin J hs hf ?_
  refine wpAny_mono (run_at F hg hr.in1.in1 I.env0.in1.in1 hb I (vs := [.ref a]) (us := [.ref a]) (.cons rfl .nil) h) ?_ fun _ _ y => y
  rintro u s' ⟨v, H', I', rv, b, ev, q⟩
  subst ev
  cases (show u = Value.bool b from rv)
  exact ⟨.bl b, H', I', rfl, q⟩
end
section
variable {G : Gm} {X : Cx} {k : Nat} {f : Addr} {fd : FuncData} {ps : List Str} {sp : DSp}
def boolO (c : Nat) (sp : DSp) : CG := fun ds Q => match ds with
  | [.obj c' fs] => c' = c ∧ sp [.obj c' fs] (fun d => match d with
    | .bl n => Q (.bl n)
    | _ => False) NoX
  | _ => False
theorem cal_boolO {c : Nat} (F : FnG X.prog X.w X.K X.mg X.base k f fd ps (lift G sp)) (hb : Binds X.K fd ps []) (hg : X.A.guards = some []) (hr : Room (k + 2) X.A) (hs : PySem.W.findIn X.K (.ref (G.cls c)) "__bool__" = some (some (.ref f))) (hf : PySem.W.isFn X.K (.ref f) = true) :
    CaL G X (.type "bool") (boolO c sp) := by
  refine ⟨_, cr_boolO F hg hr hb hs hf, fun H0 w H ds vs Q QD ok sx g k => ?_⟩
  match ds, g with
  | [.obj c' fs], g =>
    obtain ⟨hc, g2⟩ := g
    subst hc
    obtain ⟨v, rfl, s1⟩ := sx.one
    have rp := s1.obj_rep
    obtain ⟨a, dx, gs, rfl, e, _, _, htb⟩ := rp.obj_of
    refine ⟨a, dx, gs, rfl, ok.sub _ _ e, w, [.obj c' fs], _, NoX, ok, Reps.cons rp Reps.nil, g2, fun d v w' H' l ok' r q => ?_, LkE.none htb⟩
    cases d <;> try exact q.elim
    rename_i n
    exact ⟨n, r.bl_of, k _ _ w' H' l ok' Rep.bl q⟩
end
def boolOX (c : Nat) (m : List D → R D) : List D → Option D
  | [.obj c' fs] => if c' = c then (match m [.obj c' fs] with
    | .ok (.bl n) => some (.bl n)
    | _ => none) else none
  | _ => none
theorem g_boolO {c : Nat} {m : List D → R D} : CCG (boolO c (spOf m)) (boolOX c m) := fun ds d Q e q => by
  match ds, e with
  | [.obj c' fs], e =>
    unfold boolOX at e
    dsimp only at e
    by_cases h : c' = c
    · rw [if_pos h] at e
      refine ⟨h, ?_⟩
      unfold spOf
      match z : m [.obj c' fs], e with
      | .ok (.bl n), e => cases e; exact q
    · rw [if_neg h] at e; cases e
end DL
/-! (o, t) == (o2, t2): o, o2 own objects of a class with __eq__. -/
namespace DL
open PySem L2 PyProof.Rows PySem.SeqAt
section
variable {prog : Program} {w : World} {A : Around} {R : Result → Shared → Prop}
/-- two tuples of two: the first ones asked, then the second ones -/
def PairGo (prog : Program) (w : World) (A : Around) (R : Result → Shared → Prop) (u2 v2 : Value) (s1 : Shared) : Prop :=
  wpAny (model prog w) A.in1 (eqBool u2 v2) (fun r s2 => R (.ok (.ret (.bool r))) s2) (fun e s2 => R (.error e) s2) s1
theorem tup_eqP (l b : Addr) (u1 u2 v1 v2 : Value) (n n2 : Nat) (dd dd2 : Option Addr) (sl sl2 : Array (Option Value)) {s : Shared}
    (hl : s.heap.get? l = some { cls := .type "tuple", dict := dd, data := .seq #[u1, u2] n, slots := sl })
    (hb : s.heap.get? b = some { cls := .type "tuple", dict := dd2, data := .seq #[v1, v2] n2, slots := sl2 })
    (h1 : wpAny (model prog w) A.in1 (eqBool u1 v1) (fun r s1 => (r = true ∧ PairGo prog w A R u2 v2 s1) ∨ (r = false ∧ R (.ok (.ret (.bool false))) s1)) (fun e s1 => R (.error e) s1) s) :
    wpAny (model prog w) A.in1 (Builtin.«tuple.__eq__» ⟨[.ref l, .ref b], []⟩) (GQ.FinOf prog w A R) (fun e s1 => R (.error e) s1) s := by
  have f2 := AutoSeq1.sub_tuple_tuple
  obtain ⟨hp, g, d, tk, os⟩ := s
  wp_walk using AutoSeq1.wpAny_loadPart' hl, AutoSeq1.wpAny_loadPart' hb, wpAny_forIn_list _ (fun rest bb sx => bb.1 = none ∧
    ((rest = [(u1, v1), (u2, v2)] ∧ wpAny (model prog w) A.in1 (eqBool u1 v1) (fun r s1 => (r = true ∧ PairGo prog w A R u2 v2 s1) ∨ (r = false ∧ R (.ok (.ret (.bool false))) s1)) (fun e s1 => R (.error e) s1) sx) ∨
     (rest = [(u2, v2)] ∧ PairGo prog w A R u2 v2 sx) ∨ (rest = [] ∧ R (.ok (.ret (.bool true))) sx))) _
  case turn =>
    rintro ⟨p, q⟩ rest bb sx ⟨hbb, hz | hz | hz⟩
    · obtain ⟨e, hz⟩ := hz
      cases e
      refine wpAny_bind (wpAny_mono hz (fun r s1 z => ?_) fun _ _ e => e)
      rcases z with ⟨rfl, z⟩ | ⟨rfl, z⟩
      · wp_walk
        exact ⟨rfl, .inr (.inl ⟨rfl, z⟩)⟩
      · wp_walk
        exact z
    · obtain ⟨e, hz⟩ := hz
      cases e
      refine wpAny_bind (wpAny_mono hz (fun r s1 z => ?_) fun _ _ e => e)
      cases r with
      | true =>
        wp_walk
        exact ⟨rfl, .inr (.inr ⟨rfl, z⟩)⟩
      | false =>
        wp_walk
        exact z
    · exact nomatch hz.1
  case fin =>
    rintro ⟨b1, b2⟩ sx ⟨hbb, hz | hz | hz⟩
    · exact nomatch hz.1
    · exact nomatch hz.1
    · simp only at hbb
      subst hbb
      obtain ⟨_, hz⟩ := hz
      wp_walk
      simpa [Builtin.Tuple.tupleCompareSizes] using hz
  case h =>
    exact ⟨rfl, .inl ⟨rfl, h1⟩⟩
end
/-- the data of V's that stand for the same value -/
theorem relV_inj {x y : V} {u : Value} (h : RelV x u) (k : RelV y u) : x = y := by
  cases x <;> cases y <;> simp only [L2.RelV] at h k <;> first
    | rfl
    | (obtain ⟨t, rfl⟩ := h; obtain ⟨t2, e⟩ := k; cases e; rfl)
    | (obtain ⟨t, rfl⟩ := h; cases k; done)
    | (obtain ⟨t, rfl⟩ := k; cases h; done)
    | (obtain ⟨t, rfl⟩ := h; obtain ⟨t2, e⟩ := k; cases e; done)
    | (subst h; cases k; rfl)
    | (subst h; obtain ⟨t, e⟩ := k; cases e; done)
    | (subst h; cases k; done)
theorem vals_inj : ∀ {xs ys : List V} {us : List Value}, Vals xs us → Vals ys us → xs = ys
  | _, _, _, .nil, .nil => rfl
  | _, _, _, .cons r t, .cons r2 t2 => by rw [relV_inj r r2, vals_inj t t2]
mutual
/-- None, bools, ints, texts, tuples of such -/
def rig : D → Bool
  | .non => true
  | .bl _ => true
  | .int _ => true
  | .str _ => true
  | .tup ds => rigs ds
  | _ => false
def rigs : List D → Bool
  | [] => true
  | d :: ds => rig d && rigs ds
end
section
variable {G : Gm} {X : Cx} {pins : List (Addr × Obj)} {σ : L2.St} {H : Hp} {s : Shared} {w : Wd}
theorem tp_inj (I : Inv X pins σ H s) (ok : Ok w H) (hK : X.K = G.K) {a : Addr} {xs ys : List V} (h : TpT G.K w.hd a xs) (k : TpT G.K w.hd a ys) : xs = ys := by
  obtain ⟨its, r, ⟨o, e, c, n, d⟩, _⟩ := I.tuple (hK ▸ (tpT_sub ok.sub h).sqt)
  obtain ⟨its2, r2, ⟨o2, e2, c2, n2, d2⟩, _⟩ := I.tuple (hK ▸ (tpT_sub ok.sub k).sqt)
  rw [e] at e2
  cases e2
  rw [d] at d2
  cases d2
  exact vals_inj r r2
mutual
theorem rig_inj (I : Inv X pins σ H s) (ok : Ok w H) (hK : X.K = G.K) : ∀ (d e : D) {v : V}, rig d = true → rig e = true → Rep G w d v → Rep G w e v → d = e
  | .tup ds, e, v, h1, h2, r1, r2 => by
    unfold rig at h1
    obtain ⟨a, vs, rfl, t1, q1⟩ := r1.tup_of
    cases e <;> first | (exact absurd h2 (by unfold rig; decide)) | skip
    · exact nomatch r2.non_of
    · exact nomatch r2.bl_of
    · exact nomatch r2.int_of
    · exact nomatch r2.str_of
    · unfold rig at h2
      obtain ⟨b, us, e1, t2, q2⟩ := r2.tup_of
      cases e1
      have ee := tp_inj I ok hK t1 t2
      subst ee
      rw [rigs_inj I ok hK ds _ h1 h2 q1 q2]
  | .non, e, v, h1, h2, r1, r2 => by
    have h := r1.non_of
    subst h
    cases e <;> first | rfl | (exact absurd h2 (by unfold rig; decide)) | (exact nomatch r2.bl_of) | (exact nomatch r2.int_of) | (exact nomatch r2.str_of) | (obtain ⟨_, _, e, _⟩ := r2.tup_of; cases e)
  | .bl z, e, v, h1, h2, r1, r2 => by
    have h := r1.bl_of
    subst h
    cases e <;> first | (exact absurd h2 (by unfold rig; decide)) | (exact nomatch r2.non_of) | (exact nomatch r2.int_of) | (exact nomatch r2.str_of) | (obtain ⟨_, _, e, _⟩ := r2.tup_of; cases e; done) | (cases r2.bl_of; rfl)
  | .int z, e, v, h1, h2, r1, r2 => by
    have h := r1.int_of
    subst h
    cases e <;> first | (exact absurd h2 (by unfold rig; decide)) | (exact nomatch r2.non_of) | (exact nomatch r2.bl_of) | (exact nomatch r2.str_of) | (obtain ⟨_, _, e, _⟩ := r2.tup_of; cases e; done) | (cases r2.int_of; rfl)
  | .str z, e, v, h1, h2, r1, r2 => by
    have h := r1.str_of
    subst h
    cases e <;> first | (exact absurd h2 (by unfold rig; decide)) | (exact nomatch r2.non_of) | (exact nomatch r2.bl_of) | (exact nomatch r2.int_of) | (obtain ⟨_, _, e, _⟩ := r2.tup_of; cases e; done) | (cases r2.str_of; rfl)
  | .lst _, _, _, h1, _, _, _ => absurd h1 (by unfold rig; decide)
  | .dic _ _, _, _, h1, _, _, _ => absurd h1 (by unfold rig; decide)
  | .obj _ _, _, _, h1, _, _, _ => absurd h1 (by unfold rig; decide)
  | .exc _ _, _, _, h1, _, _, _ => absurd h1 (by unfold rig; decide)
  | .jar, _, _, h1, _, _, _ => absurd h1 (by unfold rig; decide)
theorem rigs_inj (I : Inv X pins σ H s) (ok : Ok w H) (hK : X.K = G.K) : ∀ (ds es : List D) {vs : List V}, rigs ds = true → rigs es = true → Reps G w ds vs → Reps G w es vs → ds = es
  | [], es, vs, _, _, r1, r2 => by
    rw [r1.of_nil] at r2
    have := r2.length
    exact (List.eq_nil_of_length_eq_zero this).symm
  | d :: ds, es, vs, h1, h2, r1, r2 => by
    obtain ⟨v, t, rfl, a1, a2⟩ := r1.of_cons
    cases es with
    | nil => exact nomatch r2.of_nil
    | cons e es =>
      obtain ⟨v', t', e1, b1, b2⟩ := r2.of_cons
      cases e1
      unfold rigs at h1 h2
      rw [Bool.and_eq_true] at h1 h2
      rw [rig_inj I ok hK d e h1.1 h2.1 a1 b1, rigs_inj I ok hK ds es h1.2 h2.2 a2 b2]
end
end
section
variable {X : Cx} {k : Nat} {f C : Addr} {fd : FuncData} {ps : List Str} {sp : Sp}
/-- what the second ones answer -/
def SndQ (K : PySem.W.Frag) (t u : V) (Q : VK) (H : Hp) : Prop := ∃ d e, Dp K H t d ∧ Dp K H u e ∧ SeqAt.shaped d = true ∧ SeqAt.shaped e = true ∧ Q (.bl (PyData.eqv d e)) H
def rEqP (X : Cx) (C : Addr) (sp : Sp) : R2 := fun x y H Q => ∃ p q a b t u dx dy fs gs, x = .ref p ∧ y = .ref q ∧ SqT X.K H p [.ref a, t] ∧ SqT X.K H q [.ref b, u] ∧ H a = some (.ins C dx fs) ∧ H b = some (.ins C dy gs) ∧
  (a = b → (∃ pins σ s, Inv X pins σ H s) → SndQ X.K t u Q H) ∧ sp [.ref a, .ref b] H (fun v H' => ∃ z : Bool, v = .bl z ∧ if z = true then SndQ X.K t u Q H' else Q (.bl false) H') E0
theorem op_eqP (F : FnG X.prog X.w X.K X.mg X.base k f fd ps sp) (hg : X.A.guards = some []) (hr : Room (k + 2) X.A) (hb : Binds X.K fd ps []) (hs : PySem.W.findIn X.K (.ref C) "__eq__" = some (some (.ref f))) (hf : PySem.W.isFn X.K (.ref f) = true) :
    OpR X (compareOp .Eq) (rEqP X C sp) := by
  intro pins s σ H x y v u Q I rx ry h
  obtain ⟨p, q, a, b, t, tu, dx, dy, fs, gs, rfl, rfl, sp1, sp2, ea, eb, hid, h⟩ := h
  cases (show v = Value.ref p from rx)
  cases (show u = Value.ref q from ry)
  obtain ⟨its, r1, ⟨o1, e1, c1, n1, d1⟩, _⟩ := I.tuple sp1
  obtain ⟨its2, r2, ⟨o2, e2, c2, n2, d2⟩, _⟩ := I.tuple sp2
  obtain ⟨cls1, dd1, dat1, sl1⟩ := o1
  obtain ⟨cls2, dd2, dat2, sl2⟩ := o2
  simp only at c1 d1 c2 d2
  subst c1 d1 c2 d2
  cases r1 with
  | cons ra r1 => cases r1 with
    | cons rt r1 => cases r1 with
      | nil => cases r2 with
        | cons rb r2 => cases r2 with
          | cons ru r2 => cases r2 with
            | nil =>
              rename_i va vt vb vu
              cases (show va = Value.ref a from ra)
              cases (show vb = Value.ref b from rb)
              have hu : X.A.units < cLine := by have := hr.un; omega
              have snd : ∀ (H' : Hp) (s' : Shared), Inv X pins σ H' s' → SndQ X.K t tu Q H' → wpAny (model X.prog X.w) X.A.in1 (eqBool vt vu) (fun r s2 => (.bool r : Value) ≠ .notImplemented ∧ EP X pins σ Q (.bool r) s2) X.xe s' := by
                intro H' s' I' z
                obtain ⟨d, e, hd, he, sd, se, hq⟩ := z
                obtain ⟨as, q1⟩ := Dp.reads I' d t vt hd rt
                obtain ⟨bs, q2⟩ := Dp.reads I' e tu vu he ru
                refine SeqAt.eqAt_reads d e X.A.in1 s' vt vu as bs q1 q2 (SeqAt.canLay_of_shaped sd) (SeqAt.canLay_of_shaped se) (SeqAt.room_of_shaped sd ?_) X.prog X.w X.xe _ ⟨(fun z => nomatch z), .bl _, H', I', rfl, hq⟩
                have := hr.un
                show X.A.units + 1 + 64 < cLine
                omega
              show wpAny _ _ (richCompare .Eq (.ref p) (.ref q)) _ _ s
              refine wpAny_richCompare_same_room (op := .Eq) ⟨_, e1, rfl⟩ ⟨_, e2, rfl⟩ PySem.F.slot_tuple_eq (GQ.call_here PySem.F.slot_tuple_eq ⟨_, e1, rfl⟩ PySem.F.entry_tuple_eq (PySem.F.args_tuple_eq_2 _ _) ?_) hu
              refine tup_eqP (R := wants (fun v s' => v ≠ .notImplemented ∧ EP X pins σ Q v s') X.xe) p q (.ref a) vt (.ref b) vu n1 n2 dd1 dd2 sl1 sl2 e1 e2 ?_
              by_cases hab : a = b
              · subst hab
                exact SeqAt.EqAt.same (A := X.A.in1) (s := s) (.ref a) X.prog X.w _ _ (.inl ⟨rfl, snd H s I (hid rfl ⟨pins, σ, s, I⟩)⟩)
              · refine GQ.eqBool_refG hab ?_
                obtain ⟨mA, O, _⟩ := ins_get I.hok ea
                obtain ⟨od, J, _⟩ := O.look
                obtain ⟨mB, O', _⟩ := ins_get I.hok eb
                obtain ⟨od', J', _⟩ := O'.look
                obtain ⟨m, hF⟩ := I.fr
                have hu1 : X.A.in1.units < cLine := by have := hr.un; show X.A.units + 1 < cLine; omega
                refine PySem.W.cmp_K (op := .Eq) (tb := .ref C) hu1 hF I.ok.mod.kin J J'.type (by simp [PySem.W.notFirst]) hs hf ?_
                have hr1 : Room k X.A.in1 := (hr.mono (by omega : k + 1 ≤ k + 2)).in1
                refine wpAny_mono (run_at (E' := X.xe) F hg hr1 I.env0.in1 hb I (vs := [.ref a, .ref b]) (us := [.ref a, .ref b]) (.cons rfl (.cons rfl .nil)) h) ?_ fun _ _ y => y
                rintro u s' ⟨z, H', I', rz, tz, ez, qq⟩
                subst ez
                cases (show u = Value.bool tz from rz)
                cases tz with
                | true =>
                  refine ⟨true, rfl, .inl ⟨rfl, snd H' s' I' ?_⟩⟩
                  simpa using qq
                | false =>
                  refine ⟨false, rfl, .inr ⟨rfl, (fun z => nomatch z), .bl false, H', I', rfl, ?_⟩⟩
                  simpa using qq
end
section
variable {G : Gm} {X : Cx} {k : Nat} {f : Addr} {fd : FuncData} {ps : List Str} {sp : DSp}
mutual
/-- the same data, looked at from above -/
def sameB : D → D → Bool
  | .non, .non => true
  | .bl a, .bl b => a == b
  | .int a, .int b => a == b
  | .str a, .str b => decide (a = b)
  | .tup a, .tup b => samesB a b
  | _, _ => false
def samesB : List D → List D → Bool
  | [], [] => true
  | a :: as, b :: bs => sameB a b && samesB as bs
  | _, _ => false
end
mutual
theorem sameB_refl : ∀ d, rig d = true → sameB d d = true
  | .non, _ => by unfold sameB; rfl
  | .bl _, _ => by unfold sameB; simp
  | .int _, _ => by unfold sameB; simp
  | .str _, _ => by unfold sameB; simp
  | .tup ds, h => by unfold rig at h; unfold sameB; exact samesB_refl ds h
  | .lst _, h => absurd h (by unfold rig; decide)
  | .dic _ _, h => absurd h (by unfold rig; decide)
  | .obj _ _, h => absurd h (by unfold rig; decide)
  | .exc _ _, h => absurd h (by unfold rig; decide)
  | .jar, h => absurd h (by unfold rig; decide)
theorem samesB_refl : ∀ ds, rigs ds = true → samesB ds ds = true
  | [], _ => by unfold samesB; rfl
  | d :: ds, h => by
    unfold rigs at h
    rw [Bool.and_eq_true] at h
    unfold samesB
    rw [sameB_refl d h.1, samesB_refl ds h.2]; rfl
end
/-- (o, t) == (o2, t2) -/
def eqPD (c : Nat) (sp : DSp) : G2 := fun x y Q => match x, y with
  | .tup [.obj c1 fs, t], .tup [.obj c2 gs, u] => c1 = c ∧ c2 = c ∧ rigs fs = true ∧ rigs gs = true ∧ shp t ∧ shp u ∧ (samesB fs gs = true → Q (.bl (eqb t u))) ∧ sp [.obj c1 fs, .obj c2 gs] (fun d => match d with
    | .bl b => Q (.bl (b && eqb t u))
    | _ => False) NoX
  | _, _ => False
theorem opl_eqP {c : Nat} (F : FnG X.prog X.w X.K X.mg X.base k f fd ps (lift G sp)) (hb : Binds X.K fd ps []) (hg : X.A.guards = some []) (hr : Room (k + 2) X.A) (hs : PySem.W.findIn X.K (.ref (G.cls c)) "__eq__" = some (some (.ref f))) (hf : PySem.W.isFn X.K (.ref f) = true) (hK : X.K = G.K := by rfl) :
    OpL G X (compareOp .Eq) (eqPD c sp) := by
  refine ⟨_, op_eqP F hg hr hb hs hf, fun H0 w H x y v u Q QD ok sx sy g k => ?_⟩
  match x, y, g with
  | .tup [.obj c1 fs, t], .tup [.obj c2 gs, u'], g =>
    obtain ⟨h1, h2, g1, g2, ⟨p1, q1⟩, ⟨p2, q2⟩, gi, g3⟩ := g
    subst h1
    subst h2
    obtain ⟨p, vs, rfl, s1, r1⟩ := sx.tup_of ok
    obtain ⟨q, us, rfl, s2, r2⟩ := sy.tup_of ok
    obtain ⟨va, ta, rfl, ra, r1⟩ := r1.of_cons
    obtain ⟨vt, tt, rfl, rt, r1⟩ := r1.of_cons
    obtain ⟨vb, tb, rfl, rb, r2⟩ := r2.of_cons
    obtain ⟨vu, tu, rfl, ru, r2⟩ := r2.of_cons
    cases r1.of_nil
    cases r2.of_nil
    obtain ⟨a, dx, ga, rfl, ea, _, rfa, htb⟩ := ra.obj_of
    obtain ⟨b, dy, gb, rfl, eb, _, rfb, _⟩ := rb.obj_of
    refine ⟨p, q, a, b, vt, vu, dx, dy, ga, gb, rfl, rfl, hK ▸ s1, hK ▸ s2, ok.sub _ _ ea, ok.sub _ _ eb, fun hab hI => ?_, w, [.obj c2 fs, .obj c2 gs], _, NoX, ok, Reps.cons ra (Reps.cons rb Reps.nil), g3, fun d v w' H' l ok' r q => ?_, LkE.none htb⟩
    · subst hab
      obtain ⟨pins, σ, s, I⟩ := hI
      rw [ea] at eb
      cases eb
      have e := rigs_inj I ok hK fs gs g1 g2 rfa rfb
      subst e
      exact ⟨pd t, pd u', hK ▸ rt.dp ok.sub t p1, hK ▸ ru.dp ok.sub u' p2, q1, q2, k _ _ w H (.refl w H) ok Rep.bl (gi (samesB_refl fs g1))⟩
    · cases d <;> try exact q.elim
      rename_i z
      refine ⟨z, r.bl_of, ?_⟩
      cases z with
      | true =>
        rw [if_pos rfl]
        exact ⟨pd t, pd u', hK ▸ (rt.mono l.sub).dp ok'.sub t p1, hK ▸ (ru.mono l.sub).dp ok'.sub u' p2, q1, q2, k _ _ w' H' l ok' Rep.bl (show QD (.bl (eqb t u')) from by simpa using q)⟩
      | false =>
        rw [if_neg (by decide)]
        exact k _ _ w' H' l ok' Rep.bl (by simpa using q)
end
def eqPX (c : Nat) (m : List D → R D) : O2 := fun x y => match x, y with
  | .tup [.obj c1 fs, t], .tup [.obj c2 gs, u] => if (decide (c1 = c) && decide (c2 = c) && rigs fs && rigs gs && shpB t && shpB u) = true then (match m [.obj c1 fs, .obj c2 gs] with
    | .ok (.bl b) => if (b || !samesB fs gs) = true then some (.bl (b && eqb t u)) else none
    | _ => none) else none
  | _, _ => none
theorem g_eqP {c : Nat} {m : List D → R D} : CG2 (eqPD c (spOf m)) (eqPX c m) := fun x y d Q e q => by
  match x, y, e with
  | .tup [.obj c1 fs, t], .tup [.obj c2 gs, u], e =>
    unfold eqPX at e
    dsimp only at e
    by_cases z : (decide (c1 = c) && decide (c2 = c) && rigs fs && rigs gs && shpB t && shpB u) = true
    · rw [if_pos z] at e
      have e : (match m [.obj c1 fs, .obj c2 gs] with
        | .ok (.bl b) => if (b || !samesB fs gs) = true then some (.bl (b && eqb t u)) else none
        | _ => none) = some d := e
      simp only [Bool.and_eq_true, decide_eq_true_eq] at z
      obtain ⟨⟨⟨⟨⟨z1, z2⟩, z3⟩, z4⟩, z5⟩, z6⟩ := z
      cases hm : m [.obj c1 fs, .obj c2 gs] with
      | no => rw [hm] at e; cases e
      | ex _ => rw [hm] at e; cases e
      | ok r =>
        rw [hm] at e
        cases r <;> first | (cases e; done) | skip
        rename_i b
        dsimp only at e
        by_cases hz : (b || !samesB fs gs) = true
        · rw [if_pos hz] at e
          cases e
          refine ⟨z1, z2, z3, z4, shpB_iff z5, shpB_iff z6, fun hs => ?_, ?_⟩
          · rw [hs] at hz
            have hb : b = true := by simpa using hz
            subst hb
            simpa using q
          · show (m [.obj c1 fs, .obj c2 gs]).hold _ _
            rw [hm]
            exact q
        · rw [if_neg hz] at e; cases e
    · rw [if_neg z] at e; cases e
end DL
/-! ==, != of an own object with any kind: own objects of other classes, too. -/
namespace DL
open PySem L2 PyProof.Rows PySem.SeqAt
section
variable {X : Cx} {k : Nat} {f C : Addr} {fd : FuncData} {ps : List Str} {sp : Sp}
def rEqO2 (K : PySem.W.Frag) (C : Addr) (sp : Sp) (n : Bool → Bool) : R2 := fun x y H Q => ∃ a b dx dy fs gs C2, x = .ref a ∧ y = .ref b ∧ H a = some (.ins C dx fs) ∧ H b = some (.ins C2 dy gs) ∧ PySem.W.notFirst K C (.ref C2) = true ∧ sp [.ref a, .ref b] H (fun v H' => ∃ z : Bool, v = .bl z ∧ Q (.bl (n z)) H') E0
theorem op_eqO2 (F : FnG X.prog X.w X.K X.mg X.base k f fd ps sp) (hg : X.A.guards = some []) (hr : Room k X.A) (hb : Binds X.K fd ps []) (hs : PySem.W.findIn X.K (.ref C) "__eq__" = some (some (.ref f))) (hf : PySem.W.isFn X.K (.ref f) = true) :
    OpR X (compareOp .Eq) (rEqO2 X.K C sp id) := by
  intro pins s σ H x y v u Q I rx ry h
  obtain ⟨a, b, dx, dy, fs, gs, C2, rfl, rfl, ea, eb, hn, h⟩ := h
  cases (show v = Value.ref a from rx)
  cases (show u = Value.ref b from ry)
  obtain ⟨mA, O, _⟩ := ins_get I.hok ea
  obtain ⟨od, J, _⟩ := O.look
  obtain ⟨mB, O', _⟩ := ins_get I.hok eb
  obtain ⟨od', J', _⟩ := O'.look
  obtain ⟨m, hF⟩ := I.fr
  have hu : X.A.units < cLine := by have := hr.un; omega
  show wpAny _ _ (richCompare .Eq (.ref a) (.ref b)) _ _ _
  refine PySem.W.cmp_K (op := .Eq) (tb := .ref C2) hu hF I.ok.mod.kin J J'.type hn hs hf ?_
  refine wpAny_mono (run_at F hg hr I.env0 hb I (vs := [.ref a, .ref b]) (us := [.ref a, .ref b]) (.cons rfl (.cons rfl .nil)) h) ?_ fun _ _ y => y
  rintro u s' ⟨z, H', I', rz, t, ez, q⟩
  subst ez
  cases (show u = Value.bool t from rz)
  exact ⟨.bl t, H', I', rfl, q⟩
theorem op_neO2 (F : FnG X.prog X.w X.K X.mg X.base k f fd ps sp) (hg : X.A.guards = some []) (hr : Room (k + 1) X.A) (hb : Binds X.K fd ps []) (hne : PySem.W.findIn X.K (.ref C) "__ne__" = some (some (.builtin "object.__ne__"))) (hs : PySem.W.findIn X.K (.ref C) "__eq__" = some (some (.ref f))) (hf : PySem.W.isFn X.K (.ref f) = true) (hm : PySem.W.mroIn X.K C (.type "object") = some true) :
    OpR X (compareOp .NotEq) (rEqO2 X.K C sp (!·)) := by
  intro pins s σ H x y v u Q I rx ry h
  obtain ⟨a, b, dx, dy, fs, gs, C2, rfl, rfl, ea, eb, hn, h⟩ := h
  cases (show v = Value.ref a from rx)
  cases (show u = Value.ref b from ry)
  obtain ⟨mA, O, _⟩ := ins_get I.hok ea
  obtain ⟨od, J, _⟩ := O.look
  obtain ⟨mB, O', _⟩ := ins_get I.hok eb
  obtain ⟨od', J', _⟩ := O'.look
  obtain ⟨m, hF⟩ := I.fr
  have hu : X.A.units + 1 < cLine := by have := hr.un; omega
  show wpAny _ _ (richCompare .NotEq (.ref a) (.ref b)) _ _ _
  refine OwnNe.ne_K (tb := .ref C2) hu hF I.ok.mod.kin J J'.type hn hne hs hf hm ?_
  refine wpAny_mono (run_at F hg hr.in1 I.env0.in1 hb I (vs := [.ref a, .ref b]) (us := [.ref a, .ref b]) (.cons rfl (.cons rfl .nil)) h) ?_ fun _ _ y => y
  rintro u s' ⟨z, H', I', rz, t, ez, q⟩
  subst ez
  cases (show u = Value.bool t from rz)
  exact ⟨t, rfl, .bl (!t), H', I', rfl, q⟩
end
/-- of a kind of the language, or an own object of one of the classes cs -/
def kindW (cs : List Nat) : D → Bool
  | .obj c _ => decide (c ∈ cs)
  | d => kindB d
section
variable {G : Gm} {X : Cx} {k k2 : Nat} {f f2 : Addr} {fd fd2 : FuncData} {ps ps2 : List Str} {sp sp2 : DSp}
/-- o == x, o != x, x of any such kind -/
def eqLW (c : Nat) (cs : List Nat) (sp : DSp) (neg : Bool) : G2 := fun x y Q => match x with
  | .obj c' fs => c' = c ∧ kindW cs y = true ∧ sp [.obj c' fs, y] (fun d => match d with
    | .bl b => Q (.bl (neg != b))
    | _ => False) NoX
  | _ => False
theorem eqL_link {c : Nat} {cs : List Nat} {neg : Bool} {n : Bool → Bool} (hn : ∀ b, n b = (neg != b)) (side : ∀ c2 ∈ cs, PySem.W.notFirst G.K (G.cls c) (.ref (G.cls c2)) = true)
    {w : Wd} {H : Hp} {x y : D} {v u : V} {Q : VK} {QD : D → Prop} (ok : Ok w H) (rp : Rep G w x v) (ry : Rep G w y u) (g : eqLW c cs sp neg x y QD)
    (k : ∀ d z w' H', Le w H w' H' → Ok w' H' → Rep G w' d z → QD d → Q z H') : rEqL G.K G.pw (G.cls c) (lift G sp) n v u H Q ∨ rEqO2 G.K (G.cls c) (lift G sp) n v u H Q := by
  cases x <;> try exact g.elim
  rename_i c' fs
  obtain ⟨rfl, hk, g3⟩ := g
  have rp2 := rp
  obtain ⟨a, dx, gs, rfl, e, _, _, htb⟩ := rp.obj_of
  have fin : lift G sp [.ref a, u] H (fun v H' => ∃ z : Bool, v = .bl z ∧ Q (.bl (n z)) H') E0 := by
    refine ⟨w, [.obj c' fs, y], _, NoX, ok, Reps.cons rp2 (Reps.cons ry Reps.nil), g3, fun d v w' H' l ok' r q => ?_, LkE.none htb⟩
    cases d <;> try exact q.elim
    rename_i b
    refine ⟨b, r.bl_of, k (.bl (n b)) _ w' H' l ok' Rep.bl ?_⟩
    rw [hn]; exact q
  by_cases ho : ∃ c2 es, y = .obj c2 es
  · obtain ⟨c2, es, rfl⟩ := ho
    obtain ⟨b, dy, hs, rfl, e2, _, _, _⟩ := ry.obj_of
    exact .inr ⟨a, b, dx, dy, gs, hs, G.cls c2, rfl, rfl, ok.sub _ _ e, ok.sub _ _ e2, side c2 (of_decide_eq_true hk), fin⟩
  · have hk' : kindB y = true := by
      cases y <;> first | exact hk | exact absurd ⟨_, _, rfl⟩ ho
    exact .inl ⟨a, dx, gs, rfl, ok.sub _ _ e, kind_of ok ry hk', fin⟩
theorem opv_eqLW {c : Nat} {cs : List Nat} (F : FnG X.prog X.w X.K X.mg X.base k f fd ps (lift G sp)) (hb : Binds X.K fd ps []) (hg : X.A.guards = some []) (hr : Room k X.A) (hs : PySem.W.findIn X.K (.ref (G.cls c)) "__eq__" = some (some (.ref f))) (hf : PySem.W.isFn X.K (.ref f) = true) (sd : SideB X.K (G.cls c)) (side : ∀ c2 ∈ cs, PySem.W.notFirst G.K (G.cls c) (.ref (G.cls c2)) = true) (hK : X.K = G.K := by rfl) :
    OpV G X (compareOp .Eq) (eqLW c cs sp false) :=
  ⟨_, (op_eqL (pw := G.pw) F hg hr hb hs hf sd).or (op_eqO2 F hg hr hb hs hf), fun w H x y v u Q QD ok rp ry g k => by
    rw [hK]
    exact eqL_link (fun b => by cases b <;> rfl) side ok rp ry g k⟩
theorem opv_neLW {c : Nat} {cs : List Nat} (F : FnG X.prog X.w X.K X.mg X.base k f fd ps (lift G sp)) (hb : Binds X.K fd ps []) (hg : X.A.guards = some []) (hr : Room (k + 1) X.A) (hne : PySem.W.findIn X.K (.ref (G.cls c)) "__ne__" = some (some (.builtin "object.__ne__"))) (hm : PySem.W.mroIn X.K (G.cls c) (.type "object") = some true) (hs : PySem.W.findIn X.K (.ref (G.cls c)) "__eq__" = some (some (.ref f))) (hf : PySem.W.isFn X.K (.ref f) = true) (sd : SideB X.K (G.cls c)) (side : ∀ c2 ∈ cs, PySem.W.notFirst G.K (G.cls c) (.ref (G.cls c2)) = true) (hK : X.K = G.K := by rfl) :
    OpV G X (compareOp .NotEq) (eqLW c cs sp true) :=
  ⟨_, (op_neL (pw := G.pw) F hg hr hb hne hs hf hm sd).or (op_neO2 F hg hr hb hne hs hf hm), fun w H x y v u Q QD ok rp ry g k => by
    rw [hK]
    exact eqL_link (fun b => by cases b <;> rfl) side ok rp ry g k⟩
/-- x == o, x of a kind of the language, or an own object of the class c2 -/
def eqRW (c c2 : Nat) (sp sp2 : DSp) : G2 := fun x y Q => match y with
  | .obj c' fs => c' = c ∧ ((kindB x = true ∧ sp [.obj c' fs, x] (fun d => match d with
    | .bl b => Q (.bl b)
    | _ => False) NoX) ∨ ∃ gs, x = .obj c2 gs ∧ sp2 [x, .obj c' fs] (fun d => match d with
    | .bl b => Q (.bl b)
    | _ => False) NoX)
  | _ => False
theorem opv_eqRW {c c2 : Nat} (F : FnG X.prog X.w X.K X.mg X.base k f fd ps (lift G sp)) (hb : Binds X.K fd ps []) (hg : X.A.guards = some []) (hr : Room k X.A) (hs : PySem.W.findIn X.K (.ref (G.cls c)) "__eq__" = some (some (.ref f))) (hf : PySem.W.isFn X.K (.ref f) = true) (off : OffB X.K (G.cls c))
    (F2 : FnG X.prog X.w X.K X.mg X.base k2 f2 fd2 ps2 (lift G sp2)) (hb2 : Binds X.K fd2 ps2 []) (hr2 : Room k2 X.A) (hs2 : PySem.W.findIn X.K (.ref (G.cls c2)) "__eq__" = some (some (.ref f2))) (hf2 : PySem.W.isFn X.K (.ref f2) = true) (side : PySem.W.notFirst G.K (G.cls c2) (.ref (G.cls c)) = true) (hK : X.K = G.K := by rfl) :
    OpV G X (compareOp .Eq) (eqRW c c2 sp sp2) := by
  refine ⟨_, (op_eqR (pw := G.pw) F hg hr hb hs hf off).or (op_eqO2 F2 hg hr2 hb2 hs2 hf2), fun w H x y v u Q QD ok rx rp g k => ?_⟩
  cases y <;> try exact g.elim
  rename_i c' fs
  obtain ⟨rfl, ⟨hk, g3⟩ | ⟨es, rfl, g3⟩⟩ := g
  · obtain ⟨a, dx, gs, rfl, e, _, _, htb⟩ := rp.obj_of
    refine .inl ⟨a, dx, gs, rfl, ok.sub _ _ e, hK ▸ kind_of ok rx hk, w, [.obj c' fs, x], _, NoX, ok, Reps.cons rp (Reps.cons rx Reps.nil), g3, fun d v w' H' l ok' r q => ?_, LkE.none htb⟩
    cases d <;> try exact q.elim
    exact ⟨_, r.bl_of, k _ _ w' H' l ok' Rep.bl q⟩
  · obtain ⟨a, dx, gs, rfl, e, _, _, htb⟩ := rp.obj_of
    obtain ⟨b, dy, hs', rfl, e2, _, _, _⟩ := rx.obj_of
    refine .inr ⟨b, a, dy, dx, hs', gs, G.cls c', rfl, rfl, ok.sub _ _ e2, ok.sub _ _ e, hK ▸ side, w, [.obj c2 es, .obj c' fs], _, NoX, ok, Reps.cons rx (Reps.cons rp Reps.nil), g3, fun d v w' H' l ok' r q => ?_, LkE.none htb⟩
    cases d <;> try exact q.elim
    exact ⟨_, r.bl_of, k _ _ w' H' l ok' Rep.bl q⟩
end
theorem side_nil {P : Nat → Prop} : ∀ c ∈ ([] : List Nat), P c := fun _ h => nomatch h
theorem side_cons {P : Nat → Prop} {c : Nat} {cs : List Nat} (h : P c) (t : ∀ x ∈ cs, P x) : ∀ x ∈ c :: cs, P x := fun x m => by
  cases m with
  | head => exact h
  | tail _ m => exact t x m
def blOf (n : Bool) : R D → Option D
  | .ok (.bl b) => some (.bl (n != b))
  | _ => none
theorem blOf_of {n : Bool} {r : R D} {d : D} (e : blOf n r = some d) : ∃ b, r = .ok (.bl b) ∧ d = .bl (n != b) := by
  unfold blOf at e
  split at e
  · exact ⟨_, rfl, (Option.some.inj e).symm⟩
  · cases e
def eqLWX (c : Nat) (cs : List Nat) (m : List D → R D) (neg : Bool) : O2 := fun x y => match x with
  | .obj c' fs => if (decide (c' = c) && kindW cs y) = true then blOf neg (m [.obj c' fs, y]) else none
  | _ => none
theorem g_eqLW {c : Nat} {cs : List Nat} {m : List D → R D} {neg : Bool} : CG2 (eqLW c cs (spOf m) neg) (eqLWX c cs m neg) := fun x y d Q e q => by
  cases x <;> first | (cases e; done) | skip
  rename_i c' fs
  unfold eqLWX at e
  dsimp only at e
  by_cases h : (decide (c' = c) && kindW cs y) = true
  · rw [if_pos h] at e
    obtain ⟨b, hm, rfl⟩ := blOf_of e
    rw [Bool.and_eq_true, decide_eq_true_eq] at h
    refine ⟨h.1, h.2, ?_⟩
    show (m [.obj c' fs, y]).hold _ _
    rw [hm]
    exact q
  · rw [if_neg h] at e; cases e
def eqRWX (c c2 : Nat) (m m2 : List D → R D) : O2 := fun x y => match y with
  | .obj c' fs => if c' = c then (match x with
    | .obj c3 gs => if c3 = c2 then blOf false (m2 [.obj c3 gs, .obj c' fs]) else none
    | x => if kindB x = true then blOf false (m [.obj c' fs, x]) else none) else none
  | _ => none
theorem g_eqRW {c c2 : Nat} {m m2 : List D → R D} : CG2 (eqRW c c2 (spOf m) (spOf m2)) (eqRWX c c2 m m2) := fun x y d Q e q => by
  cases y <;> first | (cases e; done) | skip
  rename_i c' fs
  unfold eqRWX at e
  dsimp only at e
  by_cases h : c' = c
  · rw [if_pos h] at e
    refine ⟨h, ?_⟩
    by_cases ho : ∃ c3 gs, x = .obj c3 gs
    · obtain ⟨c3, gs, rfl⟩ := ho
      dsimp only at e
      by_cases h3 : c3 = c2
      · rw [if_pos h3] at e
        obtain ⟨b, hm, rfl⟩ := blOf_of e
        subst h3
        refine .inr ⟨gs, rfl, ?_⟩
        show (m2 [.obj c3 gs, .obj c' fs]).hold _ _
        rw [hm]
        cases b <;> exact q
      · rw [if_neg h3] at e; cases e
    · have e2 : (if kindB x = true then blOf false (m [.obj c' fs, x]) else none) = some d := by
        cases x <;> first | exact e | exact absurd ⟨_, _, rfl⟩ ho
      by_cases hk : kindB x = true
      · rw [if_pos hk] at e2
        obtain ⟨b, hm, rfl⟩ := blOf_of e2
        refine .inl ⟨hk, ?_⟩
        show (m [.obj c' fs, x]).hold _ _
        rw [hm]
        cases b <;> exact q
      · rw [if_neg hk] at e2; cases e2
  · rw [if_neg h] at e; cases e
end DL
/-! C.read(text = ..), a classmethod asked by name; x.split(sep). -/
namespace DL
open PySem L2 PyProof.Rows
section
variable {X : Cx} {G : Gm} {E : XK} {k : Nat} {f C p g : Addr} {mc : Value} {fd : FuncData} {ps ks : List Str} {sel : List Src} {dd : List D} {x m : Str} {pos apos npos : Pos} {kws : List Keyword} {B : FA} {sp : DSp} {pl : Sem Bool}
theorem run_cmK {sp : Sp} {q : Addr} {pins : List (Addr × Obj)} {σ : L2.St} {H : Hp} {s : Shared} {Q : VK} {ws args : List Value} {vs : List V} (F : FnG X.prog X.w X.K X.mg X.base k g fd ps sp) (hgd : X.A.guards = some []) (hr : Room k X.A) (hb : BindsTo s fd ⟨[.ref C], ks.zip ws⟩ (ps.zip (.ref C :: args))) (hx : PassX X E)
    (I : Inv X ((q, PySem.W.methodObj (.ref g) (.ref C)) :: pins) σ H s) (r : Vals vs args) (h : sp (.ref C :: vs) H Q E) : wpAny (model X.prog X.w) X.A (call (.ref q) [] (ks.zip ws)) (EP X pins σ Q) X.xe s := by
  have both : Vals (V.ref C :: vs) (Value.ref C :: args) := .cons rfl r
  refine wpAny_call (PySem.W.method_call (ClX.pin_at I) (codeAny_mono (F.run X.A X.stack s H ⟨[.ref C], ks.zip ws⟩ (.ref C :: args) (.ref C :: vs) Q E hgd hr I.env0 hb both h) ?_))
  rintro (er | fl) s' hq
  · exact hx pins σ H s er s' (ClX.unpin I) hq
  · cases fl <;> first
      | exact ClX.unpinE (I.after hq)
      | exact hq.elim
theorem ce_cmethK (hm : X.mg x = some (.ref C)) (r : ClX.CRead X.K C mc) (c : ClX.CMet X.K C mc m p g) (F : FnG X.prog X.w X.K X.mg X.base k g fd ps (liftC G C sp)) (hb : BdK X.K fd ps 1 ks (selI sel) dd) (hgd : X.A.guards = some []) (hr : Room k X.A) (hx : PassX X E)
    (hk : PK X kws (taD G E B)) (hg : Gl X x := by rfl) (hdb : (x == ("__debug__" : Str)) = false := by decide)
    (hall : ∀ pos, (backToKw pos (keywordEach kws X.env)).all (·.1.isSome) = true := by intro _; rfl) (hks : ∀ pos, (backToKw pos (keywordEach kws X.env)).filterMap (·.1) = ks := by intro _; rfl)
    (hpl : ∀ pos, ((backTo pos (starEach [] X.env)).any (·.1) || (backToKw pos (keywordEach kws X.env)).any (·.1.isNone)) = false := by intro _; rfl)
    (ht : eval (.Call (.Attribute (.Name x npos) m apos) [] kws pos) X.env = (do
      let ov ← eval (.Name x npos) X.env
      standAt apos.atName
      let (f, first) ← holding [ov] (getMethod ov m pl)
      callWith pos f first (backTo pos (starEach [] X.env)) (backToKw pos (keywordEach kws X.env))) := by rfl) (hKG : G.K = X.K := by rfl) :
    PE X (.Call (.Attribute (.Name x npos) m apos) [] kws pos) (tD G E (fCallK 0 ks.length sel dd sp (fKw fNil B))) := by
  refine ⟨fun pins s σ H Q I h => ?_⟩
  obtain ⟨w0, H0, r0, w, QD, EX, fr, lk, f0, kk⟩ := h
  obtain ⟨its, dvs, rd, rD, bd⟩ := hb
  have hn : PE X (.Name x npos) (tC (.ref C)) := pe_glob hg hm rfl hdb
  refine PySem.W.methodCall_KW (pl := pl) (thn (hn.run pins s σ H (fun v H1 => v = .ref C ∧ H1 = H) I ⟨rfl, rfl⟩) ?_) ht
  rintro u s1 ⟨v, H1, I1, rx, rfl, rfl⟩
  cases (show u = Value.ref C from rx)
  refine ClX.getmethcm_ok I1 r c fun s2 I2 => ?_
  refine PySem.W.callWith_of (P := PySem.W.MethP X.K s1.heap.objs.size g (.ref C)) (hpl pos) (PySem.W.keeps_M c.fi) (evalArgs_kw2_nil (hall pos) (thn (hk.run pos _ s2 σ H1 _ I2 ⟨w0, H0, r0, w, (fun es => ([] : List D).length = 0 ∧ es.length = ks.length ∧ sp (pick sel [] es dd) QD EX), EX, fr, lk, f0, fun es zs w1 H2 l1 ok1 r1 q1 => (⟨w1, es, l1, ok1, r1, q1.2⟩ : ∃ w1 es, Le w H1 w1 H2 ∧ Ok w1 H2 ∧ Reps G w1 es zs ∧ es.length = ks.length ∧ sp (pick sel [] es dd) QD EX)⟩) fun ws s3 ⟨zs, H2, I3, rz, w1, es, l1, ok1, r1, hl, q1⟩ => ⟨⟨ClX.pin_at I3, I3.kIn⟩, ?_⟩))
  rw [hks pos]
  have hbb := bd s3 [.ref C] ws I3.kIn rfl (by rw [← rz.length, ← r1.length]; exact hl)
  rw [pick_selI] at hbb
  refine run_cmK (vs := pick sel [] zs dvs) F hgd hr hbb hx I3 (vals_pick .nil rz rd sel) ?_
  exact ⟨_, rfl, w1, pick sel [] es dd, QD, EX, ok1, reps_pick Reps.nil r1 (rD G hKG w1) sel, q1, fun d v w2 H3 l2 ok2 r2 q2 => kk d v w2 H3 (l1.trans l2) ok2 r2 q2, lk.go (fr.le.trans l1)⟩
end
/-! ### x.split(sep) -/
section
variable {X : Cx} {G : Gm} {E : XK}
def splitD (a : Str) (y : D) (Q : D → Prop) : Prop := match y with
  | .str b => (b.length == 0) = false ∧ a.length + 2 ≤ sizeLine ∧ Q (.lst ((Txt.split a b).map D.str))
  | _ => False
theorem stl_split : StL G X "str.split" splitD := by
  refine ⟨_, mt_split, fun H0 w H a y v Q QD ok s g k => ?_⟩
  cases y <;> try exact g.elim
  rename_i b
  cases s.str_of
  refine ⟨a, b, rfl, rfl, g.1, g.2.1, fun p hp => ?_⟩
  obtain ⟨w2, l2, ok2, rp⟩ := newLst (p := p) (ds := (Txt.split a b).map D.str) ok hp Reps.of_strs
  exact k _ _ w2 _ l2 ok2 rp g.2.2
theorem ce_split {o e : Expr} {apos pos : Pos} {A B : FE} (ho : PE X o (bD G E A)) (he : PE X e (bD G E B)) (hs : starEach [e] X.env = [(false, eval e X.env)] := by rfl)
    (hbase : attributeBase o "split" X.env (eval o X.env) = eval o X.env := by rfl) (hline : (apos.endLine == pos.line) = true := by rfl) : PE X (.Call (.Attribute o "split" apos) [e] [] pos) (tD G E (fStr1 splitD A B)) :=
  ce_str1 PySem.F.slot_str_split PySem.F.type_str_split stl_split ho he hs hbase hline
end
def splitX (a : Str) (y : D) : Option D := match y with
  | .str b => if (!(b.length == 0) && decide (a.length + 2 ≤ 16777216)) = true then some (.lst ((Txt.split a b).map D.str)) else none
  | _ => none
theorem g_split (z : Str) (y : D) (d : D) (Q : D → Prop) (e : splitX z y = some d) (q : Q d) : splitD z y Q := by
  cases y <;> first | (cases e; done) | skip
  rename_i b
  unfold splitX at e
  dsimp only at e
  by_cases h : (!(b.length == 0) && decide (z.length + 2 ≤ 16777216)) = true
  · rw [if_pos h] at e
    cases e
    rw [Bool.and_eq_true, decide_eq_true_eq] at h
    exact ⟨by simpa using h.1, h.2, q⟩
  · rw [if_neg h] at e; cases e
end DL
/-! Names of the module that stand for texts. -/
namespace DL
open PySem L2 PyProof.Rows
section
variable {X : Cx} {G : Gm} {E : XK}
theorem ce_gstr {x : Str} {z : Str} {u : Value} {pos : Pos} (hm : X.mg x = some u) (r : RelV (.str z) u) (hg : Gl X x := by rfl) (hd : (x == ("__debug__" : Str)) = false := by decide) : PE X (.Name x pos) (tD G E (fC (.str z))) := ce_const (pe_glob hg hm r hd) fun _ => Rep.str
end
end DL
namespace HdM
open PySem
def strB (K : PySem.W.Frag) (x : Str) (z : Str) : Bool := match PySem.W.nsIn K mainGlobals x with
  | some (some (.str y _)) => decide (y = z)
  | _ => false
theorem str_ok {K : PySem.W.Frag} {x z : Str} (h : strB K x z = true) : ∃ t, PySem.W.nsIn K mainGlobals x = some (some (.str z t)) := by
  unfold strB at h
  split at h
  · rename_i y t e
    have ey : y = z := of_decide_eq_true h
    exact ⟨t, by rw [e, ey]⟩
  · cases h
end HdM
/-! Plain law, part 1: settings of parts, neighbours, peaks. No program in sight. -/
namespace TP
open DL
abbrev Tx := List Nat
/-! ### settings of a part -/
def setsF (found : List Tx) : List Tx → List Tx
  | [] => found
  | p :: ps => setsF (found.flatMap fun b => p.map fun c => b ++ [c]) ps
def sets (ps : List Tx) : List Tx := setsF [[]] ps
def fits : Tx → List Tx → Prop
  | [], [] => True
  | c :: s, p :: ps => c ∈ p ∧ fits s ps
  | _, _ => False
theorem mem_setsF : ∀ {ps : List Tx} {found : List Tx} {s : Tx}, s ∈ setsF found ps ↔ ∃ b ∈ found, ∃ t, s = b ++ t ∧ fits t ps
  | [], found, s => by
    unfold setsF
    constructor
    · intro h; exact ⟨s, h, [], by simp, trivial⟩
    · rintro ⟨b, hb, t, e, f⟩
      cases t with
      | nil => rw [e, List.append_nil]; exact hb
      | cons _ _ => exact f.elim
  | p :: ps, found, s => by
    unfold setsF
    rw [mem_setsF]
    constructor
    · rintro ⟨b, hb, t, e, f⟩
      obtain ⟨b0, hb0, h⟩ := List.mem_flatMap.mp hb
      obtain ⟨c, hc, rfl⟩ := List.mem_map.mp h
      exact ⟨b0, hb0, c :: t, by rw [e]; simp, hc, f⟩
    · rintro ⟨b, hb, t, e, f⟩
      cases t with
      | nil => exact f.elim
      | cons c t =>
        exact ⟨b ++ [c], List.mem_flatMap.mpr ⟨b, hb, List.mem_map.mpr ⟨c, f.1, rfl⟩⟩, t, by rw [e]; simp, f.2⟩
theorem mem_sets {ps : List Tx} {s : Tx} : s ∈ sets ps ↔ fits s ps := by
  unfold sets
  rw [mem_setsF]
  constructor
  · rintro ⟨b, hb, t, e, f⟩
    rw [List.mem_singleton.mp hb] at e
    rw [e]; exact f
  · intro f; exact ⟨[], List.mem_singleton.mpr rfl, s, rfl, f⟩
theorem fits.len : ∀ {s : Tx} {ps : List Tx}, fits s ps → s.length = ps.length
  | [], [], _ => rfl
  | c :: s, p :: ps, h => by simp [fits.len h.2]
  | [], _ :: _, h => h.elim
  | _ :: _, [], h => h.elim
theorem fits.at : ∀ {s : Tx} {ps : List Tx}, fits s ps → ∀ {k : Nat}, k < ps.length → s.getD k 0 ∈ ps.getD k []
  | [], [], _, k, h => by simp at h
  | c :: s, p :: ps, h, 0, _ => h.1
  | c :: s, p :: ps, h, k + 1, hk => by
    have := fits.at h.2 (k := k) (by simpa using hk)
    simpa using this
  | [], _ :: _, h, _, _ => h.elim
  | _ :: _, [], h, _, _ => h.elim
theorem fits_of : ∀ {s : Tx} {ps : List Tx}, s.length = ps.length → (∀ k, k < ps.length → s.getD k 0 ∈ ps.getD k []) → fits s ps
  | [], [], _, _ => trivial
  | c :: s, p :: ps, hl, h => ⟨h 0 (by simp), fits_of (by simpa using hl) fun k hk => by simpa using h (k + 1) (by simpa using hk)⟩
  | [], _ :: _, hl, _ => by simp at hl
  | _ :: _, [], hl, _ => by simp at hl
/-- all the same length, strictly ascending -/
def Asc (l : List Tx) : Prop := l.Pairwise (· < ·)
theorem lt_snoc : ∀ {a b : Tx} {x y : Nat}, a.length = b.length → a < b → a ++ [x] < b ++ [y]
  | [], [], _, _, _, h => by exact absurd h (by simp)
  | a :: as, b :: bs, x, y, hl, h => by
    rw [List.cons_append, List.cons_append, List.cons_lt_cons_iff]
    rcases List.cons_lt_cons_iff.mp h with h | ⟨e, h⟩
    · exact .inl h
    · exact .inr ⟨e, lt_snoc (by simpa using hl) h⟩
  | [], _ :: _, _, _, hl, _ => by simp at hl
  | _ :: _, [], _, _, hl, _ => by simp at hl
theorem lt_snoc2 : ∀ {a : Tx} {x y : Nat}, x < y → a ++ [x] < a ++ [y]
  | [], x, y, h => by
    rw [List.nil_append, List.nil_append, List.cons_lt_cons_iff]; exact .inl h
  | a :: as, x, y, h => by
    rw [List.cons_append, List.cons_append, List.cons_lt_cons_iff]; exact .inr ⟨rfl, lt_snoc2 h⟩
theorem asc_setsF : ∀ {ps : List Tx} {found : List Tx} {n : Nat}, Asc found → (∀ b ∈ found, b.length = n) → (∀ p ∈ ps, p.Pairwise (· < ·)) → Asc (setsF found ps)
  | [], found, n, h, _, _ => h
  | p :: ps, found, n, h, hn, hp => by
    unfold setsF
    refine asc_setsF (n := n + 1) ?_ (fun b hb => ?_) fun q hq => hp q (List.mem_cons_of_mem _ hq)
    · unfold Asc
      rw [List.pairwise_flatMap]
      refine ⟨fun b hb => ?_, ?_⟩
      · rw [List.pairwise_map]
        exact (hp p List.mem_cons_self).imp fun h => lt_snoc2 h
      · refine List.Pairwise.imp_of_mem ?_ h
        intro a b ha hb hab x hx y hy
        obtain ⟨c, _, rfl⟩ := List.mem_map.mp hx
        obtain ⟨d, _, rfl⟩ := List.mem_map.mp hy
        exact lt_snoc (by rw [hn a ha, hn b hb]) hab
    · obtain ⟨b0, hb0, h⟩ := List.mem_flatMap.mp hb
      obtain ⟨c, _, rfl⟩ := List.mem_map.mp h
      simp [hn b0 hb0]
theorem asc_sets {ps : List Tx} (hp : ∀ p ∈ ps, p.Pairwise (· < ·)) : Asc (sets ps) :=
  asc_setsF (n := 0) (List.pairwise_singleton _ _) (by simp) hp
theorem lt_irr (a : Tx) : ¬ a < a := List.lt_irrefl a
theorem Asc.nodup {l : List Tx} (h : Asc l) : l.Nodup := h.imp fun {a b} h e => by subst e; exact lt_irr _ h
theorem len_setsF : ∀ {ps : List Tx} {found : List Tx}, (setsF found ps).length = found.length * (ps.map List.length).prod
  | [], found => by simp [setsF]
  | p :: ps, found => by
    unfold setsF
    rw [len_setsF]
    have : (found.flatMap fun b => p.map fun c => b ++ [c]).length = found.length * p.length := by
      induction found with
      | nil => simp
      | cons b bs ih => simp [List.flatMap_cons, ih, Nat.add_mul]; omega
    rw [this, List.map_cons, List.prod_cons, Nat.mul_assoc]
theorem len_sets {ps : List Tx} : (sets ps).length = (ps.map List.length).prod := by
  unfold sets; rw [len_setsF]; simp

theorem setsF_snoc : ∀ {p : List Tx} {f : List Tx} {x : Tx}, setsF f (p ++ [x]) = (setsF f p).flatMap fun b => x.map fun c => b ++ [c]
  | [], f, x => rfl
  | y :: p, f, x => by
    rw [List.cons_append]
    unfold setsF
    exact setsF_snoc
def grow (l : List Tx) (x : Tx) : List Tx := l.flatMap fun b => x.map fun c => b ++ [c]
theorem sets_grow {p : List Tx} {x : Tx} : sets (p ++ [x]) = grow (sets p) x := setsF_snoc
theorem grow_app {l m : List Tx} {x : Tx} : grow (l ++ m) x = grow l x ++ grow m x := List.flatMap_append
theorem grow_one {b : Tx} {x : Tx} : grow [b] x = x.map fun c => b ++ [c] := by unfold grow; simp
theorem grow_len : ∀ {l : List Tx} {x : Tx}, (grow l x).length = l.length * x.length
  | [], x => by simp [grow]
  | b :: l, x => by
    rw [show b :: l = [b] ++ l from rfl, grow_app, grow_one, List.length_append, List.length_map, grow_len, List.length_append, Nat.add_mul]
    simp
theorem prod3 : ∀ {p : List Tx} {n : Nat}, (∀ x ∈ p, x.length ≤ 3) → p.length ≤ n → (p.map List.length).prod ≤ 3 ^ n
  | [], n, _, _ => by simp; exact Nat.one_le_pow _ _ (by decide)
  | x :: p, 0, _, h => by simp at h
  | x :: p, n + 1, h, hl => by
    rw [List.map_cons, List.prod_cons, Nat.pow_succ, Nat.mul_comm (3 ^ n)]
    exact Nat.mul_le_mul (h x List.mem_cons_self) (prod3 (fun y hy => h y (List.mem_cons_of_mem _ hy)) (by simpa using hl))
/-- a part of up to five switches with up to three stands each -/
structure Small (p : List Tx) : Prop where
  len : p.length ≤ 5
  three : ∀ x ∈ p, x.length ≤ 3
theorem Small.sets {p : List Tx} (h : Small p) : (sets p).length ≤ 243 := by
  rw [len_sets]
  exact prod3 h.three h.len
theorem Small.pre {p q : List Tx} (h : Small (p ++ q)) : Small p := ⟨by have := h.len; rw [List.length_append] at this; omega, fun x hx => h.three x (List.mem_append_left _ hx)⟩
theorem fits.len5 {s : Tx} {p : List Tx} (h : fits s p) (hp : Small p) : s.length ≤ 5 := by rw [h.len]; exact hp.len
/-! ### neighbours -/
def turned (s : Tx) (k : Nat) (c : Tx) : Tx := s.take k ++ c ++ s.drop (k + 1)
def side (part : List Tx) (s : Tx) (k : Nat) : List Tx := ((part.getD k []).filter fun c => decide (c ≠ s.getD k 0)).map fun c => turned s k [c]
def besideRaw (part : List Tx) (s : Tx) : List Tx := (List.range part.length).flatMap fun k => side part s k
def beside (part : List Tx) (s : Tx) : List Tx := isort ltN (besideRaw part s)
theorem mem_beside {part : List Tx} {s e : Tx} : e ∈ beside part s ↔ ∃ k, k < part.length ∧ ∃ c, c ∈ part.getD k [] ∧ c ≠ s.getD k 0 ∧ e = turned s k [c] := by
  unfold beside
  rw [isort_perm.mem_iff]
  unfold besideRaw
  rw [List.mem_flatMap]
  constructor
  · rintro ⟨k, hk, h⟩
    unfold side at h
    obtain ⟨c, hc, rfl⟩ := List.mem_map.mp h
    obtain ⟨h1, h2⟩ := List.mem_filter.mp hc
    exact ⟨k, by simpa using hk, c, h1, of_decide_eq_true h2, rfl⟩
  · rintro ⟨k, hk, c, h1, h2, rfl⟩
    refine ⟨k, by simpa using hk, ?_⟩
    unfold side
    exact List.mem_map.mpr ⟨c, List.mem_filter.mpr ⟨h1, decide_eq_true h2⟩, rfl⟩
theorem turned_len {s : Tx} {k : Nat} {c : Nat} (h : k < s.length) : (turned s k [c]).length = s.length := by
  unfold turned
  simp
  omega
theorem turned_eq_set : ∀ {s : Tx} {k : Nat} {c : Nat}, k < s.length → turned s k [c] = s.set k c
  | [], k, c, h => by simp at h
  | x :: s, 0, c, h => by simp [turned]
  | x :: s, k + 1, c, h => by
    have ih := turned_eq_set (s := s) (k := k) (c := c) (by simpa using h)
    unfold turned at ih ⊢
    simp only [List.take_succ_cons, List.drop_succ_cons, List.set_cons_succ, List.cons_append]
    rw [ih]
theorem set_getD {s : Tx} {k j c : Nat} (h : k < s.length) : (s.set k c).getD j 0 = if j = k then c else s.getD j 0 := by
  rw [List.getD_eq_getElem?_getD, List.getElem?_set, List.getD_eq_getElem?_getD]
  by_cases e : j = k
  · subst e; simp [h]
  · rw [if_neg (fun z => e z.symm), if_neg e]
/-- in how many places two settings differ -/
def dif (e s : Tx) : Nat := ((List.range s.length).filter fun k => decide (e.getD k 0 ≠ s.getD k 0)).length
theorem ext_getD : ∀ {a b : Tx}, a.length = b.length → (∀ k, k < b.length → a.getD k 0 = b.getD k 0) → a = b
  | [], [], _, _ => rfl
  | x :: a, y :: b, hl, h => by
    have h0 := h 0 (by simp)
    have := ext_getD (a := a) (b := b) (by simpa using hl) fun k hk => by simpa using h (k + 1) (by simpa using hk)
    simp at h0
    rw [h0, this]
  | [], _ :: _, hl, _ => by simp at hl
  | _ :: _, [], hl, _ => by simp at hl
theorem filter_one {n : Nat} {p : Nat → Bool} : ((List.range n).filter p).length = 1 ↔ ∃ k, k < n ∧ p k = true ∧ ∀ j, j < n → p j = true → j = k := by
  constructor
  · intro h
    obtain ⟨k, hk⟩ := List.length_eq_one_iff.mp h
    have mk : k ∈ (List.range n).filter p := by rw [hk]; simp
    obtain ⟨h1, h2⟩ := List.mem_filter.mp mk
    refine ⟨k, by simpa using h1, h2, fun j hj hp => ?_⟩
    have : j ∈ (List.range n).filter p := List.mem_filter.mpr ⟨by simpa using hj, hp⟩
    rw [hk] at this
    exact List.mem_singleton.mp this
  · rintro ⟨k, hk, hp, hu⟩
    have hn : ((List.range n).filter p).Nodup := List.nodup_range.filter _
    have : ((List.range n).filter p).Perm [k] := by
      refine (List.perm_ext_iff_of_nodup hn (by simp)).mpr fun j => ?_
      rw [List.mem_filter, List.mem_singleton, List.mem_range]
      constructor
      · rintro ⟨a, b⟩; exact hu j a b
      · rintro rfl; exact ⟨hk, hp⟩
    rw [this.length_eq]; rfl
theorem dif_one {e s : Tx} (hl : e.length = s.length) : dif e s = 1 ↔ ∃ k, k < s.length ∧ e.getD k 0 ≠ s.getD k 0 ∧ e = turned s k [e.getD k 0] := by
  unfold dif
  rw [filter_one]
  constructor
  · rintro ⟨k, hk, h1, h2⟩
    refine ⟨k, hk, of_decide_eq_true h1, ?_⟩
    rw [turned_eq_set hk]
    refine ext_getD (by rw [List.length_set, hl]) fun j hj => ?_
    rw [List.length_set] at hj
    rw [set_getD hk]
    by_cases q : j = k
    · rw [if_pos q, q]
    · rw [if_neg q]
      exact Decidable.byContradiction fun z => q (h2 j hj (decide_eq_true z))
  · rintro ⟨k, hk, h1, h2⟩
    refine ⟨k, hk, decide_eq_true h1, fun j hj hp => ?_⟩
    have hp' := of_decide_eq_true hp
    refine Decidable.byContradiction fun q => hp' ?_
    rw [h2, turned_eq_set hk, set_getD hk, if_neg q]
/-- the neighbours in a part that the setting is in -/
theorem mem_beside_fits {part : List Tx} {s e : Tx} (hs : fits s part) : e ∈ beside part s ↔ fits e part ∧ dif e s = 1 := by
  have hl := hs.len
  rw [mem_beside]
  constructor
  · rintro ⟨k, hk, c, hc, hne, rfl⟩
    have hk' : k < s.length := by omega
    have el : (turned s k [c]).length = s.length := turned_len hk'
    have g : (turned s k [c]).getD k 0 = c := by rw [turned_eq_set hk', set_getD hk', if_pos rfl]
    refine ⟨fits_of (by omega) fun j hj => ?_, (dif_one el).mpr ⟨k, hk', by rw [g]; exact hne, by rw [g]⟩⟩
    rw [turned_eq_set hk', set_getD hk']
    by_cases q : j = k
    · rw [if_pos q, q]; exact hc
    · rw [if_neg q]; exact hs.at hj
  · rintro ⟨fe, d⟩
    obtain ⟨k, hk, h1, h2⟩ := (dif_one (by rw [fe.len, hl])).mp d
    exact ⟨k, by omega, e.getD k 0, fe.at (by omega), h1, h2⟩
theorem ordN : Ord ltN where
  irr := fun x => by rw [ltN_eq]; exact decide_eq_false (lt_irr x)
  asym := fun x y h => by
    rw [ltN_eq] at h ⊢
    exact decide_eq_false (List.lt_asymm (of_decide_eq_true h))
  tr := fun x y z h1 h2 => by
    rw [ltN_eq] at h1 h2 ⊢
    have a := of_decide_eq_false h1
    have b := of_decide_eq_false h2
    refine decide_eq_false fun q => ?_
    have a' : x ≤ y := List.not_lt.mp a
    have b' : y ≤ z := List.not_lt.mp b
    exact absurd q (List.not_lt.mpr (List.le_trans a' b'))
theorem ltN_anti {x y : Tx} (h1 : ltN x y = false) (h2 : ltN y x = false) : x = y := by
  rw [ltN_eq] at h1 h2
  exact List.le_antisymm (List.not_lt.mp (of_decide_eq_false h2)) (List.not_lt.mp (of_decide_eq_false h1))
theorem Asc.sd {l : List Tx} (h : Asc l) : Sd ltN l := h.imp fun {a b} h => by
  rw [ltN_eq]; exact decide_eq_false (List.lt_asymm h)
/-- two lists without twins, the same elements, both ascending: the same -/
theorem asc_eq {l m : List Tx} (hl : Asc l) (hm : Asc m) (h : ∀ x, x ∈ l ↔ x ∈ m) : l = m :=
  sd_unique ((List.perm_ext_iff_of_nodup hl.nodup hm.nodup).mpr h) hl.sd hm.sd fun x _ y _ a b => ltN_anti a b
theorem sd_asc {l : List Tx} (h : Sd ltN l) (n : l.Nodup) : Asc l := by
  refine (List.Pairwise.and h n).imp fun {a b} ⟨h1, h2⟩ => ?_
  rw [ltN_eq] at h1
  rcases Decidable.em (a < b) with q | q
  · exact q
  · exact absurd (List.le_antisymm (List.not_lt.mp (of_decide_eq_false h1)) (List.not_lt.mp q)) h2
theorem sideLen {part : List Tx} {s : Tx} {k : Nat} (h : Small part) : (side part s k).length ≤ 3 := by
  unfold side
  rw [List.length_map]
  refine Nat.le_trans (List.length_filter_le _ _) ?_
  by_cases hk : k < part.length
  · refine h.three _ ?_
    rw [List.getD_eq_getElem?_getD, List.getElem?_eq_getElem hk]
    exact List.getElem_mem hk
  · rw [List.getD_eq_getElem?_getD, List.getElem?_eq_none (by omega)]
    exact Nat.zero_le _
theorem besideLen {part : List Tx} {s : Tx} (h : Small part) : ∀ (p : List Nat), (p.flatMap fun k => side part s k).length ≤ p.length * 3
  | [] => Nat.zero_le _
  | k :: p => by
    rw [List.flatMap_cons, List.length_append, List.length_cons, Nat.succ_mul, Nat.add_comm]
    exact Nat.add_le_add (besideLen h p) (sideLen h)
/-! ### places in an order -/
/-- the place of a text -/
def idx (o : List Tx) (s : Tx) : Nat := o.idxOf s
theorem idx_lt {o : List Tx} {s : Tx} (h : s ∈ o) : idx o s < o.length := List.idxOf_lt_length_iff.mpr h
def near (w : List Tx) (s : Tx) : List Tx := (sets w).filter fun e => decide (dif e s = 1)
theorem mem_near {w : List Tx} {s e : Tx} : e ∈ near w s ↔ fits e w ∧ dif e s = 1 := by
  unfold near
  rw [List.mem_filter, mem_sets, decide_eq_true_iff]
end TP
/-! Runs over typed data: texts as lists of signs, lists of texts. -/
namespace DL
open PySem L2 PyProof.Rows TP
def sx (l : Tx) : Str := ⟨⟨l⟩⟩
abbrev st (l : Tx) : D := .str (sx l)
def sts (xs : List Tx) : List D := xs.map st
theorem sts_cons {x : Tx} {xs : List Tx} : sts (x :: xs) = st x :: sts xs := rfl
theorem sts_app {x y : List Tx} : sts (x ++ y) = sts x ++ sts y := List.map_append
theorem sts_len {x : List Tx} : (sts x).length = x.length := List.length_map _
theorem sx_inj {a b : Tx} (h : sx a = sx b) : a = b := by cases h; rfl
theorem sx_len {a : Tx} : (sx a).length = a.length := rfl
theorem sx_list {a : Tx} : (sx a).cps.toList = a := rfl
theorem sx_app {a b : Tx} : sx a ++ sx b = sx (a ++ b) := by
  show (⟨(⟨a⟩ : Array Nat) ++ ⟨b⟩⟩ : Str) = ⟨⟨a ++ b⟩⟩
  rw [List.append_toArray]
theorem signs_sx {a : Tx} : signs (sx a) = a.map fun c => st [c] := rfl
theorem sl_eq : sizeLine = 16777216 := sizeLine_eq
theorem gd_pos {p : Prop} [Decidable p] {a : D} (h : p) : gd p a = some a := by unfold gd; rw [if_pos h]
theorem addX_st {a b : Tx} (h : a.length + b.length ≤ 16777216) : addX (st a) (st b) = some (st (a ++ b)) := by
  show gd ((sx a).length + (sx b).length ≤ sizeLine) (.str (sx a ++ sx b)) = _
  rw [sx_app, gd_pos (by rw [sl_eq]; exact h)]
theorem addX_int {a b : Int} : addX (.int a) (.int b) = some (.int (a + b)) := rfl
theorem eqX_st {a b : Tx} : eqX (st a) (st b) = some (.bl (decide (a = b))) := rfl
theorem neX_st {a b : Tx} : neX (st a) (st b) = some (.bl (!decide (a = b))) := rfl
theorem ltX_st {a b : Tx} : ltX (st a) (st b) = some (.bl (ltN a b)) := rfl
theorem ltX_int {a b : Int} : ltX (.int a) (.int b) = some (.bl (decide (a < b))) := rfl
theorem leX_int {a b : Int} : leX (.int a) (.int b) = some (.bl (decide (a ≤ b))) := rfl
theorem gtX_int {a b : Int} : gtX (.int a) (.int b) = some (.bl (decide (b < a))) := rfl
theorem geX_int {a b : Int} : geX (.int a) (.int b) = some (.bl (decide (b ≤ a))) := rfl
theorem shp_int (a : Int) : shpB (.int a) = true := rfl
theorem eqX_int {a b : Int} : eqX (.int a) (.int b) = some (.bl (decide (a = b))) := by
  show gd ((shpB (.int a) && shpB (.int b)) = true) (.bl (eqb (.int a) (.int b))) = _
  rw [gd_pos (by rw [shp_int, shp_int]; rfl)]
  rfl
theorem neX_int {a b : Int} : neX (.int a) (.int b) = some (.bl (!decide (a = b))) := by
  show gd ((shpB (.int a) && shpB (.int b)) = true) (.bl (!eqb (.int a) (.int b))) = _
  rw [gd_pos (by rw [shp_int, shp_int]; rfl)]
  rfl
theorem atF_nat {α : Type} {xs : List α} {n : Nat} : atF xs (n : Int) = xs[n]? := rfl
theorem ixX_st {a : Tx} {n : Nat} (h : n < a.length) (hl : a.length ≤ 16777216) : ixX (st a) (.int n) = some (st [a.getD n 0]) := by
  show (atF a (n : Int)).bind (fun c => if Nat.ble a.length 16777216 = true then some (D.str ⟨#[c]⟩) else none) = _
  rw [atF_nat, List.getElem?_eq_getElem h]
  show (if Nat.ble a.length 16777216 = true then some (D.str ⟨#[a[n]]⟩) else none) = _
  rw [if_pos (Nat.ble_eq.mpr hl), List.getD_eq_getElem?_getD, List.getElem?_eq_getElem h]; rfl
theorem ixX_tup {a : List D} {n : Nat} {d : D} (h : a[n]? = some d) : ixX (.tup a) (.int n) = some d := h
theorem ixX_lst {a : List D} {n : Nat} {d : D} (h : a[n]? = some d) : ixX (.lst a) (.int n) = some d := h
theorem sts_at {a : List Tx} {n : Nat} (h : n < a.length) : (sts a)[n]? = some (st (a.getD n [])) := by
  unfold sts
  rw [List.getElem?_map, List.getElem?_eq_getElem h, List.getD_eq_getElem?_getD, List.getElem?_eq_getElem h]; rfl
theorem ixX_sts {a : List Tx} {n : Nat} (h : n < a.length) : ixX (.tup (sts a)) (.int n) = some (st (a.getD n [])) := ixX_tup (sts_at h)
theorem ixX_stsL {a : List Tx} {n : Nat} (h : n < a.length) : ixX (.lst (sts a)) (.int n) = some (st (a.getD n [])) := ixX_lst (sts_at h)
theorem strsOf_sts : ∀ {xs : List Tx}, strsOf (sts xs) = some (xs.map sx)
  | [] => rfl
  | x :: xs => by
    show (strsOf (sts xs)).map (sx x :: ·) = _
    rw [strsOf_sts]; rfl
theorem blsOf_map : ∀ {xs : List Bool}, blsOf (xs.map D.bl) = some xs
  | [] => rfl
  | x :: xs => by
    show (blsOf (xs.map D.bl)).map (x :: ·) = _
    rw [blsOf_map]; rfl
theorem findIdx_sts {s : Tx} : ∀ {o : List Tx}, s ∈ o → (o.map sx).findIdx? (fun t : Str => decide (t.cps.toList = (sx s).cps.toList)) = some (idx o s)
  | [], h => by cases h
  | x :: o, h => by
    rw [List.map_cons, List.findIdx?_cons]
    unfold idx
    rw [List.idxOf_cons]
    by_cases e : x = s
    · subst e; simp [sx_list]
    · have hs : s ∈ o := (List.mem_cons.mp h).resolve_left fun z => e z.symm
      have ih := findIdx_sts hs
      have e1 : decide ((sx x).cps.toList = (sx s).cps.toList) = false := decide_eq_false e
      have e2 : (x == s) = false := by simpa using e
      rw [e1, e2]
      simp only [Bool.false_eq_true, if_false]
      rw [ih]; rfl
theorem xIxM_ok {a b : List Sl → R D} {r : List Sl} {o : List Tx} {s : Tx} (ha : a r = .ok (.tup (sts o))) (hb : b r = .ok (st s)) (h : s ∈ o) : xIxM a b r = .ok (.int (idx o s)) := by
  unfold xIxM
  rw [ha, hb]
  show (match strsOf (sts o) with
    | some ys => (match ys.findIdx? (fun t : Str => decide (t.cps.toList = (sx s).cps.toList)) with
      | some j => R.ok (D.int (j : Nat))
      | none => R.no)
    | none => R.no) = _
  rw [strsOf_sts]
  show (match (o.map sx).findIdx? (fun t : Str => decide (t.cps.toList = (sx s).cps.toList)) with
      | some j => R.ok (D.int (j : Nat))
      | none => R.no) = _
  rw [findIdx_sts h]
/-! ### in -/
theorem flat_sts : ∀ {xs : List Tx}, (sts xs).all flatD = true
  | [] => rfl
  | x :: xs => by
    show (flatD (st x) && (sts xs).all flatD) = true
    rw [flat_sts]; rfl
theorem eqb_st {a b : Tx} : eqb (st a) (st b) = decide (a = b) := by
  show decide (sx a = sx b) = decide (a = b)
  exact decide_eq_decide.mpr ⟨sx_inj, fun h => by rw [h]⟩
theorem any_eqb {s : Tx} : ∀ {xs : List Tx}, (sts xs).any (fun z => eqb z (st s)) = decide (s ∈ xs)
  | [] => rfl
  | x :: xs => by
    show (eqb (st x) (st s) || (sts xs).any (fun z => eqb z (st s))) = _
    rw [any_eqb, eqb_st, Bool.eq_iff_iff, Bool.or_eq_true, decide_eq_true_iff, decide_eq_true_iff, decide_eq_true_iff, List.mem_cons]
    exact ⟨fun h => h.imp Eq.symm id, fun h => h.imp Eq.symm id⟩
theorem inX_tup {neg : Bool} {s : Tx} {xs : List Tx} : inX neg (st s) (.tup (sts xs)) = some (.bl (neg != decide (s ∈ xs))) := by
  show gd ((flatD (st s) && (sts xs).all flatD) = true) (.bl (neg != (sts xs).any fun z => eqb z (st s))) = _
  rw [gd_pos (by rw [flat_sts]; rfl), any_eqb]
theorem inX_one {neg : Bool} {c : Nat} {xs : Tx} : inX neg (st [c]) (st xs) = some (.bl (neg != decide (c ∈ xs))) := rfl
/-! ### slices of texts -/
theorem take_min {α : Type} {a : List α} {k : Nat} : a.take (min k a.length) = a.take k := by
  rcases Nat.le_total k a.length with h | h
  · rw [Nat.min_eq_left h]
  · rw [Nat.min_eq_right h, List.take_length, List.take_of_length_le h]
theorem drop_min {α : Type} {a : List α} {k : Nat} : a.drop (min k a.length) = a.drop k := by
  rcases Nat.le_total k a.length with h | h
  · rw [Nat.min_eq_left h]
  · rw [Nat.min_eq_right h, List.drop_length, List.drop_of_length_le h]
def cutN {α : Type} (a : List α) (lo hi : Option Int) : List α := (a.drop (HT.sIx a.length 0 lo)).take (HT.sIx a.length a.length hi - HT.sIx a.length 0 lo)
theorem cutS_sx {a : Tx} {lo hi : Option Int} : cutS (sx a) lo hi = sx (cutN a lo hi) := rfl
theorem cutD_eq {a : List D} {lo hi : Option Int} : cutD a lo hi = cutN a lo hi := rfl
theorem cutD_map {α : Type} {e : α → D} {a : List α} {lo hi : Option Int} : cutD (a.map e) lo hi = (cutN a lo hi).map e := by
  unfold cutD cutN
  rw [List.length_map, List.map_take, List.map_drop]
theorem cutD_sts {a : List Tx} {lo hi : Option Int} : cutD (sts a) lo hi = sts (cutN a lo hi) := cutD_map
theorem cutN_to {α : Type} {a : List α} {k : Nat} : cutN a none (some (k : Int)) = a.take k := by
  unfold cutN
  rw [HT.sIx_none, HT.sIx_nat, List.drop_zero, Nat.sub_zero, take_min]
theorem cutN_from {α : Type} {a : List α} {k : Nat} : cutN a (some (k : Int)) none = a.drop k := by
  unfold cutN
  rw [HT.sIx_none, HT.sIx_nat, drop_min]
  exact List.take_of_length_le (by rw [List.length_drop]; omega)
theorem cutN_mid {α : Type} {a : List α} {i k : Nat} : cutN a (some (i : Int)) (some (k : Int)) = (a.drop i).take (k - i) := by
  unfold cutN
  rw [HT.sIx_nat, HT.sIx_nat, drop_min]
  rcases Nat.le_total k a.length with h | h
  · rw [Nat.min_eq_left h]
    rcases Nat.le_total i a.length with h2 | h2
    · rw [Nat.min_eq_left h2]
    · rw [Nat.min_eq_right h2, List.drop_of_length_le h2, List.take_nil, List.take_nil]
  · rw [Nat.min_eq_right h, List.take_of_length_le (by rw [List.length_drop]; omega), List.take_of_length_le (by rw [List.length_drop]; omega)]
/-! ### comprehensions -/
section
variable {α β : Type}
theorem lcG_ok {e : α → D} {g : D → List Sl → Option (List Sl)} {t : List Sl → R Bool} {f : List Sl → R D} {r : List Sl} {p : α → Bool} {h : α → D} :
    ∀ (xs : List α) (n : Nat) (acc : List D), (∀ x ∈ xs, ∃ r1, g (e x) r = some r1 ∧ t r1 = .ok (p x) ∧ (p x = true → f r1 = .ok (h x))) → n + xs.length ≤ 16777216 →
      lcG g t f r (xs.map e) n acc = .ok (n + (xs.filter p).length, ((xs.filter p).map h).reverse ++ acc)
  | [], n, acc, _, _ => rfl
  | x :: xs, n, acc, hb, hl => by
    obtain ⟨r1, h1, h2, h3⟩ := hb x List.mem_cons_self
    rw [List.map_cons]
    unfold lcG
    rw [h1]
    dsimp only
    rw [h2]
    simp only [R.cut, R.bind]
    have hb' : ∀ y ∈ xs, _ := fun y hy => hb y (List.mem_cons_of_mem _ hy)
    rw [List.length_cons] at hl
    cases hp : p x with
    | false =>
      rw [if_neg Bool.false_ne_true, lcG_ok xs n acc hb' (by omega), List.filter_cons_of_neg (by rw [hp]; exact Bool.false_ne_true)]
    | true =>
      rw [if_pos rfl, h3 hp]
      simp only
      rw [if_pos (by rw [Nat.blt_eq]; omega), frc_eq, lcG_ok xs (n + 1) _ hb' (by omega), List.filter_cons_of_pos hp]
      simp only [List.length_cons, List.map_cons, List.reverse_cons, List.append_assoc, List.cons_append, List.nil_append]
      rw [show n + 1 + (xs.filter p).length = n + ((xs.filter p).length + 1) by omega]
theorem xLc_ok {e : α → D} {s : List Sl → R (List D)} {vs : List Nat} {g : D → List Sl → Option (List Sl)} {t : List Sl → R Bool} {f : List Sl → R D} {r : List Sl} {xs : List α} (p : α → Bool) (h : α → D) (hs : s r = .ok (xs.map e)) (hl : xs.length ≤ 16777216)
    (hb : ∀ x ∈ xs, ∃ r1, g (e x) (wipeD r vs) = some r1 ∧ t r1 = .ok (p x) ∧ (p x = true → f r1 = .ok (h x))) : xLc s vs g t f r = .ok ((xs.filter p).map h) := by
  unfold xLc
  rw [hs]
  simp only [R.bind]
  rw [lcG_ok xs 0 [] hb (by omega)]
  simp
end
theorem rangeD_nat {n : Nat} : rangeD 0 (n : Int) = (List.range n).map fun i => D.int (i : Nat) := by
  unfold rangeD
  simp
theorem filter_tt {α : Type} {l : List α} : l.filter (fun _ => true) = l := List.filter_eq_self.mpr fun _ _ => rfl
theorem bind_ok {α β : Type} {a : α} {f : α → R β} : (R.ok a).bind f = f a := rfl
theorem st_ok {α : Type} {a : α} {f : α → RS} : (R.ok a).st f = f a := rfl
theorem ofO_some {α : Type} {a : α} : R.ofO (some a) = .ok a := rfl
theorem cut_ok {α : Type} {a : α} : (R.ok a).cut = .ok a := rfl
theorem seqD_lst {ds : List D} : seqD (.lst ds) = some ds := rfl
theorem seqD_tup {ds : List D} : seqD (.tup ds) = some ds := rfl
theorem seqD_st {a : Tx} : seqD (.str (sx a)) = some (a.map fun c => st [c]) := rfl
theorem iA_ok {a : List Sl → R D} {r : List Sl} {d : D} {ds : List D} (h : a r = .ok d) (h2 : seqD d = some ds) : iA a r = .ok ds := by
  unfold iA; rw [h]; show (match seqD d with
    | some ds => R.ok ds
    | none => R.no) = _
  rw [h2]
theorem rng1_eq {a : List Sl → R (List D)} {r : List Sl} {n : Int} (h : a r = .ok [.int n]) : iRng1 a r = if -(2 ^ 62) ≤ n ∧ n < 2 ^ 62 then .ok (rangeD 0 n) else .no := by
  unfold iRng1
  rw [h]
  rfl
theorem rng1_ok {a : List Sl → R (List D)} {r : List Sl} {n : Nat} (h : a r = .ok [.int (n : Int)]) (h2 : n < 1000000000) : iRng1 a r = .ok (rangeD 0 (n : Int)) := by
  rw [rng1_eq h]
  have h3 : (n : Int) < 1000000000 := by omega
  have h4 : (0 : Int) ≤ (n : Int) := Int.natCast_nonneg n
  exact if_pos ⟨Int.le_trans (by decide : -(2 ^ 62 : Int) ≤ 0) h4, Int.lt_trans h3 (by decide : (1000000000 : Int) < 2 ^ 62)⟩
theorem lenX_st {a : Tx} (h : a.length ≤ 16777216) : lenX [.str (sx a)] = some (.int (a.length : Nat)) := gd_pos (by rw [sl_eq]; exact h)
theorem lenX_lst {a : List D} : lenX [.lst a] = some (.int (a.length : Nat)) := rfl
theorem lenX_tup {a : List D} : lenX [.tup a] = some (.int (a.length : Nat)) := rfl
theorem natc1 {k : Nat} : ((k : Nat) : Int) + 1 = ((k + 1 : Nat) : Int) := rfl
end DL
/-! Runs stepped through, goal by goal: W for statements, equations for expressions. -/
namespace DL
open PySem L2 PyProof.Rows TP
def RS.w : RS → DE → XP → Prop
  | .nx r, A, _ => A.nx r
  | .rt d, A, _ => A.rt d
  | .bk r, A, _ => A.bk r
  | .ct r, A, _ => A.ct r
  | .rn ds, A, _ => A.rn ds
  | .ex x, _, EX => EX x
  | .no, _, _ => False
@[irreducible] def W (c : List Sl → RS) (A : DE) (EX : XP) (r : List Sl) : Prop := (c r).w A EX
section
variable {A : DE} {EX : XP} {r : List Sl} {a b : List Sl → RS} {e e1 e2 : List Sl → R D} {i j : Nat}
theorem W_def {c : List Sl → RS} : W c A EX r = (c r).w A EX := by unfold W; rfl
theorem W_eq {c : List Sl → RS} {z : RS} (h : c r = z) (k : z.w A EX) : W c A EX r := by unfold W; rw [h]; exact k
theorem W_seq (h : W a { A with nx := fun r1 => W b A EX r1 } EX r) : W (ySeq a b) A EX r := by
  unfold W ySeq at *
  cases e : a r with
  | nx r1 => rw [e] at h; exact h
  | rt d => rw [e] at h; exact h
  | bk r1 => rw [e] at h; exact h
  | ct r1 => rw [e] at h; exact h
  | rn d => rw [e] at h; exact h
  | ex x => rw [e] at h; exact h
  | no => rw [e] at h; exact h
theorem W_next (h : A.nx r) : W yNext A EX r := W_eq (z := .nx r) rfl h
theorem W_ret {d : D} (h : e r = .ok d) (k : A.rt d) : W (yRet e) A EX r := W_eq (z := .rt d) (by unfold yRet; rw [h]; rfl) k
theorem W_expr {d : D} (h : e r = .ok d) (k : A.nx r) : W (yExpr e) A EX r := W_eq (z := .nx r) (by unfold yExpr; rw [h]; rfl) k
theorem W_set {d : D} (h : e r = .ok d) (k : A.nx (r.set i (.val d))) : W (ySet i e) A EX r := W_eq (z := .nx (r.set i (.val d))) (by unfold ySet; rw [h]; show frc d (fun d => RS.nx (r.set i (.val d))) = _; rw [frc_eq]) k
theorem W_setOwn {f : List Sl → R (List D)} {ds : List D} (h : f r = .ok ds) (k : A.nx (r.set i (.own ds))) : W (ySetOwn i f) A EX r := W_eq (z := .nx (r.set i (.own ds))) (by unfold ySetOwn; rw [h]; show frcs ds (fun d => RS.nx (r.set i (.own d))) = _; rw [frcs_eq]) k
theorem W_off {is : List Nat} (h : W a A EX (offs r is)) : W (yOff is a) A EX r := by unfold W at h ⊢; exact h
theorem W_app {ds : List D} {d : D} (h1 : r[i]? = some (.own ds)) (h2 : ds.length < 16777216) (h : e r = .ok d) (k : A.nx (r.set i (.own (ds ++ [d])))) : W (yApp i e) A EX r :=
  W_eq (z := .nx (r.set i (.own (ds ++ [d])))) (by
    unfold yApp
    rw [h1]
    dsimp only
    rw [if_pos (by rw [Nat.blt_eq]; exact h2), h]
    show frc d (fun d => frcp ds [d] fun es => RS.nx (r.set i (.own es))) = _
    rw [frc_eq, frcp_eq]) k
theorem W_if {t : List Sl → R Bool} {v : Bool} (h : t r = .ok v) (k1 : v = true → W a A EX r) (k2 : v = false → W b A EX r) : W (yIf t a b) A EX r := by
  unfold W yIf
  rw [h]
  show RS.w (if v = true then a r else b r) A EX
  cases v with
  | true => rw [if_pos rfl, ← W_def]; exact k1 rfl
  | false => rw [if_neg Bool.false_ne_true, ← W_def]; exact k2 rfl
theorem W_par {d d2 : D} {f : List Sl → R (List D)} (h : f r = .ok [d, d2]) (k : A.nx ((r.set i (.val d)).set j (.val d2))) : W (yPar i j f) A EX r :=
  W_eq (z := .nx ((r.set i (.val d)).set j (.val d2))) (by
    unfold yPar; rw [h]
    show frc d (fun d => frc d2 fun d2 => RS.nx ((r.set i (.val d)).set j (.val d2))) = _
    rw [frc_eq, frc_eq]) k
theorem W_parOO {d ds : List D} {e f : List Sl → R (List D)} (h : e r = .ok d) (h2 : f r = .ok ds) (k : A.nx ((r.set i (.own d)).set j (.own ds))) : W (yParOO i j e f) A EX r :=
  W_eq (z := .nx ((r.set i (.own d)).set j (.own ds))) (by unfold yParOO; rw [h, h2]; rfl) k
theorem W_asg {g : D → List Sl → Option (List Sl)} {d : D} {r1 : List Sl} (h : e r = .ok d) (h2 : g d r = some r1) (k : A.nx r1) : W (yAsg g e) A EX r := W_eq (z := .nx r1) (by unfold yAsg; rw [h, st_ok, h2]) k
theorem W_retNew {ds : List D} (h : r[i]? = some (.own ds)) (k : A.rn ds) : W (yRetNew i) A EX r := W_eq (z := .rn ds) (by unfold yRetNew; rw [h]) k
theorem W_move {ds : List D} (h : r[j]? = some (.own ds)) (k : A.nx ((r.set j .un).set i (.own ds))) : W (yMove i j) A EX r := by
  unfold W yMove
  rw [h]
  exact k
/-- a walk: I holds behind each turn, of what has come -/
theorem forG_W {α : Type} {em : α → D} {g : D → List Sl → Option (List Sl)} (I : List α → List Sl → Prop) {ys : List α} :
    ∀ (xs pre : List α) (r : List Sl), pre ++ xs = ys → I pre r → (∀ p x q, ys = p ++ x :: q → ∀ r, I p r → ∃ r1, g (em x) r = some r1 ∧ W b { A with nx := I (p ++ [x]), ct := I (p ++ [x]), bk := A.nx } EX r1) → (∀ r', I ys r' → A.nx r') → (forG g b (xs.map em) r).w A EX
  | [], pre, r, e, hi, _, k => k r (by rw [← e, List.append_nil]; exact hi)
  | x :: xs, pre, r, e, hi, hb, k => by
    obtain ⟨r1, h1, h2⟩ := hb pre x xs e.symm r hi
    rw [List.map_cons]
    unfold forG
    rw [h1]
    dsimp only
    unfold W at h2
    have e2 : pre ++ [x] ++ xs = ys := by rw [← e]; simp
    cases q : b r1 with
    | nx r2 => rw [q] at h2; exact forG_W I xs (pre ++ [x]) r2 e2 h2 hb k
    | ct r2 => rw [q] at h2; exact forG_W I xs (pre ++ [x]) r2 e2 h2 hb k
    | bk r2 => rw [q] at h2; exact h2
    | rt d => rw [q] at h2; exact h2
    | rn d => rw [q] at h2; exact h2
    | ex x => rw [q] at h2; exact h2
    | no => rw [q] at h2; exact h2
theorem W_for {α : Type} {s : List Sl → R (List D)} {g : D → List Sl → Option (List Sl)} {em : α → D} {xs : List α} (I : List α → List Sl → Prop) (hs : s r = .ok (xs.map em)) (h0 : I [] r)
    (hb : ∀ p x q, xs = p ++ x :: q → ∀ r, I p r → ∃ r1, g (em x) r = some r1 ∧ W b { A with nx := I (p ++ [x]), ct := I (p ++ [x]), bk := A.nx } EX r1) (k : ∀ r', I xs r' → A.nx r') : W (yFor s g b) A EX r := by
  unfold W yFor
  rw [hs]
  exact forG_W I xs [] r rfl h0 hb k
/-- while, by a measure -/
theorem whG_W {t : List Sl → R Bool} (I : Nat → List Sl → Prop) : ∀ (n m : Nat) (r : List Sl), m < n → I m r → (∀ m r, I m r → ∃ v, t r = .ok v ∧ (v = true → W b { A with nx := fun r2 => ∃ k, k < m ∧ I k r2, ct := fun r2 => ∃ k, k < m ∧ I k r2, bk := A.nx } EX r) ∧ (v = false → A.nx r)) → (whG t b n r).w A EX
  | 0, m, r, h, _, _ => by omega
  | n + 1, m, r, h, hi, hb => by
    obtain ⟨v, h1, h2, h3⟩ := hb m r hi
    unfold whG
    rw [h1, st_ok]
    cases v with
    | false => rw [if_neg Bool.false_ne_true]; exact h3 rfl
    | true =>
      rw [if_pos rfl]
      have h2 := h2 rfl
      unfold W at h2
      cases q : b r with
      | nx r2 => rw [q] at h2; obtain ⟨k, hk, h4⟩ := h2; exact whG_W I n k r2 (by omega) h4 hb
      | ct r2 => rw [q] at h2; obtain ⟨k, hk, h4⟩ := h2; exact whG_W I n k r2 (by omega) h4 hb
      | bk r2 => rw [q] at h2; exact h2
      | rt d => rw [q] at h2; exact h2
      | rn d => rw [q] at h2; exact h2
      | ex x => rw [q] at h2; exact h2
      | no => rw [q] at h2; exact h2
theorem W_while {n : Nat} {t : List Sl → R Bool} (I : Nat → List Sl → Prop) (m : Nat) (hm : m < n) (h0 : I m r) (hb : ∀ m r, I m r → ∃ v, t r = .ok v ∧ (v = true → W b { A with nx := fun r2 => ∃ k, k < m ∧ I k r2, ct := fun r2 => ∃ k, k < m ∧ I k r2, bk := A.nx } EX r) ∧ (v = false → A.nx r)) : W (yWhile n t b) A EX r :=
  W_def ▸ whG_W I n m r hm h0 hb
theorem S_set {d : D} (h : e r = .ok d) (k : W b A EX (r.set i (.val d))) : W (ySeq (ySet i e) b) A EX r := W_seq (W_set h k)
theorem S_setOwn {f : List Sl → R (List D)} {ds : List D} (h : f r = .ok ds) (k : W b A EX (r.set i (.own ds))) : W (ySeq (ySetOwn i f) b) A EX r := W_seq (W_setOwn h k)
theorem W_app2 {ds es : List D} {d : D} (h1 : r[i]? = some (.own ds)) (h2 : ds.length < 16777216) (h : e r = .ok d) (he : ds ++ [d] = es) (k : A.nx (r.set i (.own es))) : W (yApp i e) A EX r := W_app h1 h2 h (by rw [he]; exact k)
theorem S_app {ds es : List D} {d : D} (h1 : r[i]? = some (.own ds)) (h2 : ds.length < 16777216) (h : e r = .ok d) (he : ds ++ [d] = es) (k : W b A EX (r.set i (.own es))) : W (ySeq (yApp i e) b) A EX r := W_seq (W_app2 h1 h2 h he k)
theorem S_expr {d : D} (h : e r = .ok d) (k : W b A EX r) : W (ySeq (yExpr e) b) A EX r := W_seq (W_expr h k)
theorem S_parOO {d ds : List D} {e f : List Sl → R (List D)} (h : e r = .ok d) (h2 : f r = .ok ds) (k : W b A EX ((r.set i (.own d)).set j (.own ds))) : W (ySeq (yParOO i j e f) b) A EX r := W_seq (W_parOO h h2 k)
theorem S_asg {g : D → List Sl → Option (List Sl)} {d : D} {r1 : List Sl} (h : e r = .ok d) (h2 : g d r = some r1) (k : W b A EX r1) : W (ySeq (yAsg g e) b) A EX r := W_seq (W_asg h h2 k)
theorem S_if {t : List Sl → R Bool} {c : List Sl → RS} {v : Bool} (h : t r = .ok v) (k1 : v = true → W a { A with nx := fun r1 => W c A EX r1 } EX r) (k2 : v = false → W b { A with nx := fun r1 => W c A EX r1 } EX r) : W (ySeq (yIf t a b) c) A EX r := W_seq (W_if h k1 k2)
/-- a test that is known not to hold, with nothing else -/
theorem S_skip {t : List Sl → R Bool} {c : List Sl → RS} (h : t r = .ok false) (k : W c A EX r) : W (ySeq (yIf t a yNext) c) A EX r := W_seq (W_if h (fun z => nomatch z) fun _ => W_next k)
theorem S_for {α : Type} {c : List Sl → RS} {s : List Sl → R (List D)} {g : D → List Sl → Option (List Sl)} {em : α → D} {xs : List α} (I : List α → List Sl → Prop) (hs : s r = .ok (xs.map em)) (h0 : I [] r)
    (hb : ∀ p x q, xs = p ++ x :: q → ∀ r, I p r → ∃ r1, g (em x) r = some r1 ∧ W b { A with nx := I (p ++ [x]), ct := I (p ++ [x]), bk := fun r => W c A EX r } EX r1) (k : ∀ r', I xs r' → W c A EX r') : W (ySeq (yFor s g b) c) A EX r :=
  W_seq (W_for I hs h0 hb k)
theorem S_while {n : Nat} {c : List Sl → RS} {t : List Sl → R Bool} (I : Nat → List Sl → Prop) (m : Nat) (hm : m < n) (h0 : I m r) (hb : ∀ m r, I m r → ∃ v, t r = .ok v ∧ (v = true → W b { A with nx := fun r2 => ∃ k, k < m ∧ I k r2, ct := fun r2 => ∃ k, k < m ∧ I k r2, bk := fun r => W c A EX r } EX r) ∧ (v = false → W c A EX r)) : W (ySeq (yWhile n t b) c) A EX r :=
  W_seq (W_while I m hm h0 hb)
/-- what a def answers -/
theorem cf_ok {N : List Str} {n : Nat} {c : List Sl → RS} {ds : List D} {v : D} (hl : ds.length = n) (h : W c { nx := fun _ => v = .non, rt := fun d => d = v } NoX (startD N ds)) : cfOf N n c ds = .ok v := by
  unfold cfOf
  rw [if_pos hl]
  unfold W at h
  cases q : c (startD N ds) with
  | nx r => rw [q] at h; show R.ok D.non = _; rw [show v = .non from h]
  | rt d => rw [q] at h; show R.ok d = _; rw [show d = v from h]
  | bk r => rw [q] at h; exact h.elim
  | ct r => rw [q] at h; exact h.elim
  | rn d => rw [q] at h; exact h.elim
  | ex x => rw [q] at h; exact h.elim
  | no => rw [q] at h; exact h.elim
theorem cfN_ok {N : List Str} {n : Nat} {c : List Sl → RS} {ds vs : List D} (hl : ds.length = n) (h : W c { nx := fun _ => False, rt := fun _ => False, rn := fun d => d = vs } NoX (startD N ds)) : cfN N n c ds = .ok vs := by
  unfold cfN
  rw [if_pos hl]
  unfold W at h
  cases q : c (startD N ds) with
  | nx r => rw [q] at h; exact h.elim
  | rt d => rw [q] at h; exact h.elim
  | bk r => rw [q] at h; exact h.elim
  | ct r => rw [q] at h; exact h.elim
  | rn d => rw [q] at h; show R.ok d = _; rw [show d = vs from h]
  | ex x => rw [q] at h; exact h.elim
  | no => rw [q] at h; exact h.elim
/-! ### expressions -/
theorem E_2 {c : O2} {x y d : D} (h1 : e1 r = .ok x) (h2 : e2 r = .ok y) (h : c x y = some d) : x2 c e1 e2 r = .ok d := by unfold x2; rw [h1, bind_ok, h2, bind_ok, h]; rfl
theorem E_L {f : List Sl → R (List D)} {ds : List D} (h : f r = .ok ds) : xL f r = .ok (.lst ds) := by unfold xL; rw [h]; rfl
theorem E_cons {f : List Sl → R (List D)} {d : D} {ds : List D} (h : e r = .ok d) (h2 : f r = .ok ds) : xCons e f r = .ok (d :: ds) := by unfold xCons; rw [h, bind_ok, h2]; rfl
theorem E_nil : xNil r = .ok [] := rfl
theorem E_ca {α : Type} {c : List D → Option α} {f : List Sl → R (List D)} {ds : List D} {d : α} (h : f r = .ok ds) (h2 : c ds = some d) : xCa c f r = .ok d := by unfold xCa; rw [h, bind_ok, h2]; rfl
theorem E_tup {f : List Sl → R (List D)} {ds : List D} (h : f r = .ok ds) (h2 : ds.length ≤ 16777216) : xTup f r = .ok (.tup ds) := by unfold xTup; rw [h, bind_ok, if_pos (by rw [sl_eq]; exact h2)]
theorem E_lst {f : List Sl → R (List D)} {ds : List D} (h : f r = .ok ds) (h2 : ds.length ≤ 16777216) : xLst f r = .ok ds := by unfold xLst; rw [h, bind_ok, if_pos (by rw [sl_eq]; exact h2)]
theorem E_call {c : List D → R D} {f : List Sl → R (List D)} {ds : List D} {d : D} (h : f r = .ok ds) (h2 : c ds = .ok d) : xCall c f r = .ok d := by unfold xCall; rw [h, bind_ok, frcs_eq, h2]
theorem E_callN {c : List D → R (List D)} {f : List Sl → R (List D)} {ds d : List D} (h : f r = .ok ds) (h2 : c ds = .ok d) : xCallN c f r = .ok d := by unfold xCallN; rw [h, bind_ok, frcs_eq, h2]
theorem E_addN {a b : List D} (h1 : e1 r = .ok (.lst a)) (h2 : e2 r = .ok (.lst b)) (h : a.length + b.length ≤ 16777216) : xAddN e1 e2 r = .ok (a ++ b) := by
  unfold xAddN
  rw [h1, bind_ok, h2, bind_ok]
  show (if Nat.ble (a.length + b.length) 16777216 = true then R.ok (a ++ b) else R.no) = _
  rw [if_pos (Nat.ble_eq.mpr h)]
theorem E_prop {k : Nat} {c : List D → R D} {fs : List D} {d : D} (h : e r = .ok (.obj k fs)) (h2 : c [.obj k fs] = .ok d) : xProp k c e r = .ok d := by
  unfold xProp
  rw [h, bind_ok]
  show (if k = k then _ else _) = _
  rw [if_pos rfl, h2]
  rfl
theorem E_tb {b : Bool} (h : e r = .ok (.bl b)) : xTb e r = .ok b := by unfold xTb; rw [h]; rfl
theorem E_notT {t : List Sl → R Bool} {b : Bool} (h : t r = .ok b) : xNotT t r = .ok (!b) := by unfold xNotT; rw [h]; rfl
theorem E_orT {t u : List Sl → R Bool} {b c : Bool} (h : t r = .ok b) (h2 : b = false → u r = .ok c) : xOrT t u r = .ok (b || c) := by
  unfold xOrT; rw [h, bind_ok]
  cases b with
  | true => rw [if_pos rfl]; rfl
  | false => rw [if_neg Bool.false_ne_true, h2 rfl]; rfl
theorem E_andT {t u : List Sl → R Bool} {b c : Bool} (h : t r = .ok b) (h2 : b = true → u r = .ok c) : xAndT t u r = .ok (b && c) := by
  unfold xAndT; rw [h, bind_ok]
  cases b with
  | false => rw [if_neg Bool.false_ne_true]; rfl
  | true => rw [if_pos rfl, h2 rfl]; rfl
theorem E_all {xs : List Bool} {f : List Sl → R (List D)} (h : f r = .ok (xs.map D.bl)) : xCa (blsX fun bs => .bl (bs.all id)) (xCons (xL f) xNil) r = .ok (.bl (xs.all id)) := by
  refine E_ca (E_cons (E_L h) E_nil) ?_
  show (blsOf (xs.map D.bl)).map _ = _
  rw [blsOf_map]; rfl
theorem E_fld {c k : Nat} {fs : List D} {d : D} (h : e r = .ok (.obj c fs)) (h2 : fs[k]? = some d) : xFld c k e r = .ok d := by
  unfold xFld
  rw [h, bind_ok]
  show (if c = c then R.ofO fs[k]? else R.no) = _
  rw [if_pos rfl, h2]; rfl
theorem E_make {k : Nat} {c : List D → R D} {f : List Sl → R (List D)} {ds es : List D} (h1 : f r = .ok ds) (h2 : c ds = .ok (.tup es)) : xMake k c f r = .ok (.obj k es) := by
  unfold xMake
  rw [h1, bind_ok, frcs_eq, h2]; rfl
theorem E_kw {f g : List Sl → R (List D)} {ds es : List D} (h1 : f r = .ok ds) (h2 : g r = .ok es) : xKw f g r = .ok (ds, es) := by
  unfold xKw; rw [h1, bind_ok, h2]; rfl
theorem E_callK {n m : Nat} {sel : List Src} {dd : List D} {c : List D → R D} {f : List Sl → R (List D × List D)} {ds es xs : List D} {d : D} (h1 : f r = .ok (ds, es)) (hn : ds.length = n ∧ es.length = m) (hp : pick sel ds es dd = xs) (h2 : c xs = .ok d) : xCallK n m sel dd c f r = .ok d := by
  unfold xCallK
  rw [h1, bind_ok, if_pos hn, frcs_eq, hp, h2]
theorem E_makeK {k n m : Nat} {sel : List Src} {dd : List D} {c : List D → R D} {f : List Sl → R (List D × List D)} {ds es xs gs : List D} (h1 : f r = .ok (ds, es)) (hn : ds.length + 1 = n ∧ es.length = m) (hp : pick sel ds es dd = xs) (h2 : c xs = .ok (.tup gs)) : xMakeK k n m sel dd c f r = .ok (.obj k gs) := by
  unfold xMakeK
  rw [h1, bind_ok, if_pos hn, frcs_eq, hp, h2]; rfl
theorem lenOX_ok {c : Nat} {m : List D → R D} {fs : List D} {n : Nat} (hn : n ≤ 16777216) (h : m [.obj c fs] = .ok (.int n)) : lenOX c m [.obj c fs] = some (.int n) := by
  unfold lenOX
  dsimp only
  rw [if_pos rfl, h]
  have h3 : (n : Int) < 1000000000 := by omega
  exact gd_pos ⟨Int.natCast_nonneg n, Int.lt_trans h3 (by decide)⟩
theorem eqOX_ok {c : Nat} {m : List D → R D} {fs gs : List D} {b : Bool} (h : m [.obj c fs, .obj c gs] = .ok (.bl b)) : eqOX c m (.obj c fs) (.obj c gs) = some (.bl b) := by
  unfold eqOX
  dsimp only
  rw [if_pos ⟨rfl, rfl⟩, h]
theorem strOX_ok {c : Nat} {m : List D → R D} {fs : List D} {z : Str} (h : m [.obj c fs] = .ok (.str z)) : strOX c m [.obj c fs] = some (.str z) := by
  unfold strOX
  dsimp only
  rw [if_pos rfl, h]
theorem E_isi {tbl : Tag → Option Bool} {d : D} {t : Tag} {b : Bool} (h : e r = .ok d) (h1 : tagD d = some t) (h2 : tbl t = some b) : isiX tbl e r = .ok (.bl b) := by
  unfold isiX; rw [h, bind_ok]
  show (match tagD d with
    | some t => (match tbl t with
      | some b => R.ok (D.bl b)
      | none => .no)
    | none => .no) = _
  rw [h1]
  show (match tbl t with
      | some b => R.ok (D.bl b)
      | none => .no) = _
  rw [h2]
theorem E_and {a b : Bool} (h1 : e1 r = .ok (.bl a)) (h2 : a = true → e2 r = .ok (.bl b)) : xAnd e1 e2 r = .ok (.bl (a && b)) := by
  unfold xAnd; rw [h1, bind_ok]
  cases a with
  | false => rfl
  | true => exact h2 rfl
theorem E_not {a : Bool} (h1 : e1 r = .ok (.bl a)) : xNot e1 r = .ok (.bl (!a)) := by
  unfold xNot; rw [h1]; rfl
theorem E_if {t : List Sl → R Bool} {v : Bool} {d : D} (h : t r = .ok v) (h1 : v = true → e1 r = .ok d) (h2 : v = false → e2 r = .ok d) : xIf t e1 e2 r = .ok d := by
  unfold xIf; rw [h, bind_ok]
  cases v with
  | true => rw [if_pos rfl]; exact h1 rfl
  | false => rw [if_neg Bool.false_ne_true]; exact h2 rfl
/-- what an __init__ makes -/
theorem cfI_ok {N : List Str} {n m c : Nat} {cc : List Sl → RS} {ds vs : List D} (hl : ds.length = n) (h : W cc { nx := fun r => ∃ y t, r = .slf y c vs :: t ∧ vs.length = m, rt := fun _ => False } NoX (startI N 0 c ds)) : cfI N n m c cc ds = .ok (.tup vs) := by
  unfold cfI
  rw [if_pos hl]
  rw [W_def] at h
  cases q : cc (startI N 0 c ds) with
  | nx r =>
    rw [q] at h
    obtain ⟨y, t, e1, e2⟩ := h
    subst e1
    show (if c = c ∧ vs.length = m then R.ok (D.tup vs) else R.no) = _
    rw [if_pos ⟨rfl, e2⟩]
  | rt d => rw [q] at h; exact h.elim
  | bk r => rw [q] at h; exact h.elim
  | ct r => rw [q] at h; exact h.elim
  | rn d => rw [q] at h; exact h.elim
  | ex x => rw [q] at h; exact h.elim
  | no => rw [q] at h; exact h.elim
theorem W_fldI {c : Nat} {fl : List Str} {f : Str} {x : Addr} {ds : List D} {d : D} (h : e r = .ok d) (h1 : r[i]? = some (.slf x c ds)) (h2 : fl[ds.length]? = some f) (k : A.nx (r.set i (.slf x c (ds ++ [d])))) : W (yFldI i c fl f e) A EX r := by
  rw [W_def]
  unfold yFldI
  rw [h, st_ok, h1]
  show RS.w (if c = c ∧ fl[ds.length]? = some f then _ else _) A EX
  rw [if_pos ⟨rfl, h2⟩]
  exact k
end
/-! ### a drawing def's statement that draws nothing -/
def jk : Option D → Sl
  | none => .un
  | some d => .val d
def jo : Option (List D) → Sl
  | none => .un
  | some d => .own d
theorem adr_jo {x : Addr} {a : Option (List D)} : adr x (jo a) = jo a := by cases a <;> rfl
theorem adr_jk {x : Addr} {a : Option D} : adr x (jk a) = jk a := by cases a <;> rfl
theorem adr_val {x : Addr} {d : D} : adr x (.val d) = .val d := rfl
theorem adr_un {x : Addr} : adr x .un = .un := rfl
theorem adr_own {x : Addr} {d : List D} : adr x (.own d) = .own d := rfl
theorem CS.goW {F : FS} {c : List Sl → RS} (h : CS F c) {r : List Sl} (hr : r.map (adr 0) = r) {A : DE} {EX : XP} (hw : W c { nx := fun r1 => r1.map (adr 0) = r1 ∧ A.nx r1, rt := A.rt, bk := fun r1 => r1.map (adr 0) = r1 ∧ A.bk r1, ct := fun r1 => r1.map (adr 0) = r1 ∧ A.ct r1, rn := A.rn } EX r) : F A EX r := by
  refine h (x := 0) r r A EX hr.symm ?_
  rw [W_def] at hw
  cases q : c r with
  | nx r1 =>
    rw [q] at hw
    intro s hs
    rw [show s = r1.map (adr 0) from hs, hw.1]
    exact hw.2
  | bk r1 =>
    rw [q] at hw
    intro s hs
    rw [show s = r1.map (adr 0) from hs, hw.1]
    exact hw.2
  | ct r1 =>
    rw [q] at hw
    intro s hs
    rw [show s = r1.map (adr 0) from hs, hw.1]
    exact hw.2
  | rt d => rw [q] at hw; exact hw
  | rn d => rw [q] at hw; exact hw
  | ex x => rw [q] at hw; exact hw
  | no => rw [q] at hw; exact hw
/-- a test that draws nothing -/
theorem CF.go {α : Type} {F : List Sl → (α → Prop) → XP → Prop} {c : List Sl → R α} (h : CF F c) {r : List Sl} (hr : r.map (adr 0) = r) {d : α} (e : c r = .ok d) {Q : α → Prop} {EX : XP} (q : Q d) : F r Q EX := h (x := 0) r r Q EX hr.symm (by rw [e]; exact q)
end DL
/-! Boards, rankings as data; what is shown of texts. -/
namespace DL
open PySem L2 PyProof.Rows TP
def standsOf (z : Int) : Tx := if z = 2 then [48, 49] else [48, 49, 50]
def full (s : List Int) : List Tx := s.map standsOf
def bd (s : List Int) : D := .obj 1 [.tup [.tup (s.map D.int), .tup (sts (sets (full s)))]]
theorem lit_empty : Str.ofString "" = sx [] := by decide +kernel
theorem lit012 : Str.ofString "012" = sx [48, 49, 50] := by decide +kernel
structure OkS (s : List Int) : Prop where
  len : s.length ≤ 5
  two : ∀ z ∈ s, z = 2 ∨ z = 3
  ne : s ≠ []
theorem standsOf_len {z : Int} : (standsOf z).length ≤ 3 := by unfold standsOf; split <;> decide
theorem OkS.small {s : List Int} (h : OkS s) : Small (full s) where
  len := by unfold full; rw [List.length_map]; exact h.len
  three := fun x hx => by
    obtain ⟨z, _, rfl⟩ := List.mem_map.mp hx
    exact standsOf_len
theorem full_len {s : List Int} : (full s).length = s.length := List.length_map _
theorem full_at {s : List Int} {k : Nat} (h : k < s.length) : (full s).getD k [] = standsOf (s[k]) := by
  unfold full
  rw [List.getD_eq_getElem?_getD, List.getElem?_map, List.getElem?_eq_getElem h]; rfl
theorem full_asc {s : List Int} : ∀ p ∈ full s, p.Pairwise (· < ·) := fun x hx => by
  obtain ⟨z, _, rfl⟩ := List.mem_map.mp hx
  unfold standsOf
  split <;> decide
theorem full_digit {s : List Int} {t : Tx} (h : fits t (full s)) : ∀ c ∈ t, c < 100 := fun c hc => by
  obtain ⟨k, hk, rfl⟩ := List.mem_iff_getElem.mp hc
  have hl := h.len
  have := h.at (k := k) (by omega)
  have e : t.getD k 0 = t[k] := by rw [List.getD_eq_getElem?_getD, List.getElem?_eq_getElem hk]; rfl
  rw [e, full_at (by rw [← full_len (s := s)]; omega)] at this
  unfold standsOf at this
  split at this <;> simp at this <;> omega
/-! ### what is shown -/
structure Plain (l : Tx) : Prop where
  len : l.length ≤ 5
  lt : ∀ c ∈ l, c < 100
theorem okd_st {n : Nat} {x : Tx} (h : Plain x) : okd n (st x) = true := by
  have e : okd n (st x) = x.all fun c => decide (c < 16 ^ 8) := by cases n <;> rfl
  rw [e, List.all_eq_true]
  exact fun c hc => decide_eq_true (Nat.lt_trans (h.lt c hc) (by decide))
theorem wt_st {x : Tx} (h : Plain x) : wt (st x) ≤ 52 := by
  show 10 * x.length + 2 ≤ 52
  have := h.len
  omega
theorem okds_sts {n : Nat} : ∀ {xs : List Tx}, (∀ x ∈ xs, Plain x) → okds n (sts xs) = true
  | [], _ => rfl
  | x :: xs, h => by
    show (okd n (st x) && okds n (sts xs)) = true
    rw [okd_st (h x List.mem_cons_self), okds_sts fun y hy => h y (List.mem_cons_of_mem _ hy)]; rfl
/-! ### what may be compared -/
mutual
def okq : Nat → D → Bool
  | _, .non => true
  | _, .bl _ => true
  | _, .int _ => true
  | _, .str s => PyData.strOk s
  | n + 1, .tup ds => okqs n ds
  | n + 1, .lst ds => okqs n ds
  | _, _ => false
def okqs : Nat → List D → Bool
  | _, [] => true
  | n, d :: ds => okq n d && okqs n ds
end
mutual
theorem okq_ok : ∀ (n : Nat) (d : D), okq n d = true → plain d = true ∧ (pd d).canLay0 = true ∧ (pd d).depth ≤ n
  | _, .non, _ => ⟨rfl, rfl, Nat.zero_le _⟩
  | _, .bl _, _ => ⟨rfl, rfl, Nat.zero_le _⟩
  | _, .int _, _ => ⟨rfl, rfl, Nat.zero_le _⟩
  | n, .str s, h => ⟨rfl, by cases n <;> exact h, Nat.zero_le _⟩
  | 0, .tup _, h => by unfold okq at h; cases h
  | 0, .lst _, h => by unfold okq at h; cases h
  | n + 1, .tup ds, h => by
    unfold okq at h
    have := okqs_ok n ds h
    exact ⟨by unfold plain; exact this.1, by simp only [pd, PyData.canLay0]; exact this.2.1, by simp only [pd, PyData.depth]; exact Nat.succ_le_succ this.2.2⟩
  | n + 1, .lst ds, h => by
    unfold okq at h
    have := okqs_ok n ds h
    exact ⟨by unfold plain; exact this.1, by simp only [pd, PyData.canLay0]; exact this.2.1, by simp only [pd, PyData.depth]; exact Nat.succ_le_succ this.2.2⟩
  | _, .dic _ _, h => by unfold okq at h; cases h
  | _, .obj _ _, h => by unfold okq at h; cases h
  | _, .exc _ _, h => by unfold okq at h; cases h
  | _, .jar, h => by unfold okq at h; cases h
theorem okqs_ok : ∀ (n : Nat) (ds : List D), okqs n ds = true → plains ds = true ∧ PyData.canLayAll0 (pds ds) = true ∧ PyData.depthAll (pds ds) ≤ n
  | _, [], _ => ⟨rfl, rfl, Nat.zero_le _⟩
  | n, d :: ds, h => by
    unfold okqs at h
    rw [Bool.and_eq_true] at h
    have a := okq_ok n d h.1
    have b := okqs_ok n ds h.2
    exact ⟨by unfold plains; rw [a.1, b.1]; rfl, by simp only [pds, PyData.canLayAll0]; rw [a.2.1, b.2.1]; rfl, by simp only [pds, PyData.depthAll]; exact Nat.max_le.mpr ⟨a.2.2, b.2.2⟩⟩
end
theorem shp_of {d : D} (h : okq 60 d = true) : shpB d = true := by
  have z := okq_ok 60 d h
  unfold shpB
  rw [Bool.and_eq_true]
  refine ⟨z.1, ?_⟩
  unfold SeqAt.shaped
  rw [Bool.and_eq_true]
  exact ⟨z.2.1, decide_eq_true (Nat.le_trans z.2.2 (by decide))⟩
theorem okqs_map {α : Type} {f : α → D} {n : Nat} : ∀ {xs : List α}, (∀ x ∈ xs, okq n (f x) = true) → okqs n (xs.map f) = true
  | [], _ => by simp [okqs]
  | x :: xs, h => by
    rw [List.map_cons]
    unfold okqs
    rw [h x List.mem_cons_self, okqs_map fun y hy => h y (List.mem_cons_of_mem _ hy)]; rfl
theorem okds_map {α : Type} {f : α → D} {n : Nat} : ∀ {xs : List α}, (∀ x ∈ xs, okd n (f x) = true) → okds n (xs.map f) = true
  | [], _ => by simp [okds]
  | x :: xs, h => by
    rw [List.map_cons]
    unfold okds
    rw [h x List.mem_cons_self, okds_map fun y hy => h y (List.mem_cons_of_mem _ hy)]; rfl
theorem wts_map {α : Type} {f : α → D} {k : Nat} : ∀ {xs : List α}, (∀ x ∈ xs, wt (f x) ≤ k) → wts (xs.map f) ≤ xs.length * (k + 2)
  | [], _ => Nat.zero_le _
  | x :: xs, h => by
    show wt (f x) + 2 + wts (xs.map f) ≤ _
    have h1 := h x List.mem_cons_self
    have h2 := wts_map (f := f) fun y hy => h y (List.mem_cons_of_mem _ hy)
    rw [List.length_cons, Nat.succ_mul]
    omega
theorem okq_st {n : Nat} {x : Tx} (h : Plain x) : okq n (st x) = true := by
  have e : okq n (st x) = (sx x).cps.all (· < 0x110000) := by cases n <;> rfl
  rw [e, ← Array.all_toList, List.all_eq_true]
  exact fun c hc => decide_eq_true (Nat.lt_trans (h.lt c hc) (by decide))
theorem okqs_sts {n : Nat} {xs : List Tx} (h : ∀ x ∈ xs, Plain x) : okqs n (sts xs) = true := okqs_map fun x hx => okq_st (h x hx)
theorem okq_lst {n : Nat} {ds : List D} (h : okqs n ds = true) : okq (n + 1) (.lst ds) = true := by unfold okq; exact h
theorem okq_tup {n : Nat} {ds : List D} (h : okqs n ds = true) : okq (n + 1) (.tup ds) = true := by unfold okq; exact h
theorem okd_lst {n : Nat} {ds : List D} (h : okds n ds = true) : okd (n + 1) (.lst ds) = true := by unfold okd; exact h
theorem okd_tup {n : Nat} {ds : List D} (h : okds n ds = true) : okd (n + 1) (.tup ds) = true := by unfold okd; exact h
theorem shp_lst {xs : List Tx} (h : ∀ x ∈ xs, Plain x) : shpB (.lst (sts xs)) = true := shp_of (okq_lst (okqs_sts h))
theorem shp_st {x : Tx} (h : Plain x) : shpB (st x) = true := shp_of (okq_st h)
theorem eqvAll_sts : ∀ {a b : List Tx}, PyData.eqvAll (pds (sts a)) (pds (sts b)) = decide (a = b)
  | [], [] => by simp [sts, pds, PyData.eqvAll]
  | [], y :: b => by simp [sts, pds, PyData.eqvAll]
  | x :: a, [] => by simp [sts, pds, PyData.eqvAll]
  | x :: a, y :: b => by
    have ih := eqvAll_sts (a := a) (b := b)
    rw [sts_cons, sts_cons]
    unfold pds PyData.eqvAll
    rw [ih]
    have e : PyData.eqv (pd (st x)) (pd (st y)) = decide (x = y) := eqb_st
    rw [e, Bool.eq_iff_iff]
    simp
theorem eqb_lst {a b : List Tx} : eqb (.lst (sts a)) (.lst (sts b)) = decide (a = b) := by
  unfold eqb pd PyData.eqv
  exact eqvAll_sts
theorem eqb_tup {a b : List Tx} : eqb (.tup (sts a)) (.tup (sts b)) = decide (a = b) := by
  unfold eqb pd PyData.eqv
  exact eqvAll_sts
theorem inX_lst {neg : Bool} {s : Tx} {xs : List Tx} (hs : Plain s) (h : ∀ x ∈ xs, Plain x) : inX neg (st s) (.lst (sts xs)) = some (.bl (neg != decide (s ∈ xs))) := by
  show gd ((shpB (st s) && shpB (.lst (sts xs))) = true) (.bl (neg != (sts xs).any fun z => eqb z (st s))) = _
  rw [gd_pos (by rw [shp_lst h, shp_st hs]; rfl), any_eqb]
theorem plain_of {s : List Int} (h : OkS s) {t : Tx} (ht : fits t (full s)) : Plain t := ⟨ht.len5 h.small, full_digit ht⟩
theorem plain_sets {s : List Int} (h : OkS s) : ∀ t ∈ sets (full s), Plain t := fun t ht => plain_of h (mem_sets.mp ht)
/-! ### drawn boards -/
def lists : Nat → List (List Int)
  | 0 => [[]]
  | n + 1 => [] :: (lists n).flatMap fun s => [2 :: s, 3 :: s]
def prodI : List Int → Int
  | [] => 1
  | z :: s => z * prodI s
def spansOf (m : Int) : List (List Int) := (lists 5).filter fun s => !s.isEmpty && decide (prodI s ≤ m)
theorem lists_mem : ∀ (n : Nat) (s : List Int), s ∈ lists n → s.length ≤ n ∧ ∀ z ∈ s, z = 2 ∨ z = 3
  | 0, s, h => by
    rw [List.mem_singleton.mp h]
    exact ⟨Nat.le_refl _, fun z hz => by cases hz⟩
  | n + 1, s, h => by
    rcases List.mem_cons.mp h with h | h
    · rw [h]
      exact ⟨Nat.zero_le _, fun z hz => by cases hz⟩
    · obtain ⟨t, ht, h⟩ := List.mem_flatMap.mp h
      obtain ⟨h1, h2⟩ := lists_mem n t ht
      rcases List.mem_cons.mp h with h | h
      · subst h
        exact ⟨Nat.succ_le_succ h1, fun z hz => (List.mem_cons.mp hz).elim (fun e => .inl e) (h2 z)⟩
      · rw [List.mem_singleton] at h
        subst h
        exact ⟨Nat.succ_le_succ h1, fun z hz => (List.mem_cons.mp hz).elim (fun e => .inr e) (h2 z)⟩
theorem okS_of {m : Int} {s : List Int} (h : s ∈ spansOf m) : OkS s := by
  obtain ⟨h1, h2⟩ := List.mem_filter.mp h
  obtain ⟨h3, h4⟩ := lists_mem 5 s h1
  rw [Bool.and_eq_true] at h2
  exact ⟨h3, h4, fun e => by rw [e] at h2; exact absurd h2.1 (by decide)⟩
theorem spans_le {m n : Int} (h : m ≤ n) {s : List Int} (hs : s ∈ spansOf m) : s ∈ spansOf n := by
  obtain ⟨h1, h2⟩ := List.mem_filter.mp hs
  rw [Bool.and_eq_true] at h2
  exact List.mem_filter.mpr ⟨h1, by rw [Bool.and_eq_true]; exact ⟨h2.1, decide_eq_true (Int.le_trans (of_decide_eq_true h2.2) h)⟩⟩
theorem prod_full : ∀ {s : List Int}, (∀ z ∈ s, z = 2 ∨ z = 3) → (((full s).map List.length).prod : Int) = prodI s
  | [], _ => rfl
  | z :: s, h => by
    have ih := prod_full (s := s) fun y hy => h y (List.mem_cons_of_mem _ hy)
    show ((((standsOf z).length * ((full s).map List.length).prod : Nat)) : Int) = z * prodI s
    rw [Int.natCast_mul, ih]
    congr 1
    rcases h z List.mem_cons_self with e | e <;> subst e <;> rfl
theorem sets_le {m : Nat} {s : List Int} (h : s ∈ spansOf m) : (sets (full s)).length ≤ m := by
  have ok := okS_of h
  obtain ⟨h1, h2⟩ := List.mem_filter.mp h
  rw [Bool.and_eq_true] at h2
  have h3 := of_decide_eq_true h2.2
  rw [← prod_full ok.two] at h3
  rw [len_sets]
  exact Int.ofNat_le.mp h3
/-! ### parts -/
structure IsPart (s : List Int) (rs : List Tx) : Prop where
  len : rs.length = s.length
  ne : ∀ k, k < s.length → rs.getD k [] ≠ []
  asc : ∀ k, k < s.length → (rs.getD k []).Pairwise (· < ·)
  sub : ∀ k, k < s.length → ∀ c ∈ rs.getD k [], c ∈ (full s).getD k []
theorem IsPart.fits {s : List Int} {rs : List Tx} (h : IsPart s rs) {t : Tx} (ht : TP.fits t rs) : TP.fits t (full s) := by
  refine fits_of (by rw [ht.len, h.len, full_len]) fun k hk => ?_
  rw [full_len] at hk
  exact h.sub k hk _ (ht.at (by rw [h.len]; exact hk))
theorem full_three {s : List Int} {k : Nat} : ∀ {c : Nat}, c ∈ (full s).getD k [] → c = 48 ∨ c = 49 ∨ c = 50 := fun {c} h => by
  by_cases hk : k < s.length
  · rw [full_at hk] at h
    unfold standsOf at h
    split at h <;> simp at h <;> omega
  · rw [List.getD_eq_getElem?_getD, List.getElem?_eq_none (by rw [full_len]; omega)] at h
    cases h
theorem asc_three {l : Tx} (h : l.Pairwise (· < ·)) (k : ∀ c ∈ l, c = 48 ∨ c = 49 ∨ c = 50) : l.length ≤ 3 := by
  match l, h, k with
  | [], _, _ => exact Nat.zero_le _
  | [_], _, _ => exact (by decide : 1 ≤ 3)
  | [_, _], _, _ => exact (by decide : 2 ≤ 3)
  | [_, _, _], _, _ => exact (by decide : 3 ≤ 3)
  | a :: b :: c :: d :: t, h, k =>
    have k1 := k a (by simp)
    have k2 := k d (by simp)
    have h1 := List.pairwise_cons.mp h
    have h2 := List.pairwise_cons.mp h1.2
    have h3 := List.pairwise_cons.mp h2.2
    have q1 := h1.1 b (by simp)
    have q2 := h2.1 c (by simp)
    have q3 := h3.1 d (by simp)
    omega
theorem IsPart.small {s : List Int} {rs : List Tx} (h : IsPart s rs) (hs : OkS s) : Small rs where
  len := by rw [h.len]; exact hs.len
  three := fun x hx => by
    obtain ⟨k, hk, rfl⟩ := List.mem_iff_getElem.mp hx
    have hk' : k < s.length := by rw [← h.len]; exact hk
    have e : rs.getD k [] = rs[k] := by rw [List.getD_eq_getElem?_getD, List.getElem?_eq_getElem hk]; rfl
    have a := h.asc k hk'
    have b := h.sub k hk'
    rw [e] at a b
    exact asc_three a fun c hc => full_three (b c hc)
theorem log_small {n : Nat} (h : n ≤ 16777216) : n.log2 < 25 := by
  by_cases z : n = 0
  · subst z; decide
  · exact (Nat.log2_lt z).mpr (Nat.lt_of_le_of_lt h (by decide))
theorem okd_nat {k n : Nat} (h : n ≤ 16777216) : okd k (.int n) = true := by
  have e : okd k (.int n) = decide (n.log2 < 1920) := by cases k <;> rfl
  rw [e]
  exact decide_eq_true (Nat.lt_trans (log_small h) (by decide))
theorem wt_nat {n : Nat} (h : n ≤ 16777216) : wt (.int n) ≤ 27 := by
  show n.log2 + 2 ≤ 27
  have := log_small h
  omega
end DL
/-! Plain law, part 2: helping and climbing. -/
namespace TP
open DL
def bestI (o l : List Tx) : Int := maxI (l.map fun x => (idx o x : Int))
def up (w o : List Tx) (x : Tx) : Option Tx := if (idx o x : Int) < bestI o (beside w x) then some (o.getD (bestI o (beside w x)).toNat []) else none
/-- every place of the whole has a neighbour -/
structure Rich (w o : List Tx) : Prop where
  mem : ∀ t, fits t w → t ∈ o
  nb : ∀ t, fits t w → beside w t ≠ []
end TP
/-! Squares: as data, sorted, of a board; kinds. -/
namespace TP
open DL
def far (n : Nat) (lo hi : Tx) : List Nat := (List.range n).filter fun k => decide (lo.getD k 0 < hi.getD k 0)
end TP
/-! Squares as data; kinds. -/
namespace DL
open PySem L2 PyProof.Rows TP
/-! ### kinds -/
def kd : Nat → D
  | 0 => .str "crossed"
  | 1 => .str "plain"
  | _ => .str "turned"
/-! ### bounds -/
theorem len_flat {α β : Type} {f : α → List β} {k : Nat} : ∀ {p : List α}, (∀ x ∈ p, (f x).length ≤ k) → (p.flatMap f).length ≤ p.length * k
  | [], _ => Nat.zero_le _
  | x :: p, h => by
    rw [List.flatMap_cons, List.length_append, List.length_cons, Nat.succ_mul, Nat.add_comm]
    exact Nat.add_le_add (len_flat fun y hy => h y (List.mem_cons_of_mem _ hy)) (h x List.mem_cons_self)
theorem range_pre {n k : Nat} {p q : List Nat} (h : List.range n = p ++ k :: q) : k < n := by
  have : k ∈ List.range n := by rw [h]; simp
  simpa using this
theorem turned_at {x : Tx} {k j c : Nat} (h : k < x.length) : (turned x k [c]).getD j 0 = if j = k then c else x.getD j 0 := by rw [turned_eq_set h, set_getD h]
end DL
/-! Rising rows: how many, which is the shortest (plain Lean). -/
namespace TP
open DL
/-! ### what lies beside, once each -/
theorem beside_nodup {w : List Tx} {x : Tx} (hw : ∀ p ∈ w, p.Pairwise (· < ·)) (hx : x.length = w.length) : (beside w x).Nodup := by
  unfold beside
  rw [isort_perm.nodup_iff]
  unfold besideRaw
  unfold List.Nodup
  rw [List.pairwise_flatMap]
  refine ⟨fun k hk => ?_, ?_⟩
  · have hk' : k < w.length := by simpa using hk
    unfold side
    rw [List.pairwise_map]
    refine ((hw (w.getD k []) ?_).filter _).imp fun {a b} h e => ?_
    · rw [List.getD_eq_getElem?_getD, List.getElem?_eq_getElem hk']; exact List.getElem_mem hk'
    · have h1 : List.getD _ k 0 = List.getD _ k 0 := congrArg (fun t : Tx => t.getD k 0) e
      rw [turned_at (by omega), turned_at (by omega), if_pos rfl, if_pos rfl] at h1
      omega
  · refine List.Pairwise.imp_of_mem ?_ List.nodup_range
    intro k j hk hj hkj a ha b hb e
    have hk' : k < w.length := by simpa using hk
    have hj' : j < w.length := by simpa using hj
    obtain ⟨c, hc, rfl⟩ := List.mem_map.mp ha
    obtain ⟨d, hd, rfl⟩ := List.mem_map.mp hb
    have hne : c ≠ x.getD k 0 := by simpa using (List.mem_filter.mp hc).2
    have h1 : List.getD _ k 0 = List.getD _ k 0 := congrArg (fun t : Tx => t.getD k 0) e
    rw [turned_at (by omega), turned_at (by omega), if_pos rfl, if_neg hkj] at h1
    exact hne h1
theorem near_eq {w : List Tx} {x : Tx} (hw : ∀ p ∈ w, p.Pairwise (· < ·)) (hx : fits x w) : near w x = beside w x := by
  refine asc_eq ?_ (sd_asc (isort_sd ordN) (beside_nodup hw hx.len)) fun e => ?_
  · exact (asc_sets hw).filter _
  · rw [mem_near, mem_beside_fits hx]
/-! ### rows -/
def endOf (r : List Tx) : Tx := r.getD (r.length - 1) []
theorem endOf_one {b : Tx} : endOf [b] = b := rfl
theorem endOf_snoc {r : List Tx} {e : Tx} : endOf (r ++ [e]) = e := by
  unfold endOf
  rw [List.length_append, List.length_singleton, Nat.add_sub_cancel, List.getD_eq_getElem?_getD, List.getElem?_append_right (Nat.le_refl _), Nat.sub_self]
  rfl
inductive Pth (nx : Tx → List Tx) (b : Tx) : List Tx → Prop
  | one : Pth nx b [b]
  | snoc {r : List Tx} {e : Tx} : Pth nx b r → e ∈ nx (endOf r) → Pth nx b (r ++ [e])
theorem Pth.ne {nx : Tx → List Tx} {b : Tx} {r : List Tx} (h : Pth nx b r) : r ≠ [] := by
  cases h <;> simp
def grw (nx : Tx → List Tx) (r : List Tx) : List (List Tx) := (nx (endOf r)).map fun e => r ++ [e]
def stp (nx : Tx → List Tx) (L : List (List Tx)) : List (List Tx) := L.flatMap (grw nx)
def allF (nx : Tx → List Tx) (g : Tx) : Nat → List (List Tx) → List (List Tx)
  | 0, _ => []
  | m + 1, L => L.filter (fun r => decide (endOf r = g)) ++ allF nx g m (stp nx L)
/-! ### upwards -/
def ups (w o : List Tx) (x : Tx) : List Tx := (beside w x).filter fun e => decide (idx o x < idx o e)
def upTo (w o : List Tx) (g x : Tx) : List Tx := (ups w o x).filter fun e => decide (idx o e ≤ idx o g)
structure Line (w o : List Tx) : Prop where
  asc : ∀ p ∈ w, p.Pairwise (· < ·)
  mem : ∀ t, fits t w ↔ t ∈ o
  nd : o.Nodup
section
variable {w o : List Tx} {g b : Tx}
theorem Line.ups (h : Line w o) {x e : Tx} (hx : x ∈ o) (he : e ∈ ups w o x) : e ∈ o ∧ idx o x < idx o e := by
  obtain ⟨h1, h2⟩ := List.mem_filter.mp he
  exact ⟨(h.mem e).mp ((mem_beside_fits ((h.mem x).mpr hx)).mp h1).1, by simpa using h2⟩
theorem mem_upTo {x e : Tx} : e ∈ upTo w o g x ↔ e ∈ TP.ups w o x ∧ idx o e ≤ idx o g := by
  unfold upTo
  rw [List.mem_filter]
  simp
theorem Line.pth (h : Line w o) {r : List Tx} (hb : b ∈ o) (hr : Pth (TP.ups w o) b r) : endOf r ∈ o ∧ r.length ≤ idx o (endOf r) + 1 ∧ ∀ x ∈ r, x ∈ o := by
  induction hr with
  | one => exact ⟨hb, by simp, fun x hx => by rw [List.mem_singleton.mp hx]; exact hb⟩
  | snoc h1 h2 ih =>
    obtain ⟨i1, i2, i3⟩ := ih
    obtain ⟨j1, j2⟩ := h.ups i1 h2
    rw [endOf_snoc]
    refine ⟨j1, by rw [List.length_append, List.length_singleton]; omega, fun x hx => ?_⟩
    rcases List.mem_append.mp hx with hx | hx
    · exact i3 x hx
    · rw [List.mem_singleton.mp hx]; exact j1
/-- all rows from b to g -/
def rowsOf (w o : List Tx) (b g : Tx) : List (List Tx) := allF (upTo w o g) g o.length [[b]]
/-! ### how many -/
def cnt (nx : Tx → List Tx) (g : Tx) : Nat → Tx → Nat
  | 0, _ => 0
  | n + 1, v => (if v = g then 1 else 0) + ((nx v).map (cnt nx g n)).sum
theorem sum_flat {α β : Type} {f : α → List β} {k : β → Nat} : ∀ {l : List α}, ((l.flatMap f).map k).sum = (l.map fun a => ((f a).map k).sum).sum
  | [] => rfl
  | a :: l => by simp [sum_flat (l := l)]
theorem sum_add {α : Type} {f h : α → Nat} : ∀ {l : List α}, (l.map fun a => f a + h a).sum = (l.map f).sum + (l.map h).sum
  | [] => rfl
  | a :: l => by simp only [List.map_cons, List.sum_cons, sum_add (l := l)]; omega
theorem sum_ite {α : Type} {p : α → Bool} : ∀ {l : List α}, (l.map fun a => if p a = true then 1 else 0).sum = (l.filter p).length
  | [] => rfl
  | a :: l => by
    rw [List.map_cons, List.sum_cons, sum_ite (l := l), List.filter_cons]
    split <;> simp <;> omega
theorem len_allF {nx : Tx → List Tx} : ∀ {m : Nat} {L : List (List Tx)}, (allF nx g m L).length = (L.map fun r => cnt nx g m (endOf r)).sum
  | 0, L => by
    have : ∀ L : List (List Tx), (L.map fun r => cnt nx g 0 (endOf r)).sum = 0 := fun L => by
      induction L with
      | nil => rfl
      | cons r L ih => rw [List.map_cons, List.sum_cons, ih]; rfl
    rw [this]; rfl
  | m + 1, L => by
    unfold allF
    rw [List.length_append, len_allF (m := m), ← sum_ite, stp, sum_flat, ← sum_add]
    congr 1
    refine List.map_congr_left fun r _ => ?_
    unfold grw
    rw [List.map_map]
    show _ = (if endOf r = g then 1 else 0) + _
    congr 1
    · simp
    · congr 1
      refine List.map_congr_left fun e _ => ?_
      show cnt nx g m (endOf (r ++ [e])) = _
      rw [endOf_snoc]
def rise (w o : List Tx) (g : Tx) : Nat → Tx → Nat
  | 0, _ => 0
  | n + 1, v => if v = g then 1 else ((TP.ups w o v).map (rise w o g n)).sum
theorem sum_zero {α : Type} {f : α → Nat} : ∀ {l : List α}, (∀ a ∈ l, f a = 0) → (l.map f).sum = 0
  | [], _ => rfl
  | a :: l, h => by rw [List.map_cons, List.sum_cons, h a List.mem_cons_self, sum_zero fun x hx => h x (List.mem_cons_of_mem _ hx)]
theorem sum_filter {α : Type} {f k : α → Nat} {p : α → Bool} : ∀ {l : List α}, (∀ a ∈ l, p a = true → f a = k a) → (∀ a ∈ l, p a = false → k a = 0) → ((l.filter p).map f).sum = (l.map k).sum
  | [], _, _ => rfl
  | a :: l, h1, h2 => by
    have ih := sum_filter (l := l) (fun x hx => h1 x (List.mem_cons_of_mem _ hx)) (fun x hx => h2 x (List.mem_cons_of_mem _ hx))
    rw [List.filter_cons, List.map_cons, List.sum_cons]
    cases q : p a with
    | true => rw [if_pos rfl, List.map_cons, List.sum_cons, ih, h1 a List.mem_cons_self q]
    | false => rw [if_neg Bool.false_ne_true, ih, h2 a List.mem_cons_self q, Nat.zero_add]
theorem Line.rise_past (h : Line w o) : ∀ (n : Nat) {v : Tx}, v ∈ o → idx o g < idx o v → rise w o g n v = 0
  | 0, v, _, _ => rfl
  | n + 1, v, hv, hl => by
    rw [rise, if_neg (fun e => by rw [e] at hl; omega)]
    refine sum_zero fun e he => ?_
    obtain ⟨h1, h2⟩ := h.ups hv he
    exact h.rise_past n h1 (by omega)
theorem Line.cnt_rise (h : Line w o) (hg : g ∈ o) : ∀ (n : Nat) {v : Tx}, v ∈ o → cnt (upTo w o g) g n v = rise w o g n v
  | 0, v, _ => rfl
  | n + 1, v, hv => by
    rw [cnt, rise]
    by_cases e : v = g
    · subst e
      rw [if_pos rfl, if_pos rfl, show upTo w o v v = [] from ?_]
      · rfl
      · refine List.eq_nil_iff_forall_not_mem.mpr fun x hx => ?_
        obtain ⟨h1, h2⟩ := mem_upTo.mp hx
        have := (h.ups hv h1).2
        omega
    · rw [if_neg e, if_neg e, Nat.zero_add]
      unfold upTo
      refine sum_filter (fun x hx _ => h.cnt_rise hg n (h.ups hv hx).1) fun x hx hp => h.rise_past n (h.ups hv hx).1 ?_
      have : ¬ idx o x ≤ idx o g := by simpa using hp
      omega
theorem Line.many (h : Line w o) (hg : g ∈ o) (hb : b ∈ o) : (rowsOf w o b g).length = rise w o g o.length b := by
  unfold rowsOf
  rw [len_allF, List.map_cons, List.sum_cons, endOf_one, h.cnt_rise hg _ hb]
  rfl
end
end TP
/-! Own dicts with settings as keys; rows as data. -/
namespace DL
open PySem L2 PyProof.Rows TP
variable {A : DE} {EX : XP} {r : List Sl} {i j : Nat} {e e1 e2 : List Sl → R D} {b : List Sl → RS}
theorem line_of {s : List Int} {o : List Tx} (hp : o.Perm (sets (full s))) : Line (full s) o where
  asc := full_asc
  mem t := by rw [hp.mem_iff, mem_sets]
  nd := hp.nodup_iff.mpr (asc_sets full_asc).nodup
end DL
/-! The shortest rising row, found in waves (plain Lean). -/
namespace TP
open DL
section
variable {w o : List Tx} {b g : Tx} {k : Nat} {R L : List (List Tx)} {S S1 Dn : List Tx}
structure Bfs (w o : List Tx) (b g : Tx) (k : Nat) (R : List (List Tx)) (S Dn : List Tx) : Prop where
  row : ∀ r ∈ R, Pth (ups w o) b r ∧ r.length = k + 1
  seen : ∀ x, x ∈ S ↔ x ∈ Dn ∨ ∃ r ∈ R, endOf r = x
  goal : g ∉ Dn
  shut : ∀ x ∈ Dn, ∀ e ∈ ups w o x, e ∈ S
  start : b ∈ S
  far : ∀ p, Pth (ups w o) b p → p.length ≤ k → endOf p ∈ Dn
  nd : S.Nodup
  sub : ∀ x ∈ S, x ∈ o
structure Wave (w o : List Tx) (b g : Tx) (k : Nat) (S : List Tx) (p : List (List Tx)) (S1 : List Tx) (L : List (List Tx)) : Prop where
  seen : ∀ x, x ∈ S1 ↔ x ∈ S ∨ ∃ r ∈ L, endOf r = x
  row : ∀ r ∈ L, Pth (ups w o) b r ∧ r.length = k + 2
  done : ∀ r ∈ p, endOf r ≠ g ∧ ∀ e ∈ ups w o (endOf r), e ∈ S1
  nd : S1.Nodup
  sub : ∀ x ∈ S1, x ∈ o
  few : L.length ≤ S1.length
structure Short (w o : List Tx) (b g : Tx) (x : List Tx) : Prop where
  pth : Pth (ups w o) b x
  fin : endOf x = g
  least : ∀ q, Pth (ups w o) b q → endOf q = g → x.length ≤ q.length
theorem Bfs.first (hb : b ∈ o) : Bfs w o b g 0 [[b]] [b] [] where
  row r hr := by rw [List.mem_singleton.mp hr]; exact ⟨.one, rfl⟩
  seen x := by simp [endOf, eq_comm]
  goal h := by cases h
  shut x h := by cases h
  start := List.mem_singleton_self _
  far p h hl := by have := List.length_pos_iff.mpr h.ne; omega
  nd := by simp
  sub x hx := by rw [List.mem_singleton.mp hx]; exact hb
theorem Wave.add {p : List (List Tx)} (ln : Line w o) (hb : b ∈ o) (h : Wave w o b g k S p S1 L) {x : List Tx} {e : Tx} (hx : Pth (ups w o) b x) (hl : x.length = k + 1) (he : e ∈ ups w o (endOf x)) (hn : e ∉ S1) : Wave w o b g k S p (S1 ++ [e]) (L ++ [x ++ [e]]) where
  seen y := by
    rw [List.mem_append, h.seen, List.mem_singleton]
    constructor
    · rintro ((h1 | ⟨r, h1, h2⟩) | h1)
      · exact .inl h1
      · exact .inr ⟨r, List.mem_append_left _ h1, h2⟩
      · exact .inr ⟨x ++ [e], List.mem_append_right _ (List.mem_singleton_self _), by rw [endOf_snoc, h1]⟩
    · rintro (h1 | ⟨r, h1, h2⟩)
      · exact .inl (.inl h1)
      · rcases List.mem_append.mp h1 with h3 | h3
        · exact .inl (.inr ⟨r, h3, h2⟩)
        · rw [List.mem_singleton.mp h3, endOf_snoc] at h2
          exact .inr h2.symm
  row r hr := by
    rcases List.mem_append.mp hr with h3 | h3
    · exact h.row r h3
    · rw [List.mem_singleton.mp h3]
      exact ⟨.snoc hx he, by rw [List.length_append, hl]; rfl⟩
  done r hr := ⟨(h.done r hr).1, fun e he => List.mem_append_left _ ((h.done r hr).2 e he)⟩
  nd := by
    rw [List.nodup_append]
    exact ⟨h.nd, by simp, fun a ha c hc e2 => hn (by rw [List.mem_singleton.mp hc] at e2; exact e2 ▸ ha)⟩
  sub y hy := by
    rcases List.mem_append.mp hy with h3 | h3
    · exact h.sub y h3
    · rw [List.mem_singleton.mp h3]; exact (ln.ups (ln.pth hb hx).1 he).1
  few := by
    rw [List.length_append, List.length_append]
    exact Nat.add_le_add h.few (Nat.le_refl _)
theorem Wave.next {p : List (List Tx)} (h : Wave w o b g k S p S1 L) {x : List Tx} (hg : endOf x ≠ g) (hu : ∀ e ∈ ups w o (endOf x), e ∈ S1) : Wave w o b g k S (p ++ [x]) S1 L where
  seen := h.seen
  row := h.row
  done r hr := by
    rcases List.mem_append.mp hr with h3 | h3
    · exact h.done r h3
    · rw [List.mem_singleton.mp h3]; exact ⟨hg, hu⟩
  nd := h.nd
  sub := h.sub
  few := h.few
theorem Bfs.found (h : Bfs w o b g k R S Dn) {x : List Tx} (hx : x ∈ R) (he : endOf x = g) : Short w o b g x where
  pth := (h.row x hx).1
  fin := he
  least q hq hg := by
    rw [(h.row x hx).2]
    by_cases hl : q.length ≤ k
    · exact absurd (hg ▸ h.far q hq hl) h.goal
    · omega
theorem Bfs.none (h : Bfs w o b g k [] S Dn) {q : List Tx} (hq : Pth (ups w o) b q) : endOf q ≠ g := by
  have hs : ∀ x, x ∈ S → x ∈ Dn := fun x hx => by
    rcases (h.seen x).mp hx with h1 | ⟨r, h1, _⟩
    · exact h1
    · cases h1
  have : endOf q ∈ Dn := by
    induction hq with
    | one => exact hs _ h.start
    | snoc h1 h2 ih => rw [endOf_snoc]; exact hs _ (h.shut _ ih _ h2)
  exact fun e => h.goal (e ▸ this)
end
end TP
/-! Facts: what they lead to; orders that agree with them (plain Lean). -/
namespace TP
open DL
abbrev Fa := Tx × Tx
inductive Reach (F : List Fa) (a : Tx) : Tx → Prop
  | refl : Reach F a a
  | step {b c : Tx} : Reach F a b → (b, c) ∈ F → Reach F a c
theorem Reach.trans {F : List Fa} {a b c : Tx} (h : Reach F a b) (k : Reach F b c) : Reach F a c := by
  induction k with
  | refl => exact h
  | step _ h2 ih => exact .step ih h2
theorem Reach.one {F : List Fa} {a b : Tx} (h : (a, b) ∈ F) : Reach F a b := .step .refl h
theorem Reach.sub {F F' : List Fa} (s : ∀ f ∈ F, f ∈ F') {a b : Tx} (h : Reach F a b) : Reach F' a b := by
  induction h with
  | refl => exact .refl
  | step _ h2 ih => exact .step ih (s _ h2)
open Classical in
noncomputable def rch (F : List Fa) (a b : Tx) : Bool := decide (Reach F a b)
theorem rch_iff {F : List Fa} {a b : Tx} : rch F a b = true ↔ Reach F a b := by
  unfold rch
  exact @decide_eq_true_iff _ (Classical.propDecidable _)
theorem rch_false {F : List Fa} {a b : Tx} : rch F a b = false ↔ ¬ Reach F a b := by
  rw [← rch_iff]
  cases rch F a b <;> simp
/-- an order agrees with the facts -/
def Agr (o : List Tx) (F : List Fa) : Prop := ∀ f ∈ F, idx o f.1 < idx o f.2
def agr (o : List Tx) (F : List Fa) : Bool := F.all fun f => decide (idx o f.1 < idx o f.2)
theorem Agr.le {o : List Tx} {F : List Fa} (h : Agr o F) {a b : Tx} (r : Reach F a b) : idx o a ≤ idx o b := by
  induction r with
  | refl => exact Nat.le_refl _
  | step _ h2 ih => exact Nat.le_trans ih (Nat.le_of_lt (h _ h2))
theorem Agr.lt {o : List Tx} {F : List Fa} (h : Agr o F) {a b : Tx} (r : Reach F a b) (hne : a ≠ b) : idx o a < idx o b := by
  induction r with
  | refl => exact absurd rfl hne
  | step h1 h2 ih => exact Nat.lt_of_le_of_lt (h.le h1) (h _ h2)
/-! ### an order with b ahead of l -/
theorem idx_filter {p : Tx → Bool} : ∀ {o : List Tx} {x y : Tx}, p x = true → p y = true → idx o x < idx o y → idx (o.filter p) x < idx (o.filter p) y
  | [], x, y, _, _, h => by unfold idx at h; simp at h
  | z :: o, x, y, hx, hy, h => by
    have ih := idx_filter (p := p) (o := o) hx hy
    unfold idx at h ih ⊢
    rw [List.idxOf_cons, List.idxOf_cons] at h
    by_cases ex : z = x
    · subst ex
      rw [List.filter_cons, if_pos hx, List.idxOf_cons, List.idxOf_cons]
      by_cases ey : z = y
      · subst ey; simp at h
      · have ey' : (z == y) = false := by simpa using ey
        simp [ey']
    · by_cases ey : z = y
      · subst ey; simp at h
      · have ex' : (z == x) = false := by simpa using ex
        have ey' : (z == y) = false := by simpa using ey
        rw [ex', ey'] at h
        have h' : List.idxOf x o < List.idxOf y o := by simpa using h
        rw [List.filter_cons]
        split
        · rw [List.idxOf_cons, List.idxOf_cons, ex', ey']
          simpa using ih h'
        · exact ih h'
theorem idx_app_l {l m : List Tx} {x : Tx} (h : x ∈ l) : idx (l ++ m) x = idx l x := by
  unfold idx
  rw [List.idxOf_append, if_pos h]
theorem idx_app_r {l m : List Tx} {x : Tx} (h : x ∉ l) : idx (l ++ m) x = idx m x + l.length := by
  unfold idx
  rw [List.idxOf_append, if_neg h]
noncomputable def ahead (F : List Fa) (o : List Tx) (b : Tx) : List Tx := (o.filter fun x => rch F x b) ++ (o.filter fun x => !rch F x b)
theorem perm_split {p : Tx → Bool} : ∀ {o : List Tx}, ((o.filter p) ++ (o.filter fun x => !p x)).Perm o
  | [] => .refl _
  | x :: o => by
    have ih := perm_split (p := p) (o := o)
    rw [List.filter_cons, List.filter_cons]
    cases p x with
    | true => exact List.Perm.cons x ih
    | false =>
      simp only [Bool.not_false, if_true, Bool.false_eq_true, if_false]
      exact (List.perm_middle).trans (List.Perm.cons x ih)
theorem ahead_perm {F : List Fa} {o : List Tx} {b : Tx} : (ahead F o b).Perm o := perm_split
theorem ahead_agr {F : List Fa} {o : List Tx} {b : Tx} (h : Agr o F) (hm : ∀ f ∈ F, f.1 ∈ o ∧ f.2 ∈ o) : Agr (ahead F o b) F := by
  rintro ⟨x, y⟩ hf
  have hxy := h _ hf
  obtain ⟨mx, my⟩ := hm _ hf
  dsimp only at hxy mx my ⊢
  unfold ahead
  cases qy : rch F y b with
  | true =>
    have qx : rch F x b = true := rch_iff.mpr ((Reach.one hf).trans (rch_iff.mp qy))
    rw [idx_app_l (List.mem_filter.mpr ⟨mx, qx⟩), idx_app_l (List.mem_filter.mpr ⟨my, qy⟩)]
    exact idx_filter (p := fun x => rch F x b) qx qy hxy
  | false =>
    have ny : y ∉ o.filter fun x => rch F x b := fun z => by
      have := (List.mem_filter.mp z).2
      rw [qy] at this
      cases this
    rw [idx_app_r ny]
    cases qx : rch F x b with
    | true =>
      rw [idx_app_l (List.mem_filter.mpr ⟨mx, qx⟩)]
      have := idx_lt (List.mem_filter.mpr ⟨mx, qx⟩ : x ∈ o.filter fun x => rch F x b)
      omega
    | false =>
      have nx : x ∉ o.filter fun x => rch F x b := fun z => by
        have := (List.mem_filter.mp z).2
        rw [qx] at this
        cases this
      rw [idx_app_r nx]
      have := idx_filter (p := fun x => !rch F x b) (o := o) (x := x) (y := y) (by rw [qx]; rfl) (by rw [qy]; rfl) hxy
      omega
theorem ahead_lt {F : List Fa} {o : List Tx} {b l : Tx} (hb : b ∈ o) (hn : ¬ Reach F l b) : idx (ahead F o b) b < idx (ahead F o b) l := by
  unfold ahead
  have qb : rch F b b = true := rch_iff.mpr .refl
  have nl : l ∉ o.filter fun x => rch F x b := fun z => hn (rch_iff.mp (List.mem_filter.mp z).2)
  have mb : b ∈ o.filter fun x => rch F x b := List.mem_filter.mpr ⟨hb, qb⟩
  rw [idx_app_l mb, idx_app_r nl]
  have := idx_lt mb
  omega
/-! ### what is seen from a place -/
structure Seek (F : List Fa) (a : Tx) (S W : List Tx) : Prop where
  start : a ∈ S
  from_ : ∀ x ∈ S, Reach F a x
  wait : ∀ x ∈ W, x ∈ S
  shut : ∀ x ∈ S, x ∉ W → ∀ f ∈ F, f.1 = x → f.2 ∈ S
theorem Seek.done {F : List Fa} {a : Tx} {S : List Tx} (h : Seek F a S []) {b : Tx} : b ∈ S ↔ Reach F a b := by
  refine ⟨h.from_ b, fun r => ?_⟩
  induction r with
  | refl => exact h.start
  | step _ h2 ih => exact h.shut _ ih (by simp) _ h2 rfl
def left (F : List Fa) (S : List Tx) : Nat := (F.filter fun f => decide (f.2 ∉ S)).length
theorem left_add {F : List Fa} {S : List Tx} {f : Fa} (hf : f ∈ F) (hn : f.2 ∉ S) : left F (S ++ [f.2]) + 1 ≤ left F S := by
  unfold left
  induction F with
  | nil => cases hf
  | cons g F ih =>
    have mono : ∀ F : List Fa, (F.filter fun g => decide (g.2 ∉ S ++ [f.2])).length ≤ (F.filter fun g => decide (g.2 ∉ S)).length := fun F => by
      induction F with
      | nil => exact Nat.le_refl _
      | cons g F ih2 =>
        rw [List.filter_cons, List.filter_cons]
        by_cases q : g.2 ∈ S
        · rw [if_neg (by simp [q]), if_neg (by simp [q])]; exact ih2
        · rw [if_pos (c := decide (g.2 ∉ S) = true) (by simpa using q)]
          split
          · rw [List.length_cons, List.length_cons]; omega
          · rw [List.length_cons]; omega
    rw [List.filter_cons, List.filter_cons]
    rcases List.mem_cons.mp hf with e | e
    · subst e
      rw [if_neg (by simp), if_pos (by simpa using hn), List.length_cons]
      have := mono F
      omega
    · have ih := ih e
      by_cases q : g.2 ∈ S
      · rw [if_neg (by simp [q]), if_neg (by simp [q])]; exact ih
      · rw [if_pos (c := decide (g.2 ∉ S) = true) (by simpa using q)]
        split
        · rw [List.length_cons, List.length_cons]; omega
        · rw [List.length_cons]; omega
end TP
namespace TP
open DL
/-- facts that a line agrees with -/
structure Fc (w o : List Tx) (F : List Fa) : Prop where
  nd : F.Nodup
  mem : ∀ f ∈ F, f.1 ∈ o ∧ f.2 ∈ o
  near : ∀ f ∈ F, dif f.1 f.2 = 1
  agr : Agr o F
  few : F.length ≤ 900
theorem dif_comm {a b : Tx} (h : a.length = b.length) : dif a b = dif b a := by
  unfold dif
  rw [h]
  congr 2
  funext k
  simp only [ne_comm]
theorem Fc.let {w o : List Tx} {F : List Fa} (h : Fc w o F) {k : Nat} (hk : k < F.length) : F[k] ∉ F.take k ∧ rch (F.take k) F[k].2 F[k].1 = false := by
  constructor
  · intro z
    obtain ⟨j, hj, e⟩ := List.mem_iff_getElem.mp z
    rw [List.length_take] at hj
    rw [List.getElem_take] at e
    have := (List.getElem_inj h.nd).mp e
    omega
  · rw [rch_false]
    intro r
    have h1 := h.agr.le (r.sub fun f hf => List.mem_of_mem_take hf)
    have h2 := h.agr _ (List.getElem_mem hk)
    omega
end TP
/-! Facts as data; Notes as data. -/
namespace DL
open PySem L2 PyProof.Rows TP
def fct (f : Fa) : D := .tup [st f.1, st f.2]
def fcts (F : List Fa) : List D := F.map fct
/-- a Notes object -/
def nt (s : List Int) (F : List Fa) : D := .obj 3 [.tup [bd s, .tup (fcts F)]]
theorem fcts_len {F : List Fa} : (fcts F).length = F.length := List.length_map _
theorem fcts_app {F G : List Fa} : fcts (F ++ G) = fcts F ++ fcts G := List.map_append
theorem fct_sts {f : Fa} : fct f = .tup (sts [f.1, f.2]) := rfl
theorem eqb_fct {f g : Fa} : eqb (fct f) (fct g) = decide (f = g) := by
  rw [fct_sts, fct_sts, eqb_tup, Bool.eq_iff_iff, decide_eq_true_iff, decide_eq_true_iff]
  constructor
  · intro h
    injection h with h1 h2
    injection h2 with h2
    exact Prod.ext h1 h2
  · rintro rfl; rfl
theorem any_fct {f : Fa} : ∀ {F : List Fa}, (fcts F).any (fun z => eqb z (fct f)) = decide (f ∈ F)
  | [] => rfl
  | g :: F => by
    show (eqb (fct g) (fct f) || (fcts F).any (fun z => eqb z (fct f))) = _
    rw [any_fct, eqb_fct, Bool.eq_iff_iff, Bool.or_eq_true, decide_eq_true_iff, decide_eq_true_iff, decide_eq_true_iff, List.mem_cons]
    exact ⟨fun h => h.imp Eq.symm id, fun h => h.imp Eq.symm id⟩
theorem okq_fct {n : Nat} {f : Fa} (h1 : Plain f.1) (h2 : Plain f.2) : okq (n + 1) (fct f) = true := okq_tup (okqs_sts (xs := [f.1, f.2]) fun x hx => by
  rcases List.mem_cons.mp hx with e | e
  · rw [e]; exact h1
  · rw [List.mem_singleton.mp e]; exact h2)
theorem okqs_fcts {n : Nat} {F : List Fa} (h : ∀ f ∈ F, Plain f.1 ∧ Plain f.2) : okqs (n + 1) (fcts F) = true := okqs_map fun f hf => okq_fct (h f hf).1 (h f hf).2
theorem inTX_fct {neg : Bool} {f : Fa} {F : List Fa} (hf : Plain f.1 ∧ Plain f.2) (h : ∀ f ∈ F, Plain f.1 ∧ Plain f.2) : inTX neg (fct f) (.tup (fcts F)) = some (.bl (neg != decide (f ∈ F))) := by
  show gd ((shpB (fct f) && shpB (.tup (fcts F))) = true) (.bl (neg != (fcts F).any fun z => eqb z (fct f))) = _
  rw [gd_pos (by rw [shp_of (okq_fct hf.1 hf.2), shp_of (okq_tup (okqs_fcts h))]; rfl), any_fct]
variable {A : DE} {EX : XP} {r : List Sl} {i j : Nat} {b : List Sl → RS}
theorem W_popV {es : List D} {y : D} (h : r[j]? = some (.own (es ++ [y]))) (k : A.nx ((r.set j (.own es)).set i (.val y))) : W (yPopV i j) A EX r := by
  refine W_eq (z := .nx ((r.set j (.own es)).set i (.val y))) ?_ k
  unfold yPopV
  rw [h]
  dsimp only
  have e : (es ++ [y])[(es ++ [y]).length - 1]? = some y := by
    rw [List.length_append, List.length_singleton, Nat.add_sub_cancel, List.getElem?_append_right (Nat.le_refl _), Nat.sub_self]; rfl
  rw [e, List.dropLast_concat]
theorem S_popV {es : List D} {y : D} (h : r[j]? = some (.own (es ++ [y]))) (k : W b A EX ((r.set j (.own es)).set i (.val y))) : W (ySeq (yPopV i j) b) A EX r := W_seq (W_popV h k)
theorem neX_sts0 {l : List Tx} (h : ∀ t ∈ l, Plain t) : neX (.lst (sts l)) (.lst []) = some (.bl (!decide (l = []))) := by
  show gd ((shpB (.lst (sts l)) && shpB (.lst [])) = true) (.bl (!eqb (.lst (sts l)) (.lst (sts [])))) = _
  rw [gd_pos (by rw [shp_lst h]; rfl), eqb_lst]
end DL
/-! An order for the facts; all that is better (plain Lean). -/
namespace TP
open DL
def upsF (F : List Fa) (x : Tx) : List Tx := (F.filter fun f => decide (f.1 = x)).map fun f => f.2
theorem mem_upsF {F : List Fa} {x u : Tx} : u ∈ upsF F x ↔ (x, u) ∈ F := by
  unfold upsF
  rw [List.mem_map]
  constructor
  · rintro ⟨f, hf, rfl⟩
    obtain ⟨h1, h2⟩ := List.mem_filter.mp hf
    have h3 : f.1 = x := by simpa using h2
    rw [← h3]; exact h1
  · intro h
    exact ⟨(x, u), List.mem_filter.mpr ⟨h, by simp⟩, rfl⟩
def free (w : List Tx) (F : List Fa) (P : List Tx) : List Tx := (sets w).filter fun x => !decide (x ∈ P) && (upsF F x).all fun u => decide (u ∈ P)
theorem mem_free {w : List Tx} {F : List Fa} {P : List Tx} {x : Tx} : x ∈ free w F P ↔ x ∈ sets w ∧ x ∉ P ∧ ∀ u ∈ upsF F x, u ∈ P := by
  unfold free
  rw [List.mem_filter, Bool.and_eq_true, List.all_eq_true]
  simp
/-- placed so far: each after all that is better -/
structure Plc (w : List Tx) (F : List Fa) (P : List Tx) : Prop where
  nd : P.Nodup
  sub : ∀ x ∈ P, x ∈ sets w
  up : ∀ p x q, P = p ++ x :: q → ∀ u ∈ upsF F x, u ∈ p
theorem Plc.nil {w : List Tx} {F : List Fa} : Plc w F [] := ⟨List.nodup_nil, (fun _ h => by cases h), fun p x q h => by simp at h⟩
theorem Plc.add {w : List Tx} {F : List Fa} {P : List Tx} (h : Plc w F P) {x : Tx} (hx : x ∈ free w F P) : Plc w F (P ++ [x]) := by
  obtain ⟨h1, h2, h3⟩ := mem_free.mp hx
  refine ⟨?_, ?_, ?_⟩
  · rw [List.nodup_append]
    exact ⟨h.nd, by simp, fun a ha c hc e => h2 (by rw [List.mem_singleton.mp hc] at e; exact e ▸ ha)⟩
  · intro y hy
    rcases List.mem_append.mp hy with q | q
    · exact h.sub y q
    · rw [List.mem_singleton.mp q]; exact h1
  · intro p y q e u hu
    rcases List.append_eq_append_iff.mp e with ⟨l, e1, e2⟩ | ⟨l, e1, e2⟩
    · -- p = P ++ l, [x] = l ++ y :: q
      cases l with
      | nil =>
        rw [List.nil_append] at e2
        injection e2 with e3 e4
        subst e3
        rw [List.append_nil] at e1
        rw [e1]
        exact h3 u hu
      | cons z l =>
        have := congrArg List.length e2
        simp at this
    · -- P = p ++ l, y :: q = l ++ [x]
      cases l with
      | nil =>
        rw [List.nil_append] at e2
        injection e2 with e3 e4
        subst e3
        rw [List.append_nil] at e1
        rw [← e1]
        exact h3 u hu
      | cons z l =>
        rw [List.cons_append] at e2
        injection e2 with e3 e4
        subst e3
        exact h.up p y l e1 u hu
theorem Plc.agr {w : List Tx} {F : List Fa} {P : List Tx} (h : Plc w F P) (hall : ∀ f ∈ F, f.1 ∈ P) : Agr P.reverse F := by
  rintro ⟨x, u⟩ hf
  dsimp only
  obtain ⟨p, q, e⟩ := List.mem_iff_append.mp (hall _ hf)
  have hu := h.up p x q e u (mem_upsF.mpr hf)
  have nd := h.nd
  rw [e] at nd
  have er : P.reverse = (q.reverse ++ [x]) ++ p.reverse := by rw [e]; simp
  rw [er, idx_app_l (by simp)]
  have nu : u ∉ q.reverse ++ [x] := fun z => by
    rw [List.nodup_append] at nd
    have z2 : u ∈ x :: q := by
      rcases List.mem_append.mp z with z | z
      · exact List.mem_cons_of_mem _ (List.mem_reverse.mp z)
      · rw [List.mem_singleton.mp z]; exact List.mem_cons_self
    exact nd.2.2 u hu u z2 rfl
  rw [idx_app_r nu]
  have := idx_lt (show x ∈ q.reverse ++ [x] by simp)
  omega
end TP
/-! All orders (plain Lean). -/
namespace TP
open DL
def insAll (x : Tx) (l : List Tx) : List (List Tx) := (List.range (l.length + 1)).map fun k => l.take k ++ [x] ++ l.drop k
def linesF (found : List (List Tx)) : List Tx → List (List Tx)
  | [] => found
  | x :: xs => linesF (found.flatMap (insAll x)) xs
def lines (xs : List Tx) : List (List Tx) := linesF [[]] xs
end TP
/-! Facts as data, further; sorted(set(texts)); dict(pairs). -/
namespace DL
open PySem L2 PyProof.Rows TP
theorem fc_plain {s : List Int} {o : List Tx} {F : List Fa} (h : OkS s) (hp : o.Perm (sets (full s))) (hc : Fc (full s) o F) : ∀ f ∈ F, Plain f.1 ∧ Plain f.2 := fun f hf =>
  ⟨plain_sets h _ (hp.mem_iff.mp (hc.mem f hf).1), plain_sets h _ (hp.mem_iff.mp (hc.mem f hf).2)⟩
theorem Reach.head {F : List Fa} {a b : Tx} (h : Reach F a b) : a = b ∨ ∃ c, (a, c) ∈ F ∧ Reach F c b := by
  induction h with
  | refl => exact .inl rfl
  | step h1 h2 ih =>
    rcases ih with rfl | ⟨c, m, r⟩
    · exact .inr ⟨_, h2, .refl⟩
    · exact .inr ⟨c, m, .step r h2⟩
theorem eqvAll_fcts : ∀ {a b : List Fa}, PyData.eqvAll (pds (fcts a)) (pds (fcts b)) = decide (a = b)
  | [], [] => by simp [fcts, pds, PyData.eqvAll]
  | [], y :: b => by simp [fcts, pds, PyData.eqvAll]
  | x :: a, [] => by simp [fcts, pds, PyData.eqvAll]
  | x :: a, y :: b => by
    have ih := eqvAll_fcts (a := a) (b := b)
    show PyData.eqvAll (pds (fct x :: fcts a)) (pds (fct y :: fcts b)) = _
    unfold pds PyData.eqvAll
    rw [ih]
    have e : PyData.eqv (pd (fct x)) (pd (fct y)) = decide (x = y) := eqb_fct
    rw [e, Bool.eq_iff_iff]
    simp
theorem neX_str {z : Str} : neX (.str z) (.str z) = some (.bl false) := by
  unfold neX
  rw [bothS_refl]; rfl
end DL
/-! Runs that raise; values of any kind; the signs of what is shown. -/
namespace DL
open PySem L2 PyProof.Rows TP
/-! ### the signs of what is shown -/
def okT (t : Str) : Prop := ∀ c ∈ t.cps.toList, c < 1114112
theorem okT_of {t : Str} (h : PyData.strOk t = true) : okT t := by
  unfold PyData.strOk at h
  rw [Array.all_eq_true_iff_forall_mem] at h
  exact fun c hc => of_decide_eq_true (h c (Array.mem_toList_iff.mp hc))
theorem okT_app {a b : Str} (h : okT a) (k : okT b) : okT (a ++ b) := fun c hc => by
  have e : (a ++ b).cps.toList = a.cps.toList ++ b.cps.toList := Array.toList_append
  rw [e, List.mem_append] at hc
  exact hc.elim (h c) (k c)
theorem okT_lit (s : String) : okT (Str.ofString s) := fun c hc => by
  rw [Str.ofString_eq_toList] at hc
  obtain ⟨ch, _, rfl⟩ := List.mem_map.mp hc
  have h := ch.valid
  rcases h with h | h
  · have : ch.toNat < 55296 := h
    omega
  · have : ch.toNat < 1114112 := h.2
    exact this
theorem okT_join {s : Str} (h : okT s) : ∀ {ts : List Str}, (∀ t ∈ ts, okT t) → okT (Str.join s ts)
  | [], _ => fun c hc => by simp [Str.join, Str.empty] at hc
  | [x], k => k x List.mem_cons_self
  | x :: y :: r, k => okT_app (okT_app (k x List.mem_cons_self) h) (okT_join h fun t ht => k t (List.mem_cons_of_mem _ ht))
theorem okT_from : ∀ (ts : List Str) (n : Nat) (acc : Str), okT acc → (∀ t ∈ ts, okT t) → okT (textFrom n acc ts)
  | [], _, _, h, _ => h
  | t :: ts, n, acc, h, k => okT_from ts (n + 1) _ (okT_app (okT_app h (okT_lit _)) (k t List.mem_cons_self)) fun u hu => k u (List.mem_cons_of_mem _ hu)
theorem ch_lt (ch : Char) : ch.toNat < 1114112 := by
  rcases ch.valid with h | h
  · have : ch.toNat < 55296 := h
    omega
  · exact h.2
theorem reprChar_lt {q c : Nat} (hc : c < 1114112) : ∀ x ∈ Builtin.Str.reprChar q c, x < 1114112 := by
  have hex : ∀ (w : Nat) x, x ∈ List.replicate (w - ((Nat.toDigits 16 c).map Char.toNat).length) 48 ++ (Nat.toDigits 16 c).map Char.toNat → x < 1114112 := fun w x hx => by
    rcases List.mem_append.mp hx with h | h
    · rw [List.eq_of_mem_replicate h]; decide
    · obtain ⟨ch, _, rfl⟩ := List.mem_map.mp h
      exact ch_lt ch
  have two : ∀ (a b : Nat), a < 1114112 → b < 1114112 → ∀ x ∈ [a, b], x < 1114112 := fun a b ha hb x hx => by
    rcases List.mem_cons.mp hx with rfl | hx
    · exact ha
    · rw [List.mem_singleton.mp hx]; exact hb
  intro x hx
  unfold Builtin.Str.reprChar at hx
  dsimp only at hx
  split at hx
  · exact two 92 c (by decide) hc x hx
  split at hx
  · exact two 92 110 (by decide) (by decide) x hx
  split at hx
  · exact two 92 114 (by decide) (by decide) x hx
  split at hx
  · exact two 92 116 (by decide) (by decide) x hx
  split at hx
  · rw [List.mem_singleton.mp hx]; exact hc
  split at hx
  · exact (List.mem_append.mp hx).elim (two 92 120 (by decide) (by decide) x) (hex 2 x)
  split at hx
  · exact (List.mem_append.mp hx).elim (two 92 117 (by decide) (by decide) x) (hex 4 x)
  · exact (List.mem_append.mp hx).elim (two 92 85 (by decide) (by decide) x) (hex 8 x)
theorem okT_repr {x : Str} (h : okT x) : okT (reprText x) := by
  have go : ∀ (q : Nat) (l : List Nat) (acc : Array Nat), (∀ c ∈ l, c < 1114112) → (∀ c ∈ acc.toList, c < 1114112) → ∀ c ∈ (l.foldl (fun out c => out ++ (Builtin.Str.reprChar q c).toArray) acc).toList, c < 1114112 := by
    intro q l
    induction l with
    | nil => exact fun acc _ k => k
    | cons c r ih =>
      intro acc hl ha
      rw [List.foldl_cons]
      refine ih _ (fun d hd => hl d (List.mem_cons_of_mem _ hd)) fun d hd => ?_
      rw [Array.toList_append] at hd
      exact (List.mem_append.mp hd).elim (ha d) (reprChar_lt (hl c List.mem_cons_self) d)
  have hq : reprQuote x < 1114112 := by unfold reprQuote; split <;> decide
  intro c hc
  have e : (reprText x).cps.toList = (x.cps.toList.foldl (fun out c => out ++ (Builtin.Str.reprChar (reprQuote x) c).toArray) #[reprQuote x]).toList ++ [reprQuote x] := by
    unfold reprText
    rw [Array.toList_push, ← Array.foldl_toList]
  rw [e] at hc
  rcases List.mem_append.mp hc with hc | hc
  · refine go _ _ _ h (fun d hd => ?_) c hc
    rw [List.mem_singleton.mp hd]; exact hq
  · rw [List.mem_singleton.mp hc]; exact hq
mutual
theorem okT_shown : ∀ d : PyData, d.canLay0 = true → okT d.shown
  | .none, _ => by simp only [PyData.shown]; exact okT_lit _
  | .bool b, _ => by cases b <;> (simp only [PyData.shown]; exact okT_lit _)
  | .int i, _ => by simp only [PyData.shown]; exact okT_lit _
  | .str x, h => by
    simp only [PyData.shown]
    exact okT_repr (okT_of (by simpa [PyData.canLay0] using h))
  | .list xs, h => by
    simp only [PyData.shown]
    unfold listText
    exact okT_app (okT_from _ _ _ (okT_lit _) (okT_shownAll xs (by simpa [PyData.canLay0] using h))) (okT_lit _)
  | .tuple xs, h => by
    simp only [PyData.shown]
    unfold tupleText
    exact okT_app (okT_app (okT_lit _) (okT_join (okT_lit _) (okT_shownAll xs (by simpa [PyData.canLay0] using h)))) (okT_lit _)
  | .dict _, h => by simp [PyData.canLay0] at h
theorem okT_shownAll : ∀ ds : List PyData, PyData.canLayAll0 ds = true → ∀ t ∈ PyData.shownAll ds, okT t
  | [], _, t, ht => by simp [PyData.shownAll] at ht
  | d :: ds, h, t, ht => by
    simp only [PyData.canLayAll0, Bool.and_eq_true] at h
    simp only [PyData.shownAll, List.mem_cons] at ht
    rcases ht with rfl | ht
    · exact okT_shown d h.1
    · exact okT_shownAll ds h.2 t ht
end
/-! ### values of any kind -/
def isBase : D → Bool
  | .obj _ _ => false
  | .exc _ _ => false
  | .jar => false
  | _ => true
def isDic : D → Bool
  | .dic _ _ => true
  | _ => false
def smallT (d : D) : Prop := ∀ x, d = st x → okT (sx x) ∧ x.length ≤ 1677721
/-- of no own class, its texts small, to a depth -/
def deepT : Nat → D → Prop
  | 0, d => isBase d = true ∧ smallT d
  | n + 1, d => (isBase d = true ∧ smallT d) ∧ ∀ ds, d = .tup ds → ds.length ≤ 16777216 ∧ ∀ e ∈ ds, deepT n e
def DOk (d : D) : Prop := ∀ n, deepT n d
/-- a value that the laws draw: of no own class, it may be shown, what is shown are signs -/
structure VOk (d : D) : Prop where
  shp : isDic d = false → shpB d = true
  deep : DOk d
  base : isBase d = true
  shw : shwOK d
  sign : okT (DL.shw d)
  str : smallT d
  tup : ∀ ds, d = .tup ds → ds.length ≤ 16777216 ∧ ∀ e ∈ ds, isBase e = true ∧ smallT e
theorem small_of {n : Nat} {d : D} (hq : okq n d = true) (hw : wt d ≤ 16777216) : smallT d := fun x e => by
  subst e
  refine ⟨okT_of (by cases n <;> simpa [okq] using hq), ?_⟩
  have : 10 * x.length + 2 ≤ 16777216 := hw
  omega
theorem okd_base {n : Nat} {d : D} (h : okd n d = true) : isBase d = true := by
  cases d <;> first | rfl | (unfold okd at h; cases h)
theorem small_all {n m : Nat} : ∀ {ds : List D}, okds n ds = true → okqs m ds = true → wts ds ≤ 16777216 → ds.length * 2 ≤ wts ds ∧ ∀ e ∈ ds, isBase e = true ∧ smallT e
  | [], _, _, _ => ⟨Nat.zero_le _, fun e he => by cases he⟩
  | d :: ds, h, hq, hw => by
    unfold okds at h
    unfold okqs at hq
    unfold wts at hw ⊢
    rw [Bool.and_eq_true] at h hq
    obtain ⟨h1, h2⟩ := small_all h.2 hq.2 (by omega)
    refine ⟨by rw [List.length_cons]; omega, fun e he => ?_⟩
    rcases List.mem_cons.mp he with rfl | he
    · exact ⟨okd_base h.1, small_of hq.1 (by omega)⟩
    · exact h2 e he
theorem items_of {n m : Nat} : ∀ {ds : List D}, okds n ds = true → okqs m ds = true → wts ds ≤ 16777216 → ds.length * 2 ≤ wts ds ∧ ∀ e ∈ ds, okd n e = true ∧ okq m e = true ∧ wt e ≤ 16777216
  | [], _, _, _ => ⟨Nat.zero_le _, fun e he => by cases he⟩
  | d :: ds, h, hq, hw => by
    unfold okds at h
    unfold okqs at hq
    unfold wts at hw ⊢
    rw [Bool.and_eq_true] at h hq
    obtain ⟨h1, h2⟩ := items_of h.2 hq.2 (by omega)
    refine ⟨by rw [List.length_cons]; omega, fun e he => ?_⟩
    rcases List.mem_cons.mp he with rfl | he
    · exact ⟨h.1, hq.1, by omega⟩
    · exact h2 e he
theorem deep_of : ∀ (k : Nat) {n m : Nat} {d : D}, okd n d = true → okq m d = true → wt d ≤ 16777216 → deepT k d
  | 0, n, m, d, h, hq, hw => ⟨okd_base h, small_of hq hw⟩
  | k + 1, n, m, d, h, hq, hw => by
    refine ⟨⟨okd_base h, small_of hq hw⟩, fun ds e => ?_⟩
    subst e
    cases n with
    | zero => unfold okd at h; cases h
    | succ n =>
      cases m with
      | zero => unfold okq at hq; cases hq
      | succ m =>
        unfold okd at h
        unfold okq at hq
        have hw : wts ds + 3 ≤ 16777216 := hw
        obtain ⟨h1, h2⟩ := items_of h hq (by omega)
        exact ⟨by omega, fun e he => deep_of k (h2 e he).1 (h2 e he).2.1 (h2 e he).2.2⟩
theorem vok_of {d : D} (h : okd 60 d = true) (hq : okq 60 d = true) (hw : wt d ≤ 16777216) : VOk d := by
  have z := shownOK_of h (by rw [sl_eq]; exact hw)
  have q := okq_ok 60 d hq
  have s := small_of hq hw
  have dp : DOk d := fun k => deep_of k h hq hw
  cases d with
  | dic _ _ => unfold okd at h; cases h
  | obj _ _ => unfold okd at h; cases h
  | exc _ _ => unfold okd at h; cases h
  | jar => unfold okd at h; cases h
  | non => exact ⟨(fun _ => shp_of hq), dp, rfl, z, okT_shown _ q.2.1, s, fun x e => by cases e⟩
  | bl b => exact ⟨(fun _ => shp_of hq), dp, rfl, z, okT_shown _ q.2.1, s, fun x e => by cases e⟩
  | int i => exact ⟨(fun _ => shp_of hq), dp, rfl, z, okT_shown _ q.2.1, s, fun x e => by cases e⟩
  | str _ => exact ⟨(fun _ => shp_of hq), dp, rfl, z, okT_shown _ q.2.1, s, fun x e => by cases e⟩
  | tup ds =>
    refine ⟨(fun _ => shp_of hq), dp, rfl, z, okT_shown _ q.2.1, s, fun x e => ?_⟩
    cases e
    unfold okd at h
    unfold okq at hq
    have hw : wts ds + 3 ≤ 16777216 := hw
    obtain ⟨h1, h2⟩ := small_all h hq (by omega)
    exact ⟨by omega, h2⟩
  | lst ds => exact ⟨(fun _ => shp_of hq), dp, rfl, z, okT_shown _ q.2.1, s, fun x e => by cases e⟩
theorem vok_dic {ks : List Key} {ds : List D} (h : dicOK ks ds) (hs : PyData.strOk (PyData.dict (dkv ks ds)).shown = true) : VOk (.dic ks ds) := ⟨(fun z => by cases z), fun n => (by cases n <;> first | exact ⟨rfl, fun x e => (by cases e)⟩ | exact ⟨⟨rfl, fun x e => (by cases e)⟩, fun x e => (by cases e)⟩), rfl, h, okT_of hs, fun x e => (by cases e), fun x e => (by cases e)⟩
def vokB : D → Bool
  | .dic ks ds => decide (dicOK ks ds) && PyData.strOk (PyData.dict (dkv ks ds)).shown
  | d => okd 60 d && okq 60 d && Nat.ble (wt d) 16777216
theorem vok_b {d : D} (h : vokB d = true) : VOk d := by
  have go : (okd 60 d && okq 60 d && Nat.ble (wt d) 16777216) = true → VOk d := fun h => by
    rw [Bool.and_eq_true, Bool.and_eq_true] at h
    exact vok_of h.1.1 h.1.2 (Nat.le_of_ble_eq_true h.2)
  cases d with
  | dic ks ds =>
    have h : (decide (dicOK ks ds) && PyData.strOk (PyData.dict (dkv ks ds)).shown) = true := h
    rw [Bool.and_eq_true] at h
    exact vok_dic (of_decide_eq_true h.1) h.2
  | non => exact go h
  | bl _ => exact go h
  | int _ => exact go h
  | str _ => exact go h
  | tup _ => exact go h
  | lst _ => exact go h
  | obj _ _ => exact go h
  | exc _ _ => exact go h
  | jar => exact go h
theorem VOk.repr {d : D} (h : VOk d) : reprX2 [d] = some (.str (DL.shw d)) := reprX2_ok h.shw
/-- isinstance(d, str) -/
def strB : D → Bool
  | .str _ => true
  | _ => false
def tupB : D → Bool
  | .tup _ => true
  | _ => false
theorem strB_of {d : D} (h : strB d = true) : ∃ x, d = st x := by
  cases d <;> first | exact ⟨_, rfl⟩ | cases h
theorem tupB_of {d : D} (h : tupB d = true) : ∃ x, d = .tup x := by
  cases d <;> first | exact ⟨_, rfl⟩ | cases h
/-! ### runs that raise -/
section
variable {A : DE} {EX : XP} {r : List Sl} {a b : List Sl → RS} {e e1 e2 : List Sl → R D} {i j : Nat} {x : XD}
theorem W_exprX (h : e r = .ex x) (k : EX x) : W (yExpr e) A EX r := W_eq (z := .ex x) (by unfold yExpr; rw [h]; rfl) k
theorem S_exprX (h : e r = .ex x) (k : EX x) : W (ySeq (yExpr e) b) A EX r := W_seq (W_exprX h k)
theorem W_raise {c : Nat} {f : List Sl → R (List D)} {d : D} (h : f r = .ok [d]) (k : EX ⟨c, some d⟩) : W (yRaise c f) A EX r := W_eq (z := .ex ⟨c, some d⟩) (by unfold yRaise; rw [h]; rfl) k
theorem Z_call {c : List D → R D} {f : List Sl → R (List D)} {ds : List D} (h : f r = .ok ds) : xCall c f r = c ds := by unfold xCall; rw [h, bind_ok, frcs_eq]
theorem cfI_X {N : List Str} {n m c : Nat} {cc : List Sl → RS} {ds : List D} (hl : ds.length = n) (h : W cc { nx := fun _ => False, rt := fun _ => False } (fun y => y = x) (startI N 0 c ds)) : cfI N n m c cc ds = .ex x := by
  unfold cfI
  rw [if_pos hl]
  rw [W_def] at h
  cases q : cc (startI N 0 c ds) with
  | nx r => rw [q] at h; exact h.elim
  | rt d => rw [q] at h; exact h.elim
  | bk r => rw [q] at h; exact h.elim
  | ct r => rw [q] at h; exact h.elim
  | rn d => rw [q] at h; exact h.elim
  | ex y => rw [q] at h; show R.ex y = _; rw [show y = x from h]
  | no => rw [q] at h; exact h.elim
end
section
variable {e e2 : List Sl → R D} {r : List Sl}
theorem E_tupTo {a : List D} {n : Nat} (h : e r = .ok (.tup a)) (h2 : e2 r = .ok (.int (n : Int))) : xSlice e oNone (oSome e2) r = .ok (.tup (a.take n)) := by
  unfold xSlice oSome
  rw [h, bind_ok, h2]
  show R.ok (D.tup (cutD a none (some (n : Int)))) = _
  rw [cutD_eq, cutN_to]
end
/-! ### tuples and lists of small things -/
structure Few (e : D) : Prop where
  d : okd 58 e = true
  q : okq 58 e = true
  w : wt e ≤ 1000
/-! ### one of several things, drawn -/
section
variable {sp : DSp} {X : FE} {c : List Sl → R D} {A : DE} {EX : XP} {r : List Sl} {i j : Nat} {d0 d : D}
end
end DL
/-! Refusals: a def's answer, whatever it is; orders with something otherwise. -/
namespace DL
open PySem L2 PyProof.Rows TP
theorem cf_is {N : List Str} {n : Nat} {c : List Sl → RS} {ds : List D} {Z : R D} (hl : ds.length = n) (h : W c { nx := fun _ => Z = .ok .non, rt := fun d => Z = .ok d } (fun x => Z = .ex x) (startD N ds)) : cfOf N n c ds = Z := by
  unfold cfOf
  rw [if_pos hl]
  unfold W at h
  cases q : c (startD N ds) with
  | nx r => rw [q] at h; exact (show Z = .ok .non from h).symm
  | rt d => rw [q] at h; exact (show Z = .ok d from h).symm
  | bk r => rw [q] at h; exact h.elim
  | ct r => rw [q] at h; exact h.elim
  | rn d => rw [q] at h; exact h.elim
  | ex x => rw [q] at h; exact (show Z = .ex x from h).symm
  | no => rw [q] at h; exact h.elim
/-- a value that may be asked for its kind, item by item -/
structure WOk (d : D) : Prop where
  base : isBase d = true
  tup : ∀ ds, d = .tup ds → ds.length ≤ 16777216 ∧ ∀ e ∈ ds, isBase e = true ∧ smallT e
theorem VOk.w {d : D} (h : VOk d) : WOk d := ⟨h.base, h.tup⟩
def txt : D → Tx
  | .str t => t.cps.toList
  | _ => []
def intB : D → Bool
  | .bl _ => true
  | .int _ => true
  | _ => false
theorem lit_eq {a b : Str} : eqX (.str a) (.str b) = some (.bl (decide (a.cps.toList = b.cps.toList))) := rfl
/-! ### a walk by places, with an early end -/
section
variable {σ : Type}
def walkG (step : σ → D → Option σ) : Nat → σ → List D → Sum Nat σ
  | _, s, [] => .inr s
  | n, s, d :: ds => match step s d with
    | some t => walkG step (n + 1) t ds
    | none => .inl n
theorem walkG_at {step : σ → D → Option σ} {n : Nat} {s : σ} {ds : List D} {d : D} (h : ds[n]? = some d) : walkG step n s (ds.drop n) = match step s d with
    | some t => walkG step (n + 1) t (ds.drop (n + 1))
    | none => .inl n := by
  obtain ⟨hk, e⟩ := List.getElem?_eq_some_iff.mp h
  rw [List.drop_eq_getElem_cons hk, e]; rfl
theorem range_at {n k : Nat} {p q : List Nat} (h : List.range n = p ++ k :: q) : k = p.length := by
  have h1 : (List.range n)[p.length]? = some k := by rw [h]; simp
  have h2 : p.length < n := by
    have := congrArg List.length h
    simp at this
    omega
  rw [List.getElem?_range h2] at h1
  exact (Option.some.inj h1).symm
theorem W_walk {A : DE} {EX : XP} {r : List Sl} {b : List Sl → RS} {s : List Sl → R (List D)} {g : D → List Sl → Option (List Sl)} {ds : List D} (step : σ → D → Option σ) (s0 : σ) (I : Nat → σ → List Sl → Prop) (hs : s r = .ok [.int (ds.length : Nat)]) (hl : ds.length < 1000000000) (h0 : I 0 s0 r)
    (hb : ∀ k t r d, ds[k]? = some d → I k t r → (step t d = none → walkG step 0 s0 ds = .inl k) → ∃ r1, g (.int k) r = some r1 ∧ W b { A with nx := fun r2 => ∃ u, step t d = some u ∧ I (k + 1) u r2, ct := fun r2 => ∃ u, step t d = some u ∧ I (k + 1) u r2, bk := A.nx } EX r1)
    (hk : ∀ t r, walkG step 0 s0 ds = .inr t → I ds.length t r → A.nx r) : W (yFor (iRng1 s) g b) A EX r := by
  refine W_for (em := fun k : Nat => .int k) (xs := List.range ds.length) (fun p r => ∃ t, I p.length t r ∧ walkG step 0 s0 ds = walkG step p.length t (ds.drop p.length)) (by rw [rng1_ok (n := ds.length) hs hl, rangeD_nat]) ⟨s0, h0, rfl⟩ ?_ ?_
  · rintro p k q hq r ⟨t, hi, hw⟩
    have hk : k < ds.length := range_pre hq
    have ek : k = p.length := range_at hq
    subst ek
    have hat : ds[p.length]? = some ds[p.length] := List.getElem?_eq_getElem hk
    have hw2 := hw.trans (walkG_at (step := step) (s := t) hat)
    obtain ⟨r1, e1, w⟩ := hb p.length t r _ hat hi (fun e => by rw [hw2, e])
    refine ⟨r1, e1, ?_⟩
    have fin : ∀ r2, (∃ u, step t ds[p.length] = some u ∧ I (p.length + 1) u r2) → ∃ t, I (p ++ [p.length]).length t r2 ∧ walkG step 0 s0 ds = walkG step (p ++ [p.length]).length t (ds.drop (p ++ [p.length]).length) := fun r2 ⟨u, e, hu⟩ => by
      refine ⟨u, ?_, ?_⟩
      · rw [List.length_append]; exact hu
      · rw [hw2, e, List.length_append]; rfl
    rw [W_def] at w ⊢
    cases z : b r1 with
    | nx r2 => rw [z] at w; exact fin r2 w
    | ct r2 => rw [z] at w; exact fin r2 w
    | bk r2 => rw [z] at w; exact w
    | rt d => rw [z] at w; exact w
    | rn d => rw [z] at w; exact w
    | ex x => rw [z] at w; exact w
    | no => rw [z] at w; exact w
  · rintro r ⟨t, hi, hw⟩
    rw [List.length_range] at hi hw
    refine hk t r (hw.trans ?_) hi
    rw [List.drop_length]; rfl
end
end DL
/-! Facts with something otherwise. -/
namespace DL
open PySem L2 PyProof.Rows TP
theorem dok_tup {ds : List D} (h : ∀ e ∈ ds, DOk e) (hl : ds.length ≤ 16777216) : DOk (.tup ds) := fun n => by
  cases n with
  | zero => exact ⟨rfl, fun x e => by cases e⟩
  | succ n => exact ⟨⟨rfl, fun x e => by cases e⟩, fun es e => by cases e; exact ⟨hl, fun x hx => h x hx n⟩⟩
theorem dok_st {x : Tx} (h : okT (sx x)) (hl : x.length ≤ 1677721) : DOk (st x) := fun n => by
  have a : isBase (st x) = true ∧ smallT (st x) := ⟨rfl, fun y e => by cases e; exact ⟨h, hl⟩⟩
  cases n with
  | zero => exact a
  | succ n => exact ⟨a, fun es e => by cases e⟩
theorem DOk.base {d : D} (h : DOk d) : isBase d = true := (h 0).1
theorem DOk.small {d : D} (h : DOk d) : smallT d := (h 0).2
theorem DOk.items {ds : List D} (h : DOk (.tup ds)) : ds.length ≤ 16777216 ∧ ∀ e ∈ ds, DOk e := ⟨((h 1).2 _ rfl).1, fun e he n => ((h (n + 1)).2 _ rfl).2 e he⟩
theorem DOk.w {d : D} (h : DOk d) : WOk d := ⟨h.base, fun ds e => by
  subst e
  exact ⟨h.items.1, fun x hx => ⟨(h.items.2 x hx).base, (h.items.2 x hx).small⟩⟩⟩
/-- a pair of texts -/
def pairOf : D → Option Fa
  | .tup [.str a, .str b] => some (a.cps.toList, b.cps.toList)
  | _ => none
theorem pairOf_some {d : D} {f : Fa} (h : pairOf d = some f) : d = fct f := by
  unfold pairOf at h
  split at h
  · cases h; rfl
  · cases h
theorem pairOf_two {a b : D} : pairOf (.tup [a, b]) = if strB a = true ∧ strB b = true then some (txt a, txt b) else none := by
  cases a <;> cases b <;> rfl
theorem pairOf_len {ds : List D} (h : ds.length ≠ 2) : pairOf (.tup ds) = none := by
  match ds, h with
  | [], _ => rfl
  | [a], _ => cases a <;> rfl
  | [_, _], h => exact absurd rfl h
  | a :: b :: c :: r, _ => cases a <;> cases b <;> rfl
theorem pairOf_not {d : D} (h : tupB d = false) : pairOf d = none := by
  cases d <;> first | rfl | cases h
/-- facts that some order agrees with -/
def FcE (s : List Int) (F : List Fa) : Prop := ∃ o, o.Perm (sets (full s)) ∧ Fc (full s) o F
theorem fcE_nil {s : List Int} : FcE s [] := ⟨sets (full s), .refl _, List.nodup_nil, fun f hf => (by cases hf), fun f hf => (by cases hf), fun f hf => (by cases hf), Nat.zero_le _⟩
/-- a pair of neighbours of the board -/
def isF (s : List Int) (f : Fa) : Bool := decide (f.1 ∈ sets (full s)) && decide (f.2 ∈ sets (full s)) && decide (dif f.1 f.2 = 1)
theorem isF_iff {s : List Int} {f : Fa} : isF s f = true ↔ f.1 ∈ sets (full s) ∧ f.2 ∈ sets (full s) ∧ dif f.1 f.2 = 1 := by
  unfold isF
  rw [Bool.and_eq_true, Bool.and_eq_true, decide_eq_true_iff, decide_eq_true_iff, decide_eq_true_iff, and_assoc]
noncomputable def letF (F : List Fa) (f : Fa) : Bool := !decide (f ∈ F) && !rch F f.2 f.1
noncomputable def facStep (s : List Int) (F : List Fa) (d : D) : Option (List Fa) := match pairOf d with
  | some f => if (isF s f && letF F f) = true then some (F ++ [f]) else none
  | none => none
theorem facStep_none {s : List Int} {F : List Fa} {d : D} (h : pairOf d = none) : facStep s F d = none := by unfold facStep; rw [h]
theorem facStep_fct {s : List Int} {F : List Fa} {f : Fa} : facStep s F (fct f) = if (isF s f && letF F f) = true then some (F ++ [f]) else none := rfl
theorem fcE_add {s : List Int} {F : List Fa} {f : Fa} (h : FcE s F) (h30 : (sets (full s)).length ≤ 30) (hf : isF s f = true) (hl : letF F f = true) : FcE s (F ++ [f]) := by
  obtain ⟨o, hp, hc⟩ := h
  unfold isF at hf
  rw [Bool.and_eq_true, Bool.and_eq_true, decide_eq_true_iff, decide_eq_true_iff, decide_eq_true_iff] at hf
  obtain ⟨⟨h1, h2⟩, h3⟩ := hf
  unfold letF at hl
  rw [Bool.and_eq_true, Bool.not_eq_true', Bool.not_eq_true', decide_eq_false_iff_not] at hl
  have nr : ¬ Reach F f.2 f.1 := rch_false.mp hl.2
  have m1 : f.1 ∈ o := hp.mem_iff.mpr h1
  have m2 : f.2 ∈ o := hp.mem_iff.mpr h2
  have nd : (F ++ [f]).Nodup := by
    rw [List.nodup_append]
    refine ⟨hc.nd, List.nodup_cons.mpr ⟨(fun z => by cases z), List.nodup_nil⟩, fun a ha b hb e => ?_⟩
    rw [List.mem_singleton.mp hb] at e
    exact hl.1 (e ▸ ha)
  have mem : ∀ g ∈ F ++ [f], g.1 ∈ o ∧ g.2 ∈ o := fun g hg => by
    rcases List.mem_append.mp hg with hg | hg
    · exact hc.mem g hg
    · rw [List.mem_singleton.mp hg]; exact ⟨m1, m2⟩
  have pm : ∀ x, x ∈ ahead F o f.1 ↔ x ∈ o := fun x => ahead_perm.mem_iff
  refine ⟨ahead F o f.1, ahead_perm.trans hp, nd, fun g hg => ⟨(pm _).mpr (mem g hg).1, (pm _).mpr (mem g hg).2⟩, fun g hg => ?_, fun g hg => ?_, ?_⟩
  · rcases List.mem_append.mp hg with hg | hg
    · exact hc.near g hg
    · rw [List.mem_singleton.mp hg]; exact h3
  · rcases List.mem_append.mp hg with hg | hg
    · exact ahead_agr hc.agr hc.mem g hg
    · rw [List.mem_singleton.mp hg]
      exact ahead_lt m1 nr
  · have sub : (F ++ [f]) ⊆ o.flatMap fun x => o.map fun y => (x, y) := fun g hg => by
      rw [List.mem_flatMap]
      exact ⟨g.1, (mem g hg).1, List.mem_map.mpr ⟨g.2, (mem g hg).2, rfl⟩⟩
    have l1 := List.Nodup.length_le_of_subset nd sub
    have l2 := len_flat (f := fun x => o.map fun y => (x, y)) (k := o.length) (p := o) fun x _ => by rw [List.length_map]; exact Nat.le_refl _
    have l3 : o.length ≤ 30 := by rw [hp.length_eq]; exact h30
    have l4 := Nat.mul_le_mul l3 l3
    omega
theorem FcE.plain {s : List Int} {F : List Fa} (ok : OkS s) (h : FcE s F) : ∀ f ∈ F, Plain f.1 ∧ Plain f.2 := by
  obtain ⟨o, hp, hc⟩ := h
  exact fc_plain ok hp hc
theorem FcE.few {s : List Int} {F : List Fa} (h : FcE s F) : F.length ≤ 900 := by
  obtain ⟨o, hp, hc⟩ := h
  exact hc.few
/-- where facts slip -/
noncomputable def facSlip (s : List Int) : D → Option D
  | .tup ds => match walkG (facStep s) 0 [] ds with
    | .inl k => some (.int k)
    | .inr _ => none
  | _ => some .non
theorem facSlip_tup {s : List Int} {ds : List D} : facSlip s (.tup ds) = match walkG (facStep s) 0 [] ds with
    | .inl k => some (.int k)
    | .inr _ => none := rfl
theorem facSlip_not {s : List Int} {d : D} (h : tupB d = false) : facSlip s d = some .non := by
  cases d <;> first | rfl | cases h
theorem fcts_take {ds : List D} {k : Nat} {F : List Fa} {f : Fa} (hat : ds[k]? = some (fct f)) (h2 : ds.take k = fcts F) : ds.take (k + 1) = fcts (F ++ [f]) := by
  rw [List.take_succ, hat, h2, fcts_app]; rfl
end DL
/-! One peak in each part: no crossed square, no second peak. -/
namespace DL
open PySem L2 PyProof.Rows TP
section
variable {s : List Int} {o rs : List Tx}
end
end DL
/-! Sizes of boards, right and wrong ones; texts of boards. -/
namespace DL
open PySem L2 PyProof.Rows TP
end DL
/-! Own objects asked for equality; rankings of drawn lines; texts shown twice. -/
namespace DL
open PySem L2 PyProof.Rows TP
section
variable {e1 e2 : List Sl → R D} {r : List Sl}
theorem boolOX_ok {c : Nat} {m : List D → R D} {fs : List D} {z : Bool} (h : m [.obj c fs] = .ok (.bl z)) : boolOX c m [.obj c fs] = some (.bl z) := by
  unfold boolOX
  dsimp only
  rw [if_pos rfl, h]
theorem neOX_ok {c : Nat} {m : List D → R D} {fs gs : List D} {b : Bool} (h : m [.obj c fs, .obj c gs] = .ok (.bl b)) : neOX c m (.obj c fs) (.obj c gs) = some (.bl (!b)) := by
  unfold neOX
  rw [eqOX_ok h]
theorem eqLWX_ok {c : Nat} {cs : List Nat} {m : List D → R D} {n b : Bool} {fs : List D} {y : D} (hk : kindW cs y = true) (h : m [.obj c fs, y] = .ok (.bl b)) : eqLWX c cs m n (.obj c fs) y = some (.bl (n != b)) := by
  unfold eqLWX
  dsimp only
  rw [if_pos (by rw [hk, decide_eq_true rfl]; rfl), h]; rfl
theorem eqRWX_kind {c c2 : Nat} {m m2 : List D → R D} {b : Bool} {fs : List D} {x : D} (hk : kindB x = true) (h : m [.obj c fs, x] = .ok (.bl b)) : eqRWX c c2 m m2 x (.obj c fs) = some (.bl b) := by
  unfold eqRWX
  dsimp only
  rw [if_pos rfl]
  cases x <;> first | (cases hk; done) | skip
  all_goals
    dsimp only
    rw [if_pos hk, h]
    cases b <;> rfl
theorem eqRWX_obj {c c2 : Nat} {m m2 : List D → R D} {b : Bool} {fs gs : List D} (h : m2 [.obj c2 gs, .obj c fs] = .ok (.bl b)) : eqRWX c c2 m m2 (.obj c2 gs) (.obj c fs) = some (.bl b) := by
  unfold eqRWX
  dsimp only
  rw [if_pos rfl, if_pos rfl, h]
  cases b <;> rfl
/-- the same shown twice -/
theorem E_reprs2 {d : D} (ha : e1 r = .ok d) (hb : e2 r = .ok d) (h : shwOK d) : x2 neX (xCa reprX2 (xCons e1 xNil)) (xCa reprX2 (xCons e2 xNil)) r = .ok (.bl false) :=
  E_2 (E_ca (E_cons ha E_nil) (reprX2_ok h)) (E_ca (E_cons hb E_nil) (reprX2_ok h)) neX_str
theorem rigs_ints : ∀ {s : List Int}, rigs (s.map D.int) = true
  | [] => rfl
  | z :: s => by
    show (rig (.int z) && rigs (s.map D.int)) = true
    rw [rigs_ints (s := s)]; rfl
theorem rigs_sts : ∀ {l : List Tx}, rigs (sts l) = true
  | [] => rfl
  | z :: s => by
    show (rig (st z) && rigs (sts s)) = true
    rw [rigs_sts (l := s)]; rfl
theorem rigs_bd {s : List Int} {l : List Tx} : rigs [.tup [.tup (s.map D.int), .tup (sts l)]] = true := by
  show (rigs [.tup (s.map D.int), .tup (sts l)] && true) = true
  show ((rigs (s.map D.int) && (rigs (sts l) && true)) && true) = true
  rw [rigs_ints, rigs_sts]; rfl
theorem eqPX_ok {c : Nat} {m : List D → R D} {fs gs : List D} {t u : D} (h1 : rigs fs = true) (h2 : rigs gs = true) (h3 : shpB t = true) (h4 : shpB u = true) {b : Bool} (hb : b = true ∨ samesB fs gs = false) (h : m [.obj c fs, .obj c gs] = .ok (.bl b)) : eqPX c m (.tup [.obj c fs, t]) (.tup [.obj c gs, u]) = some (.bl (b && eqb t u)) := by
  unfold eqPX
  dsimp only
  rw [if_pos (by rw [h1, h2, h3, h4, decide_eq_true rfl]; rfl), h]
  dsimp only
  rw [if_pos (by rcases hb with rfl | hb <;> simp_all)]
end
/-- the text of a board -/
def dig (s : List Int) : Tx := s.map fun z => z.toNat + 48
end DL
/-! Shown answers side by side; texts of boards; tuples of ints. -/
namespace DL
open PySem L2 PyProof.Rows TP
theorem shw_bls3 {a b c : Bool} : shwOK (.lst [.bl a, .bl b, .bl c]) := by
  have h : ∀ a b c : Bool, vokB (.lst [.bl a, .bl b, .bl c]) = true := by decide +kernel
  exact (vok_b (h a b c)).shw
section
variable {e1 e2 e3 : List Sl → R D} {r : List Sl}
theorem three_no (h1 : e1 r = .ok (.bl false)) (h2 : e2 r = .ok (.bl false)) (h3 : e3 r = .ok (.bl true)) :
    xTb (x2 neX (xCa reprX2 (xCons (xL (xLst (xCons e1 (xCons e2 (xCons e3 xNil))))) xNil)) (xC (.str "[False, False, True]"))) r = .ok false := by
  refine E_tb (E_2 (E_ca (E_cons (E_L (E_lst (E_cons h1 (E_cons h2 (E_cons h3 E_nil))) (Nat.le_of_ble_eq_true rfl))) E_nil) (reprX2_ok shw_bls3)) rfl ?_)
  have e : DL.shw (.lst [.bl false, .bl false, .bl true]) = ("[False, False, True]" : Str) := by decide +kernel
  rw [e]
  exact neX_str
theorem three_due {b : Bool} {i : Nat} (h1 : e1 r = .ok (.bl b)) (h2 : e2 r = .ok (.bl b)) (h3 : e3 r = .ok (.bl (!b))) (hi : xVar i r = .ok (.bl b)) :
    xTb (x2 neX (xCa reprX2 (xCons (xL (xLst (xCons e1 (xCons e2 (xCons e3 xNil))))) xNil)) (xCa reprX2 (xCons (xL (xLst (xCons (xVar i) (xCons (xVar i) (xCons (xNot (xVar i)) xNil))))) xNil))) r = .ok false :=
  E_tb (E_reprs2 (d := .lst [.bl b, .bl b, .bl (!b)]) (E_L (E_lst (E_cons h1 (E_cons h2 (E_cons h3 E_nil))) (Nat.le_of_ble_eq_true rfl))) (E_L (E_lst (E_cons hi (E_cons hi (E_cons (E_not hi) E_nil))) (Nat.le_of_ble_eq_true rfl))) shw_bls3)
end
/-! ### the text of a board -/
theorem str_size {z : Int} (h : z = 2 ∨ z = 3) : strCX2 [.int z] = some (st [z.toNat + 48]) := by
  have e2 : (toString (2 : Int) : Str) = sx [50] := by decide +kernel
  have e3 : (toString (3 : Int) : Str) = sx [51] := by decide +kernel
  rcases h with rfl | rfl
  · show some (D.str (toString (2 : Int) : Str)) = _
    rw [e2]; rfl
  · show some (D.str (toString (3 : Int) : Str)) = _
    rw [e3]; rfl
theorem dig_plain {s : List Int} (ok : OkS s) : Plain (dig s) := ⟨by unfold dig; rw [List.length_map]; exact ok.len, fun c hc => by
  obtain ⟨z, hz, rfl⟩ := List.mem_map.mp hc
  rcases ok.two z hz with rfl | rfl <;> decide⟩
def joinB (s : List Int) : Bool := (match joinX ("" : Str) (.lst (s.map fun z => st [z.toNat + 48])) with
  | some (.str z) => decide (z.cps.toList = dig s)
  | _ => false) && decide ((sets (full s)).length ≤ 48)
theorem all_joins : ∀ s ∈ spansOf 48, joinB s = true := by decide +kernel
theorem join_dig {s : List Int} (h : s ∈ spansOf 48) : joinX ("" : Str) (.lst (s.map fun z => st [z.toNat + 48])) = some (st (dig s)) := by
  have z := all_joins s h
  unfold joinB at z
  rw [Bool.and_eq_true] at z
  have z1 := z.1
  split at z1
  · rename_i t e
    rw [e]
    have := of_decide_eq_true z1
    rw [← this]; rfl
  · cases z1
/-- ''.join([str(size) for size in spans]) -/
theorem page_ok {s : List Int} (h : s ∈ spansOf 48) {i j : Nat} {r : List Sl} (hi : xVar i (wipeD r [j]) = .ok (.tup (s.map D.int))) (hw : xVar i r = .ok (.tup (s.map D.int))) (hj : j < r.length) : xStr1 joinX (xC (.str "")) (xL (xLc (iA (xVar i)) [j] (yVar j) xYes (xCa strCX2 (xCons (xVar j) xNil)))) r = .ok (st (dig s)) := by
  have ok := okS_of h
  have e1 : xL (xLc (iA (xVar i)) [j] (yVar j) xYes (xCa strCX2 (xCons (xVar j) xNil))) r = .ok (.lst (s.map fun z => st [z.toNat + 48])) := by
    refine (E_L (xLc_ok (e := D.int) (xs := s) (fun _ => true) (fun z => st [z.toNat + 48]) (iA_ok hw rfl) (Nat.le_trans ok.len (by decide)) fun z hz => ⟨(wipeD r [j]).set j (.val (.int z)), rfl, rfl, fun _ => E_ca (E_cons ?_ E_nil) (str_size (ok.two z hz))⟩)).trans (by rw [filter_tt])
    have hl2 : j < (wipeD r [j]).length := by
      show j < (r.set j .un).length
      rw [List.length_set]; exact hj
    unfold xVar
    rw [List.getElem?_set_self hl2]
  unfold xStr1
  show (R.ok (D.str "")).bind _ = _
  rw [bind_ok]
  dsimp only
  rw [e1, bind_ok, join_dig h]; rfl
end DL
/-! Texts of notes: lines of words, joined and split. -/
namespace DL
open PySem L2 PyProof.Rows TP TL
theorem join_sx {p : Tx} {L : List Tx} : Txt.join (sx p) (L.map sx) = sx (joinL p L) := by
  rw [TL.join_eq]
  refine ext_tl ?_
  rw [tl_join, List.map_map]
  have e : (tl ∘ sx : Tx → List Nat) = id := rfl
  rw [e, List.map_id]; rfl
theorem joinL_len {p : Tx} : ∀ (L : List Tx), (joinL p L).length ≤ (L.map (·.length)).sum + L.length * p.length
  | [] => by simp [joinL]
  | [l] => by simp [joinL]
  | l :: q :: r => by
    have ih := joinL_len (p := p) (q :: r)
    show (l ++ (p ++ joinL p (q :: r))).length ≤ _
    simp only [List.length_append, List.map_cons, List.sum_cons, List.length_cons, Nat.succ_mul] at ih ⊢
    omega
theorem joinX_sts {p : Tx} {L : List Tx} (hb : (L.map (·.length)).sum + L.length * p.length ≤ 16777216) : joinX (sx p) (.lst (sts L)) = some (st (joinL p L)) := by
  show (strsOf (sts L)).bind (fun ys => gd ((ys.map (·.length)).sum + ys.length * (sx p).length ≤ 16777216) (D.str (Txt.join (sx p) ys))) = _
  rw [strsOf_sts]
  show gd (((L.map sx).map (·.length)).sum + (L.map sx).length * (sx p).length ≤ 16777216) (D.str (Txt.join (sx p) (L.map sx))) = _
  have e : (L.map sx).map (·.length) = L.map (·.length) := by
    rw [List.map_map]
    exact List.map_congr_left fun x _ => sx_len
  rw [join_sx, gd_pos (by rw [e, List.length_map, sx_len]; exact hb)]
theorem splitX_sts {c : Nat} (hc : c < 256) {L : List Tx} (hne : L ≠ []) (hp : ∀ l ∈ L, c ∉ l) (hl : (joinL [c] L).length + 2 ≤ 16777216) : splitX (sx (joinL [c] L)) (st [c]) = some (.lst (sts L)) := by
  have h : Txt.split (sx (joinL [c] L)) (sx [c]) = L.map sx := by
    rw [← join_sx]
    refine TL.split_join (s := c) (S := []) rfl ?_ (fun e => hne (List.map_eq_nil_iff.mp e)) fun p h => ?_
    · show (#[c] : Array Nat).all (· < 256) = true
      simp [hc]
    · obtain ⟨l, ml, rfl⟩ := List.mem_map.mp h
      exact hp l ml
  unfold splitX
  dsimp only
  have g : (!((sx [c]).length == 0) && decide ((sx (joinL [c] L)).length + 2 ≤ 16777216)) = true := by
    rw [sx_len, sx_len, decide_eq_true hl]; rfl
  rw [if_pos g, h, List.map_map]; rfl
/-! ### the words and lines of notes -/
def bw : Tx := [98, 111, 97, 114, 100]
def hdT (s : List Int) : Tx := joinL [32] [bw, dig s]
def lnT (f : Fa) : Tx := joinL [32] [f.1, [60], f.2]
def linesT (s : List Int) (F : List Fa) : List Tx := hdT s :: F.map lnT
def pageT (s : List Int) (F : List Fa) : Tx := joinL [10] (linesT s F)
theorem hdT_eq {s : List Int} : hdT s = bw ++ [32] ++ dig s := by simp [hdT, joinL]
theorem lnT_eq {f : Fa} : lnT f = f.1 ++ [32, 60, 32] ++ f.2 := by simp [lnT, joinL]
theorem lnT_eq4 {f : Fa} : lnT f = f.1 ++ [32] ++ [60] ++ [32] ++ f.2 := by simp [lnT, joinL]
/-- nothing but figures -/
def figs (x : Tx) : Prop := ∀ c ∈ x, 48 ≤ c ∧ c ≤ 51
theorem figs_fits : ∀ {x : Tx} {ps : List Tx}, (∀ p ∈ ps, figs p) → fits x ps → figs x
  | [], _, _, _ => fun c h => (by cases h)
  | c :: x, [], _, h => h.elim
  | c :: x, p :: ps, hp, h => fun d hd => by
    rcases List.mem_cons.mp hd with rfl | hd
    · exact hp p List.mem_cons_self _ h.1
    · exact figs_fits (fun q hq => hp q (List.mem_cons_of_mem _ hq)) h.2 d hd
theorem figs_set {s : List Int} (ok : OkS s) {x : Tx} (h : x ∈ sets (full s)) : figs x := figs_fits (fun p hp => by
  unfold full at hp
  obtain ⟨z, hz, rfl⟩ := List.mem_map.mp hp
  have a2 : ∀ c ∈ standsOf 2, 48 ≤ c ∧ c ≤ 51 := by decide
  have a3 : ∀ c ∈ standsOf 3, 48 ≤ c ∧ c ≤ 51 := by decide
  rcases ok.two z hz with rfl | rfl
  · exact a2
  · exact a3) (mem_sets.mp h)
theorem figs_dig {s : List Int} (ok : OkS s) : figs (dig s) := fun c hc => by
  obtain ⟨z, hz, rfl⟩ := List.mem_map.mp hc
  rcases ok.two z hz with rfl | rfl <;> decide
/-- facts as texts: of the board's settings -/
def FcT (s : List Int) (F : List Fa) : Prop := (∀ f ∈ F, f.1 ∈ sets (full s) ∧ f.2 ∈ sets (full s)) ∧ F.length ≤ 900
section
variable {s : List Int} {F : List Fa}
theorem hd_words (ok : OkS s) : splitX (sx (hdT s)) (st [32]) = some (.lst (sts [bw, dig s])) := by
  have hl := (dig_plain ok).len
  refine splitX_sts (by decide) (by simp) (fun l ml => ?_) (Nat.le_trans (Nat.add_le_add_right (joinL_len _) 2) ?_)
  · rcases List.mem_cons.mp ml with rfl | ml
    · decide
    · rw [List.mem_singleton.mp ml]
      intro h
      have := figs_dig ok 32 h
      omega
  · simp [bw]
    omega
theorem ln_words (ok : OkS s) {f : Fa} (h1 : f.1 ∈ sets (full s)) (h2 : f.2 ∈ sets (full s)) : splitX (sx (lnT f)) (st [32]) = some (.lst (sts [f.1, [60], f.2])) := by
  have l1 := (plain_sets ok _ h1).len
  have l2 := (plain_sets ok _ h2).len
  refine splitX_sts (by decide) (by simp) (fun l ml => ?_) (Nat.le_trans (Nat.add_le_add_right (joinL_len _) 2) ?_)
  · rcases List.mem_cons.mp ml with rfl | ml
    · intro h
      have := figs_set ok h1 32 h
      omega
    rcases List.mem_cons.mp ml with rfl | ml
    · decide
    · rw [List.mem_singleton.mp ml]
      intro h
      have := figs_set ok h2 32 h
      omega
  · simp
    omega
theorem hd_len (ok : OkS s) : (hdT s).length ≤ 11 := by
  have hl := (dig_plain ok).len
  rw [hdT_eq]
  simp [bw]
  omega
theorem ln_len (ok : OkS s) {f : Fa} (h1 : f.1 ∈ sets (full s)) (h2 : f.2 ∈ sets (full s)) : (lnT f).length ≤ 13 := by
  have l1 := (plain_sets ok _ h1).len
  have l2 := (plain_sets ok _ h2).len
  rw [lnT_eq]
  simp
  omega
theorem sum_few {α : Type} {f : α → Nat} {k : Nat} : ∀ {l : List α}, (∀ x ∈ l, f x ≤ k) → (l.map f).sum ≤ l.length * k
  | [], _ => by simp
  | x :: l, h => by
    have h1 := h x List.mem_cons_self
    have h2 := sum_few (l := l) fun y hy => h y (List.mem_cons_of_mem _ hy)
    rw [List.map_cons, List.sum_cons, List.length_cons, Nat.succ_mul]
    omega
theorem lines_len (ok : OkS s) (h : FcT s F) : ∀ l ∈ linesT s F, l.length ≤ 13 := fun l ml => by
  unfold linesT at ml
  rcases List.mem_cons.mp ml with rfl | ml
  · have := hd_len ok; omega
  · obtain ⟨f, mf, rfl⟩ := List.mem_map.mp ml
    exact ln_len ok (h.1 f mf).1 (h.1 f mf).2
theorem lines_few (h : FcT s F) : (linesT s F).length ≤ 901 := by
  unfold linesT
  rw [List.length_cons, List.length_map]
  have := h.2
  omega
theorem lines_sum (ok : OkS s) (h : FcT s F) : ((linesT s F).map (·.length)).sum + (linesT s F).length * 1 ≤ 12614 := by
  have a := sum_few (f := fun l : Tx => l.length) (lines_len ok h)
  have b := lines_few h
  show ((linesT s F).map fun l : Tx => l.length).sum + (linesT s F).length * 1 ≤ 12614
  omega
theorem page_join (ok : OkS s) (h : FcT s F) : joinX (sx [10]) (.lst (sts (linesT s F))) = some (st (pageT s F)) :=
  joinX_sts (p := [10]) (Nat.le_trans (lines_sum ok h) (by decide))
theorem page_len (ok : OkS s) (h : FcT s F) : (pageT s F).length ≤ 12614 := Nat.le_trans (joinL_len (p := [10]) _) (lines_sum ok h)
theorem page_split (ok : OkS s) (h : FcT s F) : splitX (sx (pageT s F)) (st [10]) = some (.lst (sts (linesT s F))) := by
  refine splitX_sts (by decide) (by unfold linesT; simp) (fun l ml => ?_) (Nat.le_trans (Nat.add_le_add_right (page_len ok h) 2) (by decide))
  unfold linesT at ml
  rcases List.mem_cons.mp ml with rfl | ml
  · rw [hdT_eq]
    intro z
    simp only [List.mem_append, List.mem_singleton] at z
    rcases z with (z | z) | z
    · revert z; decide
    · omega
    · have := figs_dig ok 10 z; omega
  · obtain ⟨f, mf, rfl⟩ := List.mem_map.mp ml
    rw [lnT_eq]
    intro z
    simp only [List.mem_append] at z
    rcases z with (z | z) | z
    · have := figs_set ok (h.1 f mf).1 10 z; omega
    · revert z; decide
    · have := figs_set ok (h.1 f mf).2 10 z; omega
theorem page_okT (ok : OkS s) (h : FcT s F) : okT (sx (pageT s F)) := by
  have go : ∀ (L : List Tx), (∀ l ∈ L, ∀ c ∈ l, c < 1114112) → ∀ c ∈ joinL [10] L, c < 1114112 := by
    intro L
    induction L with
    | nil => intro _ c hc; simp [joinL] at hc
    | cons l L ih =>
      intro hL c hc
      cases L with
      | nil => exact hL l List.mem_cons_self c hc
      | cons q r =>
        have hc : c ∈ l ++ ([10] ++ joinL [10] (q :: r)) := hc
        rcases List.mem_append.mp hc with hc | hc
        · exact hL l List.mem_cons_self c hc
        rcases List.mem_append.mp hc with hc | hc
        · rw [List.mem_singleton.mp hc]; decide
        · exact ih (fun l hl => hL l (List.mem_cons_of_mem _ hl)) c hc
  refine go _ fun l ml c hc => ?_
  unfold linesT at ml
  rcases List.mem_cons.mp ml with rfl | ml
  · rw [hdT_eq] at hc
    simp only [List.mem_append, List.mem_singleton] at hc
    rcases hc with (z | z) | z
    · have : ∀ c ∈ bw, c < 1114112 := by decide
      exact this c z
    · omega
    · have := figs_dig ok c z; omega
  · obtain ⟨f, mf, rfl⟩ := List.mem_map.mp ml
    rw [lnT_eq] at hc
    simp only [List.mem_append] at hc
    rcases hc with (z | z) | z
    · have := figs_set ok (h.1 f mf).1 c z; omega
    · have : ∀ c ∈ [32, 60, 32], c < 1114112 := by decide
      exact this c z
    · have := figs_set ok (h.1 f mf).2 c z; omega
end
section
variable {e e2 : List Sl → R D} {r : List Sl}
theorem E_lstFrom {a : List D} {n : Nat} (h : e r = .ok (.lst a)) (h2 : e2 r = .ok (.int (n : Int))) : xSlice e (oSome e2) oNone r = .ok (.lst (a.drop n)) := by
  unfold xSlice oSome
  rw [h, bind_ok, h2]
  show R.ok (D.lst (cutD a (some (n : Int)) none)) = _
  rw [cutD_eq, cutN_from]
theorem E_split {z : Str} {y d : D} (h : e r = .ok (.str z)) (h2 : e2 r = .ok y) (h3 : splitX z y = some d) : xStr1 splitX e e2 r = .ok d := by
  unfold xStr1
  rw [h, bind_ok]
  dsimp only
  rw [h2, bind_ok, h3]; rfl
theorem E_join {z : Str} {y d : D} (h : e r = .ok (.str z)) (h2 : e2 r = .ok y) (h3 : joinX z y = some d) : xStr1 joinX e e2 r = .ok d := by
  unfold xStr1
  rw [h, bind_ok]
  dsimp only
  rw [h2, bind_ok, h3]; rfl
end
/-- facts that an order agrees with slip nowhere -/
theorem fac_walk {s : List Int} {o : List Tx} {F : List Fa} (hp : o.Perm (sets (full s))) (hc : Fc (full s) o F) : ∀ (n k : Nat), n + k = F.length → walkG (facStep s) k (F.take k) (fcts (F.drop k)) = .inr F
  | 0, k, e => by
    rw [List.drop_of_length_le (by omega), List.take_of_length_le (by omega)]; rfl
  | n + 1, k, e => by
    have hk : k < F.length := by omega
    have ih := fac_walk hp hc n (k + 1) (by omega)
    obtain ⟨l1, l2⟩ := hc.let hk
    have mk : F[k] ∈ F := List.getElem_mem hk
    rw [List.drop_eq_getElem_cons hk]
    show walkG (facStep s) k (F.take k) (fct F[k] :: fcts (F.drop (k + 1))) = _
    unfold walkG
    have h1 : isF s F[k] = true := isF_iff.mpr ⟨hp.mem_iff.mp (hc.mem _ mk).1, hp.mem_iff.mp (hc.mem _ mk).2, hc.near _ mk⟩
    have h2 : letF (F.take k) F[k] = true := by unfold letF; rw [decide_eq_false l1, l2]; rfl
    rw [facStep_fct, h1, h2, if_pos (by rfl)]
    dsimp only
    rw [List.take_succ, List.getElem?_eq_getElem hk] at ih
    exact ih
theorem fac_none {s : List Int} {o : List Tx} {F : List Fa} (hp : o.Perm (sets (full s))) (hc : Fc (full s) o F) : facSlip s (.tup (fcts F)) = none := by
  rw [facSlip_tup]
  have h := fac_walk hp hc F.length 0 (by omega)
  rw [List.drop_zero, List.take_zero] at h
  rw [h]
theorem dok_fcts {F : List Fa} (h : ∀ f ∈ F, Plain f.1 ∧ Plain f.2) (hl : F.length ≤ 900) : DOk (.tup (fcts F)) := dok_tup (fun e he => by
  obtain ⟨f, hf, rfl⟩ := List.mem_map.mp he
  have go : ∀ {x : Tx}, Plain x → DOk (st x) := fun p => dok_st (fun c hc => Nat.lt_trans (p.lt c hc) (by decide)) (by have := p.len; omega)
  refine dok_tup (ds := [st f.1, st f.2]) (fun e he => ?_) (Nat.le_of_ble_eq_true rfl)
  rcases List.mem_cons.mp he with rfl | he
  · exact go (h f hf).1
  · rw [List.mem_singleton.mp he]; exact go (h f hf).2) (by rw [fcts_len]; omega)
theorem W_tryOk {n : Nat} {b : List Sl → RS} {l : List HdY} {r : List Sl} {A : DE} {EX : XP} {d : D} (h : b r = .rt d) (k : A.rt d) : W (yTry n b l) A EX r := W_eq (z := .rt d) (by unfold yTry; rw [h]) k
theorem yRet_ok {e : List Sl → R D} {r : List Sl} {d : D} (h : e r = .ok d) : yRet e r = .rt d := by unfold yRet; rw [h]; rfl
theorem W_un {b : List Sl → RS} {A : DE} {EX : XP} {r : List Sl} (h : W b A EX (Sl.un :: r)) : W (fun r => b (Sl.un :: r)) A EX r := by
  rw [W_def] at h ⊢
  exact h
theorem eqb_fcts {a b : List Fa} : eqb (.tup (fcts a)) (.tup (fcts b)) = decide (a = b) := by
  unfold eqb pd PyData.eqv
  exact eqvAll_fcts
theorem shp_fcts {a : List Fa} (ha : ∀ f ∈ a, Plain f.1 ∧ Plain f.2) : shpB (.tup (fcts a)) = true := shp_of (okq_tup (okqs_fcts ha))
theorem eqX_fcts {a b : List Fa} (ha : ∀ f ∈ a, Plain f.1 ∧ Plain f.2) (hb : ∀ f ∈ b, Plain f.1 ∧ Plain f.2) : eqX (.tup (fcts a)) (.tup (fcts b)) = some (.bl (decide (a = b))) := by
  show gd ((shpB (.tup (fcts a)) && shpB (.tup (fcts b))) = true) (.bl (eqb (.tup (fcts a)) (.tup (fcts b)))) = _
  rw [gd_pos (by rw [shp_fcts ha, shp_fcts hb]; rfl), eqb_fcts]
theorem okd_fctsN {n : Nat} {F : List Fa} (h : ∀ f ∈ F, Plain f.1 ∧ Plain f.2) : okd (n + 2) (.tup (fcts F)) = true := by
  refine okd_tup (okds_map fun f hf => okd_tup (okds_sts (xs := [f.1, f.2]) fun x hx => ?_))
  rcases List.mem_cons.mp hx with e | e
  · rw [e]; exact (h f hf).1
  · rw [List.mem_singleton.mp e]; exact (h f hf).2
theorem wt_fcts {F : List Fa} (h : ∀ f ∈ F, Plain f.1 ∧ Plain f.2) : wt (.tup (fcts F)) ≤ F.length * 113 + 3 := by
  have h1 := wts_map (f := fct) (k := 111) (xs := F) fun f hf => by
    have a := wt_st (h f hf).1
    have b := wt_st (h f hf).2
    show wt (st f.1) + 2 + (wt (st f.2) + 2 + 0) + 3 ≤ 111
    omega
  show wts (fcts F) + 3 ≤ _
  unfold fcts
  omega
theorem FcT.plain {s : List Int} {F : List Fa} (ok : OkS s) (h : FcT s F) : ∀ f ∈ F, Plain f.1 ∧ Plain f.2 := fun f hf => ⟨plain_sets ok _ (h.1 f hf).1, plain_sets ok _ (h.1 f hf).2⟩
theorem fc_texts {s : List Int} {o : List Tx} {F : List Fa} (hp : o.Perm (sets (full s))) (hc : Fc (full s) o F) : FcT s F := ⟨fun f hf => ⟨hp.mem_iff.mp (hc.mem f hf).1, hp.mem_iff.mp (hc.mem f hf).2⟩, hc.few⟩
/-- the words of a line -/
def wds (l : Tx) : D := (splitX (sx l) (st [32])).getD .non
theorem wds_hd {s : List Int} (ok : OkS s) : wds (hdT s) = .lst (sts [bw, dig s]) := by unfold wds; rw [hd_words ok]; rfl
theorem wds_ln {s : List Int} (ok : OkS s) {f : Fa} (h1 : f.1 ∈ sets (full s)) (h2 : f.2 ∈ sets (full s)) : wds (lnT f) = .lst (sts [f.1, [60], f.2]) := by unfold wds; rw [ln_words ok h1 h2]; rfl
theorem wds_split {s : List Int} {F : List Fa} (ok : OkS s) (h : FcT s F) {l : Tx} (ml : l ∈ linesT s F) : splitX (sx l) (st [32]) = some (wds l) := by
  unfold linesT at ml
  rcases List.mem_cons.mp ml with rfl | ml
  · rw [wds_hd ok, hd_words ok]
  · obtain ⟨f, mf, rfl⟩ := List.mem_map.mp ml
    rw [wds_ln ok (h.1 f mf).1 (h.1 f mf).2, ln_words ok (h.1 f mf).1 (h.1 f mf).2]
def wdsF (f : Fa) : D := .lst (sts [f.1, [60], f.2])
theorem wds_lines {s : List Int} {F : List Fa} (ok : OkS s) (h : FcT s F) : (linesT s F).map wds = .lst (sts [bw, dig s]) :: F.map wdsF := by
  unfold linesT
  rw [List.map_cons, wds_hd ok, List.map_map]
  congr 1
  exact List.map_congr_left fun f hf => wds_ln ok (h.1 f hf).1 (h.1 f hf).2
theorem lit10 : ("\n" : Str) = sx [10] := by decide +kernel
theorem lit32 : (" " : Str) = sx [32] := by decide +kernel
theorem litB : ("board " : Str) = sx (bw ++ [32]) := by decide +kernel
theorem litB0 : ("board" : Str) = sx bw := by decide +kernel
theorem litS : (" < " : Str) = sx [32, 60, 32] := by decide +kernel
theorem litS0 : ("<" : Str) = sx [60] := by decide +kernel
end DL
namespace K15
open PySem L2 DL PyProof.Rows
abbrev fl_Board : List Str := ["both"]
abbrev fl_Notes : List Str := ["both"]
def D_DIGITS : D := .dic [.inr "2", .inr "3"] [(.int 2), (.int 3)]
def D_STANDS : D := .dic [.inl 2, .inl 3] [(.str "01"), (.str "012")]
def exm_InvalidSizes : Nat → Option Bool
  | 18 => some false
  | 24 => some false
  | 23 => some true
  | 11 => some false
  | _ => none
def exm_InvalidFacts : Nat → Option Bool
  | 18 => some false
  | 24 => some true
  | 23 => some false
  | 11 => some false
  | _ => none
def isi_Board : Tag → Option Bool
  | .non => some false
  | .bl => some false
  | .int => some false
  | .str => some false
  | .tup => some false
  | .lst => some false
  | .dic => some false
  | .obj 1 => some true
  | .obj 3 => some false
  | .obj _ => none
  | .exc _ => none
def isi_Notes : Tag → Option Bool
  | .non => some false
  | .bl => some false
  | .int => some false
  | .str => some false
  | .tup => some false
  | .lst => some false
  | .dic => some false
  | .obj 1 => some false
  | .obj 3 => some true
  | .obj _ => none
  | .exc _ => none
def isi_bool : Tag → Option Bool
  | .non => some false
  | .bl => some true
  | .int => some false
  | .str => some false
  | .tup => some false
  | .lst => some false
  | .dic => some false
  | .obj _ => none
  | .exc _ => none
def isi_int : Tag → Option Bool
  | .non => some false
  | .bl => some true
  | .int => some true
  | .str => some false
  | .tup => some false
  | .lst => some false
  | .dic => some false
  | .obj _ => none
  | .exc _ => none
def isi_str : Tag → Option Bool
  | .non => some false
  | .bl => some false
  | .int => some false
  | .str => some true
  | .tup => some false
  | .lst => some false
  | .dic => some false
  | .obj _ => none
  | .exc _ => none
def isi_tuple : Tag → Option Bool
  | .non => some false
  | .bl => some false
  | .int => some false
  | .str => some false
  | .tup => some true
  | .lst => some false
  | .dic => some false
  | .obj _ => none
  | .exc _ => none
/-! _law_dip -/
abbrev N_law_dip : List Str := ["jar", "most", "seed", "digit"]
def R_law_dip : FS := (sSeq (sJar 0 (f2 addD (fJar (fVar 0)) (fC (.int 1))))
    (sSeq (sIf (fTb (f2 gtD (fJar (fVar 0)) (fC (.int 0)))) (sSeq (sSet 3 (f2 modD (fCa intC (fCons (fJar (fVar 0)) fNil)) (fVar 1)))
    (sSeq (sJar 0 (f2 divD (fCa intC (fCons (fJar (fVar 0)) fNil)) (fVar 1)))
    (sRet (fVar 3)))) sNext)
    (sSeq (sSet 2 (fCa intC (fCons (fJar (fVar 0)) fNil)))
    (sSeq (sJar 0 (f2 modD (fCa intC (fCons (f2 addD (f2 addD (f2 mulAD (fVar 2) (fC (.int 40692))) (f2 mulAD (fJar (fVar 0)) (fC (.int 52021)))) (fC (.int 31))) fNil)) (fC (.int 2147483399))))
    (sRet (f2 modD (fCa intC (fCons (f2 divD (fJar (fVar 0)) (fC (.int 2048))) fNil)) (fVar 1)))))))
def sp_law_dip : DSp := fun ds Q _ => ∃ m : Int, ds = [.jar, .int m] ∧ 0 < m ∧ m < 1073741824 ∧ ∀ n : Int, 0 ≤ n → n < m → Q (.int n)
/-! _law_pick -/
abbrev N_law_pick : List Str := ["jar", "menu", "at"]
def R_law_pick : FS := (sSeq (sSet 2 (fCall sp_law_dip (fCons (fVar 0) (fCons (fCa lenD (fCons (fVar 1) fNil)) fNil))))
    (sRet (f2 ixD (fVar 1) (fVar 2))))
def sp_law_pick : DSp := fun ds Q _ => ∃ (xs : List D) (d : D), ds = [.jar, d] ∧ (d = .lst xs ∨ d = .tup xs) ∧ xs ≠ [] ∧ xs.length < 1000000 ∧ ∀ d ∈ xs, Q d
/-! _law_spans -/
abbrev N_law_spans : List Str := ["jar", "most", "found", "many", "turn", "size"]
def P_law_spans_0 : FS := (sAsg (gTupD 2 (gsCons (gVar 2) (gsCons (gVar 3) gsNil))) (fTup (fCons (fTup fNil) (fCons (fC (.int 1)) fNil))))
def P_law_spans_1 : FS := (sPar 2 3 (fCons (f2 addD (fVar 2) (fTup (fCons (fVar 5) fNil))) (fCons (f2 mulAD (fVar 3) (fVar 5)) fNil)))
def P_law_spans_2 : FS := (sIf (fTb (f2 leD (f2 mulAD (fVar 3) (fVar 5)) (fVar 1))) P_law_spans_1 sNext)
def L_law_spans_0 : FS := (sSeq (sSet 5 (fCall sp_law_pick (fCons (fVar 0) (fCons (fL (fLst (fCons (fC (.int 2)) (fCons (fC (.int 2)) (fCons (fC (.int 3)) fNil))))) fNil))))
    P_law_spans_2)
def R_law_spans : FS := (sSeq P_law_spans_0
    (sSeq (sFor (fRng1 (fCons (f2 addD (fC (.int 1)) (fCall sp_law_dip (fCons (fVar 0) (fCons (fC (.int 5)) fNil)))) fNil)) (gVar 4)
      L_law_spans_0)
    (sRet (fIf (fTb (f2 neD (fVar 2) (fTup fNil))) (fVar 2) (fTup (fCons (fC (.int 2)) fNil))))))
def sp_law_spans : DSp := fun ds Q _ => ∃ m : Int, ds = [.jar, .int m] ∧ 2 ≤ m ∧ m ≤ 48 ∧ ∀ s : List Int, s ∈ spansOf m → Q (.tup (s.map D.int))
/-! _law_all -/
abbrev N_law_all : List Str := ["spans", "found", "size", "longer", "begun", "glyph"]
def R_law_all : FS := (sSeq (sSetOwn 1 (fLst (fCons (fC (.str "")) fNil)))
    (sSeq (sFor (fItA (fVar 0)) (gVar 2)
      (sSeq (sSetOwn 3 (fLst fNil))
    (sSeq (sOff [1] (sFor (fItA (fVar 1)) (gVar 4)
      (sSetOwn 3 (fAddN (fSee 3) (fL (fLc (fItA (fSlice (fC (.str "012")) fNone (fSome (fVar 2)))) [5] (gVar 5) fYes (f2 addD (fVar 4) (fVar 5))))))))
    (sMove 1 3))))
    (sRetNew 1)))
def x_law_all : DL.Env → RS := (ySeq (ySetOwn 1 (xLst (xCons (xC (.str "")) xNil)))
    (ySeq (yFor (iA (xVar 0)) (yVar 2)
      (ySeq (ySetOwn 3 (xLst xNil))
    (ySeq (yOff [1] (yFor (iA (xVar 1)) (yVar 4)
      (ySetOwn 3 (xAddN (xSee 3) (xL (xLc (iA (xSlice (xC (.str "012")) oNone (oSome (xVar 2)))) [5] (yVar 5) xYes (x2 addX (xVar 4) (xVar 5))))))))
    (yMove 1 3))))
    (yRetNew 1)))
theorem l_law_all : CS R_law_all x_law_all := (s_seq (s_setOwn (f_lst (f_cons f_c f_nil)))
    (s_seq (s_for (f_itA f_var) t_var
      (s_seq (s_setOwn (f_lst f_nil))
    (s_seq (s_off (s_for (f_itA f_var) t_var
      (s_setOwn (f_addN f_see (f_L (f_lc (f_itA (f_slice f_c f_oNone (f_oSome f_var))) t_var f_yes (f_2 g_add f_var f_var)))))))
    s_move)))
    s_retNew))
def cf_law_all : List D → R (List D) := cfN N_law_all 1 x_law_all
def sp_law_all : List D → (List D → Prop) → XP → Prop := spNOf cf_law_all
/-! _law_line -/
abbrev N_law_line : List Str := ["jar", "spans", "rest", "found"]
def P_law_line_0 : FS := (sParOO 2 3 (fCallN sp_law_all (fCons (fVar 1) fNil)) (fLst fNil))
def yP_law_line_0 : DL.Env → RS := (yParOO 2 3 (xCallN cf_law_all (xCons (xVar 1) xNil)) (xLst xNil))
theorem lP_law_line_0 : CS P_law_line_0 yP_law_line_0 := (s_parOO (f_callN (f_cons f_var f_nil)) (f_lst f_nil))
def R_law_line : FS := (sSeq P_law_line_0
    (sSeq (sWhile (fTb (f2 neD (fSee 2) (fL (fLst fNil)))) (sAppPop 3 2 (fCall sp_law_dip (fCons (fVar 0) (fCons (fCa lenD (fCons (fSee 2) fNil)) fNil)))))
    (sRet (fCa tupC (fCons (fSee 3) fNil)))))
def sp_law_line : DSp := fun ds Q _ => ∃ s : List Int, ds = [.jar, .tup (s.map D.int)] ∧ OkS s ∧ ∀ o : List TP.Tx, o.Perm (TP.sets (full s)) → Q (.tup (sts o))
/-! _law_near -/
abbrev N_law_near : List Str := ["spans", "spot", "others", "each", "k"]
def R_law_near : FS := (sSeq (sSet 2 (fL (fLc (fItA (fL (fCallN sp_law_all (fCons (fVar 0) fNil)))) [3] (gVar 3) (fTb (f2 eqD (fCa lenD (fCons (fVar 3) fNil)) (fCa lenD (fCons (fVar 1) fNil)))) (fVar 3))))
    (sRet (fL (fLc (fItA (fVar 2)) [3] (gVar 3) (fTb (f2 eqD (fCa lenD (fCons (fL (fLc (fRng1 (fCons (fCa lenD (fCons (fVar 1) fNil)) fNil)) [4] (gVar 4) (fTb (f2 neD (f2 ixD (fVar 3) (fVar 4)) (f2 ixD (fVar 1) (fVar 4)))) (fVar 4))) fNil)) (fC (.int 1)))) (fVar 3)))))
def x_law_near : DL.Env → RS := (ySeq (ySet 2 (xL (xLc (iA (xL (xCallN cf_law_all (xCons (xVar 0) xNil)))) [3] (yVar 3) (xTb (x2 eqX (xCa lenX (xCons (xVar 3) xNil)) (xCa lenX (xCons (xVar 1) xNil)))) (xVar 3))))
    (yRet (xL (xLc (iA (xVar 2)) [3] (yVar 3) (xTb (x2 eqX (xCa lenX (xCons (xL (xLc (iRng1 (xCons (xCa lenX (xCons (xVar 1) xNil)) xNil)) [4] (yVar 4) (xTb (x2 neX (x2 ixX (xVar 3) (xVar 4)) (x2 ixX (xVar 1) (xVar 4)))) (xVar 4))) xNil)) (xC (.int 1)))) (xVar 3)))))
theorem l_law_near : CS R_law_near x_law_near := (s_seq (s_set (f_L (f_lc (f_itA (f_L (f_callN (f_cons f_var f_nil)))) t_var (f_tb (f_2 g_eq (f_ca g_len (f_cons f_var f_nil)) (f_ca g_len (f_cons f_var f_nil)))) f_var)))
    (s_ret (f_L (f_lc (f_itA f_var) t_var (f_tb (f_2 g_eq (f_ca g_len (f_cons (f_L (f_lc (f_rng1 (f_cons (f_ca g_len (f_cons f_var f_nil)) f_nil)) t_var (f_tb (f_2 g_ne (f_2 g_ix f_var f_var) (f_2 g_ix f_var f_var))) f_var)) f_nil)) f_c)) f_var))))
def cf_law_near : List D → R D := cfOf N_law_near 2 x_law_near
def sp_law_near : DSp := spOf cf_law_near
/-! _law_seen -/
abbrev N_law_seen : List Str := ["jar", "spans", "line", "share", "found", "spot", "other_spot"]
def P_law_seen_0 : FS := (sSetOwn 4 (fLst fNil))
def yP_law_seen_0 : DL.Env → RS := (ySetOwn 4 (xLst xNil))
theorem lP_law_seen_0 : CS P_law_seen_0 yP_law_seen_0 := (s_setOwn (f_lst f_nil))
def L_law_seen_0 : FS := (sIf (fAndT (fTb (f2 ltD (fIxM (fVar 2) (fVar 5)) (fIxM (fVar 2) (fVar 6)))) (fTb (f2 ltD (fCall sp_law_dip (fCons (fVar 0) (fCons (fC (.int 100)) fNil))) (fVar 3)))) (sIns 4 (fCall sp_law_dip (fCons (fVar 0) (fCons (f2 addD (fCa lenD (fCons (fSee 4) fNil)) (fC (.int 1))) fNil))) (fTup (fCons (fVar 5) (fCons (fVar 6) fNil)))) sNext)
def L_law_seen_1 : FS := (sFor (fItA (fCall sp_law_near (fCons (fVar 1) (fCons (fVar 5) fNil)))) (gVar 6)
      L_law_seen_0)
def R_law_seen : FS := (sSeq P_law_seen_0
    (sSeq (sFor (fItA (fVar 2)) (gVar 5)
      L_law_seen_1)
    (sRet (fCa tupC (fCons (fSee 4) fNil)))))
def sp_law_seen : DSp := fun ds Q _ => ∃ (s : List Int) (o : List TP.Tx) (n : Int), ds = [.jar, .tup (s.map D.int), .tup (sts o), .int n] ∧ s ∈ spansOf 48 ∧ o.Perm (TP.sets (full s)) ∧ ∀ F : List TP.Fa, TP.Fc (full s) o F → (100 ≤ n → ∀ a ∈ o, ∀ y ∈ TP.near (full s) a, TP.idx o a < TP.idx o y → (a, y) ∈ F) → Q (.tup (fcts F))
/-! _law_share -/
abbrev N_law_share : List Str := ["jar"]
def R_law_share : FS := (sRet (fCall sp_law_pick (fCons (fVar 0) (fCons (fL (fLst (fCons (fC (.int 0)) (fCons (fC (.int 20)) (fCons (fC (.int 40)) (fCons (fC (.int 60)) (fCons (fC (.int 80)) (fCons (fC (.int 100)) fNil)))))))) fNil))))
def sp_law_share : DSp := fun ds Q _ => ds = [.jar] ∧ ∀ n : Int, Q (.int n)
/-! check_board -/
abbrev N_check_board : List Str := ["value"]
def R_check_board : FS := (sIf (fNotT (fTb (isiD isi_Board (fVar 0)))) (sRaise 18 (fCons (fVar 0) fNil)) sNext)
def x_check_board : DL.Env → RS := (yIf (xNotT (xTb (isiX isi_Board (xVar 0)))) (yRaise 18 (xCons (xVar 0) xNil)) yNext)
theorem l_check_board : CS R_check_board x_check_board := (s_if (f_notT (f_tb (f_isi f_var))) (s_raise (f_cons f_var f_nil)) s_next)
def cf_check_board : List D → R D := cfOf N_check_board 1 x_check_board
def sp_check_board : DSp := spOf cf_check_board
/-! Board.__contains__ -/
abbrev N_Board_contains : List Str := ["self", "value"]
def R_Board_contains : FS := (sRet (fAnd (isiD isi_str (fVar 1)) (f2 (inD false) (fVar 1) (f2 ixD (fFld 1 0 (fVar 0)) (fC (.int 1))))))
def x_Board_contains : DL.Env → RS := (yRet (xAnd (isiX isi_str (xVar 1)) (x2 (inX false) (xVar 1) (x2 ixX (xFld 1 0 (xVar 0)) (xC (.int 1))))))
theorem l_Board_contains : CS R_Board_contains x_Board_contains := (s_ret (f_and (f_isi f_var) (f_2 g_in f_var (f_2 g_ix (f_fld f_var) f_c))))
def cf_Board_contains : List D → R D := cfOf N_Board_contains 2 x_Board_contains
def sp_Board_contains : DSp := spOf cf_Board_contains
/-! are_neighbours -/
abbrev N_are_neighbours : List Str := ["one", "other", "k"]
def R_are_neighbours : FS := (sRet (f2 eqD (fCa lenD (fCons (fL (fLc (fRng1 (fCons (fCa lenD (fCons (fVar 0) fNil)) fNil)) [2] (gVar 2) (fTb (f2 neD (f2 ixD (fVar 0) (fVar 2)) (f2 ixD (fVar 1) (fVar 2)))) (fVar 2))) fNil)) (fC (.int 1))))
def x_are_neighbours : DL.Env → RS := (yRet (x2 eqX (xCa lenX (xCons (xL (xLc (iRng1 (xCons (xCa lenX (xCons (xVar 0) xNil)) xNil)) [2] (yVar 2) (xTb (x2 neX (x2 ixX (xVar 0) (xVar 2)) (x2 ixX (xVar 1) (xVar 2)))) (xVar 2))) xNil)) (xC (.int 1))))
theorem l_are_neighbours : CS R_are_neighbours x_are_neighbours := (s_ret (f_2 g_eq (f_ca g_len (f_cons (f_L (f_lc (f_rng1 (f_cons (f_ca g_len (f_cons f_var f_nil)) f_nil)) t_var (f_tb (f_2 g_ne (f_2 g_ix f_var f_var) (f_2 g_ix f_var f_var))) f_var)) f_nil)) f_c))
def cf_are_neighbours : List D → R D := cfOf N_are_neighbours 2 x_are_neighbours
def sp_are_neighbours : DSp := spOf cf_are_neighbours
/-! is_fact -/
abbrev N_is_fact : List Str := ["board", "value"]
def R_is_fact : FS := (sSeq (sIf (fOrT (fNotT (fTb (isiD isi_tuple (fVar 1)))) (fTb (f2 neD (fCa lenD (fCons (fVar 1) fNil)) (fC (.int 2))))) (sRet (fC (.bl false))) sNext)
    (sRet (fAnd (f2 (inV 1 sp_Board_contains false) (f2 ixD (fVar 1) (fC (.int 0))) (fVar 0)) (fAnd (f2 (inV 1 sp_Board_contains false) (f2 ixD (fVar 1) (fC (.int 1))) (fVar 0)) (fCall sp_are_neighbours (fCons (f2 ixD (fVar 1) (fC (.int 0))) (fCons (f2 ixD (fVar 1) (fC (.int 1))) fNil)))))))
def x_is_fact : DL.Env → RS := (ySeq (yIf (xOrT (xNotT (xTb (isiX isi_tuple (xVar 1)))) (xTb (x2 neX (xCa lenX (xCons (xVar 1) xNil)) (xC (.int 2))))) (yRet (xC (.bl false))) yNext)
    (yRet (xAnd (x2 (inVX 1 cf_Board_contains false) (x2 ixX (xVar 1) (xC (.int 0))) (xVar 0)) (xAnd (x2 (inVX 1 cf_Board_contains false) (x2 ixX (xVar 1) (xC (.int 1))) (xVar 0)) (xCall cf_are_neighbours (xCons (x2 ixX (xVar 1) (xC (.int 0))) (xCons (x2 ixX (xVar 1) (xC (.int 1))) xNil)))))))
theorem l_is_fact : CS R_is_fact x_is_fact := (s_seq (s_if (f_orT (f_notT (f_tb (f_isi f_var))) (f_tb (f_2 g_ne (f_ca g_len (f_cons f_var f_nil)) f_c))) (s_ret f_c) s_next)
    (s_ret (f_and (f_2 g_inV (f_2 g_ix f_var f_c) f_var) (f_and (f_2 g_inV (f_2 g_ix f_var f_c) f_var) (f_call (f_cons (f_2 g_ix f_var f_c) (f_cons (f_2 g_ix f_var f_c) f_nil)))))))
def cf_is_fact : List D → R D := cfOf N_is_fact 2 x_is_fact
def sp_is_fact : DSp := spOf cf_is_fact
/-! leads -/
abbrev N_leads : List Str := ["facts", "start", "goal", "seen", "waiting", "place", "worse", "better"]
def R_leads : FS := (sSeq (sParOO 3 4 (fLst (fCons (fVar 1) fNil)) (fLst (fCons (fVar 1) fNil)))
    (sSeq (sWhile (fTb (f2 neD (fSee 4) (fL (fLst fNil)))) (sSeq (sPopV 5 4)
    (sFor (fItA (fVar 0)) (gTupD 2 (gsCons (gVar 6) (gsCons (gVar 7) gsNil)))
      (sIf (fAndT (fTb (f2 eqD (fVar 6) (fVar 5))) (fTb (f2 (inD true) (fVar 7) (fSee 3)))) (sSeq (sAppC 3 (fVar 7))
    (sAppC 4 (fVar 7))) sNext))))
    (sRet (f2 (inD false) (fVar 2) (fSee 3)))))
def x_leads : DL.Env → RS := (ySeq (yParOO 3 4 (xLst (xCons (xVar 1) xNil)) (xLst (xCons (xVar 1) xNil)))
    (ySeq (yWhile 1000 (xTb (x2 neX (xSee 4) (xL (xLst xNil)))) (ySeq (yPopV 5 4)
    (yFor (iA (xVar 0)) (yTup 2 (ysCons (yVar 6) (ysCons (yVar 7) ysNil)))
      (yIf (xAndT (xTb (x2 eqX (xVar 6) (xVar 5))) (xTb (x2 (inX true) (xVar 7) (xSee 3)))) (ySeq (yApp 3 (xVar 7))
    (yApp 4 (xVar 7))) yNext))))
    (yRet (x2 (inX false) (xVar 2) (xSee 3)))))
theorem l_leads : CS R_leads x_leads := (s_seq (s_parOO (f_lst (f_cons f_var f_nil)) (f_lst (f_cons f_var f_nil)))
    (s_seq (s_while (f_tb (f_2 g_ne f_see (f_L (f_lst f_nil)))) (s_seq s_popV
    (s_for (f_itA f_var) (t_tup (ts_cons t_var (ts_cons t_var ts_nil)))
      (s_if (f_andT (f_tb (f_2 g_eq f_var f_var)) (f_tb (f_2 g_in f_var f_see))) (s_seq (s_app f_var)
    (s_app f_var)) s_next))))
    (s_ret (f_2 g_in f_var f_see))))
def cf_leads : List D → R D := cfOf N_leads 3 x_leads
def sp_leads : DSp := spOf cf_leads
/-! is_let -/
abbrev N_is_let : List Str := ["facts", "fact"]
def R_is_let : FS := (sRet (fAnd (f2 (inTD true) (fVar 1) (fVar 0)) (fNot (fCall sp_leads (fCons (fVar 0) (fCons (f2 ixD (fVar 1) (fC (.int 1))) (fCons (f2 ixD (fVar 1) (fC (.int 0))) fNil)))))))
def x_is_let : DL.Env → RS := (yRet (xAnd (x2 (inTX true) (xVar 1) (xVar 0)) (xNot (xCall cf_leads (xCons (xVar 0) (xCons (x2 ixX (xVar 1) (xC (.int 1))) (xCons (x2 ixX (xVar 1) (xC (.int 0))) xNil)))))))
theorem l_is_let : CS R_is_let x_is_let := (s_ret (f_and (f_2 g_inT f_var f_var) (f_not (f_call (f_cons f_var (f_cons (f_2 g_ix f_var f_c) (f_cons (f_2 g_ix f_var f_c) f_nil)))))))
def cf_is_let : List D → R D := cfOf N_is_let 2 x_is_let
def sp_is_let : DSp := spOf cf_is_let
/-! check_facts -/
abbrev N_check_facts : List Str := ["board", "facts", "index"]
def R_check_facts : FS := (sSeq (sIf (fNotT (fTb (isiD isi_tuple (fVar 1)))) (sRaise 24 (fCons (fC .non) fNil)) sNext)
    (sFor (fRng1 (fCons (fCa lenD (fCons (fVar 1) fNil)) fNil)) (gVar 2)
      (sIf (fOrT (fNotT (fTb (fCall sp_is_fact (fCons (fVar 0) (fCons (f2 ixD (fVar 1) (fVar 2)) fNil))))) (fNotT (fTb (fCall sp_is_let (fCons (fSlice (fVar 1) fNone (fSome (fVar 2))) (fCons (f2 ixD (fVar 1) (fVar 2)) fNil)))))) (sRaise 24 (fCons (fVar 2) fNil)) sNext)))
def x_check_facts : DL.Env → RS := (ySeq (yIf (xNotT (xTb (isiX isi_tuple (xVar 1)))) (yRaise 24 (xCons (xC .non) xNil)) yNext)
    (yFor (iRng1 (xCons (xCa lenX (xCons (xVar 1) xNil)) xNil)) (yVar 2)
      (yIf (xOrT (xNotT (xTb (xCall cf_is_fact (xCons (xVar 0) (xCons (x2 ixX (xVar 1) (xVar 2)) xNil))))) (xNotT (xTb (xCall cf_is_let (xCons (xSlice (xVar 1) oNone (oSome (xVar 2))) (xCons (x2 ixX (xVar 1) (xVar 2)) xNil)))))) (yRaise 24 (xCons (xVar 2) xNil)) yNext)))
theorem l_check_facts : CS R_check_facts x_check_facts := (s_seq (s_if (f_notT (f_tb (f_isi f_var))) (s_raise (f_cons f_c f_nil)) s_next)
    (s_for (f_rng1 (f_cons (f_ca g_len (f_cons f_var f_nil)) f_nil)) t_var
      (s_if (f_orT (f_notT (f_tb (f_call (f_cons f_var (f_cons (f_2 g_ix f_var f_var) f_nil))))) (f_notT (f_tb (f_call (f_cons (f_slice f_var f_oNone (f_oSome f_var)) (f_cons (f_2 g_ix f_var f_var) f_nil)))))) (s_raise (f_cons f_var f_nil)) s_next)))
def cf_check_facts : List D → R D := cfOf N_check_facts 2 x_check_facts
def sp_check_facts : DSp := spOf cf_check_facts
/-! Notes.__init__ -/
abbrev N_Notes_init : List Str := ["self", "board", "facts"]
def R_Notes_init : FS := (sSeq (sExpr (fCall sp_check_board (fCons (fVar 1) fNil)))
    (sSeq (sExpr (fCall sp_check_facts (fCons (fVar 1) (fCons (fVar 2) fNil))))
    (sFldI 0 3 fl_Notes "both" (fTup (fCons (fVar 1) (fCons (fVar 2) fNil))))))
def x_Notes_init : DL.Env → RS := (ySeq (yExpr (xCall cf_check_board (xCons (xVar 1) xNil)))
    (ySeq (yExpr (xCall cf_check_facts (xCons (xVar 1) (xCons (xVar 2) xNil))))
    (yFldI 0 3 fl_Notes "both" (xTup (xCons (xVar 1) (xCons (xVar 2) xNil))))))
theorem l_Notes_init : CS R_Notes_init x_Notes_init := (s_seq (s_expr (f_call (f_cons f_var f_nil)))
    (s_seq (s_expr (f_call (f_cons f_var (f_cons f_var f_nil))))
    (s_fldI (f_tup (f_cons f_var (f_cons f_var f_nil))))))
def cf_Notes_init : List D → R D := cfI N_Notes_init 2 1 3 x_Notes_init
/-! is_within -/
abbrev N_is_within : List Str := ["value", "least", "most"]
def R_is_within : FS := (sRet (fAnd (isiD isi_int (fVar 0)) (fAnd (fNot (isiD isi_bool (fVar 0))) (fChain leD leD (fVar 1) (fVar 0) (fVar 2)))))
def x_is_within : DL.Env → RS := (yRet (xAnd (isiX isi_int (xVar 0)) (xAnd (xNot (isiX isi_bool (xVar 0))) (xChain leX leX (xVar 1) (xVar 0) (xVar 2)))))
theorem l_is_within : CS R_is_within x_is_within := (s_ret (f_and (f_isi f_var) (f_and (f_not (f_isi f_var)) (f_chain g_le g_le f_var f_var f_var))))
def cf_is_within : List D → R D := cfOf N_is_within 3 x_is_within
def sp_is_within : DSp := spOf cf_is_within
/-! check_sizes -/
abbrev N_check_sizes : List Str := ["sizes", "many", "index"]
def R_check_sizes : FS := (sSeq (sIf (fOrT (fNotT (fTb (isiD isi_tuple (fVar 0)))) (fTb (f2 eqD (fVar 0) (fTup fNil)))) (sRaise 23 (fCons (fC .non) fNil)) sNext)
    (sSeq (sSet 1 (fC (.int 1)))
    (sFor (fRng1 (fCons (fCa lenD (fCons (fVar 0) fNil)) fNil)) (gVar 2)
      (sSeq (sIf (fOrT (fTb (f2 eqD (fVar 2) (fC (.int 5)))) (fOrT (fNotT (fTb (fCall sp_is_within (fCons (f2 ixD (fVar 0) (fVar 2)) (fCons (fC (.int 2)) (fCons (fC (.int 3)) fNil)))))) (fTb (f2 gtD (f2 mulAD (fVar 1) (f2 ixD (fVar 0) (fVar 2))) (fC (.int 48)))))) (sRaise 23 (fCons (fVar 2) fNil)) sNext)
    (sSet 1 (f2 mulAD (fVar 1) (f2 ixD (fVar 0) (fVar 2))))))))
def x_check_sizes : DL.Env → RS := (ySeq (yIf (xOrT (xNotT (xTb (isiX isi_tuple (xVar 0)))) (xTb (x2 eqX (xVar 0) (xTup xNil)))) (yRaise 23 (xCons (xC .non) xNil)) yNext)
    (ySeq (ySet 1 (xC (.int 1)))
    (yFor (iRng1 (xCons (xCa lenX (xCons (xVar 0) xNil)) xNil)) (yVar 2)
      (ySeq (yIf (xOrT (xTb (x2 eqX (xVar 2) (xC (.int 5)))) (xOrT (xNotT (xTb (xCall cf_is_within (xCons (x2 ixX (xVar 0) (xVar 2)) (xCons (xC (.int 2)) (xCons (xC (.int 3)) xNil)))))) (xTb (x2 gtX (x2 mulAX (xVar 1) (x2 ixX (xVar 0) (xVar 2))) (xC (.int 48)))))) (yRaise 23 (xCons (xVar 2) xNil)) yNext)
    (ySet 1 (x2 mulAX (xVar 1) (x2 ixX (xVar 0) (xVar 2))))))))
theorem l_check_sizes : CS R_check_sizes x_check_sizes := (s_seq (s_if (f_orT (f_notT (f_tb (f_isi f_var))) (f_tb (f_2 g_eq f_var (f_tup f_nil)))) (s_raise (f_cons f_c f_nil)) s_next)
    (s_seq (s_set f_c)
    (s_for (f_rng1 (f_cons (f_ca g_len (f_cons f_var f_nil)) f_nil)) t_var
      (s_seq (s_if (f_orT (f_tb (f_2 g_eq f_var f_c)) (f_orT (f_notT (f_tb (f_call (f_cons (f_2 g_ix f_var f_var) (f_cons f_c (f_cons f_c f_nil)))))) (f_tb (f_2 g_gt (f_2 g_mulA f_var (f_2 g_ix f_var f_var)) f_c)))) (s_raise (f_cons f_var f_nil)) s_next)
    (s_set (f_2 g_mulA f_var (f_2 g_ix f_var f_var)))))))
def cf_check_sizes : List D → R D := cfOf N_check_sizes 1 x_check_sizes
def sp_check_sizes : DSp := spOf cf_check_sizes
/-! settings_in -/
abbrev N_settings_in : List Str := ["part", "found", "stands", "begun", "stand"]
def R_settings_in : FS := (sSeq (sSet 1 (fL (fLst (fCons (fC (.str "")) fNil))))
    (sSeq (sFor (fItA (fVar 0)) (gVar 2)
      (sSet 1 (fL (fLc2 (fItA (fVar 1)) [3, 4] (gVar 3) fYes (fItA (fVar 2)) [4] (gVar 4) fYes (f2 addD (fVar 3) (fVar 4))))))
    (sRet (fVar 1))))
def x_settings_in : DL.Env → RS := (ySeq (ySet 1 (xL (xLst (xCons (xC (.str "")) xNil))))
    (ySeq (yFor (iA (xVar 0)) (yVar 2)
      (ySet 1 (xL (xLc2 (iA (xVar 1)) [3, 4] (yVar 3) xYes (iA (xVar 2)) [4] (yVar 4) xYes (x2 addX (xVar 3) (xVar 4))))))
    (yRet (xVar 1))))
theorem l_settings_in : CS R_settings_in x_settings_in := (s_seq (s_set (f_L (f_lst (f_cons f_c f_nil))))
    (s_seq (s_for (f_itA f_var) t_var
      (s_set (f_L (f_lc2 (f_itA f_var) t_var f_yes (f_itA f_var) t_var f_yes (f_2 g_add f_var f_var)))))
    (s_ret f_var)))
def cf_settings_in : List D → R D := cfOf N_settings_in 1 x_settings_in
def sp_settings_in : DSp := spOf cf_settings_in
/-! Board.__init__ -/
abbrev N_Board_init : List Str := ["self", "sizes", "size"]
def R_Board_init : FS := (sSeq (sExpr (fCall sp_check_sizes (fCons (fVar 1) fNil)))
    (sFldI 0 1 fl_Board "both" (fTup (fCons (fVar 1) (fCons (fCa tupC (fCons (fCall sp_settings_in (fCons (fL (fLc (fItA (fVar 1)) [2] (gVar 2) fYes (f2 ixD (fC D_STANDS) (fVar 2)))) fNil)) fNil)) fNil)))))
def x_Board_init : DL.Env → RS := (ySeq (yExpr (xCall cf_check_sizes (xCons (xVar 1) xNil)))
    (yFldI 0 1 fl_Board "both" (xTup (xCons (xVar 1) (xCons (xCa tupCX (xCons (xCall cf_settings_in (xCons (xL (xLc (iA (xVar 1)) [2] (yVar 2) xYes (x2 ixX (xC D_STANDS) (xVar 2)))) xNil)) xNil)) xNil)))))
theorem l_Board_init : CS R_Board_init x_Board_init := (s_seq (s_expr (f_call (f_cons f_var f_nil)))
    (s_fldI (f_tup (f_cons f_var (f_cons (f_ca g_tupC (f_cons (f_call (f_cons (f_L (f_lc (f_itA f_var) t_var f_yes (f_2 g_ix f_c f_var))) f_nil)) f_nil)) f_nil)))))
def cf_Board_init : List D → R D := cfI N_Board_init 1 1 1 x_Board_init
/-! board_told -/
abbrev N_board_told : List Str := ["text", "sign"]
def R_board_told : FS := (sSeq (sIf (fOrT (fNotT (fTb (isiD isi_str (fVar 0)))) (fNotT (fTb (fCa (blsD fun bs => .bl (bs.all id)) (fCons (fL (fLc (fItA (fVar 0)) [1] (gVar 1) fYes (f2 (inD false) (fVar 1) (fC D_DIGITS)))) fNil))))) (sRet (fC .non)) sNext)
    (sTry 2 (sRet (fMake 1 (spIn cf_Board_init) (fCons (fCa tupC (fCons (fL (fLc (fItA (fVar 0)) [1] (gVar 1) fYes (f2 ixD (fC D_DIGITS) (fVar 1)))) fNil)) fNil))) [⟨exm_InvalidSizes, none, (sRet (fC .non))⟩]))
def x_board_told : DL.Env → RS := (ySeq (yIf (xOrT (xNotT (xTb (isiX isi_str (xVar 0)))) (xNotT (xTb (xCa (blsX fun bs => .bl (bs.all id)) (xCons (xL (xLc (iA (xVar 0)) [1] (yVar 1) xYes (x2 (inX false) (xVar 1) (xC D_DIGITS)))) xNil))))) (yRet (xC .non)) yNext)
    (yTry 2 (yRet (xMake 1 cf_Board_init (xCons (xCa tupCX (xCons (xL (xLc (iA (xVar 0)) [1] (yVar 1) xYes (x2 ixX (xC D_DIGITS) (xVar 1)))) xNil)) xNil))) [⟨exm_InvalidSizes, none, (yRet (xC .non))⟩]))
theorem l_board_told : CS R_board_told x_board_told := (s_seq (s_if (f_orT (f_notT (f_tb (f_isi f_var))) (f_notT (f_tb (f_ca g_bls (f_cons (f_L (f_lc (f_itA f_var) t_var f_yes (f_2 g_in f_var f_c))) f_nil))))) (s_ret f_c) s_next)
    (s_try (s_ret (f_make (f_cons (f_ca g_tupC (f_cons (f_L (f_lc (f_itA f_var) t_var f_yes (f_2 g_ix f_c f_var))) f_nil)) f_nil))) (.cons (s_ret f_c) .nil)))
def cf_board_told : List D → R D := cfOf N_board_told 1 x_board_told
def sp_board_told : DSp := spOf cf_board_told
/-! notes_told -/
abbrev N_notes_told : List Str := ["text", "lines", "words", "board", "line", "each"]
def R_notes_told : FS := (sSeq (sSet 1 (fIf (fTb (isiD isi_str (fVar 0))) (fStr1 splitD (fVar 0) (fC (.str "\n"))) (fL (fLst (fCons (fC (.str "")) fNil)))))
    (sSeq (sSet 2 (fL (fLc (fItA (fVar 1)) [4] (gVar 4) fYes (fStr1 splitD (fVar 4) (fC (.str " "))))))
    (sSeq (sIf (fOrT (fTb (f2 neD (fCa lenD (fCons (f2 ixD (fVar 2) (fC (.int 0))) fNil)) (fC (.int 2)))) (fTb (f2 neD (f2 ixD (f2 ixD (fVar 2) (fC (.int 0))) (fC (.int 0))) (fC (.str "board"))))) (sRet (fC .non)) sNext)
    (sSeq (sSet 3 (fCall sp_board_told (fCons (f2 ixD (f2 ixD (fVar 2) (fC (.int 0))) (fC (.int 1))) fNil)))
    (sSeq (sIf (fOrT (fTb (f2 (isNV false) (fVar 3) (fC .non))) (fNotT (fTb (fCa (blsD fun bs => .bl (bs.all id)) (fCons (fL (fLc (fItA (fSlice (fVar 2) (fSome (fC (.int 1))) fNone)) [5] (gVar 5) fYes (fAnd (f2 eqD (fCa lenD (fCons (fVar 5) fNil)) (fC (.int 3))) (f2 eqD (f2 ixD (fVar 5) (fC (.int 1))) (fC (.str "<")))))) fNil))))) (sRet (fC .non)) sNext)
    (sTry 6 (sRet (fMakeK 3 3 0 [.p 0, .p 1] [(.tup [])] (spIn cf_Notes_init) (fKw (fCons (fVar 3) (fCons (fCa tupC (fCons (fL (fLc (fItA (fSlice (fVar 2) (fSome (fC (.int 1))) fNone)) [5] (gVar 5) fYes (fTup (fCons (f2 ixD (fVar 5) (fC (.int 0))) (fCons (f2 ixD (fVar 5) (fC (.int 2))) fNil))))) fNil)) fNil)) fNil))) [⟨exm_InvalidFacts, none, (sRet (fC .non))⟩]))))))
def x_notes_told : DL.Env → RS := (ySeq (ySet 1 (xIf (xTb (isiX isi_str (xVar 0))) (xStr1 splitX (xVar 0) (xC (.str "\n"))) (xL (xLst (xCons (xC (.str "")) xNil)))))
    (ySeq (ySet 2 (xL (xLc (iA (xVar 1)) [4] (yVar 4) xYes (xStr1 splitX (xVar 4) (xC (.str " "))))))
    (ySeq (yIf (xOrT (xTb (x2 neX (xCa lenX (xCons (x2 ixX (xVar 2) (xC (.int 0))) xNil)) (xC (.int 2)))) (xTb (x2 neX (x2 ixX (x2 ixX (xVar 2) (xC (.int 0))) (xC (.int 0))) (xC (.str "board"))))) (yRet (xC .non)) yNext)
    (ySeq (ySet 3 (xCall cf_board_told (xCons (x2 ixX (x2 ixX (xVar 2) (xC (.int 0))) (xC (.int 1))) xNil)))
    (ySeq (yIf (xOrT (xTb (x2 (isNVX false) (xVar 3) (xC .non))) (xNotT (xTb (xCa (blsX fun bs => .bl (bs.all id)) (xCons (xL (xLc (iA (xSlice (xVar 2) (oSome (xC (.int 1))) oNone)) [5] (yVar 5) xYes (xAnd (x2 eqX (xCa lenX (xCons (xVar 5) xNil)) (xC (.int 3))) (x2 eqX (x2 ixX (xVar 5) (xC (.int 1))) (xC (.str "<")))))) xNil))))) (yRet (xC .non)) yNext)
    (yTry 6 (yRet (xMakeK 3 3 0 [.p 0, .p 1] [(.tup [])] cf_Notes_init (xKw (xCons (xVar 3) (xCons (xCa tupCX (xCons (xL (xLc (iA (xSlice (xVar 2) (oSome (xC (.int 1))) oNone)) [5] (yVar 5) xYes (xTup (xCons (x2 ixX (xVar 5) (xC (.int 0))) (xCons (x2 ixX (xVar 5) (xC (.int 2))) xNil))))) xNil)) xNil)) xNil))) [⟨exm_InvalidFacts, none, (yRet (xC .non))⟩]))))))
theorem l_notes_told : CS R_notes_told x_notes_told := (s_seq (s_set (f_if (f_tb (f_isi f_var)) (f_str1 g_split f_var f_c) (f_L (f_lst (f_cons f_c f_nil)))))
    (s_seq (s_set (f_L (f_lc (f_itA f_var) t_var f_yes (f_str1 g_split f_var f_c))))
    (s_seq (s_if (f_orT (f_tb (f_2 g_ne (f_ca g_len (f_cons (f_2 g_ix f_var f_c) f_nil)) f_c)) (f_tb (f_2 g_ne (f_2 g_ix (f_2 g_ix f_var f_c) f_c) f_c))) (s_ret f_c) s_next)
    (s_seq (s_set (f_call (f_cons (f_2 g_ix (f_2 g_ix f_var f_c) f_c) f_nil)))
    (s_seq (s_if (f_orT (f_tb (f_2 g_isNV f_var f_c)) (f_notT (f_tb (f_ca g_bls (f_cons (f_L (f_lc (f_itA (f_slice f_var (f_oSome f_c) f_oNone)) t_var f_yes (f_and (f_2 g_eq (f_ca g_len (f_cons f_var f_nil)) f_c) (f_2 g_eq (f_2 g_ix f_var f_c) f_c)))) f_nil))))) (s_ret f_c) s_next)
    (s_try (s_ret (f_makeK (f_kw (f_cons f_var (f_cons (f_ca g_tupC (f_cons (f_L (f_lc (f_itA (f_slice f_var (f_oSome f_c) f_oNone)) t_var f_yes (f_tup (f_cons (f_2 g_ix f_var f_c) (f_cons (f_2 g_ix f_var f_c) f_nil))))) f_nil)) f_nil)) f_nil))) (.cons (s_ret f_c) .nil)))))))
def cf_notes_told : List D → R D := cfOf N_notes_told 1 x_notes_told
def sp_notes_told : DSp := spOf cf_notes_told
/-! Notes.read -/
abbrev N_Notes_read : List Str := ["cls", "text", "found"]
def R_Notes_read : FS := (sSeq (sSet 2 (fCall sp_notes_told (fCons (fVar 1) fNil)))
    (sSeq (sIf (fTb (f2 (isNV false) (fVar 2) (fC .non))) (sRaise 11 (fCons (fVar 1) fNil)) sNext)
    (sRet (fVar 2))))
def x_Notes_read : DL.Env → RS := (ySeq (ySet 2 (xCall cf_notes_told (xCons (xVar 1) xNil)))
    (ySeq (yIf (xTb (x2 (isNVX false) (xVar 2) (xC .non))) (yRaise 11 (xCons (xVar 1) xNil)) yNext)
    (yRet (xVar 2))))
theorem l_Notes_read : CS R_Notes_read x_Notes_read := (s_seq (s_set (f_call (f_cons f_var f_nil)))
    (s_seq (s_if (f_tb (f_2 g_isNV f_var f_c)) (s_raise (f_cons f_var f_nil)) s_next)
    (s_ret f_var)))
def cf_Notes_read : List D → R D := cfOf N_Notes_read.tail 1 fun r => x_Notes_read (Sl.un :: r)
def sp_Notes_read : DSp := spOf cf_Notes_read
/-! _law_page -/
abbrev N_law_page : List Str := ["spans", "pairs_here", "head", "size", "low", "high"]
def R_law_page : FS := (sSeq (sSet 2 (f2 addD (fC (.str "board ")) (fStr1 joinD (fC (.str "")) (fL (fLc (fItA (fVar 0)) [3] (gVar 3) fYes (fCa strC2 (fCons (fVar 3) fNil)))))))
    (sRet (fStr1 joinD (fC (.str "\n")) (fL (fAddN (fL (fLst (fCons (fVar 2) fNil))) (fL (fLc (fItA (fVar 1)) [4, 5] (gTupD 2 (gsCons (gVar 4) (gsCons (gVar 5) gsNil))) fYes (f2 addD (f2 addD (fVar 4) (fC (.str " < "))) (fVar 5)))))))))
def x_law_page : DL.Env → RS := (ySeq (ySet 2 (x2 addX (xC (.str "board ")) (xStr1 joinX (xC (.str "")) (xL (xLc (iA (xVar 0)) [3] (yVar 3) xYes (xCa strCX2 (xCons (xVar 3) xNil)))))))
    (yRet (xStr1 joinX (xC (.str "\n")) (xL (xAddN (xL (xLst (xCons (xVar 2) xNil))) (xL (xLc (iA (xVar 1)) [4, 5] (yTup 2 (ysCons (yVar 4) (ysCons (yVar 5) ysNil))) xYes (x2 addX (x2 addX (xVar 4) (xC (.str " < "))) (xVar 5)))))))))
theorem l_law_page : CS R_law_page x_law_page := (s_seq (s_set (f_2 g_add f_c (f_str1 g_join f_c (f_L (f_lc (f_itA f_var) t_var f_yes (f_ca g_strC2 (f_cons f_var f_nil)))))))
    (s_ret (f_str1 g_join f_c (f_L (f_addN (f_L (f_lst (f_cons f_var f_nil))) (f_L (f_lc (f_itA f_var) (t_tup (ts_cons t_var (ts_cons t_var ts_nil))) f_yes (f_2 g_add (f_2 g_add f_var f_c) f_var))))))))
def cf_law_page : List D → R D := cfOf N_law_page 2 x_law_page
def sp_law_page : DSp := spOf cf_law_page
/-! Board.__str__ -/
abbrev N_Board_str : List Str := ["self", "size"]
def R_Board_str : FS := (sRet (fStr1 joinD (fC (.str "")) (fL (fLc (fItA (f2 ixD (fFld 1 0 (fVar 0)) (fC (.int 0)))) [1] (gVar 1) fYes (fCa strC2 (fCons (fVar 1) fNil))))))
def x_Board_str : DL.Env → RS := (yRet (xStr1 joinX (xC (.str "")) (xL (xLc (iA (x2 ixX (xFld 1 0 (xVar 0)) (xC (.int 0)))) [1] (yVar 1) xYes (xCa strCX2 (xCons (xVar 1) xNil))))))
theorem l_Board_str : CS R_Board_str x_Board_str := (s_ret (f_str1 g_join f_c (f_L (f_lc (f_itA (f_2 g_ix (f_fld f_var) f_c)) t_var f_yes (f_ca g_strC2 (f_cons f_var f_nil))))))
def cf_Board_str : List D → R D := cfOf N_Board_str 1 x_Board_str
def sp_Board_str : DSp := spOf cf_Board_str
/-! Notes.__str__ -/
abbrev N_Notes_str : List Str := ["self", "board", "facts", "told", "worse", "better"]
def R_Notes_str : FS := (sSeq (sAsg (gTupD 2 (gsCons (gVar 1) (gsCons (gVar 2) gsNil))) (fFld 3 0 (fVar 0)))
    (sSeq (sSet 3 (fL (fLc (fItA (fVar 2)) [4, 5] (gTupD 2 (gsCons (gVar 4) (gsCons (gVar 5) gsNil))) fYes (f2 addD (f2 addD (f2 addD (f2 addD (fVar 4) (fC (.str " "))) (fC (.str "<"))) (fC (.str " "))) (fVar 5)))))
    (sRet (fStr1 joinD (fC (.str "\n")) (fL (fAddN (fL (fLst (fCons (f2 addD (f2 addD (fC (.str "board")) (fC (.str " "))) (fCa (strO 1 sp_Board_str) (fCons (fVar 1) fNil))) fNil))) (fVar 3)))))))
def x_Notes_str : DL.Env → RS := (ySeq (yAsg (yTup 2 (ysCons (yVar 1) (ysCons (yVar 2) ysNil))) (xFld 3 0 (xVar 0)))
    (ySeq (ySet 3 (xL (xLc (iA (xVar 2)) [4, 5] (yTup 2 (ysCons (yVar 4) (ysCons (yVar 5) ysNil))) xYes (x2 addX (x2 addX (x2 addX (x2 addX (xVar 4) (xC (.str " "))) (xC (.str "<"))) (xC (.str " "))) (xVar 5)))))
    (yRet (xStr1 joinX (xC (.str "\n")) (xL (xAddN (xL (xLst (xCons (x2 addX (x2 addX (xC (.str "board")) (xC (.str " "))) (xCa (strOX 1 cf_Board_str) (xCons (xVar 1) xNil))) xNil))) (xVar 3)))))))
theorem l_Notes_str : CS R_Notes_str x_Notes_str := (s_seq (s_asg (t_tup (ts_cons t_var (ts_cons t_var ts_nil))) (f_fld f_var))
    (s_seq (s_set (f_L (f_lc (f_itA f_var) (t_tup (ts_cons t_var (ts_cons t_var ts_nil))) f_yes (f_2 g_add (f_2 g_add (f_2 g_add (f_2 g_add f_var f_c) f_c) f_c) f_var))))
    (s_ret (f_str1 g_join f_c (f_L (f_addN (f_L (f_lst (f_cons (f_2 g_add (f_2 g_add f_c f_c) (f_ca g_strO (f_cons f_var f_nil))) f_nil))) f_var))))))
def cf_Notes_str : List D → R D := cfOf N_Notes_str 1 x_Notes_str
def sp_Notes_str : DSp := spOf cf_Notes_str
/-! Notes.board -/
abbrev N_Notes_board : List Str := ["self"]
def R_Notes_board : FS := (sRet (f2 ixD (fFld 3 0 (fVar 0)) (fC (.int 0))))
def x_Notes_board : DL.Env → RS := (yRet (x2 ixX (xFld 3 0 (xVar 0)) (xC (.int 0))))
theorem l_Notes_board : CS R_Notes_board x_Notes_board := (s_ret (f_2 g_ix (f_fld f_var) f_c))
def cf_Notes_board : List D → R D := cfOf N_Notes_board 1 x_Notes_board
def sp_Notes_board : DSp := spOf cf_Notes_board
/-! Notes.facts -/
abbrev N_Notes_facts : List Str := ["self"]
def R_Notes_facts : FS := (sRet (f2 ixD (fFld 3 0 (fVar 0)) (fC (.int 1))))
def x_Notes_facts : DL.Env → RS := (yRet (x2 ixX (xFld 3 0 (xVar 0)) (xC (.int 1))))
theorem l_Notes_facts : CS R_Notes_facts x_Notes_facts := (s_ret (f_2 g_ix (f_fld f_var) f_c))
def cf_Notes_facts : List D → R D := cfOf N_Notes_facts 1 x_Notes_facts
def sp_Notes_facts : DSp := spOf cf_Notes_facts
/-! Notes.__len__ -/
abbrev N_Notes_len : List Str := ["self"]
def R_Notes_len : FS := (sRet (fCa lenD (fCons (f2 ixD (fFld 3 0 (fVar 0)) (fC (.int 1))) fNil)))
def x_Notes_len : DL.Env → RS := (yRet (xCa lenX (xCons (x2 ixX (xFld 3 0 (xVar 0)) (xC (.int 1))) xNil)))
theorem l_Notes_len : CS R_Notes_len x_Notes_len := (s_ret (f_ca g_len (f_cons (f_2 g_ix (f_fld f_var) f_c) f_nil)))
def cf_Notes_len : List D → R D := cfOf N_Notes_len 1 x_Notes_len
def sp_Notes_len : DSp := spOf cf_Notes_len
/-! Notes.__bool__ -/
abbrev N_Notes_bool : List Str := ["self"]
def R_Notes_bool : FS := (sRet (fC (.bl true)))
def x_Notes_bool : DL.Env → RS := (yRet (xC (.bl true)))
theorem l_Notes_bool : CS R_Notes_bool x_Notes_bool := (s_ret f_c)
def cf_Notes_bool : List D → R D := cfOf N_Notes_bool 1 x_Notes_bool
def sp_Notes_bool : DSp := spOf cf_Notes_bool
/-! _law_shows -/
abbrev N_law_shows : List Str := ["mine", "spans", "pairs_here", "told", "page"]
def R_law_shows : FS := (sSeq (sSet 3 (fL (fLst (fCons (fCa (strO 1 sp_Board_str) (fCons (fProp 3 sp_Notes_board (fVar 0)) fNil)) (fCons (fProp 3 sp_Notes_facts (fVar 0)) (fCons (fCa (lenO 3 sp_Notes_len) (fCons (fVar 0) fNil)) (fCons (fCa (strO 3 sp_Notes_str) (fCons (fVar 0) fNil)) (fCons (fCa (boolO 3 sp_Notes_bool) (fCons (fVar 0) fNil)) fNil))))))))
    (sSeq (sSet 4 (fCall sp_law_page (fCons (fVar 1) (fCons (fVar 2) fNil))))
    (sRet (f2 eqD (fCa reprD2 (fCons (fVar 3) fNil)) (fCa reprD2 (fCons (fL (fLst (fCons (fCa (strO 1 sp_Board_str) (fCons (fMake 1 (spIn cf_Board_init) (fCons (fVar 1) fNil)) fNil)) (fCons (fVar 2) (fCons (fCa lenD (fCons (fVar 2) fNil)) (fCons (fVar 4) (fCons (fC (.bl true)) fNil))))))) fNil))))))
def x_law_shows : DL.Env → RS := (ySeq (ySet 3 (xL (xLst (xCons (xCa (strOX 1 cf_Board_str) (xCons (xProp 3 cf_Notes_board (xVar 0)) xNil)) (xCons (xProp 3 cf_Notes_facts (xVar 0)) (xCons (xCa (lenOX 3 cf_Notes_len) (xCons (xVar 0) xNil)) (xCons (xCa (strOX 3 cf_Notes_str) (xCons (xVar 0) xNil)) (xCons (xCa (boolOX 3 cf_Notes_bool) (xCons (xVar 0) xNil)) xNil))))))))
    (ySeq (ySet 4 (xCall cf_law_page (xCons (xVar 1) (xCons (xVar 2) xNil))))
    (yRet (x2 eqX (xCa reprX2 (xCons (xVar 3) xNil)) (xCa reprX2 (xCons (xL (xLst (xCons (xCa (strOX 1 cf_Board_str) (xCons (xMake 1 cf_Board_init (xCons (xVar 1) xNil)) xNil)) (xCons (xVar 2) (xCons (xCa lenX (xCons (xVar 2) xNil)) (xCons (xVar 4) (xCons (xC (.bl true)) xNil))))))) xNil))))))
theorem l_law_shows : CS R_law_shows x_law_shows := (s_seq (s_set (f_L (f_lst (f_cons (f_ca g_strO (f_cons (f_prop f_var) f_nil)) (f_cons (f_prop f_var) (f_cons (f_ca g_lenO (f_cons f_var f_nil)) (f_cons (f_ca g_strO (f_cons f_var f_nil)) (f_cons (f_ca g_boolO (f_cons f_var f_nil)) f_nil))))))))
    (s_seq (s_set (f_call (f_cons f_var (f_cons f_var f_nil))))
    (s_ret (f_2 g_eq (f_ca g_repr2 (f_cons f_var f_nil)) (f_ca g_repr2 (f_cons (f_L (f_lst (f_cons (f_ca g_strO (f_cons (f_make (f_cons f_var f_nil)) f_nil)) (f_cons f_var (f_cons (f_ca g_len (f_cons f_var f_nil)) (f_cons f_var (f_cons f_c f_nil))))))) f_nil))))))
def cf_law_shows : List D → R D := cfOf N_law_shows 3 x_law_shows
def sp_law_shows : DSp := spOf cf_law_shows
/-! Board.sizes -/
abbrev N_Board_sizes : List Str := ["self"]
def R_Board_sizes : FS := (sRet (f2 ixD (fFld 1 0 (fVar 0)) (fC (.int 0))))
def x_Board_sizes : DL.Env → RS := (yRet (x2 ixX (xFld 1 0 (xVar 0)) (xC (.int 0))))
theorem l_Board_sizes : CS R_Board_sizes x_Board_sizes := (s_ret (f_2 g_ix (f_fld f_var) f_c))
def cf_Board_sizes : List D → R D := cfOf N_Board_sizes 1 x_Board_sizes
def sp_Board_sizes : DSp := spOf cf_Board_sizes
/-! Board.__eq__ -/
abbrev N_Board_eq : List Str := ["self", "other"]
def R_Board_eq : FS := (sRet (fAnd (isiD isi_Board (fVar 1)) (f2 eqD (fProp 1 sp_Board_sizes (fVar 0)) (fProp 1 sp_Board_sizes (fVar 1)))))
def x_Board_eq : DL.Env → RS := (yRet (xAnd (isiX isi_Board (xVar 1)) (x2 eqX (xProp 1 cf_Board_sizes (xVar 0)) (xProp 1 cf_Board_sizes (xVar 1)))))
theorem l_Board_eq : CS R_Board_eq x_Board_eq := (s_ret (f_and (f_isi f_var) (f_2 g_eq (f_prop f_var) (f_prop f_var))))
def cf_Board_eq : List D → R D := cfOf N_Board_eq 2 x_Board_eq
def sp_Board_eq : DSp := spOf cf_Board_eq
/-! Notes.__eq__ -/
abbrev N_Notes_eq : List Str := ["self", "other"]
def R_Notes_eq : FS := (sRet (fAnd (isiD isi_Notes (fVar 1)) (f2 (eqPD 1 sp_Board_eq) (fFld 3 0 (fVar 0)) (fFld 3 0 (fVar 1)))))
def x_Notes_eq : DL.Env → RS := (yRet (xAnd (isiX isi_Notes (xVar 1)) (x2 (eqPX 1 cf_Board_eq) (xFld 3 0 (xVar 0)) (xFld 3 0 (xVar 1)))))
theorem l_Notes_eq : CS R_Notes_eq x_Notes_eq := (s_ret (f_and (f_isi f_var) (f_2 g_eqP (f_fld f_var) (f_fld f_var))))
def cf_Notes_eq : List D → R D := cfOf N_Notes_eq 2 x_Notes_eq
def sp_Notes_eq : DSp := spOf cf_Notes_eq
/-! _law_right -/
abbrev N_law_right : List Str := ["jar", "turn", "spans", "line", "pairs_here", "others", "mine", "twin", "third", "mate", "due", "value", "k", "each"]
def P_law_right_0 : FS := (sPar 6 7 (fCons (fMakeK 3 3 0 [.p 0, .p 1] [(.tup [])] (spIn cf_Notes_init) (fKw (fCons (fMake 1 (spIn cf_Board_init) (fCons (fVar 2) fNil)) (fCons (fVar 4) fNil)) fNil)) (fCons (fMakeK 3 1 2 [.k 1, .k 0] [(.tup [])] (spIn cf_Notes_init) (fKw fNil (fCons (fVar 4) (fCons (fMake 1 (spIn cf_Board_init) (fCons (fVar 2) fNil)) fNil)))) fNil)))
def yP_law_right_0 : DL.Env → RS := (yPar 6 7 (xCons (xMakeK 3 3 0 [.p 0, .p 1] [(.tup [])] cf_Notes_init (xKw (xCons (xMake 1 cf_Board_init (xCons (xVar 2) xNil)) (xCons (xVar 4) xNil)) xNil)) (xCons (xMakeK 3 1 2 [.k 1, .k 0] [(.tup [])] cf_Notes_init (xKw xNil (xCons (xVar 4) (xCons (xMake 1 cf_Board_init (xCons (xVar 2) xNil)) xNil)))) xNil)))
theorem lP_law_right_0 : CS P_law_right_0 yP_law_right_0 := (s_par (f_cons (f_makeK (f_kw (f_cons (f_make (f_cons f_var f_nil)) (f_cons f_var f_nil)) f_nil)) (f_cons (f_makeK (f_kw f_nil (f_cons f_var (f_cons (f_make (f_cons f_var f_nil)) f_nil)))) f_nil)))
def P_law_right_1 : FS := (sSet 8 (fCall sp_Notes_read (fCons (fCall sp_law_page (fCons (fVar 2) (fCons (fVar 4) fNil))) fNil)))
def yP_law_right_1 : DL.Env → RS := (ySet 8 (xCall cf_Notes_read (xCons (xCall cf_law_page (xCons (xVar 2) (xCons (xVar 4) xNil))) xNil)))
theorem lP_law_right_1 : CS P_law_right_1 yP_law_right_1 := (s_set (f_call (f_cons (f_call (f_cons f_var (f_cons f_var f_nil))) f_nil)))
def P_law_right_2 : FS := (sIf (fNotT (fTb (fCa (blsD fun bs => .bl (bs.all id)) (fCons (fL (fLc (fItA (fL (fLst (fCons (fVar 6) (fCons (fVar 7) (fCons (fVar 8) (fCons (fCallK 0 1 [.k 0] [] sp_Notes_read (fKw fNil (fCons (fCa (strO 3 sp_Notes_str) (fCons (fVar 6) fNil)) fNil))) fNil))))))) [13] (gVar 13) fYes (fCall sp_law_shows (fCons (fVar 13) (fCons (fVar 2) (fCons (fVar 4) fNil)))))) fNil)))) (sRet (fC (.bl false))) sNext)
def yP_law_right_2 : DL.Env → RS := (yIf (xNotT (xTb (xCa (blsX fun bs => .bl (bs.all id)) (xCons (xL (xLc (iA (xL (xLst (xCons (xVar 6) (xCons (xVar 7) (xCons (xVar 8) (xCons (xCallK 0 1 [.k 0] [] cf_Notes_read (xKw xNil (xCons (xCa (strOX 3 cf_Notes_str) (xCons (xVar 6) xNil)) xNil))) xNil))))))) [13] (yVar 13) xYes (xCall cf_law_shows (xCons (xVar 13) (xCons (xVar 2) (xCons (xVar 4) xNil)))))) xNil)))) (yRet (xC (.bl false))) yNext)
theorem lP_law_right_2 : CS P_law_right_2 yP_law_right_2 := (s_if (f_notT (f_tb (f_ca g_bls (f_cons (f_L (f_lc (f_itA (f_L (f_lst (f_cons f_var (f_cons f_var (f_cons f_var (f_cons (f_callK (f_kw f_nil (f_cons (f_ca g_strO (f_cons f_var f_nil)) f_nil))) f_nil))))))) t_var f_yes (f_call (f_cons f_var (f_cons f_var (f_cons f_var f_nil)))))) f_nil)))) (s_ret f_c) s_next)
def P_law_right_3 : FS := (sIf (fTb (f2 neD (fCa reprD2 (fCons (fL (fLst (fCons (f2 (eqO 3 sp_Notes_eq) (fVar 6) (fVar 9)) (fCons (f2 (eqO 3 sp_Notes_eq) (fVar 9) (fVar 6)) (fCons (f2 (neO 3 sp_Notes_eq) (fVar 6) (fVar 9)) fNil))))) fNil)) (fCa reprD2 (fCons (fL (fLst (fCons (fVar 10) (fCons (fVar 10) (fCons (fNot (fVar 10)) fNil))))) fNil)))) (sRet (fC (.bl false))) sNext)
def yP_law_right_3 : DL.Env → RS := (yIf (xTb (x2 neX (xCa reprX2 (xCons (xL (xLst (xCons (x2 (eqOX 3 cf_Notes_eq) (xVar 6) (xVar 9)) (xCons (x2 (eqOX 3 cf_Notes_eq) (xVar 9) (xVar 6)) (xCons (x2 (neOX 3 cf_Notes_eq) (xVar 6) (xVar 9)) xNil))))) xNil)) (xCa reprX2 (xCons (xL (xLst (xCons (xVar 10) (xCons (xVar 10) (xCons (xNot (xVar 10)) xNil))))) xNil)))) (yRet (xC (.bl false))) yNext)
theorem lP_law_right_3 : CS P_law_right_3 yP_law_right_3 := (s_if (f_tb (f_2 g_ne (f_ca g_repr2 (f_cons (f_L (f_lst (f_cons (f_2 g_eqO f_var f_var) (f_cons (f_2 g_eqO f_var f_var) (f_cons (f_2 g_neO f_var f_var) f_nil))))) f_nil)) (f_ca g_repr2 (f_cons (f_L (f_lst (f_cons f_var (f_cons f_var (f_cons (f_not f_var) f_nil))))) f_nil)))) (s_ret f_c) s_next)
def L_law_right_0 : FS := P_law_right_3
def P_law_right_4 : FS := (sFor (fItA (fL (fLst (fCons (fTup (fCons (fVar 7) (fCons (fC (.bl true)) fNil))) (fCons (fTup (fCons (fVar 8) (fCons (fC (.bl true)) fNil))) (fCons (fTup (fCons (fMakeK 3 3 0 [.p 0, .p 1] [(.tup [])] (spIn cf_Notes_init) (fKw (fCons (fMake 1 (spIn cf_Board_init) (fCons (fVar 2) fNil)) (fCons (fVar 5) fNil)) fNil)) (fCons (f2 eqD (fVar 5) (fVar 4)) fNil))) fNil)))))) (gTupD 2 (gsCons (gVar 9) (gsCons (gVar 10) gsNil)))
      L_law_right_0)
def yP_law_right_4 : DL.Env → RS := (yFor (iA (xL (xLst (xCons (xTup (xCons (xVar 7) (xCons (xC (.bl true)) xNil))) (xCons (xTup (xCons (xVar 8) (xCons (xC (.bl true)) xNil))) (xCons (xTup (xCons (xMakeK 3 3 0 [.p 0, .p 1] [(.tup [])] cf_Notes_init (xKw (xCons (xMake 1 cf_Board_init (xCons (xVar 2) xNil)) (xCons (xVar 5) xNil)) xNil)) (xCons (x2 eqX (xVar 5) (xVar 4)) xNil))) xNil)))))) (yTup 2 (ysCons (yVar 9) (ysCons (yVar 10) ysNil)))
      yP_law_right_3)
theorem lP_law_right_4 : CS P_law_right_4 yP_law_right_4 := (s_for (f_itA (f_L (f_lst (f_cons (f_tup (f_cons f_var (f_cons f_c f_nil))) (f_cons (f_tup (f_cons f_var (f_cons f_c f_nil))) (f_cons (f_tup (f_cons (f_makeK (f_kw (f_cons (f_make (f_cons f_var f_nil)) (f_cons f_var f_nil)) f_nil)) (f_cons (f_2 g_eq f_var f_var) f_nil))) f_nil)))))) (t_tup (ts_cons t_var (ts_cons t_var ts_nil)))
      lP_law_right_3)
def P_law_right_5 : FS := (sIf (fTb (f2 neD (fCa reprD2 (fCons (fL (fLst (fCons (f2 (eqLW 3 [1] sp_Notes_eq false) (fVar 6) (fVar 11)) (fCons (f2 (eqRW 3 1 sp_Notes_eq sp_Board_eq) (fVar 11) (fVar 6)) (fCons (f2 (eqLW 3 [1] sp_Notes_eq true) (fVar 6) (fVar 11)) fNil))))) fNil)) (fC (.str "[False, False, True]")))) (sRet (fC (.bl false))) sNext)
def yP_law_right_5 : DL.Env → RS := (yIf (xTb (x2 neX (xCa reprX2 (xCons (xL (xLst (xCons (x2 (eqLWX 3 [1] cf_Notes_eq false) (xVar 6) (xVar 11)) (xCons (x2 (eqRWX 3 1 cf_Notes_eq cf_Board_eq) (xVar 11) (xVar 6)) (xCons (x2 (eqLWX 3 [1] cf_Notes_eq true) (xVar 6) (xVar 11)) xNil))))) xNil)) (xC (.str "[False, False, True]")))) (yRet (xC (.bl false))) yNext)
theorem lP_law_right_5 : CS P_law_right_5 yP_law_right_5 := (s_if (f_tb (f_2 g_ne (f_ca g_repr2 (f_cons (f_L (f_lst (f_cons (f_2 g_eqLW f_var f_var) (f_cons (f_2 g_eqRW f_var f_var) (f_cons (f_2 g_eqLW f_var f_var) f_nil))))) f_nil)) f_c)) (s_ret f_c) s_next)
def L_law_right_1 : FS := P_law_right_5
def P_law_right_6 : FS := (sFor (fItA (fL (fLst (fCons (fCa (strO 3 sp_Notes_str) (fCons (fVar 6) fNil)) (fCons (fProp 3 sp_Notes_board (fVar 6)) (fCons (fVar 4) (fCons (fC .non) (fCons (fC (.int 0)) (fCons (fL (fLst fNil)) (fCons (fC (.dic [] [])) (fCons (fTup (fCons (fVar 6) fNil)) fNil))))))))))) (gVar 11)
      L_law_right_1)
def yP_law_right_6 : DL.Env → RS := (yFor (iA (xL (xLst (xCons (xCa (strOX 3 cf_Notes_str) (xCons (xVar 6) xNil)) (xCons (xProp 3 cf_Notes_board (xVar 6)) (xCons (xVar 4) (xCons (xC .non) (xCons (xC (.int 0)) (xCons (xL (xLst xNil)) (xCons (xC (.dic [] [])) (xCons (xTup (xCons (xVar 6) xNil)) xNil))))))))))) (yVar 11)
      yP_law_right_5)
theorem lP_law_right_6 : CS P_law_right_6 yP_law_right_6 := (s_for (f_itA (f_L (f_lst (f_cons (f_ca g_strO (f_cons f_var f_nil)) (f_cons (f_prop f_var) (f_cons f_var (f_cons f_c (f_cons f_c (f_cons (f_L (f_lst f_nil)) (f_cons f_c (f_cons (f_tup (f_cons f_var f_nil)) f_nil))))))))))) t_var
      lP_law_right_5)
def P_law_right_7 : FS := (sIf (fOrT (fNotT (fTb (fCall sp_law_shows (fCons (fMakeK 3 2 0 [.p 0, .d 0] [(.tup [])] (spIn cf_Notes_init) (fKw (fCons (fMake 1 (spIn cf_Board_init) (fCons (fVar 2) fNil)) fNil) fNil)) (fCons (fVar 2) (fCons (fTup fNil) fNil)))))) (fNotT (fTb (fCall sp_law_shows (fCons (fMakeK 3 1 1 [.k 0, .d 0] [(.tup [])] (spIn cf_Notes_init) (fKw fNil (fCons (fMake 1 (spIn cf_Board_init) (fCons (fVar 2) fNil)) fNil))) (fCons (fVar 2) (fCons (fTup fNil) fNil))))))) (sRet (fC (.bl false))) sNext)
def yP_law_right_7 : DL.Env → RS := (yIf (xOrT (xNotT (xTb (xCall cf_law_shows (xCons (xMakeK 3 2 0 [.p 0, .d 0] [(.tup [])] cf_Notes_init (xKw (xCons (xMake 1 cf_Board_init (xCons (xVar 2) xNil)) xNil) xNil)) (xCons (xVar 2) (xCons (xTup xNil) xNil)))))) (xNotT (xTb (xCall cf_law_shows (xCons (xMakeK 3 1 1 [.k 0, .d 0] [(.tup [])] cf_Notes_init (xKw xNil (xCons (xMake 1 cf_Board_init (xCons (xVar 2) xNil)) xNil))) (xCons (xVar 2) (xCons (xTup xNil) xNil))))))) (yRet (xC (.bl false))) yNext)
theorem lP_law_right_7 : CS P_law_right_7 yP_law_right_7 := (s_if (f_orT (f_notT (f_tb (f_call (f_cons (f_makeK (f_kw (f_cons (f_make (f_cons f_var f_nil)) f_nil) f_nil)) (f_cons f_var (f_cons (f_tup f_nil) f_nil)))))) (f_notT (f_tb (f_call (f_cons (f_makeK (f_kw f_nil (f_cons (f_make (f_cons f_var f_nil)) f_nil))) (f_cons f_var (f_cons (f_tup f_nil) f_nil))))))) (s_ret f_c) s_next)
def L_law_right_2 : FS := (sSeq (sSet 2 (fCall sp_law_spans (fCons (fVar 0) (fCons (fC (.int 24)) fNil))))
    (sSeq (sSet 3 (fCall sp_law_line (fCons (fVar 0) (fCons (fVar 2) fNil))))
    (sSeq (sAsg (gLstD 2 (gsCons (gVar 4) (gsCons (gVar 5) gsNil))) (fL (fLc (fRng1 (fCons (fC (.int 2)) fNil)) [12] (gVar 12) fYes (fCall sp_law_seen (fCons (fVar 0) (fCons (fVar 2) (fCons (fVar 3) (fCons (fCall sp_law_share (fCons (fVar 0) fNil)) fNil))))))))
    (sSeq P_law_right_0
    (sSeq P_law_right_1
    (sSeq P_law_right_2
    (sSeq P_law_right_4
    (sSeq P_law_right_6
    P_law_right_7))))))))
def R_law_right : FS := (sSeq (sFor (fRng1 (fCons (fC (.int 2)) fNil)) (gVar 1)
      L_law_right_2)
    (sRet (fC (.bl true))))
def sp_law_right : DSp := fun ds Q _ => ds = [.jar] ∧ Q (.bl true)
/-! _law_jar -/
abbrev N_law_jar : List Str := ["script", "k", "mixed", "cell", "own", "digits"]
def P_law_jar_0 : FS := (sSet 2 (f2 addD (f2 mulAD (f2 mulAD (fC (.int 7369)) (f2 addD (fVar 1) (fC (.int 5)))) (f2 addD (fVar 1) (fC (.int 2)))) (f2 mulAD (fC (.int 29)) (fCa lenD (fCons (fVar 0) fNil)))))
def P_law_jar_1 : FS := (sSet 2 (f2 modD (fCa intC (fCons (f2 addD (f2 mulAD (fVar 2) (fC (.int 733))) (fVar 3)) fNil)) (fC (.int 1000000009))))
def L_law_jar_0 : FS := P_law_jar_1
def P_law_jar_2 : FS := (sFor (fItA (fSlice (fVar 0) fNone (fSome (fC (.int 4))))) (gVar 3)
      L_law_jar_0)
def P_law_jar_3 : FS := (sSet 4 (fIf (fTb (f2 ltD (fVar 1) (fCa lenD (fCons (fVar 0) fNil)))) (f2 ixD (fVar 0) (fVar 1)) (fC (.int 0))))
def P_law_jar_4 : FS := (sSet 5 (fIf (fOrT (fTb (f2 ltD (fVar 4) (fC (.int 0)))) (fTb (f2 geD (fVar 4) (f2 powD (fC (.int 10)) (fC (.int 18)))))) (fCa (i1D fun i => .int (if i < 0 then -i else i)) (fCons (fVar 4) fNil)) (fC (.int 0))))
def R_law_jar : FS := (sSeq P_law_jar_0
    (sSeq P_law_jar_2
    (sSeq P_law_jar_3
    (sSeq P_law_jar_4
    (sRetJar (fLst (fCons (fVar 5) (fCons (f2 modD (fCa intC (fCons (f2 addD (f2 addD (f2 mulAD (fVar 2) (fC (.int 8117))) (f2 mulAD (fVar 4) (fC (.int 64013)))) (f2 mulAD (fC (.int 105019)) (f2 addD (fVar 1) (fC (.int 1))))) fNil)) (fC (.int 2147483563))) (fCons (fC (.int 0)) fNil)))))))))
def sp_law_jar : DSp := fun ds Q _ => ∃ (ns : List Int) (k : Int), ds = [.lst (ns.map D.int), .int k] ∧ 0 ≤ k ∧ k < 1000 ∧ ns.length ≤ 63 ∧ Q .jar
/-! law -/
abbrev N_law : List Str := ["script", "k"]
def L_law_0 : FS := (sIf (fNotT (fTb (fCall sp_law_right (fCons (fCall sp_law_jar (fCons (fVar 0) (fCons (fVar 1) fNil))) fNil)))) (sRet (fC (.bl false))) sNext)
def R_law : FS := (sSeq (sFor (fRng1 (fCons (fCa (i2D fun i j => .int (if j > i then j else i)) (fCons (fC (.int 2)) (fCons (fCa (i2D fun i j => .int (if j < i then j else i)) (fCons (fCa lenD (fCons (fVar 0) fNil)) (fCons (fC (.int 5)) fNil))) fNil))) fNil)) (gVar 1)
      L_law_0)
    (sRet (fC (.bl true))))
def sp_law : DSp := fun ds Q _ => ∃ ns : List Int, ds = [.lst (ns.map D.int)] ∧ ns.length ≤ 63 ∧ Q (.bl true)
end K15
namespace K15
open PySem L2 DL PyProof.Rows TP
theorem isi_Notes_v {e : List Sl → R D} {r : List Sl} {d : D} (h : e r = .ok d) (hb : isBase d = true) : isiX isi_Notes e r = .ok (.bl false) := by
  cases d <;> first | (cases hb; done) | exact E_isi h rfl rfl
theorem isi_tuple_v {e : List Sl → R D} {r : List Sl} {d : D} (h : e r = .ok d) (hb : isBase d = true) : isiX isi_tuple e r = .ok (.bl (tupB d)) := by
  cases d <;> first | (cases hb; done) | exact E_isi h rfl rfl
theorem len_law_dip : ∀ ds Q EX, sp_law_dip ds Q EX → ds.length = 2 := by
  rintro _ Q EX ⟨m, rfl, _⟩; rfl
theorem pure_law_dip : ∀ ds Q EX, sp_law_dip ds Q EX → R_law_dip { nx := fun _ => Q .non, rt := Q } EX (startD N_law_dip ds) := by
  rintro _ Q EX ⟨m, rfl, h0, h1, k⟩
  have hm : m ≠ 0 := by omega
  have fin : ∀ n : Int, Q (.int (n.fmod m)) := fun n => k _ (fmod_lt n h0).1 (fmod_lt n h0).2
  intro n0 n1
  refine ⟨_, rfl, ?_⟩
  refine ite2 (fun _ => ?_) (fun _ => ?_)
  · intro n2
    refine ⟨hm, ?_⟩
    intro n3
    refine ⟨⟨hm, by omega⟩, ?_⟩
    exact fin n2
  · intro n2
    refine ⟨.inr (by decide), ?_⟩
    intro n3
    refine ⟨.inr (by decide), ?_⟩
    refine ⟨(by decide : (2147483399 : Int) ≠ 0), ?_⟩
    intro n4
    refine ⟨⟨(by decide : (2048 : Int) ≠ 0), by decide⟩, ?_⟩
    refine ⟨hm, ?_⟩
    exact fin _
theorem len_law_pick : ∀ ds Q EX, sp_law_pick ds Q EX → ds.length = 2 := by
  rintro _ Q EX ⟨xs, d, rfl, _⟩; rfl
theorem pure_law_pick : ∀ ds Q EX, sp_law_pick ds Q EX → R_law_pick { nx := fun _ => Q .non, rt := Q } EX (startD N_law_pick ds) := by
  rintro _ Q EX ⟨xs, d, rfl, hd, hne, hz, k⟩
  have hl : 0 < xs.length := List.length_pos_iff.mpr hne
  have fin : ∀ n : Int, 0 ≤ n → n < xs.length → ∃ i : Nat, n = (i : Int) ∧ ∃ h : i < xs.length, Q xs[i] := fun n h1 h2 => by
    obtain ⟨i, rfl⟩ := Int.eq_ofNat_of_zero_le h1
    have hi : i < xs.length := by omega
    exact ⟨i, rfl, hi, k _ (List.getElem_mem hi)⟩
  rcases hd with rfl | rfl
  · refine ⟨(xs.length : Int), rfl, by omega, by omega, fun n h1 h2 => ?_⟩
    obtain ⟨i, rfl, hi, q⟩ := fin n h1 h2
    exact ⟨(i : Int), xs[i], rfl, atI_nat hi, q⟩
  · refine ⟨(xs.length : Int), rfl, by omega, by omega, fun n h1 h2 => ?_⟩
    obtain ⟨i, rfl, hi, q⟩ := fin n h1 h2
    exact ⟨(i : Int), xs[i], rfl, atI_nat hi, q⟩
theorem mem_lists : ∀ (n : Nat) (s : List Int), s.length ≤ n → (∀ z ∈ s, z = 2 ∨ z = 3) → s ∈ lists n
  | 0, [], _, _ => by simp [lists]
  | 0, _ :: _, h, _ => by simp at h
  | n + 1, [], _, _ => by simp [lists]
  | n + 1, z :: s, h, k => by
    have ih := mem_lists n s (by simpa using h) fun y hy => k y (List.mem_cons_of_mem _ hy)
    unfold lists
    refine List.mem_cons_of_mem _ (List.mem_flatMap.mpr ⟨s, ih, ?_⟩)
    rcases k z List.mem_cons_self with e | e <;> simp [e]
/-- what _law_spans has found so far -/
structure Good (m : Int) (s : List Int) (j : Nat) : Prop where
  len : s.length ≤ j
  two : ∀ z ∈ s, z = 2 ∨ z = 3
  le : prodI s ≤ m
  pos : 1 ≤ prodI s
theorem prodI_snoc : ∀ (s : List Int) (z : Int), prodI (s ++ [z]) = prodI s * z
  | [], z => by simp [prodI]
  | y :: s, z => by
    show y * prodI (s ++ [z]) = y * prodI s * z
    rw [prodI_snoc s z, Int.mul_assoc]
theorem Good.add {m : Int} {s : List Int} {j : Nat} (g : Good m s j) {z : Int} (hz : z = 2 ∨ z = 3) (h : prodI s * z ≤ m) : Good m (s ++ [z]) (j + 1) :=
  ⟨by simp; exact g.len, fun y hy => (List.mem_append.mp hy).elim (g.two y) fun q => by rw [List.mem_singleton.mp q]; exact hz, by rw [prodI_snoc]; exact h, by
    rw [prodI_snoc]
    have := g.pos
    rcases hz with rfl | rfl <;> omega⟩
theorem loop_spans {m : Int} {A : DE} {EX : XP} (hA : ∀ s x y, Good m s 5 → A.nx [.val .jar, .val (.int m), .val (.tup (s.map D.int)), .val (.int (prodI s)), x, y]) :
    ∀ (ds : List D) (j : Nat) (s : List Int) (x y : Sl), ds.length + j ≤ 5 → Good m s j → forD (gVar 4) L_law_spans_0 ds A EX [.val .jar, .val (.int m), .val (.tup (s.map D.int)), .val (.int (prodI s)), x, y]
  | [], j, s, x, y, h, g => hA s x y ⟨by have := g.len; simp at h; omega, g.two, g.le, g.pos⟩
  | d :: ds, j, s, x, y, h, g => by
    have hds : ds.length + (j + 1) ≤ 5 := by simp at h; omega
    have hle := g.le
    refine ⟨by decide, _, _, rfl, .inl rfl, by simp, by decide, fun e he => ?_⟩
    have he2 : ∃ z : Int, e = .int z ∧ (z = 2 ∨ z = 3) := by
      simp at he
      rcases he with rfl | rfl
      · exact ⟨2, rfl, .inl rfl⟩
      · exact ⟨3, rfl, .inr rfl⟩
    obtain ⟨z, rfl, hz⟩ := he2
    refine ⟨.inr (by rcases hz with rfl | rfl <;> decide), _, rfl, ?_⟩
    refine ite2 (fun hb => ?_) (fun hb => ?_)
    · have hb' : prodI s * z ≤ m := of_decide_eq_true hb
      have g2 := g.add hz hb'
      refine ⟨(by decide : 1 ≤ sizeLine), ?_⟩
      refine ⟨by
        have := g.len
        have l : (s.map D.int).length ≤ 5 := by rw [List.length_map]; omega
        exact Nat.le_trans (Nat.add_le_add l (Nat.le_refl 1)) (by decide), ?_⟩
      refine ⟨.inr (by rcases hz with rfl | rfl <;> decide), _, _, rfl, ?_⟩
      have ih := loop_spans (EX := EX) hA ds (j + 1) (s ++ [z]) (.val d) (.val (.int z)) hds g2
      rw [prodI_snoc, List.map_append] at ih
      exact ih
    · exact loop_spans (EX := EX) hA ds (j + 1) s _ _ hds ⟨Nat.le_succ_of_le g.len, g.two, g.le, g.pos⟩
def isBl : Option D → Option Bool
  | some (.bl b) => some b
  | _ => none
theorem isBl_eq {o : Option D} {b : Bool} (h : isBl o = some b) : o = some (.bl b) := by
  match o, h with
  | some (.bl c), h => cases h; rfl
theorem ne_unit : ∀ s ∈ lists 5, isBl (neX (.tup (s.map D.int)) (.tup [])) = some (!s.isEmpty) := by decide +kernel
theorem len_law_spans : ∀ ds Q EX, sp_law_spans ds Q EX → ds.length = 2 := by
  rintro _ Q EX ⟨m, rfl, _⟩; rfl
theorem pure_law_spans : ∀ ds Q EX, sp_law_spans ds Q EX → R_law_spans { nx := fun _ => Q .non, rt := Q } EX (startD N_law_spans ds) := by
  rintro _ Q EX ⟨m, rfl, hm1, hm2, k⟩
  refine ⟨by decide, ⟨by decide, ⟨_, rfl, rfl, _, _, rfl, _, _, rfl, rfl, ?_⟩⟩⟩
  refine ⟨5, rfl, by decide, by decide, fun n h0 h1 => ?_⟩
  refine ⟨1 + n, rfl, ⟨by omega, by omega⟩, ?_⟩
  refine loop_spans (m := m) (fun s x y g => ?_) _ 0 [] .un .un (by rw [rangeD_len]; omega) ⟨by simp, by simp, by show (1 : Int) ≤ m; omega, by decide⟩
  have hm := mem_lists 5 s g.len g.two
  refine ⟨by decide, ?_⟩
  refine g_ne _ _ _ _ (isBl_eq (ne_unit s hm)) ⟨_, rfl, ?_⟩
  refine ite2 (fun hb => ?_) (fun hb => ?_)
  · exact k s (List.mem_filter.mpr ⟨hm, by simp only [hb, g.le, decide_true, Bool.and_self]⟩)
  · exact ⟨by decide, k [2] (List.mem_filter.mpr ⟨by decide +kernel, by rw [Bool.and_eq_true]; exact ⟨by decide, decide_eq_true (by show (2 : Int) * 1 ≤ m; omega)⟩⟩)⟩
theorem t_law_all {s : List Int} (h : OkS s) : cf_law_all [.tup (s.map D.int)] = .ok (sts (sets (full s))) := by
  have hsm := h.small
  refine cfN_ok (by rfl) ?_; simp only [x_law_all, DL.startD, N_law_all, List.map_cons, List.map_nil, List.length_cons, List.length_nil, Nat.reduceAdd, Nat.reduceSub, List.replicate_succ, List.replicate_zero, List.cons_append, List.nil_append]
  refine S_setOwn (ds := sts (sets [])) (by simp (disch := (first | assumption | omega | (simp only [List.length_append, List.length_take, List.length_drop, List.length_cons, List.length_nil, List.length_map, List.length_range, sts_len, sl_eq, sx_len] <;> omega))) only [cfOf, cfN, DL.startD, ySeq, yIf, yRet, yRetN, ySet, ySetOwn, yOff, offs, Sl.off, yApp, yFor, yExpr, yNext, yNever, yPar, yParO, yParOO, yAsg, yRetNew, yRetF, yMove, bind_ok, st_ok, ofO_some, cut_ok, xVar, xSee, xC, x2, xTb, xAndT, xOrT, xNotT, xAnd, xOr, xNot, xIf, xNil, xCons, xTup, xLst, xL, xCa, xSlice, oNone, oSome, xFld, xProp, xCall, xCallN, xMeth, xNeg, xAddN, isiX, tagD, iA, seqD_lst, seqD_tup, seqD_st, yVar, ysNil, ysCons, yTup, wipeD, frc_eq, frcs_eq, frcp_eq, List.getElem?_cons_zero, List.getElem?_cons_succ, List.set_cons_zero, List.set_cons_succ, List.map_cons, List.map_nil, List.length_cons, List.length_nil, List.replicate_succ, List.replicate_zero, List.cons_append, List.nil_append, Nat.reduceAdd, Nat.reduceSub, Nat.reduceEqDiff, Bool.false_eq_true, Nat.zero_add, eq_self, if_true, if_pos, if_neg, reduceCtorEq, Option.map_some, Option.bind_some, addX_int, natc1, cutS_sx, cutD_sts, cutN_to, cutN_from, cutN_mid, addX_st, eqX_st, neX_st, ltX_st, ltX_int, leX_int, gtX_int, geX_int, eqX_int, neX_int, sl_eq, sx_len, signs_sx, lenX_st, lenX_lst, lenX_tup, gd_pos, sts_len, tupCX, listX, inX_tup, inX_one, ixX_st, ixX_sts, ixX_stsL, lit_empty] <;> rfl) ?_
  refine S_for (em := D.int) (xs := s) (fun p r => ∃ a b c d, r = [.val (.tup (s.map D.int)), .own (sts (sets (full p))), a, b, c, d]) (iA_ok rfl rfl) ⟨_, _, _, _, rfl⟩ ?_ ?_
  · rintro p z q rfl r ⟨a, b, c, d, rfl⟩
    have hp : Small (full p) := by
      have : full (p ++ z :: q) = full p ++ full (z :: q) := List.map_append
      rw [this] at hsm
      exact hsm.pre
    have hz : z = 2 ∨ z = 3 := h.two z (by simp)
    refine ⟨_, rfl, S_setOwn (E_lst E_nil (by exact Nat.zero_le _)) ?_⟩
    refine W_seq (W_off (W_for (em := st) (xs := sets (full p)) (fun pre r => ∃ c d, r = [.val (.tup ((p ++ z :: q).map D.int)), .val (.lst (sts (sets (full p)))), .val (.int z), .own (sts (grow pre (standsOf z))), c, d]) (iA_ok rfl rfl) ⟨_, _, rfl⟩ ?_ ?_))
    · rintro pre x post hx r ⟨c, d, rfl⟩
      have mx : x ∈ sets (full p) := by rw [hx]; simp
      have lx : x.length ≤ 5 := (mem_sets.mp mx).len5 hp
      have h9 : (grow pre (standsOf z)).length ≤ 243 * 3 := by
        rw [grow_len]
        have : pre.length + (post.length + 1) = (sets (full p)).length := by rw [hx]; simp
        have := hp.sets
        exact Nat.mul_le_mul (by omega) standsOf_len
      refine ⟨_, rfl, W_setOwn (ds := sts (grow (pre ++ [x]) (standsOf z))) ((E_addN rfl (E_L (xLc_ok (e := fun c => st [c]) (xs := standsOf z) (fun _ => true) (fun c => st (x ++ [c])) (iA_ok (d := st (standsOf z)) ?_ seqD_st) (Nat.le_trans standsOf_len (by decide)) ?_)) ?_).trans ?_) ⟨_, _, rfl⟩⟩
      · rcases hz with rfl | rfl
        · show xSlice (xC _) oNone (oSome (xVar 2)) _ = _
          have e : (2 : Int) = ((2 : Nat) : Int) := rfl
          simp (disch := (first | assumption | omega | (simp only [List.length_append, List.length_take, List.length_drop, List.length_cons, List.length_nil, List.length_map, List.length_range, sts_len, sl_eq, sx_len] <;> omega))) only [cfOf, cfN, DL.startD, ySeq, yIf, yRet, yRetN, ySet, ySetOwn, yOff, offs, Sl.off, yApp, yFor, yExpr, yNext, yNever, yPar, yParO, yParOO, yAsg, yRetNew, yRetF, yMove, bind_ok, st_ok, ofO_some, cut_ok, xVar, xSee, xC, x2, xTb, xAndT, xOrT, xNotT, xAnd, xOr, xNot, xIf, xNil, xCons, xTup, xLst, xL, xCa, xSlice, oNone, oSome, xFld, xProp, xCall, xCallN, xMeth, xNeg, xAddN, isiX, tagD, iA, seqD_lst, seqD_tup, seqD_st, yVar, ysNil, ysCons, yTup, wipeD, frc_eq, frcs_eq, frcp_eq, List.getElem?_cons_zero, List.getElem?_cons_succ, List.set_cons_zero, List.set_cons_succ, List.map_cons, List.map_nil, List.length_cons, List.length_nil, List.replicate_succ, List.replicate_zero, List.cons_append, List.nil_append, Nat.reduceAdd, Nat.reduceSub, Nat.reduceEqDiff, Bool.false_eq_true, Nat.zero_add, eq_self, if_true, if_pos, if_neg, reduceCtorEq, Option.map_some, Option.bind_some, addX_int, natc1, cutS_sx, cutD_sts, cutN_to, cutN_from, cutN_mid, addX_st, eqX_st, neX_st, ltX_st, ltX_int, leX_int, gtX_int, geX_int, eqX_int, neX_int, sl_eq, sx_len, signs_sx, lenX_st, lenX_lst, lenX_tup, gd_pos, sts_len, tupCX, listX, inX_tup, inX_one, ixX_st, ixX_sts, ixX_stsL, lit012, e]
          rfl
        · show xSlice (xC _) oNone (oSome (xVar 2)) _ = _
          have e : (3 : Int) = ((3 : Nat) : Int) := rfl
          simp (disch := (first | assumption | omega | (simp only [List.length_append, List.length_take, List.length_drop, List.length_cons, List.length_nil, List.length_map, List.length_range, sts_len, sl_eq, sx_len] <;> omega))) only [cfOf, cfN, DL.startD, ySeq, yIf, yRet, yRetN, ySet, ySetOwn, yOff, offs, Sl.off, yApp, yFor, yExpr, yNext, yNever, yPar, yParO, yParOO, yAsg, yRetNew, yRetF, yMove, bind_ok, st_ok, ofO_some, cut_ok, xVar, xSee, xC, x2, xTb, xAndT, xOrT, xNotT, xAnd, xOr, xNot, xIf, xNil, xCons, xTup, xLst, xL, xCa, xSlice, oNone, oSome, xFld, xProp, xCall, xCallN, xMeth, xNeg, xAddN, isiX, tagD, iA, seqD_lst, seqD_tup, seqD_st, yVar, ysNil, ysCons, yTup, wipeD, frc_eq, frcs_eq, frcp_eq, List.getElem?_cons_zero, List.getElem?_cons_succ, List.set_cons_zero, List.set_cons_succ, List.map_cons, List.map_nil, List.length_cons, List.length_nil, List.replicate_succ, List.replicate_zero, List.cons_append, List.nil_append, Nat.reduceAdd, Nat.reduceSub, Nat.reduceEqDiff, Bool.false_eq_true, Nat.zero_add, eq_self, if_true, if_pos, if_neg, reduceCtorEq, Option.map_some, Option.bind_some, addX_int, natc1, cutS_sx, cutD_sts, cutN_to, cutN_from, cutN_mid, addX_st, eqX_st, neX_st, ltX_st, ltX_int, leX_int, gtX_int, geX_int, eqX_int, neX_int, sl_eq, sx_len, signs_sx, lenX_st, lenX_lst, lenX_tup, gd_pos, sts_len, tupCX, listX, inX_tup, inX_one, ixX_st, ixX_sts, ixX_stsL, lit012, e]
          rfl
      · intro c hc
        refine ⟨_, rfl, rfl, fun _ => ?_⟩
        simp (disch := (first | assumption | omega | (simp only [List.length_append, List.length_take, List.length_drop, List.length_cons, List.length_nil, List.length_map, List.length_range, sts_len, sl_eq, sx_len] <;> omega))) only [cfOf, cfN, DL.startD, ySeq, yIf, yRet, yRetN, ySet, ySetOwn, yOff, offs, Sl.off, yApp, yFor, yExpr, yNext, yNever, yPar, yParO, yParOO, yAsg, yRetNew, yRetF, yMove, bind_ok, st_ok, ofO_some, cut_ok, xVar, xSee, xC, x2, xTb, xAndT, xOrT, xNotT, xAnd, xOr, xNot, xIf, xNil, xCons, xTup, xLst, xL, xCa, xSlice, oNone, oSome, xFld, xProp, xCall, xCallN, xMeth, xNeg, xAddN, isiX, tagD, iA, seqD_lst, seqD_tup, seqD_st, yVar, ysNil, ysCons, yTup, wipeD, frc_eq, frcs_eq, frcp_eq, List.getElem?_cons_zero, List.getElem?_cons_succ, List.set_cons_zero, List.set_cons_succ, List.map_cons, List.map_nil, List.length_cons, List.length_nil, List.replicate_succ, List.replicate_zero, List.cons_append, List.nil_append, Nat.reduceAdd, Nat.reduceSub, Nat.reduceEqDiff, Bool.false_eq_true, Nat.zero_add, eq_self, if_true, if_pos, if_neg, reduceCtorEq, Option.map_some, Option.bind_some, addX_int, natc1, cutS_sx, cutD_sts, cutN_to, cutN_from, cutN_mid, addX_st, eqX_st, neX_st, ltX_st, ltX_int, leX_int, gtX_int, geX_int, eqX_int, neX_int, sl_eq, sx_len, signs_sx, lenX_st, lenX_lst, lenX_tup, gd_pos, sts_len, tupCX, listX, inX_tup, inX_one, ixX_st, ixX_sts, ixX_stsL]
      · rw [sts_len, filter_tt, List.length_map]
        have := standsOf_len (z := z)
        omega
      · rw [filter_tt, grow_app, grow_one, sts_app]
        simp [sts]
    · rintro r ⟨c, d, rfl⟩
      have e : sets (full (p ++ [z])) = grow (sets (full p)) (standsOf z) := by
        have e : full (p ++ [z]) = full p ++ [standsOf z] := by unfold full; simp
        rw [e, sets_grow]
      refine W_move rfl ?_
      show ∃ a b c d, _ = _
      rw [e]
      exact ⟨_, _, _, _, rfl⟩
  · rintro r ⟨a, b, c, d, rfl⟩
    exact W_retNew rfl rfl
theorem len_law_line : ∀ ds Q EX, sp_law_line ds Q EX → ds.length = 2 := by
  rintro _ Q EX ⟨s, rfl, _⟩; rfl
theorem erase_perm {α : Type} : ∀ {l : List α} {k : Nat} {y : α}, l[k]? = some y → (y :: l.eraseIdx k).Perm l
  | [], k, y, h => by simp at h
  | x :: l, 0, y, h => by
    simp at h
    subst h
    exact .refl _
  | x :: l, k + 1, y, h => by
    have ih := erase_perm (l := l) (k := k) (y := y) (by simpa using h)
    rw [List.eraseIdx_cons_succ]
    exact (List.Perm.swap x y _).trans (List.Perm.cons x ih)
theorem sts_erase : ∀ {l : List Tx} {k : Nat}, (sts l).eraseIdx k = sts (l.eraseIdx k)
  | [], k => rfl
  | x :: l, 0 => rfl
  | x :: l, k + 1 => by
    rw [sts_cons, List.eraseIdx_cons_succ, List.eraseIdx_cons_succ, sts_cons, sts_erase]
theorem pure_law_line : ∀ ds Q EX, sp_law_line ds Q EX → R_law_line { nx := fun _ => Q .non, rt := Q } EX (startD N_law_line ds) := by
  rintro _ Q EX ⟨s, rfl, hs, k⟩
  have hsm := hs.small.sets
  refine lP_law_line_0.use (r := [.val .jar, .val (.tup (s.map D.int)), .un, .un]) (r1 := [.val .jar, .val (.tup (s.map D.int)), .own (sts (sets (full s))), .own []]) rfl ?_ rfl ?_
  · have e := E_callN (c := cf_law_all) (r := [.val .jar, .val (.tup (s.map D.int)), .un, .un]) (E_cons (e := xVar 1) rfl E_nil) (t_law_all hs)
    have := W_parOO (A := { nx := fun r => r = [.val .jar, .val (.tup (s.map D.int)), .own (sts (sets (full s))), .own []], rt := fun _ => False }) (EX := NoX) (i := 2) (j := 3) e (E_lst (r := [.val .jar, .val (.tup (s.map D.int)), .un, .un]) E_nil (by exact Nat.zero_le _)) rfl
    rw [W_def] at this
    unfold yP_law_line_0
    revert this
    generalize yParOO 2 3 (xCallN cf_law_all (xCons (xVar 1) xNil)) (xLst xNil) [.val .jar, .val (.tup (s.map D.int)), .un, .un] = z
    intro this
    cases z <;> first | exact this.elim | exact congrArg RS.nx this
  · refine ⟨fun m r => ∃ rest found : List Tx, (rest ++ found).Perm (sets (full s)) ∧ rest.length = m ∧ r = [.val .jar, .val (.tup (s.map D.int)), .own (sts rest), .own (sts found)], ⟨_, _, [], by rw [List.append_nil], rfl, rfl⟩, ?_⟩
    rintro m r ⟨rest, found, hp, rfl, rfl⟩
    have pl : ∀ x ∈ rest, Plain x := fun x hx => plain_sets hs x (hp.mem_iff.mp (List.mem_append_left _ hx))
    have hlen : rest.length + found.length ≤ 243 := by rw [← List.length_append, hp.length_eq]; exact hsm
    refine ⟨by decide, ?_⟩
    refine g_ne (.lst (sts rest)) (.lst (sts [])) (.bl (!decide (rest = []))) _ ?_ ⟨_, rfl, ?_⟩
    · show gd ((shpB (.lst (sts rest)) && shpB (.lst (sts []))) = true) (.bl (!eqb (.lst (sts rest)) (.lst (sts [])))) = _
      rw [gd_pos (by rw [shp_lst pl]; rfl), eqb_lst]
    refine ite2 (fun hb => ?_) (fun hb => ?_)
    · have hne : rest ≠ [] := by simpa using hb
      have hpos : 0 < rest.length := List.length_pos_iff.mpr hne
      refine ⟨?_, (rest.length : Int), ?_, by omega, by omega, fun n h0 h1 => ⟨?_, ?_⟩⟩
      · rw [sts_len]
        exact Nat.lt_of_le_of_lt (show found.length ≤ 243 by omega) (by decide)
      · show [D.jar, D.int ((sts rest).length : Nat)] = _
        rw [sts_len]
      · rw [sts_len]
        exact Nat.le_trans (show rest.length ≤ 243 by omega) (by decide)
      · obtain ⟨i, rfl⟩ := Int.eq_ofNat_of_zero_le h0
        have hi : i < rest.length := by omega
        refine ⟨i, st rest[i], ?_, ?_, _, ?_, rest.eraseIdx i, found ++ [rest[i]], ?_, rfl, ?_⟩
        · unfold ixN
          rw [if_pos (by omega), if_pos (by rw [sts_len]; omega)]
          simp
        · unfold sts
          rw [List.getElem?_map, List.getElem?_eq_getElem hi]; rfl
        · rw [List.length_eraseIdx_of_lt hi]
          omega
        · have h5 := erase_perm (List.getElem?_eq_getElem hi)
          refine List.Perm.trans ?_ hp
          refine List.Perm.trans ?_ (List.Perm.append_right found h5)
          rw [List.cons_append, ← List.append_assoc]
          exact List.perm_append_singleton _ _
        · rw [← sts_erase, sts_app]; rfl
    · have he : rest = [] := by simpa using hb
      subst he
      exact k found hp
theorem t_law_near {s : List Int} {x : Tx} (h : OkS s) (hx : fits x (full s)) : cf_law_near [.tup (s.map D.int), st x] = .ok (.lst (sts (near (full s) x))) := by
  have hsm := h.small
  have hall := hsm.sets
  have lx := hx.len5 hsm
  refine cf_ok (by rfl) ?_; simp only [x_law_near, DL.startD, N_law_near, List.map_cons, List.map_nil, List.length_cons, List.length_nil, Nat.reduceAdd, Nat.reduceSub, List.replicate_succ, List.replicate_zero, List.cons_append, List.nil_append]
  refine S_set (d := .lst (sts (sets (full s)))) ((E_L (xLc_ok (e := st) (xs := sets (full s)) (fun _ => true) st (iA_ok (E_L (E_callN (E_cons rfl E_nil) (t_law_all h))) rfl) (Nat.le_trans hall (by decide)) ?_)).trans ?_) ?_
  · intro e he
    have le := (mem_sets.mp he).len5 hsm
    have e1 : e.length = x.length := by rw [(mem_sets.mp he).len, hx.len]
    refine ⟨_, rfl, ?_, fun _ => rfl⟩
    simp (disch := (first | assumption | omega | (simp only [List.length_append, List.length_take, List.length_drop, List.length_cons, List.length_nil, List.length_map, List.length_range, sts_len, sl_eq, sx_len] <;> omega))) only [cfOf, cfN, DL.startD, ySeq, yIf, yRet, yRetN, ySet, ySetOwn, yOff, offs, Sl.off, yApp, yFor, yExpr, yNext, yNever, yPar, yParO, yParOO, yAsg, yRetNew, yRetF, yMove, bind_ok, st_ok, ofO_some, cut_ok, xVar, xSee, xC, x2, xTb, xAndT, xOrT, xNotT, xAnd, xOr, xNot, xIf, xNil, xCons, xTup, xLst, xL, xCa, xSlice, oNone, oSome, xFld, xProp, xCall, xCallN, xMeth, xNeg, xAddN, isiX, tagD, iA, seqD_lst, seqD_tup, seqD_st, yVar, ysNil, ysCons, yTup, wipeD, frc_eq, frcs_eq, frcp_eq, List.getElem?_cons_zero, List.getElem?_cons_succ, List.set_cons_zero, List.set_cons_succ, List.map_cons, List.map_nil, List.length_cons, List.length_nil, List.replicate_succ, List.replicate_zero, List.cons_append, List.nil_append, Nat.reduceAdd, Nat.reduceSub, Nat.reduceEqDiff, Bool.false_eq_true, Nat.zero_add, eq_self, if_true, if_pos, if_neg, reduceCtorEq, Option.map_some, Option.bind_some, addX_int, natc1, cutS_sx, cutD_sts, cutN_to, cutN_from, cutN_mid, addX_st, eqX_st, neX_st, ltX_st, ltX_int, leX_int, gtX_int, geX_int, eqX_int, neX_int, sl_eq, sx_len, signs_sx, lenX_st, lenX_lst, lenX_tup, gd_pos, sts_len, tupCX, listX, inX_tup, inX_one, ixX_st, ixX_sts, ixX_stsL]
    simp [e1]
  · rw [filter_tt]; rfl
  refine W_ret (d := .lst (sts (near (full s) x))) ((E_L (xLc_ok (e := st) (xs := sets (full s)) (fun e => decide (dif e x = 1)) st (iA_ok rfl rfl) (Nat.le_trans hall (by decide)) ?_)).trans ?_) rfl
  · intro e he
    have le := (mem_sets.mp he).len5 hsm
    have e1 : e.length = x.length := by rw [(mem_sets.mp he).len, hx.len]
    refine ⟨_, rfl, (E_tb ((E_2 (x := .int (dif e x : Nat)) (E_ca (ds := [.lst (((List.range x.length).filter fun k => decide (e.getD k 0 ≠ x.getD k 0)).map fun k : Nat => .int k)]) (E_cons (E_L (xLc_ok (e := fun k : Nat => .int k) (xs := List.range x.length) (fun k => decide (e.getD k 0 ≠ x.getD k 0)) (fun k : Nat => .int k) ?_ (by rw [List.length_range]; omega) ?_)) E_nil) ?_) rfl eqX_int).trans ?_)), fun _ => rfl⟩
    · rw [rng1_ok (n := x.length) (by simp (disch := (first | assumption | omega | (simp only [List.length_append, List.length_take, List.length_drop, List.length_cons, List.length_nil, List.length_map, List.length_range, sts_len, sl_eq, sx_len] <;> omega))) only [cfOf, cfN, DL.startD, ySeq, yIf, yRet, yRetN, ySet, ySetOwn, yOff, offs, Sl.off, yApp, yFor, yExpr, yNext, yNever, yPar, yParO, yParOO, yAsg, yRetNew, yRetF, yMove, bind_ok, st_ok, ofO_some, cut_ok, xVar, xSee, xC, x2, xTb, xAndT, xOrT, xNotT, xAnd, xOr, xNot, xIf, xNil, xCons, xTup, xLst, xL, xCa, xSlice, oNone, oSome, xFld, xProp, xCall, xCallN, xMeth, xNeg, xAddN, isiX, tagD, iA, seqD_lst, seqD_tup, seqD_st, yVar, ysNil, ysCons, yTup, wipeD, frc_eq, frcs_eq, frcp_eq, List.getElem?_cons_zero, List.getElem?_cons_succ, List.set_cons_zero, List.set_cons_succ, List.map_cons, List.map_nil, List.length_cons, List.length_nil, List.replicate_succ, List.replicate_zero, List.cons_append, List.nil_append, Nat.reduceAdd, Nat.reduceSub, Nat.reduceEqDiff, Bool.false_eq_true, Nat.zero_add, eq_self, if_true, if_pos, if_neg, reduceCtorEq, Option.map_some, Option.bind_some, addX_int, natc1, cutS_sx, cutD_sts, cutN_to, cutN_from, cutN_mid, addX_st, eqX_st, neX_st, ltX_st, ltX_int, leX_int, gtX_int, geX_int, eqX_int, neX_int, sl_eq, sx_len, signs_sx, lenX_st, lenX_lst, lenX_tup, gd_pos, sts_len, tupCX, listX, inX_tup, inX_one, ixX_st, ixX_sts, ixX_stsL]) (by omega), rangeD_nat]
    · intro k hk
      have hk' : k < x.length := by simpa using hk
      have hk2 : k < e.length := by omega
      refine ⟨_, rfl, ?_, fun _ => rfl⟩
      simp (disch := (first | assumption | omega | (simp only [List.length_append, List.length_take, List.length_drop, List.length_cons, List.length_nil, List.length_map, List.length_range, sts_len, sl_eq, sx_len] <;> omega))) only [cfOf, cfN, DL.startD, ySeq, yIf, yRet, yRetN, ySet, ySetOwn, yOff, offs, Sl.off, yApp, yFor, yExpr, yNext, yNever, yPar, yParO, yParOO, yAsg, yRetNew, yRetF, yMove, bind_ok, st_ok, ofO_some, cut_ok, xVar, xSee, xC, x2, xTb, xAndT, xOrT, xNotT, xAnd, xOr, xNot, xIf, xNil, xCons, xTup, xLst, xL, xCa, xSlice, oNone, oSome, xFld, xProp, xCall, xCallN, xMeth, xNeg, xAddN, isiX, tagD, iA, seqD_lst, seqD_tup, seqD_st, yVar, ysNil, ysCons, yTup, wipeD, frc_eq, frcs_eq, frcp_eq, List.getElem?_cons_zero, List.getElem?_cons_succ, List.set_cons_zero, List.set_cons_succ, List.map_cons, List.map_nil, List.length_cons, List.length_nil, List.replicate_succ, List.replicate_zero, List.cons_append, List.nil_append, Nat.reduceAdd, Nat.reduceSub, Nat.reduceEqDiff, Bool.false_eq_true, Nat.zero_add, eq_self, if_true, if_pos, if_neg, reduceCtorEq, Option.map_some, Option.bind_some, addX_int, natc1, cutS_sx, cutD_sts, cutN_to, cutN_from, cutN_mid, addX_st, eqX_st, neX_st, ltX_st, ltX_int, leX_int, gtX_int, geX_int, eqX_int, neX_int, sl_eq, sx_len, signs_sx, lenX_st, lenX_lst, lenX_tup, gd_pos, sts_len, tupCX, listX, inX_tup, inX_one, ixX_st, ixX_sts, ixX_stsL]
      simp
    · show some (D.int _) = _
      rw [List.length_map]; rfl
    · have : (((dif e x : Nat) : Int) = 1) ↔ dif e x = 1 := by omega
      simp only [this]
  · rfl
/-- what _law_seen has found: the places P done, at x those of U -/
structure Sn (w : List Tx) (n : Int) (o P : List Tx) (x : Tx) (U : List Tx) (F : List Fa) : Prop where
  nd : F.Nodup
  mem : ∀ f ∈ F, f.1 ∈ o ∧ f.2 ∈ o
  near : ∀ f ∈ F, dif f.1 f.2 = 1
  agr : Agr o F
  at_ : ∀ f ∈ F, f.1 ∈ P ∨ (f.1 = x ∧ f.2 ∈ U)
  few : F.length ≤ P.length * 15 + U.length
  fullP : 100 ≤ n → ∀ a ∈ P, ∀ y ∈ TP.near w a, idx o a < idx o y → (a, y) ∈ F
  fullU : 100 ≤ n → ∀ y ∈ U, idx o x < idx o y → (x, y) ∈ F
theorem Sn.skip {w : List Tx} {n : Int} {o P U : List Tx} {x y : Tx} {F : List Fa} (h : Sn w n o P x U F) (hy : 100 ≤ n → ¬ idx o x < idx o y) : Sn w n o P x (U ++ [y]) F :=
  ⟨h.nd, h.mem, h.near, h.agr, fun f hf => (h.at_ f hf).imp id fun ⟨a, b⟩ => ⟨a, List.mem_append_left _ b⟩, by have := h.few; rw [List.length_append]; omega, h.fullP, fun hn z hz hl => (List.mem_append.mp hz).elim (fun q => h.fullU hn z q hl) fun q => absurd (List.mem_singleton.mp q ▸ hl) (hy hn)⟩
theorem Sn.next {w : List Tx} {n : Int} {o P : List Tx} {x x2 : Tx} {F : List Fa} (h : Sn w n o P x (TP.near w x) F) (hu : (TP.near w x).length ≤ 15) : Sn w n o (P ++ [x]) x2 [] F :=
  ⟨h.nd, h.mem, h.near, h.agr, fun f hf => .inl ((h.at_ f hf).elim (fun q => List.mem_append_left _ q) fun q => List.mem_append_right _ (List.mem_singleton.mpr q.1)), by have := h.few; rw [List.length_append, List.length_singleton, List.length_nil]; omega, fun hn a ha y hy hl => (List.mem_append.mp ha).elim (fun q => h.fullP hn a q y hy hl) (fun q => by rw [List.mem_singleton.mp q] at hy hl ⊢; exact h.fullU hn y hy hl), (fun _ _ z => by cases z)⟩
theorem Sn.add {w : List Tx} {n : Int} {o P U : List Tx} {x y : Tx} {F : List Fa} (h : Sn w n o P x U F) (hx : x ∈ o) (hy : y ∈ o) (hxp : x ∉ P) (hyu : y ∉ U) (hd : dif x y = 1) (hl : idx o x < idx o y) (k : Nat) : Sn w n o P x (U ++ [y]) (F.take k ++ [(x, y)] ++ F.drop k) := by
  have pm : (F.take k ++ [(x, y)] ++ F.drop k).Perm ((x, y) :: F) := by
    rw [List.append_assoc]
    refine List.perm_middle.trans ?_
    show ((x, y) :: (F.take k ++ F.drop k)).Perm ((x, y) :: F)
    rw [List.take_append_drop]
  have hn : (x, y) ∉ F := fun z => by
    rcases h.at_ _ z with q | ⟨_, q⟩
    · exact hxp q
    · exact hyu q
  have mem : ∀ f, f ∈ F.take k ++ [(x, y)] ++ F.drop k → f = (x, y) ∨ f ∈ F := fun f hf => List.mem_cons.mp (pm.mem_iff.mp hf)
  refine ⟨pm.nodup_iff.mpr (List.nodup_cons.mpr ⟨hn, h.nd⟩), fun f hf => ?_, fun f hf => ?_, fun f hf => ?_, fun f hf => ?_, ?_, fun hn a ha z hz hl2 => pm.mem_iff.mpr (List.mem_cons_of_mem _ (h.fullP hn a ha z hz hl2)), fun hn z hz hl2 => pm.mem_iff.mpr ?_⟩
  · rcases mem f hf with rfl | q
    · exact ⟨hx, hy⟩
    · exact h.mem f q
  · rcases mem f hf with rfl | q
    · exact hd
    · exact h.near f q
  · rcases mem f hf with rfl | q
    · exact hl
    · exact h.agr f q
  · rcases mem f hf with rfl | q
    · exact .inr ⟨rfl, by simp⟩
    · exact (h.at_ f q).imp id fun ⟨a, b⟩ => ⟨a, List.mem_append_left _ b⟩
  · rw [pm.length_eq, List.length_cons, List.length_append, List.length_singleton]
    have := h.few
    omega
  · rcases List.mem_append.mp hz with q | q
    · exact List.mem_cons_of_mem _ (h.fullU hn z q hl2)
    · rw [List.mem_singleton.mp q]; exact List.mem_cons_self
theorem fcts_ins {F : List Fa} {f : Fa} {k : Nat} : (fcts F).take k ++ [fct f] ++ (fcts F).drop k = fcts (F.take k ++ [f] ++ F.drop k) := by
  unfold fcts
  rw [List.map_append, List.map_append, List.map_take, List.map_drop]; rfl
theorem loop_seen {s : List Int} {o P : List Tx} {x : Tx} {n : Int} {A : DE} {EX : XP} (hx : x ∈ o) (hxp : x ∉ P) (hP : P.length ≤ 48) (hA : ∀ F a, Sn (full s) n o P x (near (full s) x) F → A.nx [.val .jar, .val (.tup (s.map D.int)), .val (.tup (sts o)), .val (.int n), .own (fcts F), .val (st x), jk a]) :
    ∀ (V U : List Tx) (F : List Fa) (a : Option D), near (full s) x = U ++ V → U.length + V.length ≤ 15 → (∀ y ∈ V, y ∈ o ∧ dif x y = 1) → (U ++ V).Nodup → Sn (full s) n o P x U F → forD (gVar 6) L_law_seen_0 (sts V) A EX [.val .jar, .val (.tup (s.map D.int)), .val (.tup (sts o)), .val (.int n), .own (fcts F), .val (st x), jk a]
  | [], U, F, a, e, _, _, _, h => by
    rw [List.append_nil] at e
    exact hA F a (e ▸ h)
  | y :: V, U, F, a, e, hl, hV, hn, h => by
    obtain ⟨hy, hd⟩ := hV y List.mem_cons_self
    have go := fun (F : List Fa) (hF : Sn (full s) n o P x (U ++ [y]) F) => loop_seen (EX := EX) hx hxp hP hA V (U ++ [y]) F (some (st y)) (by rw [e]; simp) (by rw [List.length_append, List.length_singleton]; rw [List.length_cons] at hl; omega) (fun z hz => hV z (List.mem_cons_of_mem _ hz)) (by simpa using hn) hF
    have hyu : y ∉ U := fun z => by
      rw [List.nodup_append] at hn
      exact hn.2.2 y z y List.mem_cons_self rfl
    have few := h.few
    rw [List.length_cons] at hl
    have t1 : xTb (x2 ltX (xIxM (xVar 2) (xVar 5)) (xIxM (xVar 2) (xVar 6))) [.val .jar, .val (.tup (s.map D.int)), .val (.tup (sts o)), .val (.int n), .own (fcts F), .val (st x), .val (st y)] = .ok (decide (idx o x < idx o y)) := (E_tb (E_2 (xIxM_ok rfl rfl hx) (xIxM_ok rfl rfl hy) ltX_int)).trans (by simp)
    have t0 : CF (fTb (f2 ltD (fIxM (fVar 2) (fVar 5)) (fIxM (fVar 2) (fVar 6)))) (xTb (x2 ltX (xIxM (xVar 2) (xVar 5)) (xIxM (xVar 2) (xVar 6)))) := f_tb (f_2 g_lt (f_ixM f_var f_var) (f_ixM f_var f_var))
    refine t0.go (r := [.val .jar, .val (.tup (s.map D.int)), .val (.tup (sts o)), .val (.int n), .own (fcts F), .val (st x), .val (st y)]) (by first | rfl | (simp only [List.set_cons_zero, List.set_cons_succ, List.map_cons, List.map_nil, adr_jk, adr_jo, adr_val, adr_un, adr_own]; done)) t1 ?_
    by_cases q : idx o x < idx o y
    · rw [decide_eq_true q]
      refine ⟨100, rfl, by decide, by decide, fun m h0 h1 => ?_⟩
      refine ⟨_, rfl, ?_⟩
      refine ite2 (fun _ => ?_) (fun hm => go F (h.skip fun hn => absurd (decide_eq_true (show m < n by omega)) hm))
      have hlen : (fcts F).length ≤ 735 := by rw [fcts_len]; omega
      refine ⟨by rw [sl_eq]; omega, ((fcts F).length : Int) + 1, rfl, by omega, by omega, fun kk h2 h3 => ?_⟩
      obtain ⟨k, rfl⟩ := Int.eq_ofNat_of_zero_le h2
      refine ⟨by simp [sizeLine_eq], k, rfl, by omega, ?_⟩
      have g2 := go _ (h.add hx hy hxp hyu hd q k)
      rw [← fcts_ins] at g2
      exact g2
    · rw [decide_eq_false q]
      exact go F (h.skip fun _ => q)
theorem near_len {s : List Int} {x : Tx} (h : OkS s) (hx : fits x (full s)) : (near (full s) x).length ≤ 15 := by
  rw [near_eq full_asc hx]
  have := besideLen (s := x) h.small (List.range (full s).length)
  rw [List.length_range] at this
  have h5 := h.small.len
  unfold beside
  rw [isort_perm.length_eq]
  exact Nat.le_trans this (by omega)
theorem loop_spots {s : List Int} {o : List Tx} {n : Int} {A : DE} {EX : XP} (hok : OkS s) (hp : o.Perm (sets (full s))) (hl : o.length ≤ 48) (hA : ∀ F a b x, Sn (full s) n o o x [] F → A.nx [.val .jar, .val (.tup (s.map D.int)), .val (.tup (sts o)), .val (.int n), .own (fcts F), jk a, jk b]) :
    ∀ (V P : List Tx) (F : List Fa) (a b : Option D) (x0 : Tx), o = P ++ V → Sn (full s) n o P x0 [] F → forD (gVar 5) L_law_seen_1 (sts V) A EX [.val .jar, .val (.tup (s.map D.int)), .val (.tup (sts o)), .val (.int n), .own (fcts F), jk a, jk b]
  | [], P, F, a, b, x0, e, h => by
    rw [List.append_nil] at e
    exact hA F a b x0 (e ▸ h)
  | x :: V, P, F, a, b, x0, e, h => by
    have ln := line_of hp
    have hx : x ∈ o := by rw [e]; simp
    have fx := (ln.mem x).mpr hx
    have hxp : x ∉ P := fun z => by
      have hn := ln.nd
      rw [e, List.nodup_append] at hn
      exact hn.2.2 x z x List.mem_cons_self rfl
    have hP : P.length ≤ 48 := by
      have := congrArg List.length e
      rw [List.length_append] at this
      omega
    have h0 : Sn (full s) n o P x [] F := ⟨h.nd, h.mem, h.near, h.agr, (fun f hf => (h.at_ f hf).elim .inl fun q => by cases q.2), h.few, h.fullP, (fun _ _ z => by cases z)⟩
    have t0 : CF (fItA (fCall sp_law_near (fCons (fVar 1) (fCons (fVar 5) fNil)))) (iA (xCall cf_law_near (xCons (xVar 1) (xCons (xVar 5) xNil)))) := f_itA (f_call (f_cons f_var (f_cons f_var f_nil)))
    refine t0.go (r := [.val .jar, .val (.tup (s.map D.int)), .val (.tup (sts o)), .val (.int n), .own (fcts F), .val (st x), jk b]) (by first | rfl | (simp only [List.set_cons_zero, List.set_cons_succ, List.map_cons, List.map_nil, adr_jk, adr_jo, adr_val, adr_un, adr_own]; done)) (iA_ok (E_call (E_cons rfl (E_cons rfl E_nil)) (t_law_near hok fx)) rfl) ?_
    refine loop_seen (EX := EX) hx hxp hP (fun F a hF => ?_) _ [] F b rfl (by simpa using near_len hok fx) (fun y hy => ?_) (by rw [List.nil_append]; exact (asc_sets (full_asc (s := s))).nodup.filter _) h0
    · refine loop_spots (EX := EX) hok hp hl hA V (P ++ [x]) F (some (st x)) a x (by rw [e]; simp) (hF.next (near_len hok fx))
    · obtain ⟨h1, h2⟩ := mem_near.mp hy
      exact ⟨(ln.mem y).mp h1, by rw [dif_comm (by rw [fx.len, h1.len])]; exact h2⟩
theorem len_law_seen : ∀ ds Q EX, sp_law_seen ds Q EX → ds.length = 4 := by
  rintro _ Q EX ⟨s, o, n, rfl, _⟩; rfl
theorem pure_law_seen : ∀ ds Q EX, sp_law_seen ds Q EX → R_law_seen { nx := fun _ => Q .non, rt := Q } EX (startD N_law_seen ds) := by
  rintro _ Q EX ⟨s, o, n, rfl, hs, hp, k⟩
  have hl : o.length ≤ 48 := by rw [hp.length_eq]; exact sets_le hs
  have ok := okS_of hs
  refine lP_law_seen_0.goW (EX := EX) (r := [.val .jar, .val (.tup (s.map D.int)), .val (.tup (sts o)), .val (.int n), .un, .un, .un]) ?_ ?_; exact (by first | rfl | (simp only [List.set_cons_zero, List.set_cons_succ, List.map_cons, List.map_nil, adr_jk, adr_jo, adr_val, adr_un, adr_own]; done))
  refine W_setOwn (ds := fcts []) (E_lst E_nil (Nat.zero_le _)) ⟨(by first | rfl | (simp only [List.set_cons_zero, List.set_cons_succ, List.map_cons, List.map_nil, adr_jk, adr_jo, adr_val, adr_un, adr_own]; done)), ?_⟩
  refine ⟨_, rfl, ?_⟩
  refine loop_spots (s := s) (o := o) (n := n) (EX := EX) ok hp hl (fun F a b x hF => ?_) o [] [] none none [] rfl ⟨List.nodup_nil, (fun _ z => by cases z), (fun _ z => by cases z), (fun _ z => by cases z), (fun _ z => by cases z), Nat.zero_le _, (fun _ _ z => by cases z), (fun _ _ z => by cases z)⟩
  exact k F ⟨hF.nd, hF.mem, hF.near, hF.agr, by have := hF.few; rw [List.length_nil] at this; omega⟩ hF.fullP
theorem len_law_share : ∀ ds Q EX, sp_law_share ds Q EX → ds.length = 1 := by
  rintro _ Q EX ⟨rfl, _⟩; rfl
theorem pure_law_share : ∀ ds Q EX, sp_law_share ds Q EX → R_law_share { nx := fun _ => Q .non, rt := Q } EX (startD N_law_share ds) := by
  rintro _ Q EX ⟨rfl, k⟩
  refine ⟨by simp [sizeLine_eq], ?_⟩
  refine ⟨_, _, rfl, .inl rfl, by simp, by simp, fun d hd => ?_⟩
  simp only [List.mem_cons, List.not_mem_nil, or_false] at hd
  rcases hd with rfl | rfl | rfl | rfl | rfl | rfl <;> exact k _
theorem t_check_board {s : List Int} : cf_check_board [bd s] = .ok .non := by
  refine cf_ok (by rfl) ?_; simp only [x_check_board, DL.startD, N_check_board, List.map_cons, List.map_nil, List.length_cons, List.length_nil, Nat.reduceAdd, Nat.reduceSub, List.replicate_succ, List.replicate_zero, List.cons_append, List.nil_append]
  exact W_if (E_notT (E_tb (E_isi rfl rfl rfl))) (fun z => nomatch z) fun _ => W_next (by first | rfl | trivial)
def inB (s : List Int) : D → Bool
  | .str x => decide (x.cps.toList ∈ sets (full s))
  | _ => false
theorem inB_st {s : List Int} {x : Tx} : inB s (st x) = decide (x ∈ sets (full s)) := rfl
theorem t_Board_contains {s : List Int} {x : Tx} : cf_Board_contains [bd s, st x] = .ok (.bl (decide (x ∈ sets (full s)))) := by
  refine cf_ok (by rfl) ?_; simp only [x_Board_contains, DL.startD, N_Board_contains, List.map_cons, List.map_nil, List.length_cons, List.length_nil, Nat.reduceAdd, Nat.reduceSub, List.replicate_succ, List.replicate_zero, List.cons_append, List.nil_append]
  refine W_ret (E_and (a := true) (E_isi rfl rfl rfl) fun _ => E_2 rfl (E_2 (E_fld rfl rfl) rfl rfl) inX_tup) ?_
  simp
theorem t_contains {s : List Int} {d : D} (h : isBase d = true) : cf_Board_contains [bd s, d] = .ok (.bl (inB s d)) := by
  cases d <;> first | (cases h; done) | exact t_Board_contains | skip
  all_goals
    refine cf_ok (by rfl) ?_; simp only [x_Board_contains, DL.startD, N_Board_contains, List.map_cons, List.map_nil, List.length_cons, List.length_nil, Nat.reduceAdd, Nat.reduceSub, List.replicate_succ, List.replicate_zero, List.cons_append, List.nil_append]
    exact W_ret (E_and (a := false) (b := false) (E_isi rfl rfl rfl) fun z => nomatch z) rfl
theorem t_are_neighbours {x y : Tx} (hx : x.length ≤ 5) (hl : x.length = y.length) : cf_are_neighbours [st x, st y] = .ok (.bl (decide (dif x y = 1))) := by
  refine cf_ok (by rfl) ?_; simp only [x_are_neighbours, DL.startD, N_are_neighbours, List.map_cons, List.map_nil, List.length_cons, List.length_nil, Nat.reduceAdd, Nat.reduceSub, List.replicate_succ, List.replicate_zero, List.cons_append, List.nil_append]
  refine W_ret ((E_2 (x := .int (dif x y : Nat)) (E_ca (ds := [.lst (((List.range x.length).filter fun k => decide (x.getD k 0 ≠ y.getD k 0)).map fun k : Nat => .int k)]) (E_cons (E_L (xLc_ok (e := fun k : Nat => .int k) (xs := List.range x.length) (fun k => decide (x.getD k 0 ≠ y.getD k 0)) (fun k : Nat => .int k) ?_ (by rw [List.length_range]; omega) ?_)) E_nil) ?_) rfl eqX_int).trans ?_) rfl
  · rw [rng1_ok (n := x.length) (by simp (disch := (first | assumption | omega | (simp only [List.length_append, List.length_take, List.length_drop, List.length_cons, List.length_nil, List.length_map, List.length_range, sts_len, sl_eq, sx_len] <;> omega))) only [cfOf, cfN, DL.startD, ySeq, yIf, yRet, yRetN, ySet, ySetOwn, yOff, offs, Sl.off, yApp, yFor, yExpr, yNext, yNever, yPar, yParO, yParOO, yAsg, yRetNew, yRetF, yMove, bind_ok, st_ok, ofO_some, cut_ok, xVar, xSee, xC, x2, xTb, xAndT, xOrT, xNotT, xAnd, xOr, xNot, xIf, xNil, xCons, xTup, xLst, xL, xCa, xSlice, oNone, oSome, xFld, xProp, xCall, xCallN, xMeth, xNeg, xAddN, isiX, tagD, iA, seqD_lst, seqD_tup, seqD_st, yVar, ysNil, ysCons, yTup, wipeD, frc_eq, frcs_eq, frcp_eq, List.getElem?_cons_zero, List.getElem?_cons_succ, List.set_cons_zero, List.set_cons_succ, List.map_cons, List.map_nil, List.length_cons, List.length_nil, List.replicate_succ, List.replicate_zero, List.cons_append, List.nil_append, Nat.reduceAdd, Nat.reduceSub, Nat.reduceEqDiff, Bool.false_eq_true, Nat.zero_add, eq_self, if_true, if_pos, if_neg, reduceCtorEq, Option.map_some, Option.bind_some, addX_int, natc1, cutS_sx, cutD_sts, cutN_to, cutN_from, cutN_mid, addX_st, eqX_st, neX_st, ltX_st, ltX_int, leX_int, gtX_int, geX_int, eqX_int, neX_int, sl_eq, sx_len, signs_sx, lenX_st, lenX_lst, lenX_tup, gd_pos, sts_len, tupCX, listX, inX_tup, inX_one, ixX_st, ixX_sts, ixX_stsL]) (by omega), rangeD_nat]
  · intro k hk
    have hk' : k < x.length := by simpa using hk
    have hk2 : k < y.length := by omega
    refine ⟨_, rfl, ?_, fun _ => rfl⟩
    simp (disch := (first | assumption | omega | (simp only [List.length_append, List.length_take, List.length_drop, List.length_cons, List.length_nil, List.length_map, List.length_range, sts_len, sl_eq, sx_len] <;> omega))) only [cfOf, cfN, DL.startD, ySeq, yIf, yRet, yRetN, ySet, ySetOwn, yOff, offs, Sl.off, yApp, yFor, yExpr, yNext, yNever, yPar, yParO, yParOO, yAsg, yRetNew, yRetF, yMove, bind_ok, st_ok, ofO_some, cut_ok, xVar, xSee, xC, x2, xTb, xAndT, xOrT, xNotT, xAnd, xOr, xNot, xIf, xNil, xCons, xTup, xLst, xL, xCa, xSlice, oNone, oSome, xFld, xProp, xCall, xCallN, xMeth, xNeg, xAddN, isiX, tagD, iA, seqD_lst, seqD_tup, seqD_st, yVar, ysNil, ysCons, yTup, wipeD, frc_eq, frcs_eq, frcp_eq, List.getElem?_cons_zero, List.getElem?_cons_succ, List.set_cons_zero, List.set_cons_succ, List.map_cons, List.map_nil, List.length_cons, List.length_nil, List.replicate_succ, List.replicate_zero, List.cons_append, List.nil_append, Nat.reduceAdd, Nat.reduceSub, Nat.reduceEqDiff, Bool.false_eq_true, Nat.zero_add, eq_self, if_true, if_pos, if_neg, reduceCtorEq, Option.map_some, Option.bind_some, addX_int, natc1, cutS_sx, cutD_sts, cutN_to, cutN_from, cutN_mid, addX_st, eqX_st, neX_st, ltX_st, ltX_int, leX_int, gtX_int, geX_int, eqX_int, neX_int, sl_eq, sx_len, signs_sx, lenX_st, lenX_lst, lenX_tup, gd_pos, sts_len, tupCX, listX, inX_tup, inX_one, ixX_st, ixX_sts, ixX_stsL]
    simp
  · show some (D.int _) = _
    rw [List.length_map]
    unfold dif
    rw [hl]
  · have : (((dif x y : Nat) : Int) = 1) ↔ dif x y = 1 := by omega
    simp only [this]
theorem t_is_fact_v {s : List Int} {d : D} (h : OkS s) (hd : DOk d) : cf_is_fact [bd s, d] = .ok (.bl (match pairOf d with
    | some f => isF s f
    | none => false)) := by
  cases ht : tupB d with
  | false =>
    rw [pairOf_not ht]
    refine cf_ok (by rfl) ?_; simp only [x_is_fact, DL.startD, N_is_fact, List.map_cons, List.map_nil, List.length_cons, List.length_nil, Nat.reduceAdd, Nat.reduceSub, List.replicate_succ, List.replicate_zero, List.cons_append, List.nil_append]
    exact S_if (v := true) (E_orT (b := true) (c := true) (E_notT (b := false) (E_tb ((isi_tuple_v rfl hd.base).trans (by rw [ht])))) fun z => nomatch z) (fun _ => W_ret rfl rfl) fun z => nomatch z
  | true =>
    obtain ⟨ds, rfl⟩ := tupB_of ht
    obtain ⟨hl, hi⟩ := hd.items
    by_cases h2 : ds.length = 2
    · match ds, h2, hi with
      | [a, b], _, hi =>
        have da := hi a (by simp)
        have db := hi b (by simp)
        refine cf_ok (by rfl) ?_; simp only [x_is_fact, DL.startD, N_is_fact, List.map_cons, List.map_nil, List.length_cons, List.length_nil, Nat.reduceAdd, Nat.reduceSub, List.replicate_succ, List.replicate_zero, List.cons_append, List.nil_append]
        refine S_skip (E_orT (b := false) (c := false) (E_notT (E_tb (b := true) (E_isi rfl rfl rfl))) fun _ => E_tb ((E_2 (E_ca (E_cons rfl E_nil) lenX_tup) rfl neX_int).trans rfl)) ?_
        have ca : x2 (inVX 1 cf_Board_contains false) (x2 ixX (xVar 1) (xC (.int 0))) (xVar 0) [.val (bd s), .val (.tup [a, b])] = .ok (.bl (inB s a)) := (E_2 (x := a) rfl rfl (inVX_ok (t_contains da.base))).trans (by rw [Bool.false_bne])
        have cb : x2 (inVX 1 cf_Board_contains false) (x2 ixX (xVar 1) (xC (.int 1))) (xVar 0) [.val (bd s), .val (.tup [a, b])] = .ok (.bl (inB s b)) := (E_2 (x := b) rfl rfl (inVX_ok (t_contains db.base))).trans (by rw [Bool.false_bne])
        rw [pairOf_two]
        by_cases hs : strB a = true ∧ strB b = true
        · obtain ⟨x, rfl⟩ := strB_of hs.1
          obtain ⟨y, rfl⟩ := strB_of hs.2
          rw [if_pos hs]
          by_cases mx : x ∈ sets (full s)
          · by_cases my : y ∈ sets (full s)
            · have l1 := (mem_sets.mp mx).len5 h.small
              have e1 : x.length = y.length := by rw [(mem_sets.mp mx).len, (mem_sets.mp my).len]
              refine W_ret (E_and ca fun _ => E_and cb fun _ => E_call (E_cons (d := st x) rfl (E_cons (d := st y) rfl E_nil)) (t_are_neighbours l1 e1)) ?_
              refine congrArg D.bl ?_
              rw [Bool.eq_iff_iff]
              refine Iff.trans ?_ (isF_iff (f := (x, y))).symm
              simp only [Bool.and_eq_true, inB_st, decide_eq_true_iff]
            · refine W_ret (E_and ca fun _ => E_and (b := false) cb fun z => ?_) ?_
              · rw [inB_st, decide_eq_false my] at z; cases z
              · have eF : isF s (x, y) = false := by
                  rw [Bool.eq_false_iff]
                  exact fun z => my (isF_iff.mp z).2.1
                show _ = D.bl (isF s (x, y))
                rw [eF]; simp
          · refine W_ret (E_and (b := false) ca fun z => ?_) ?_
            · rw [inB_st, decide_eq_false mx] at z; cases z
            · have eF : isF s (x, y) = false := by
                rw [Bool.eq_false_iff]
                exact fun z => mx (isF_iff.mp z).1
              show _ = D.bl (isF s (x, y))
              rw [eF]; simp
        · rw [if_neg hs]
          have no : ∀ {d : D}, strB d = false → inB s d = false := fun {d} q => by cases d <;> first | rfl | cases q
          cases ha : strB a with
          | false =>
            refine W_ret (E_and (b := false) ca fun z => ?_) ?_
            · rw [no ha] at z; cases z
            · rw [no ha]; rfl
          | true =>
            have hb : strB b = false := by
              cases q : strB b with
              | false => rfl
              | true => exact absurd ⟨ha, q⟩ hs
            refine W_ret (E_and ca fun _ => E_and (b := false) cb fun z => ?_) ?_
            · rw [no hb] at z; cases z
            · rw [no hb]; simp
    · rw [pairOf_len h2]
      refine cf_ok (by rfl) ?_; simp only [x_is_fact, DL.startD, N_is_fact, List.map_cons, List.map_nil, List.length_cons, List.length_nil, Nat.reduceAdd, Nat.reduceSub, List.replicate_succ, List.replicate_zero, List.cons_append, List.nil_append]
      refine S_if (v := true) (E_orT (b := false) (c := true) (E_notT (E_tb (b := true) (E_isi rfl rfl rfl))) fun _ => E_tb ((E_2 (E_ca (E_cons rfl E_nil) lenX_tup) rfl neX_int).trans ?_)) (fun _ => W_ret rfl rfl) fun z => nomatch z
      have : ¬ ((ds.length : Nat) : Int) = 2 := by omega
      simp [this]
theorem t_leads {F : List Fa} {a b : Tx} (ha : Plain a) (hb : Plain b) (hF : ∀ f ∈ F, Plain f.1 ∧ Plain f.2) (hl : F.length ≤ 900) : cf_leads [.tup (fcts F), st a, st b] = .ok (.bl (rch F a b)) := by
  refine cf_ok (by rfl) ?_; simp only [x_leads, DL.startD, N_leads, List.map_cons, List.map_nil, List.length_cons, List.length_nil, Nat.reduceAdd, Nat.reduceSub, List.replicate_succ, List.replicate_zero, List.cons_append, List.nil_append]
  refine S_parOO (d := sts [a]) (ds := sts [a]) (E_lst (E_cons rfl E_nil) (Nat.le_of_ble_eq_true rfl)) (E_lst (E_cons rfl E_nil) (Nat.le_of_ble_eq_true rfl)) ?_
  refine S_while (fun m r => ∃ S W0 x y z, r = [.val (.tup (fcts F)), .val (st a), .val (st b), .own (sts S), .own (sts W0), x, y, z] ∧ Seek F a S W0 ∧ (∀ t ∈ S, Plain t) ∧ left F S + W0.length = m ∧ S.length + left F S ≤ F.length + 1 ∧ m ≤ F.length + 1) (left F [a] + 1) ?_ ⟨[a], [a], _, _, _, rfl, ?_, ?_, rfl, ?_, ?_⟩ ?_
  · have : left F [a] ≤ F.length := List.length_filter_le _ _
    omega
  · exact ⟨by simp, fun x hx => by rw [List.mem_singleton.mp hx]; exact .refl, fun x hx => hx, fun x hx hn => absurd hx hn⟩
  · intro t ht
    rw [List.mem_singleton.mp ht]; exact ha
  · have : left F [a] ≤ F.length := List.length_filter_le _ _
    simp only [List.length_cons, List.length_nil]
    omega
  · have : left F [a] ≤ F.length := List.length_filter_le _ _
    omega
  rintro m r ⟨S, W0, x, y, z, rfl, K, pS, hm, hS, hmF⟩
  have pW : ∀ t ∈ W0, Plain t := fun t ht => pS t (K.wait t ht)
  refine ⟨!decide (W0 = []), E_tb (E_2 rfl (E_L (E_lst E_nil (Nat.zero_le _))) (neX_sts0 pW)), fun hv => ?_, fun hv => ?_⟩
  · have hne : W0 ≠ [] := by simpa using hv
    obtain ⟨W1, p, rfl⟩ : ∃ l t, W0 = l ++ [t] := ⟨W0.dropLast, W0.getLast hne, (List.dropLast_concat_getLast hne).symm⟩
    have hpS : p ∈ S := K.wait p (by simp)
    refine S_popV (es := sts W1) (y := st p) (by rw [sts_app]; rfl) ?_
    refine W_for (em := fct) (xs := F) (fun u r => ∃ S1 W2 y z, r = [.val (.tup (fcts F)), .val (st a), .val (st b), .own (sts S1), .own (sts W2), .val (st p), y, z] ∧ a ∈ S1 ∧ (∀ x ∈ S1, Reach F a x) ∧ (∀ x ∈ W2, x ∈ S1) ∧ (∀ x ∈ S1, x ∉ W2 → x ≠ p → ∀ f ∈ F, f.1 = x → f.2 ∈ S1) ∧ (∀ f ∈ u, f.1 = p → f.2 ∈ S1) ∧ p ∈ S1 ∧ (∀ t ∈ S1, Plain t) ∧ left F S1 + W2.length + 1 ≤ m ∧ S1.length + left F S1 ≤ F.length + 1) (iA_ok rfl rfl) ⟨S, W1, y, z, rfl, K.start, K.from_, fun x hx => K.wait x (by simp [hx]), ?_, fun f hf => (by cases hf), hpS, pS, ?_, hS⟩ ?_ ?_
    · intro x hx hn hp f hf e
      exact K.shut x hx (by simp [hn, hp]) f hf e
    · rw [List.length_append, List.length_singleton] at hm
      omega
    · rintro u f v hu r ⟨S1, W2, y, z, rfl, h1, h2, h3, h4, h5, h6, h7, h8, h9⟩
      have mf : f ∈ F := by rw [hu]; simp
      obtain ⟨p1, p2⟩ := hF f mf
      refine ⟨_, rfl, W_if (E_andT (E_tb (E_2 rfl rfl eqX_st)) fun _ => E_tb (E_2 rfl rfl (inX_lst (neg := true) p2 h7))) (fun hv => ?_) fun hv => ?_⟩
      · rw [Bool.and_eq_true] at hv
        have e1 : f.1 = p := by simpa using hv.1
        have n1 : f.2 ∉ S1 := by simpa using hv.2
        have hla := left_add mf n1
        refine S_app (es := sts (S1 ++ [f.2])) rfl (by rw [sts_len]; omega) rfl (by rw [sts_app]; rfl) ?_
        refine W_app2 (es := sts (W2 ++ [f.2])) rfl (by rw [sts_len]; omega) rfl (by rw [sts_app]; rfl) ⟨S1 ++ [f.2], W2 ++ [f.2], _, _, rfl, List.mem_append_left _ h1, ?_, ?_, ?_, ?_, List.mem_append_left _ h6, ?_, ?_, ?_⟩
        · intro x hx
          rcases List.mem_append.mp hx with q | q
          · exact h2 x q
          · rw [List.mem_singleton.mp q]
            exact .step (h2 p h6) (e1 ▸ mf)
        · intro x hx
          rcases List.mem_append.mp hx with q | q
          · exact List.mem_append_left _ (h3 x q)
          · exact List.mem_append_right _ q
        · intro x hx hn hp g hg e
          rcases List.mem_append.mp hx with q | q
          · exact List.mem_append_left _ (h4 x q (fun w => hn (List.mem_append_left _ w)) hp g hg e)
          · exact absurd (List.mem_append_right _ q) hn
        · intro g hg e
          rcases List.mem_append.mp hg with q | q
          · exact List.mem_append_left _ (h5 g q e)
          · rw [List.mem_singleton.mp q]; exact List.mem_append_right _ (List.mem_singleton_self _)
        · intro t ht
          rcases List.mem_append.mp ht with q | q
          · exact h7 t q
          · rw [List.mem_singleton.mp q]; exact p2
        · rw [List.length_append, List.length_singleton]; omega
        · rw [List.length_append, List.length_singleton]; omega
      · refine W_next ⟨S1, W2, _, _, rfl, h1, h2, h3, h4, ?_, h6, h7, h8, h9⟩
        intro g hg e
        rcases List.mem_append.mp hg with q | q
        · exact h5 g q e
        · have e2 := List.mem_singleton.mp q
          subst e2
          have q3 : decide (g.1 = p) = true := by simpa using e
          rw [q3, Bool.true_and] at hv
          simpa using hv
    · rintro r ⟨S1, W2, y, z, rfl, h1, h2, h3, h4, h5, h6, h7, h8, h9⟩
      refine ⟨left F S1 + W2.length, by omega, S1, W2, _, _, _, rfl, ⟨h1, h2, h3, fun x hx hn f hf e => ?_⟩, h7, rfl, h9, by omega⟩
      by_cases q : x = p
      · exact h5 f hf (e.trans q)
      · exact h4 x hx hn q f hf e
  · have he : W0 = [] := by simpa using hv
    subst he
    refine W_ret ((E_2 rfl rfl (inX_lst (neg := false) hb pS)).trans ?_) rfl
    have e : decide (b ∈ S) = rch F a b := by
      rw [Bool.eq_iff_iff, decide_eq_true_iff, rch_iff]
      exact K.done
    rw [e, Bool.false_bne]
theorem t_is_let {F : List Fa} {f : Fa} (hf : Plain f.1 ∧ Plain f.2) (hF : ∀ f ∈ F, Plain f.1 ∧ Plain f.2) (hl : F.length ≤ 900) : cf_is_let [.tup (fcts F), fct f] = .ok (.bl (!decide (f ∈ F) && !rch F f.2 f.1)) := by
  refine cf_ok (by rfl) ?_; simp only [x_is_let, DL.startD, N_is_let, List.map_cons, List.map_nil, List.length_cons, List.length_nil, Nat.reduceAdd, Nat.reduceSub, List.replicate_succ, List.replicate_zero, List.cons_append, List.nil_append]
  refine W_ret (E_and ((E_2 rfl rfl (inTX_fct (neg := true) hf hF)).trans (by rw [Bool.true_bne])) fun _ => E_not (E_call (E_cons rfl (E_cons (d := st f.2) rfl (E_cons (d := st f.1) rfl E_nil))) (t_leads hf.2 hf.1 hF hl))) rfl
def facR : Option D → R D
  | none => .ok .non
  | some d => .ex ⟨24, some d⟩
theorem t_check_facts {s : List Int} {d : D} (h : OkS s) (h30 : (sets (full s)).length ≤ 30) (hd : DOk d) : cf_check_facts [bd s, d] = facR (facSlip s d) := by
  refine cf_is (by rfl) ?_
  simp only [x_check_facts, DL.startD, N_check_facts, List.map_cons, List.map_nil, List.length_cons, List.length_nil, Nat.reduceAdd, Nat.reduceSub, List.replicate_succ, List.replicate_zero, List.cons_append, List.nil_append]
  cases ht : tupB d with
  | false =>
    refine S_if (v := true) (E_notT (b := false) (E_tb ((isi_tuple_v rfl hd.base).trans (by rw [ht])))) (fun _ => W_raise (E_cons rfl E_nil) ?_) fun z => nomatch z
    rw [facSlip_not ht]; rfl
  | true =>
    obtain ⟨ds, rfl⟩ := tupB_of ht
    obtain ⟨hl, hi⟩ := hd.items
    refine S_skip (E_notT (b := true) (E_tb (E_isi rfl rfl rfl))) ?_
    refine W_walk (ds := ds) (facStep s) [] (fun k F r => FcE s F ∧ ds.take k = fcts F ∧ ∃ a, r = [.val (bd s), .val (.tup ds), a]) (E_cons (E_ca (E_cons rfl E_nil) rfl) E_nil) (by omega) ⟨fcE_nil, rfl, _, rfl⟩ ?_ ?_
    · rintro k F r d hat ⟨h1, h2, a, rfl⟩ hno
      have dd := hi d (List.mem_of_getElem? hat)
      have pF := h1.plain h
      cases hp : pairOf d with
      | none =>
        refine ⟨_, rfl, W_if (v := true) (E_orT (b := true) (c := true) (E_notT (b := false) (E_tb (E_call (E_cons rfl (E_cons (E_2 rfl rfl (ixX_tup hat)) E_nil)) ((t_is_fact_v h dd).trans (by rw [hp]))))) fun z => nomatch z) (fun _ => W_raise (E_cons rfl E_nil) ?_) fun z => nomatch z⟩
        rw [facSlip_tup, hno (facStep_none hp)]; rfl
      | some f =>
        have ed := pairOf_some hp
        subst ed
        cases hf : isF s f with
        | false =>
          refine ⟨_, rfl, W_if (v := true) (E_orT (b := true) (c := true) (E_notT (b := false) (E_tb (E_call (E_cons rfl (E_cons (E_2 rfl rfl (ixX_tup hat)) E_nil)) ((t_is_fact_v h dd).trans (by rw [hp]; show R.ok (D.bl (isF s f)) = _; rw [hf]))))) fun z => nomatch z) (fun _ => W_raise (E_cons rfl E_nil) ?_) fun z => nomatch z⟩
          rw [facSlip_tup, hno (by rw [facStep_fct, hf]; rfl)]; rfl
        | true =>
          have pf : Plain f.1 ∧ Plain f.2 := by
            unfold isF at hf
            rw [Bool.and_eq_true, Bool.and_eq_true, decide_eq_true_iff, decide_eq_true_iff] at hf
            exact ⟨plain_sets h _ hf.1.1, plain_sets h _ hf.1.2⟩
          have test : xOrT (xNotT (xTb (xCall cf_is_fact (xCons (xVar 0) (xCons (x2 ixX (xVar 1) (xVar 2)) xNil))))) (xNotT (xTb (xCall cf_is_let (xCons (xSlice (xVar 1) oNone (oSome (xVar 2))) (xCons (x2 ixX (xVar 1) (xVar 2)) xNil))))) [.val (bd s), .val (.tup ds), .val (.int k)] = .ok (!letF F f) :=
            (E_orT (b := false) (c := !letF F f) (E_notT (b := true) (E_tb (E_call (E_cons rfl (E_cons (E_2 rfl rfl (ixX_tup hat)) E_nil)) ((t_is_fact_v h dd).trans (by rw [hp]; show R.ok (D.bl (isF s f)) = _; rw [hf]))))) fun _ => E_notT (E_tb (E_call (E_cons ((E_tupTo rfl rfl).trans (by rw [h2])) (E_cons (E_2 rfl rfl (ixX_tup hat)) E_nil)) (t_is_let pf pF h1.few)))).trans rfl
          refine ⟨_, rfl, W_if test (fun hv => W_raise (E_cons rfl E_nil) ?_) fun hv => W_next ⟨F ++ [f], ?_, ?_, fcts_take hat h2, _, rfl⟩⟩
          · have hv : letF F f = false := by simpa using hv
            rw [facSlip_tup, hno (by rw [facStep_fct, hv, Bool.and_false]; rfl)]; rfl
          · have hv : letF F f = true := by simpa using hv
            rw [facStep_fct, hf, hv]; rfl
          · have hv : letF F f = true := by simpa using hv
            exact fcE_add h1 h30 hf hv
    · rintro F r hw ⟨h1, h2, a, rfl⟩
      show facR (facSlip s (.tup ds)) = _
      rw [facSlip_tup, hw]; rfl
theorem t_Notes_init {s : List Int} {d : D} (h : OkS s) (h30 : (sets (full s)).length ≤ 30) (hd : DOk d) : cf_Notes_init [bd s, d] = match facSlip s d with
    | none => .ok (.tup [.tup [bd s, d]])
    | some k => .ex ⟨24, some k⟩ := by
  cases e : facSlip s d with
  | none =>
    refine cfI_ok (by rfl) ?_
    simp only [x_Notes_init, DL.startI, N_Notes_init, List.map_cons, List.map_nil, List.length_cons, List.length_nil, Nat.reduceAdd, Nat.reduceSub, List.replicate_succ, List.replicate_zero, List.cons_append, List.nil_append]
    refine S_expr (E_call rfl t_check_board) ?_
    refine S_expr (E_call rfl ((t_check_facts h h30 hd).trans (by rw [e]; rfl))) ?_
    exact W_fldI (E_tup (ds := [bd s, d]) rfl (by simp)) rfl rfl ⟨_, _, rfl, by first | rfl | trivial⟩
  | some k =>
    refine cfI_X (by rfl) ?_
    simp only [x_Notes_init, DL.startI, N_Notes_init, List.map_cons, List.map_nil, List.length_cons, List.length_nil, Nat.reduceAdd, Nat.reduceSub, List.replicate_succ, List.replicate_zero, List.cons_append, List.nil_append]
    refine S_expr (E_call rfl t_check_board) ?_
    exact S_exprX (by rw [Z_call (E_cons rfl (E_cons rfl E_nil))]; exact (t_check_facts h h30 hd).trans (by rw [e]; rfl)) rfl
def chkB (s : List Int) : Bool := match cf_Board_init [.tup (s.map D.int)] with
  | .ok (.tup [.tup [.tup a, .tup b]]) => eqDBs a (s.map D.int) && eqDBs b (sts (sets (full s)))
  | _ => false
theorem all_boards : ∀ s ∈ spansOf 48, chkB s = true := by decide +kernel
theorem t_Board_init {s : List Int} (h : s ∈ spansOf 48) : cf_Board_init [.tup (s.map D.int)] = .ok (.tup [.tup [.tup (s.map D.int), .tup (sts (sets (full s)))]]) := by
  have z := all_boards s h
  unfold chkB at z
  split at z
  · rename_i a b e
    rw [Bool.and_eq_true] at z
    rw [e, eqDBs_eq _ _ z.1, eqDBs_eq _ _ z.2]
  · cases z
def toldDig (s : List Int) : Bool := match cf_board_told [st (dig s)] with
  | .ok (.obj 1 [.tup [.tup a, .tup b]]) => eqDBs a (s.map D.int) && eqDBs b (sts (sets (full s)))
  | _ => false
theorem all_toldDig : ∀ s ∈ spansOf 48, toldDig s = true := by decide +kernel
theorem t_told_dig {s : List Int} (h : s ∈ spansOf 48) : cf_board_told [st (dig s)] = .ok (bd s) := by
  have z := all_toldDig s h
  unfold toldDig at z
  split at z
  · rename_i a b e
    rw [Bool.and_eq_true] at z
    rw [e, eqDBs_eq _ _ z.1, eqDBs_eq _ _ z.2]; rfl
  · cases z
theorem t_notes_told {s : List Int} {F : List Fa} (hs : s ∈ spansOf 48) (h : FcT s F) (hN : cf_Notes_init [bd s, .tup (fcts F)] = .ok (.tup [.tup [bd s, .tup (fcts F)]])) : cf_notes_told [st (pageT s F)] = .ok (nt s F) := by
  have ok := okS_of hs
  have hf := h.2
  have hl := lines_few h
  refine cf_ok (by rfl) ?_; simp only [x_notes_told, DL.startD, N_notes_told, List.map_cons, List.map_nil, List.length_cons, List.length_nil, Nat.reduceAdd, Nat.reduceSub, List.replicate_succ, List.replicate_zero, List.cons_append, List.nil_append]
  refine S_set (d := .lst (sts (linesT s F))) (E_if (v := true) (E_tb (E_isi rfl rfl rfl)) (fun _ => E_split rfl rfl (by rw [lit10]; exact page_split ok h)) fun z => nomatch z) ?_
  refine S_set (d := .lst (.lst (sts [bw, dig s]) :: F.map wdsF)) ((E_L (xLc_ok (e := st) (xs := linesT s F) (fun _ => true) wds (iA_ok rfl rfl) (by omega) fun l ml => ⟨_, rfl, rfl, fun _ => E_split rfl rfl (by rw [lit32]; exact wds_split ok h ml)⟩)).trans (by rw [filter_tt, wds_lines ok h])) ?_
  have i0 : ixX (.lst (.lst (sts [bw, dig s]) :: F.map wdsF)) (.int 0) = some (.lst (sts [bw, dig s])) := ixX_lst (n := 0) rfl
  refine S_skip (E_orT (b := false) (c := false) (E_tb (E_2 (E_ca (E_cons (E_2 rfl rfl i0) E_nil) rfl) rfl (by kernel_rfl))) fun _ => E_tb (E_2 (E_2 (E_2 rfl rfl i0) rfl (ixX_lst (n := 0) rfl)) rfl (by kernel_rfl))) ?_
  refine S_set (d := bd s) (E_call (E_cons (E_2 (E_2 rfl rfl i0) rfl (ixX_lst (n := 1) rfl)) E_nil) (t_told_dig hs)) ?_
  refine S_skip (E_orT (b := false) (c := false) (E_tb (E_2 rfl rfl rfl)) fun _ => E_notT (b := true) (E_tb ((E_all (xs := F.map fun _ => true) ((xLc_ok (e := wdsF) (xs := F) (fun _ => true) (fun _ => .bl true) (iA_ok (E_lstFrom (n := 1) rfl rfl) rfl) (by omega) fun f hf => ⟨_, rfl, rfl, fun _ => E_and (a := true) (b := true) (E_2 (E_ca (E_cons rfl E_nil) rfl) rfl (by kernel_rfl)) fun _ => E_2 (E_2 rfl rfl (ixX_lst (n := 1) rfl)) rfl (by kernel_rfl)⟩).trans (by rw [filter_tt, List.map_map]; rfl))).trans (by
    congr 2
    rw [List.all_map, List.all_eq_true]
    intro _ _; rfl)))) ?_
  refine W_tryOk (d := nt s F) ?_ rfl
  exact yRet_ok (E_makeK (E_kw (E_cons rfl (E_cons (E_ca (ds := [.lst (fcts F)]) (E_cons ((E_L (xLc_ok (e := wdsF) (xs := F) (fun _ => true) fct (iA_ok (E_lstFrom (n := 1) rfl rfl) rfl) (by omega) fun f hf => ⟨_, rfl, rfl, fun _ => E_tup (E_cons (E_2 rfl rfl (ixX_lst (n := 0) rfl)) (E_cons (E_2 rfl rfl (ixX_lst (n := 2) rfl)) E_nil)) (Nat.le_of_ble_eq_true rfl)⟩)).trans (by rw [filter_tt]; rfl)) E_nil) rfl) E_nil)) E_nil) ⟨rfl, rfl⟩ rfl hN)
theorem t_Notes_read {s : List Int} {F : List Fa} (hs : s ∈ spansOf 48) (h : FcT s F) (hN : cf_Notes_init [bd s, .tup (fcts F)] = .ok (.tup [.tup [bd s, .tup (fcts F)]])) : cf_Notes_read [st (pageT s F)] = .ok (nt s F) := by
  refine cf_ok (by rfl) ?_
  simp only [x_Notes_read, DL.startD, N_Notes_read, List.tail_cons, List.map_cons, List.map_nil, List.length_cons, List.length_nil, Nat.reduceAdd, Nat.reduceSub, List.replicate_succ, List.replicate_zero, List.cons_append, List.nil_append]
  refine W_un ?_
  refine S_set (d := nt s F) (E_call (E_cons rfl E_nil) (t_notes_told hs h hN)) ?_
  refine S_skip (E_tb (E_2 rfl rfl rfl)) ?_
  exact W_ret rfl rfl
theorem t_law_page {s : List Int} {F : List Fa} (hs : s ∈ spansOf 48) (h : FcT s F) : cf_law_page [.tup (s.map D.int), .tup (fcts F)] = .ok (st (pageT s F)) := by
  have ok := okS_of hs
  have hf := h.2
  have hd := (dig_plain ok).len
  refine cf_ok (by rfl) ?_; simp only [x_law_page, DL.startD, N_law_page, List.map_cons, List.map_nil, List.length_cons, List.length_nil, Nat.reduceAdd, Nat.reduceSub, List.replicate_succ, List.replicate_zero, List.cons_append, List.nil_append]
  refine S_set (d := st (hdT s)) (E_2 rfl (page_ok hs rfl rfl (Nat.le_of_ble_eq_true rfl)) (by rw [litB, addX_st (by simp [bw]; omega), hdT_eq])) ?_
  refine W_ret (E_join rfl (E_L (E_addN (E_L (E_lst (E_cons rfl E_nil) (Nat.le_of_ble_eq_true rfl))) ((E_L (xLc_ok (e := fct) (xs := F) (fun _ => true) (fun f => st (lnT f)) (iA_ok rfl rfl) (by omega) fun f hf => ⟨_, rfl, rfl, fun _ => ?_⟩)).trans (by rw [filter_tt])) ?_)) ?_) rfl
  · have l1 := (h.plain ok f hf).1.len
    have l2 := (h.plain ok f hf).2.len
    refine E_2 (E_2 rfl rfl (by rw [litS]; exact addX_st (by simp; omega))) rfl ((addX_st (by simp; omega)).trans (by rw [lnT_eq]))
  · rw [List.length_map]
    simp only [List.length_cons, List.length_nil]
    omega
  · have e : [st (hdT s)] ++ F.map (fun f => st (lnT f)) = sts (linesT s F) := by unfold linesT sts; rw [List.map_cons, List.map_map]; rfl
    rw [e, lit10]
    exact page_join ok h
def strDig (s : List Int) : Bool := match cf_Board_str [bd s] with
  | .ok (.str z) => decide (z.cps.toList = dig s)
  | _ => false
theorem all_strDig : ∀ s ∈ spansOf 48, strDig s = true := by decide +kernel
theorem t_str_dig {s : List Int} (h : s ∈ spansOf 48) : cf_Board_str [bd s] = .ok (st (dig s)) := by
  have z := all_strDig s h
  unfold strDig at z
  split at z
  · rename_i t e
    rw [e]
    have := of_decide_eq_true z
    rw [← this]; rfl
  · cases z
theorem t_Notes_str {s : List Int} {F : List Fa} (hs : s ∈ spansOf 48) (h : FcT s F) : cf_Notes_str [nt s F] = .ok (st (pageT s F)) := by
  have ok := okS_of hs
  have hf := h.2
  have hd := (dig_plain ok).len
  refine cf_ok (by rfl) ?_; simp only [x_Notes_str, DL.startD, N_Notes_str, List.map_cons, List.map_nil, List.length_cons, List.length_nil, Nat.reduceAdd, Nat.reduceSub, List.replicate_succ, List.replicate_zero, List.cons_append, List.nil_append]
  refine S_asg (d := .tup [bd s, .tup (fcts F)]) (E_fld rfl rfl) rfl ?_
  refine S_set (d := .lst (F.map fun f => st (lnT f))) ((E_L (xLc_ok (e := fct) (xs := F) (fun _ => true) (fun f => st (lnT f)) (iA_ok rfl rfl) (by omega) fun f hf => ⟨_, rfl, rfl, fun _ => ?_⟩)).trans (by rw [filter_tt])) ?_
  · have l1 := (h.plain ok f hf).1.len
    have l2 := (h.plain ok f hf).2.len
    refine E_2 (E_2 (E_2 (E_2 rfl rfl (by rw [lit32]; exact addX_st (by simp; omega))) rfl (by rw [litS0]; exact addX_st (by simp; omega))) rfl (by rw [lit32]; exact addX_st (by simp; omega))) rfl ((addX_st (by simp; omega)).trans (by rw [lnT_eq4]))
  refine W_ret (E_join rfl (E_L (E_addN (E_L (E_lst (E_cons (E_2 (E_2 rfl rfl (by rw [litB0, lit32]; exact addX_st (by simp [bw]))) (E_ca (E_cons rfl E_nil) (strOX_ok (t_str_dig hs))) ((addX_st (by simp [bw]; omega)).trans (by rw [← hdT_eq]))) E_nil) (Nat.le_of_ble_eq_true rfl))) rfl ?_)) ?_) rfl
  · rw [List.length_map]
    simp only [List.length_cons, List.length_nil]
    omega
  · have e : [st (hdT s)] ++ F.map (fun f => st (lnT f)) = sts (linesT s F) := by unfold linesT sts; rw [List.map_cons, List.map_map]; rfl
    rw [e, lit10]
    exact page_join ok h
theorem t_Notes_board {s : List Int} {F : List Fa} : cf_Notes_board [nt s F] = .ok (bd s) := rfl
theorem t_Notes_facts {s : List Int} {F : List Fa} : cf_Notes_facts [nt s F] = .ok (.tup (fcts F)) := rfl
theorem t_Notes_len {s : List Int} {F : List Fa} : cf_Notes_len [nt s F] = .ok (.int (F.length : Nat)) := by
  refine cf_ok (by rfl) ?_; simp only [x_Notes_len, DL.startD, N_Notes_len, List.map_cons, List.map_nil, List.length_cons, List.length_nil, Nat.reduceAdd, Nat.reduceSub, List.replicate_succ, List.replicate_zero, List.cons_append, List.nil_append]
  exact W_ret (E_ca (E_cons (E_2 (E_fld rfl rfl) rfl (ixX_tup (n := 1) rfl)) E_nil) (lenX_tup.trans (by rw [fcts_len]))) rfl
theorem t_Notes_bool {s : List Int} {F : List Fa} : cf_Notes_bool [nt s F] = .ok (.bl true) := rfl
theorem shown_notes {s : List Int} {F : List Fa} (ok : OkS s) (h : FcT s F) : shwOK (.lst [st (dig s), .tup (fcts F), .int (F.length : Nat), st (pageT s F), .bl true]) := by
  have pF := h.plain ok
  have hf := h.2
  refine shownOK_of (okd_lst (n := 59) ?_) ?_
  · have e4 : okd 59 (st (pageT s F)) = true := by
      show (pageT s F).all (fun c => decide (c < 16 ^ 8)) = true
      rw [List.all_eq_true]
      exact fun c hc => decide_eq_true (Nat.lt_trans (page_okT ok h c hc) (by decide))
    show (okd 59 (st (dig s)) && (okd 59 (.tup (fcts F)) && (okd 59 (.int (F.length : Nat)) && (okd 59 (st (pageT s F)) && (okd 59 (.bl true) && true))))) = true
    rw [okd_st (dig_plain ok), okd_fctsN (n := 57) pF, okd_nat (by omega), e4]; rfl
  · rw [sl_eq]
    have w1 := wt_st (dig_plain ok)
    have w2 := wt_fcts pF
    have w3 := wt_nat (n := F.length) (by omega)
    have w4 : wt (st (pageT s F)) = 10 * (pageT s F).length + 2 := rfl
    have w5 := page_len ok h
    have w6 : wt (.bl true) ≤ 10 := Nat.le_of_ble_eq_true rfl
    have e : wt (.lst [st (dig s), .tup (fcts F), .int (F.length : Nat), st (pageT s F), .bl true]) = wt (st (dig s)) + 2 + (wt (.tup (fcts F)) + 2 + (wt (.int (F.length : Nat)) + 2 + (wt (st (pageT s F)) + 2 + (wt (.bl true) + 2 + 0)))) + 3 := rfl
    omega
theorem t_law_shows {s : List Int} {F : List Fa} (hs : s ∈ spansOf 48) (h : FcT s F) : cf_law_shows [nt s F, .tup (s.map D.int), .tup (fcts F)] = .ok (.bl true) := by
  have ok := okS_of hs
  have hf := h.2
  have hw := shown_notes ok h
  refine cf_ok (by rfl) ?_; simp only [x_law_shows, DL.startD, N_law_shows, List.map_cons, List.map_nil, List.length_cons, List.length_nil, Nat.reduceAdd, Nat.reduceSub, List.replicate_succ, List.replicate_zero, List.cons_append, List.nil_append]
  refine S_set (d := .lst [st (dig s), .tup (fcts F), .int (F.length : Nat), st (pageT s F), .bl true]) (E_L (E_lst (E_cons (E_ca (E_cons (E_prop rfl t_Notes_board) E_nil) (strOX_ok (t_str_dig hs))) (E_cons (E_prop rfl t_Notes_facts) (E_cons (E_ca (E_cons rfl E_nil) (lenOX_ok (by omega) t_Notes_len)) (E_cons (E_ca (E_cons rfl E_nil) (strOX_ok (t_Notes_str hs h))) (E_cons (E_ca (E_cons rfl E_nil) (boolOX_ok t_Notes_bool)) E_nil))))) (Nat.le_of_ble_eq_true rfl))) ?_
  refine S_set (d := st (pageT s F)) (E_call (E_cons rfl (E_cons rfl E_nil)) (t_law_page hs h)) ?_
  exact W_ret (d := .bl true) (E_2 (E_ca (E_cons rfl E_nil) (reprX2_ok hw)) (E_ca (E_cons (E_L (E_lst (E_cons (E_ca (E_cons (E_make (E_cons rfl E_nil) (t_Board_init hs)) E_nil) (strOX_ok (t_str_dig hs))) (E_cons rfl (E_cons (E_ca (E_cons rfl E_nil) (lenX_tup.trans (by rw [fcts_len]))) (E_cons rfl (E_cons rfl E_nil))))) (Nat.le_of_ble_eq_true rfl))) E_nil) (reprX2_ok hw)) (lit_eq.trans (by rw [decide_eq_true rfl]))) rfl
theorem t_Board_sizes {s : List Int} : cf_Board_sizes [bd s] = .ok (.tup (s.map D.int)) := rfl
theorem eqvAll_int : ∀ (s : List Int), PyData.eqvAll (pds (s.map D.int)) (pds (s.map D.int)) = true
  | [] => by simp [pds, PyData.eqvAll]
  | z :: s => by
    rw [List.map_cons]
    unfold pds PyData.eqvAll
    rw [eqvAll_int s]
    have e : PyData.eqv (pd (.int z)) (pd (.int z)) = true := by
      have := eqX_int (a := z) (b := z)
      unfold eqX at this
      dsimp only [bothS] at this
      rw [gd_pos (by rw [shp_int]; rfl)] at this
      have := Option.some.inj this
      injection this with this
      unfold eqb at this
      rw [this]; simp
    rw [e]; rfl
theorem eqX_sizes {s : List Int} : eqX (.tup (s.map D.int)) (.tup (s.map D.int)) = some (.bl true) := by
  show gd ((shpB (.tup (s.map D.int)) && shpB (.tup (s.map D.int))) = true) (.bl (eqb (.tup (s.map D.int)) (.tup (s.map D.int)))) = _
  have h : shpB (.tup (s.map D.int)) = true := shp_of (okq_tup (okqs_map fun z _ => rfl))
  rw [gd_pos (by rw [h]; rfl)]
  unfold eqb pd PyData.eqv
  rw [eqvAll_int]
theorem t_Board_eq {s : List Int} : cf_Board_eq [bd s, bd s] = .ok (.bl true) := by
  refine cf_ok (by rfl) ?_; simp only [x_Board_eq, DL.startD, N_Board_eq, List.map_cons, List.map_nil, List.length_cons, List.length_nil, Nat.reduceAdd, Nat.reduceSub, List.replicate_succ, List.replicate_zero, List.cons_append, List.nil_append]
  exact W_ret (E_and (a := true) (E_isi rfl rfl rfl) fun _ => E_2 (E_prop rfl t_Board_sizes) (E_prop rfl t_Board_sizes) eqX_sizes) rfl
theorem t_Notes_eq {s : List Int} {F G : List Fa} (hF : ∀ f ∈ F, Plain f.1 ∧ Plain f.2) (hG : ∀ f ∈ G, Plain f.1 ∧ Plain f.2) : cf_Notes_eq [nt s F, nt s G] = .ok (.bl (decide (F = G))) := by
  refine cf_ok (by rfl) ?_; simp only [x_Notes_eq, DL.startD, N_Notes_eq, List.map_cons, List.map_nil, List.length_cons, List.length_nil, Nat.reduceAdd, Nat.reduceSub, List.replicate_succ, List.replicate_zero, List.cons_append, List.nil_append]
  have e : eqPX 1 cf_Board_eq (.tup [bd s, .tup (fcts F)]) (.tup [bd s, .tup (fcts G)]) = some (.bl (true && eqb (.tup (fcts F)) (.tup (fcts G)))) := eqPX_ok rigs_bd rigs_bd (shp_fcts hF) (shp_fcts hG) (.inl rfl) t_Board_eq
  rw [eqb_fcts, Bool.true_and] at e
  exact W_ret (E_and (a := true) (E_isi rfl rfl rfl) fun _ => E_2 (E_fld rfl rfl) (E_fld rfl rfl) e) (by first | rfl | (rw [Bool.true_and]))
theorem t_Notes_ne {s : List Int} {F : List Fa} {v : D} (h : isBase v = true) : cf_Notes_eq [nt s F, v] = .ok (.bl false) := by
  refine cf_ok (by rfl) ?_; simp only [x_Notes_eq, DL.startD, N_Notes_eq, List.map_cons, List.map_nil, List.length_cons, List.length_nil, Nat.reduceAdd, Nat.reduceSub, List.replicate_succ, List.replicate_zero, List.cons_append, List.nil_append]
  exact W_ret (E_and (a := false) (b := false) (isi_Notes_v rfl h) fun z => nomatch z) rfl
theorem t_Notes_neB {s : List Int} {F : List Fa} {s2 : List Int} : cf_Notes_eq [nt s F, bd s2] = .ok (.bl false) := by
  refine cf_ok (by rfl) ?_; simp only [x_Notes_eq, DL.startD, N_Notes_eq, List.map_cons, List.map_nil, List.length_cons, List.length_nil, Nat.reduceAdd, Nat.reduceSub, List.replicate_succ, List.replicate_zero, List.cons_append, List.nil_append]
  exact W_ret (E_and (a := false) (b := false) (E_isi rfl rfl rfl) fun z => nomatch z) rfl
theorem t_Board_neN {s s2 : List Int} {F : List Fa} : cf_Board_eq [bd s, nt s2 F] = .ok (.bl false) := by
  refine cf_ok (by rfl) ?_; simp only [x_Board_eq, DL.startD, N_Board_eq, List.map_cons, List.map_nil, List.length_cons, List.length_nil, Nat.reduceAdd, Nat.reduceSub, List.replicate_succ, List.replicate_zero, List.cons_append, List.nil_append]
  exact W_ret (E_and (a := false) (b := false) (E_isi rfl rfl rfl) fun z => nomatch z) rfl
theorem vals_eq {s : List Int} {F : List Fa} {z : Str} : ∀ v ∈ [D.str z, bd s, .tup (fcts F), .non, .int 0, .lst [], .dic [] [], .tup [nt s F]], cf_Notes_eq [nt s F, v] = .ok (.bl false) ∧ kindW [1] v = true ∧ eqRWX 3 1 cf_Notes_eq cf_Board_eq v (nt s F) = some (.bl false) := fun v hv => by
  have base : ∀ v : D, isBase v = true → kindB v = true → cf_Notes_eq [nt s F, v] = .ok (.bl false) ∧ kindW [1] v = true ∧ eqRWX 3 1 cf_Notes_eq cf_Board_eq v (nt s F) = some (.bl false) := fun v h k =>
    ⟨t_Notes_ne h, (by cases v <;> first | exact k | cases h), eqRWX_kind k (t_Notes_ne h)⟩
  simp only [List.mem_cons, List.not_mem_nil, or_false] at hv
  rcases hv with rfl | rfl | rfl | rfl | rfl | rfl | rfl | rfl
  · exact base _ rfl rfl
  · exact ⟨t_Notes_neB, rfl, eqRWX_obj t_Board_neN⟩
  · exact base _ rfl rfl
  · exact base _ rfl rfl
  · exact base _ rfl rfl
  · exact base _ rfl rfl
  · exact base _ rfl rfl
  · exact base _ rfl rfl
theorem made_nt {s : List Int} {o : List Tx} {F : List Fa} (hs : s ∈ spansOf 24) (hp : o.Perm (sets (full s))) (hc : Fc (full s) o F) : cf_Notes_init [bd s, .tup (fcts F)] = .ok (.tup [.tup [bd s, .tup (fcts F)]]) := by
  have ok := okS_of hs
  have h24 : (sets (full s)).length ≤ 24 := sets_le hs
  exact (t_Notes_init ok (by omega) (dok_fcts (fc_plain ok hp hc) hc.few)).trans (by rw [fac_none hp hc])
theorem fc_nil {s : List Int} {o : List Tx} : Fc (full s) o [] := ⟨List.nodup_nil, (fun f hf => by cases hf), (fun f hf => by cases hf), (fun f hf => by cases hf), Nat.zero_le _⟩
theorem body_right {s : List Int} {o : List Tx} {F G : List Fa} (hs : s ∈ spansOf 24) (hp : o.Perm (sets (full s))) (hF : Fc (full s) o F) (hG : Fc (full s) o G) {A : DE} {EX : XP} {a1 a6 a7 a8 a9 a10 a11 a12 a13 : Option D} (hA : ∀ a6 a7 a8 a9 a10 a11 a12 a13, A.nx [.val .jar, jk a1, .val (.tup (s.map D.int)), .val (.tup (sts o)), .val (.tup (fcts F)), .val (.tup (fcts G)), jk a6, jk a7, jk a8, jk a9, jk a10, jk a11, jk a12, jk a13]) :
    (sSeq P_law_right_0 (sSeq P_law_right_1 (sSeq P_law_right_2 (sSeq P_law_right_4 (sSeq P_law_right_6 P_law_right_7))))) A EX [.val .jar, jk a1, .val (.tup (s.map D.int)), .val (.tup (sts o)), .val (.tup (fcts F)), .val (.tup (fcts G)), jk a6, jk a7, jk a8, jk a9, jk a10, jk a11, jk a12, jk a13] := by
  have hs48 := spans_le (n := 48) (by decide) hs
  have ok := okS_of hs
  have tF := fc_texts hp hF
  have tG := fc_texts hp hG
  have t0 : FcT s [] := ⟨(fun f hf => by cases hf), Nat.zero_le _⟩
  have pF := tF.plain ok
  have pG := tG.plain ok
  have nF := made_nt hs hp hF
  have nG := made_nt hs hp hG
  have n0 := made_nt hs hp (F := []) fc_nil
  have rd := t_Notes_read hs48 tF nF
  (try dsimp only); refine lP_law_right_0.goW ?_ ?_; exact (by first | rfl | (simp only [List.set_cons_zero, List.set_cons_succ, List.map_cons, List.map_nil, adr_jk, adr_jo, adr_val, adr_un, adr_own]; done))
  refine W_par (d := nt s F) (d2 := nt s F) (E_cons (E_makeK (E_kw (E_cons (E_make (E_cons rfl E_nil) (t_Board_init hs48)) (E_cons rfl E_nil)) E_nil) ⟨rfl, rfl⟩ rfl nF) (E_cons (E_makeK (E_kw E_nil (E_cons rfl (E_cons (E_make (E_cons rfl E_nil) (t_Board_init hs48)) E_nil))) ⟨rfl, rfl⟩ rfl nF) E_nil)) ⟨(by first | rfl | (simp only [List.set_cons_zero, List.set_cons_succ, List.map_cons, List.map_nil, adr_jk, adr_jo, adr_val, adr_un, adr_own]; done)), ?_⟩
  (try dsimp only); refine lP_law_right_1.goW ?_ ?_; exact (by first | rfl | (simp only [List.set_cons_zero, List.set_cons_succ, List.map_cons, List.map_nil, adr_jk, adr_jo, adr_val, adr_un, adr_own]; done))
  refine W_set (d := nt s F) (E_call (E_cons (E_call (E_cons rfl (E_cons rfl E_nil)) (t_law_page hs48 tF)) E_nil) rd) ⟨(by first | rfl | (simp only [List.set_cons_zero, List.set_cons_succ, List.map_cons, List.map_nil, adr_jk, adr_jo, adr_val, adr_un, adr_own]; done)), ?_⟩
  (try dsimp only); refine lP_law_right_2.goW ?_ ?_; exact (by first | rfl | (simp only [List.set_cons_zero, List.set_cons_succ, List.map_cons, List.map_nil, adr_jk, adr_jo, adr_val, adr_un, adr_own]; done))
  refine W_if (v := false) (E_notT (b := true) (E_tb ((E_all (xs := [true, true, true, true]) ((xLc_ok (e := fun _ : Nat => nt s F) (xs := [0, 1, 2, 3]) (fun _ => true) (fun _ => .bl true) (iA_ok (E_L (E_lst (E_cons rfl (E_cons rfl (E_cons rfl (E_cons (E_callK (E_kw E_nil (E_cons (E_ca (E_cons rfl E_nil) (strOX_ok (t_Notes_str hs48 tF))) E_nil)) ⟨rfl, rfl⟩ rfl rd) E_nil)))) (Nat.le_of_ble_eq_true rfl))) rfl) (Nat.le_of_ble_eq_true rfl) fun k _ => ⟨_, rfl, rfl, fun _ => E_call (E_cons rfl (E_cons rfl (E_cons rfl E_nil))) (t_law_shows hs48 tF)⟩).trans rfl)).trans rfl))) (fun z => nomatch z) fun _ => W_next ⟨(by first | rfl | (simp only [List.set_cons_zero, List.set_cons_succ, List.map_cons, List.map_nil, adr_jk, adr_jo, adr_val, adr_un, adr_own]; done)), ?_⟩
  (try dsimp only); refine lP_law_right_4.goW ?_ ?_; exact (by first | rfl | (simp only [List.set_cons_zero, List.set_cons_succ, List.map_cons, List.map_nil, adr_jk, adr_jo, adr_val, adr_un, adr_own]; done))
  refine W_for (em := fun p : List Fa => .tup [nt s p, .bl (decide (p = F))]) (xs := [F, F, G]) (fun _ r => ∃ a9 a10 : Option D, r = [.val .jar, jk a1, .val (.tup (s.map D.int)), .val (.tup (sts o)), .val (.tup (fcts F)), .val (.tup (fcts G)), .val (nt s F), .val (nt s F), .val (nt s F), jk a9, jk a10, jk a11, jk a12, jk a13]) (iA_ok (E_L (E_lst (E_cons (E_tup (E_cons rfl (E_cons rfl E_nil)) (Nat.le_of_ble_eq_true rfl)) (E_cons (E_tup (E_cons rfl (E_cons rfl E_nil)) (Nat.le_of_ble_eq_true rfl)) (E_cons (E_tup (E_cons (E_makeK (E_kw (E_cons (E_make (E_cons rfl E_nil) (t_Board_init hs48)) (E_cons rfl E_nil)) E_nil) ⟨rfl, rfl⟩ rfl nG) (E_cons (E_2 rfl rfl (eqX_fcts pG pF)) E_nil)) (Nat.le_of_ble_eq_true rfl)) E_nil))) (Nat.le_of_ble_eq_true rfl))) (by simp [seqD, nt])) ⟨a9, a10, rfl⟩ ?_ ?_
  · rintro p x _ hx r ⟨a9, a10, rfl⟩
    have px : ∀ f ∈ x, Plain f.1 ∧ Plain f.2 := by
      have : x ∈ [F, F, G] := by rw [hx]; simp
      simp only [List.mem_cons, List.not_mem_nil, or_false] at this
      rcases this with rfl | rfl | rfl
      · exact pF
      · exact pF
      · exact pG
    refine ⟨_, rfl, W_if (v := false) (three_due (b := decide (x = F)) (E_2 rfl rfl (eqOX_ok ((t_Notes_eq pF px).trans ?_))) (E_2 rfl rfl (eqOX_ok (t_Notes_eq px pF))) (E_2 rfl rfl ((neOX_ok (t_Notes_eq pF px)).trans ?_)) rfl) (fun z => nomatch z) fun _ => W_next ⟨some _, some _, rfl⟩⟩
    · rw [decide_eq_decide.mpr (show F = x ↔ x = F from ⟨Eq.symm, Eq.symm⟩)]
    · rw [decide_eq_decide.mpr (show F = x ↔ x = F from ⟨Eq.symm, Eq.symm⟩)]
  rintro r ⟨b9, b10, rfl⟩
  refine ⟨(by first | rfl | (simp only [List.set_cons_zero, List.set_cons_succ, List.map_cons, List.map_nil, adr_jk, adr_jo, adr_val, adr_un, adr_own]; done)), ?_⟩
  (try dsimp only); refine lP_law_right_6.goW ?_ ?_; exact (by first | rfl | (simp only [List.set_cons_zero, List.set_cons_succ, List.map_cons, List.map_nil, adr_jk, adr_jo, adr_val, adr_un, adr_own]; done))
  refine W_for (em := id) (xs := [st (pageT s F), bd s, .tup (fcts F), .non, .int 0, .lst [], .dic [] [], .tup [nt s F]]) (fun _ r => ∃ a11 : Option D, r = [.val .jar, jk a1, .val (.tup (s.map D.int)), .val (.tup (sts o)), .val (.tup (fcts F)), .val (.tup (fcts G)), .val (nt s F), .val (nt s F), .val (nt s F), jk b9, jk b10, jk a11, jk a12, jk a13]) (iA_ok (E_L (E_lst (E_cons (E_ca (E_cons rfl E_nil) (strOX_ok (t_Notes_str hs48 tF))) (E_cons (E_prop rfl t_Notes_board) (E_cons rfl (E_cons rfl (E_cons rfl (E_cons (E_L (E_lst E_nil (Nat.zero_le _))) (E_cons rfl (E_cons (E_tup (E_cons rfl E_nil) (Nat.le_of_ble_eq_true rfl)) E_nil)))))))) (Nat.le_of_ble_eq_true rfl))) rfl) ⟨a11, rfl⟩ ?_ ?_
  · rintro p x _ hx r ⟨a11, rfl⟩
    have hv := vals_eq (s := s) (F := F) (z := sx (pageT s F)) x (by rw [hx]; simp)
    exact ⟨_, rfl, W_if (v := false) (three_no (E_2 rfl rfl (eqLWX_ok hv.2.1 hv.1)) (E_2 rfl rfl hv.2.2) (E_2 rfl rfl (eqLWX_ok hv.2.1 hv.1))) (fun z => nomatch z) fun _ => W_next ⟨some _, rfl⟩⟩
  rintro r ⟨b11, rfl⟩
  refine ⟨(by first | rfl | (simp only [List.set_cons_zero, List.set_cons_succ, List.map_cons, List.map_nil, adr_jk, adr_jo, adr_val, adr_un, adr_own]; done)), ?_⟩
  (try dsimp only); refine lP_law_right_7.goW ?_ ?_; exact (by first | rfl | (simp only [List.set_cons_zero, List.set_cons_succ, List.map_cons, List.map_nil, adr_jk, adr_jo, adr_val, adr_un, adr_own]; done))
  have sh := t_law_shows hs48 t0
  refine W_if (v := false) (E_orT (b := false) (c := false) (E_notT (b := true) (E_tb (E_call (E_cons (E_makeK (E_kw (E_cons (E_make (E_cons rfl E_nil) (t_Board_init hs48)) E_nil) E_nil) ⟨rfl, rfl⟩ rfl n0) (E_cons rfl (E_cons (E_tup E_nil (Nat.zero_le _)) E_nil))) sh))) fun _ => E_notT (b := true) (E_tb (E_call (E_cons (E_makeK (E_kw E_nil (E_cons (E_make (E_cons rfl E_nil) (t_Board_init hs48)) E_nil)) ⟨rfl, rfl⟩ rfl n0) (E_cons rfl (E_cons (E_tup E_nil (Nat.zero_le _)) E_nil))) sh))) (fun z => nomatch z) fun _ => W_next ⟨(by first | rfl | (simp only [List.set_cons_zero, List.set_cons_succ, List.map_cons, List.map_nil, adr_jk, adr_jo, adr_val, adr_un, adr_own]; done)), ?_⟩
  exact hA (some _) (some _) (some _) b9 b10 b11 a12 a13
theorem loop_right {A : DE} {EX : XP} (hA : ∀ a1 a2 a3 a4 a5 a6 a7 a8 a9 a10 a11 a12 a13, A.nx [.val .jar, jk a1, jk a2, jk a3, jk a4, jk a5, jk a6, jk a7, jk a8, jk a9, jk a10, jk a11, jk a12, jk a13]) :
    ∀ (ns : List Int) a1 a2 a3 a4 a5 a6 a7 a8 a9 a10 a11 a12 a13, forD (gVar 1) L_law_right_2 (ns.map D.int) A EX [.val .jar, jk a1, jk a2, jk a3, jk a4, jk a5, jk a6, jk a7, jk a8, jk a9, jk a10, jk a11, jk a12, jk a13]
  | [], a1, a2, a3, a4, a5, a6, a7, a8, a9, a10, a11, a12, a13 => hA a1 a2 a3 a4 a5 a6 a7 a8 a9 a10 a11 a12 a13
  | n :: ns, a1, a2, a3, a4, a5, a6, a7, a8, a9, a10, a11, a12, a13 => by
    refine ⟨24, rfl, by decide, by decide, fun s hs => ?_⟩
    have hs48 := spans_le (n := 48) (by decide) hs
    have ok := okS_of hs
    refine ⟨s, rfl, ok, fun o hp => ?_⟩
    refine ⟨2, rfl, by decide, ?_⟩
    refine ⟨rfl, fun n1 => ?_⟩
    refine ⟨s, o, n1, rfl, hs48, hp, fun F hF _ => ?_⟩
    refine ⟨by decide, ?_⟩
    refine ⟨rfl, fun n2 => ?_⟩
    refine ⟨s, o, n2, rfl, hs48, hp, fun G hG _ => ?_⟩
    refine ⟨(by decide : 1 < sizeLine), ?_⟩
    refine ⟨_, rfl, rfl, _, _, rfl, _, _, rfl, rfl, ?_⟩
    exact body_right (a1 := some (.int n)) (a6 := a6) (a7 := a7) (a8 := a8) (a9 := a9) (a10 := a10) (a11 := a11) (a12 := a12) (a13 := a13) (EX := EX) hs hp hF hG (A := { A with nx := fun r2 => forD (gVar 1) L_law_right_2 (ns.map D.int) A EX r2, ct := fun r2 => forD (gVar 1) L_law_right_2 (ns.map D.int) A EX r2, bk := A.nx }) (fun b6 b7 b8 b9 b10 b11 b12 b13 => loop_right hA ns (some _) (some _) (some _) (some _) (some _) b6 b7 b8 b9 b10 b11 b12 b13)
theorem len_law_right : ∀ ds Q EX, sp_law_right ds Q EX → ds.length = 1 := by
  rintro _ Q EX ⟨rfl, _⟩; rfl
theorem pure_law_right : ∀ ds Q EX, sp_law_right ds Q EX → R_law_right { nx := fun _ => Q .non, rt := Q } EX (startD N_law_right ds) := by
  rintro _ Q EX ⟨rfl, k⟩
  refine ⟨2, rfl, ⟨by decide, by decide⟩, ?_⟩
  exact loop_right (fun _ _ _ _ _ _ _ _ _ _ _ _ _ => k) [0, 1] none none none none none none none none none none none none none
theorem len_law_jar : ∀ ds Q EX, sp_law_jar ds Q EX → ds.length = 2 := by
  rintro _ Q EX ⟨ns, k, rfl, _⟩; rfl
theorem loop_jar {A : DE} {EX : XP} {a k : D} (hA : ∀ (m : Int) x y z, A.nx [.val a, .val k, .val (.int m), x, y, z]) : ∀ (ds : List D) (m : Int) (x y z : Sl), (∀ d ∈ ds, ∃ n : Int, d = .int n) → forD (gVar 3) L_law_jar_0 ds A EX [.val a, .val k, .val (.int m), x, y, z]
  | [], m, x, y, z, _ => hA m x y z
  | d :: ds, m, x, y, z, h => by
    obtain ⟨n, rfl⟩ := h d List.mem_cons_self
    refine ⟨.inr (by decide), ?_⟩
    refine ⟨(by decide : (1000000009 : Int) ≠ 0), ?_⟩
    exact loop_jar (EX := EX) hA ds _ _ _ _ fun d hd => h d (List.mem_cons_of_mem _ hd)
theorem cut_mem {ds : List D} {lo hi : Option Int} {d : D} (h : d ∈ cutD ds lo hi) : d ∈ ds := List.mem_of_mem_drop (List.mem_of_mem_take h)
theorem pure_law_jar : ∀ ds Q EX, sp_law_jar ds Q EX → R_law_jar { nx := fun _ => Q .non, rt := Q } EX (startD N_law_jar ds) := by
  rintro _ Q EX ⟨ns, k, rfl, h0, h1, hl, q⟩
  refine ⟨.inl (by decide), ?_⟩
  refine ⟨.inr ⟨by omega, by omega⟩, ?_⟩
  refine ⟨.inl (by decide), ?_⟩
  refine ⟨_, rfl, ?_⟩
  refine ⟨_, rfl, ?_⟩
  refine loop_jar (fun m x y z => ?_) _ _ _ _ _ (fun d hd => ?_)
  · -- own = script[k] if k < len(script) else 0
    refine ⟨_, rfl, ?_⟩
    have rest : ∀ own : Int, (sSeq (sSet 5 (fIf (fOrT (fTb (f2 ltD (fVar 4) (fC (.int 0)))) (fTb (f2 geD (fVar 4) (f2 powD (fC (.int 10)) (fC (.int 18)))))) (fCa (i1D fun i => .int (if i < 0 then -i else i)) (fCons (fVar 4) fNil)) (fC (.int 0))))
    (sRetJar (fLst (fCons (fVar 5) (fCons (f2 modD (fCa intC (fCons (f2 addD (f2 addD (f2 mulD (fVar 2) (fC (.int 8117))) (f2 mulD (fVar 4) (fC (.int 64013)))) (f2 mulD (fC (.int 105019)) (f2 addD (fVar 1) (fC (.int 1))))) fNil)) (fC (.int 2147483563))) (fCons (fC (.int 0)) fNil)))))) { nx := fun _ => Q .non, rt := Q } EX [.val (.lst (ns.map D.int)), .val (.int k), .val (.int m), x, .val (.int own), z] := by
      intro own
      have last : ∀ dg : Int, (sRetJar (fLst (fCons (fVar 5) (fCons (f2 modD (fCa intC (fCons (f2 addD (f2 addD (f2 mulD (fVar 2) (fC (.int 8117))) (f2 mulD (fVar 4) (fC (.int 64013)))) (f2 mulD (fC (.int 105019)) (f2 addD (fVar 1) (fC (.int 1))))) fNil)) (fC (.int 2147483563))) (fCons (fC (.int 0)) fNil))))) { nx := fun _ => Q .non, rt := Q } EX [.val (.lst (ns.map D.int)), .val (.int k), .val (.int m), x, .val (.int own), .val (.int dg)] := by
        intro dg
        refine ⟨.inr (by decide), ?_⟩
        refine ⟨.inr (by decide), ?_⟩
        refine ⟨.inl (by decide), ?_⟩
        refine ⟨(by decide : (2147483563 : Int) ≠ 0), ?_⟩
        exact ⟨(by decide : 3 ≤ sizeLine), q⟩
      refine ⟨_, rfl, ?_⟩
      refine ite2 (fun _ => ?_) (fun _ => ?_)
      · exact last _
      · refine ⟨⟨by decide, by decide, by decide⟩, ?_⟩
        refine ⟨_, rfl, ?_⟩
        refine ite2 (fun _ => ?_) (fun _ => ?_)
        · exact last _
        · exact last _
    refine ite2 (fun hb => ?_) (fun _ => ?_)
    · have hk : k < (ns.length : Int) := by
        have := of_decide_eq_true hb
        simpa using this
      obtain ⟨i, rfl⟩ := Int.eq_ofNat_of_zero_le h0
      have hi : i < (ns.map D.int).length := by simp; omega
      refine ⟨(i : Int), _, rfl, atI_nat hi, ?_⟩
      rw [List.getElem_map]
      exact rest _
    · exact rest 0
  · obtain ⟨n, _, e⟩ := List.mem_map.mp (cut_mem hd)
    exact ⟨n, e.symm⟩
theorem loop_law {A : DE} {EX : XP} {ns : List Int} (hl : ns.length ≤ 63) (hA : ∀ x, A.nx [.val (.lst (ns.map D.int)), x]) : ∀ (ds : List D) (x : Sl), (∀ d ∈ ds, ∃ k : Int, d = .int k ∧ 0 ≤ k ∧ k < 1000) → forD (gVar 1) L_law_0 ds A EX [.val (.lst (ns.map D.int)), x]
  | [], x, _ => hA x
  | d :: ds, x, h => by
    obtain ⟨k, rfl, h0, h1⟩ := h d List.mem_cons_self
    refine ⟨ns, k, rfl, h0, h1, hl, ?_⟩
    refine ⟨rfl, ?_⟩
    refine ⟨true, rfl, ?_⟩
    exact loop_law (EX := EX) hl hA ds _ fun d hd => h d (List.mem_cons_of_mem _ hd)
theorem len_law : ∀ ds Q EX, sp_law ds Q EX → ds.length = 1 := by
  rintro _ Q EX ⟨ns, rfl, _⟩; rfl
theorem pure_law : ∀ ds Q EX, sp_law ds Q EX → R_law { nx := fun _ => Q .non, rt := Q } EX (startD N_law ds) := by
  rintro _ Q EX ⟨ns, rfl, hl, q⟩
  refine ⟨_, rfl, ?_, ?_⟩
  · have : (ns.map D.int).length ≤ 63 := by simpa using hl
    constructor
    · split <;> omega
    · split <;> split <;> omega
  · refine loop_law hl (fun x => q) _ _ fun d hd => ?_
    obtain ⟨k, e, h0, h1⟩ := rangeD_int hd
    refine ⟨k, e, h0, ?_⟩
    have : (ns.map D.int).length ≤ 63 := by simpa using hl
    revert h1
    split <;> split <;> omega
theorem law_asks (ns : List Int) (h1 : ns.length ≤ 63) (_ : ∀ z ∈ ns, Builtin.Int.intBits z ≤ 1048576) : sp_law [.lst (ns.map D.int)] (fun d => d = .bl true) NoX := ⟨ns, rfl, h1, rfl⟩
end K15
namespace K15
open PySem L2 DL PyProof.Rows
def top (i : Nat) : Stmt := PySem.Challenge.pw_switchhills_k15_whole_notes_made.main.body.getD i (.Pass ⟨0, 0, 0, 0⟩)
abbrev s_law_dip : Stmt := top 34
abbrev s_law_pick : Stmt := top 35
abbrev s_law_spans : Stmt := top 36
abbrev s_law_all : Stmt := top 37
abbrev s_law_line : Stmt := top 39
abbrev s_law_near : Stmt := top 38
abbrev s_law_seen : Stmt := top 40
abbrev s_law_share : Stmt := top 41
abbrev s_check_board : Stmt := top 20
abbrev s_Board_contains : Stmt := inClass (top 19) 7
abbrev s_are_neighbours : Stmt := top 22
abbrev s_is_fact : Stmt := top 26
abbrev s_leads : Stmt := top 27
abbrev s_is_let : Stmt := top 28
abbrev s_check_facts : Stmt := top 29
abbrev s_Notes_init : Stmt := inClass (top 30) 0
abbrev s_is_within : Stmt := top 15
abbrev s_check_sizes : Stmt := top 16
abbrev s_settings_in : Stmt := top 17
abbrev s_Board_init : Stmt := inClass (top 19) 0
abbrev s_board_told : Stmt := top 18
abbrev s_notes_told : Stmt := top 31
abbrev s_Notes_read : Stmt := inClass (top 30) 1
abbrev s_law_page : Stmt := top 42
abbrev s_Board_str : Stmt := inClass (top 19) 9
abbrev s_Notes_str : Stmt := inClass (top 30) 7
abbrev s_Notes_board : Stmt := inClass (top 30) 2
abbrev s_Notes_facts : Stmt := inClass (top 30) 3
abbrev s_Notes_len : Stmt := inClass (top 30) 4
abbrev s_Notes_bool : Stmt := inClass (top 30) 5
abbrev s_law_shows : Stmt := top 43
abbrev s_Board_sizes : Stmt := inClass (top 19) 2
abbrev s_Board_eq : Stmt := inClass (top 19) 8
abbrev s_Notes_eq : Stmt := inClass (top 30) 6
abbrev s_law_right : Stmt := top 44
abbrev s_law_jar : Stmt := top 33
abbrev s_law : Stmt := top 45
structure Ad where
  f_law_dip : Addr
  f_law_pick : Addr
  f_law_spans : Addr
  f_law_all : Addr
  f_law_line : Addr
  f_law_near : Addr
  f_law_seen : Addr
  f_law_share : Addr
  f_check_board : Addr
  f_Board_contains : Addr
  f_are_neighbours : Addr
  f_is_fact : Addr
  f_leads : Addr
  f_is_let : Addr
  f_check_facts : Addr
  f_Notes_init : Addr
  f_is_within : Addr
  f_check_sizes : Addr
  f_settings_in : Addr
  f_Board_init : Addr
  f_board_told : Addr
  f_notes_told : Addr
  f_Notes_read : Addr
  f_law_page : Addr
  f_Board_str : Addr
  f_Notes_str : Addr
  f_Notes_board : Addr
  f_Notes_facts : Addr
  f_Notes_len : Addr
  f_Notes_bool : Addr
  f_law_shows : Addr
  f_Board_sizes : Addr
  f_Board_eq : Addr
  f_Notes_eq : Addr
  f_law_right : Addr
  f_law_jar : Addr
  f_law : Addr
  C_Board : Addr
  C_Notes : Addr
  P_Notes_read : Addr
  P_Notes_board : Addr
  P_Notes_facts : Addr
  P_Board_sizes : Addr
  A_DIGITS : Addr
  A_STANDS : Addr
  E_Notes_init_0 : Addr
  C_NotABoard : Addr
  i_NotABoard : Addr
  C_InvalidFacts : Addr
  i_InvalidFacts : Addr
  C_InvalidSizes : Addr
  i_InvalidSizes : Addr
  C_InvalidText : Addr
  i_InvalidText : Addr
def gm (K : PySem.W.Frag) (w : World) (ad : Ad) : Gm where
  K := K
  pw := w
  cls := fun c => match c with
    | 1 => ad.C_Board
    | 3 => ad.C_Notes
    | 18 => ad.C_NotABoard
    | 24 => ad.C_InvalidFacts
    | 23 => ad.C_InvalidSizes
    | 11 => ad.C_InvalidText
    | _ => 0
  fld := fun c => match c with
    | 1 => fl_Board
    | 3 => fl_Notes
    | 18 => ["given"]
    | 24 => ["index"]
    | 23 => ["index"]
    | 11 => ["given"]
    | _ => []
abbrev V_DIGITS (ad : Ad) : V := .ref ad.A_DIGITS
abbrev V_STANDS (ad : Ad) : V := .ref ad.A_STANDS
structure Txt (K : PySem.W.Frag) (w : World) (mg : Str → Option Value) (ad : Ad) : Prop where
  F_law_dip : ∃ fd, Fun K "_law_dip" "_law_dip" s_law_dip ad.f_law_dip fd
  m_law_dip : mg "_law_dip" = some (.ref ad.f_law_dip)
  k_law_dip : PySem.W.keepIn K (.ref ad.f_law_dip) = true
  F_law_pick : ∃ fd, Fun K "_law_pick" "_law_pick" s_law_pick ad.f_law_pick fd
  m_law_pick : mg "_law_pick" = some (.ref ad.f_law_pick)
  k_law_pick : PySem.W.keepIn K (.ref ad.f_law_pick) = true
  F_law_spans : ∃ fd, Fun K "_law_spans" "_law_spans" s_law_spans ad.f_law_spans fd
  m_law_spans : mg "_law_spans" = some (.ref ad.f_law_spans)
  k_law_spans : PySem.W.keepIn K (.ref ad.f_law_spans) = true
  F_law_all : ∃ fd, Fun K "_law_all" "_law_all" s_law_all ad.f_law_all fd
  m_law_all : mg "_law_all" = some (.ref ad.f_law_all)
  k_law_all : PySem.W.keepIn K (.ref ad.f_law_all) = true
  F_law_line : ∃ fd, Fun K "_law_line" "_law_line" s_law_line ad.f_law_line fd
  m_law_line : mg "_law_line" = some (.ref ad.f_law_line)
  k_law_line : PySem.W.keepIn K (.ref ad.f_law_line) = true
  F_law_near : ∃ fd, Fun K "_law_near" "_law_near" s_law_near ad.f_law_near fd
  m_law_near : mg "_law_near" = some (.ref ad.f_law_near)
  k_law_near : PySem.W.keepIn K (.ref ad.f_law_near) = true
  F_law_seen : ∃ fd, Fun K "_law_seen" "_law_seen" s_law_seen ad.f_law_seen fd
  m_law_seen : mg "_law_seen" = some (.ref ad.f_law_seen)
  k_law_seen : PySem.W.keepIn K (.ref ad.f_law_seen) = true
  F_law_share : ∃ fd, Fun K "_law_share" "_law_share" s_law_share ad.f_law_share fd
  m_law_share : mg "_law_share" = some (.ref ad.f_law_share)
  k_law_share : PySem.W.keepIn K (.ref ad.f_law_share) = true
  F_check_board : ∃ fd, Fun K "check_board" "check_board" s_check_board ad.f_check_board fd
  m_check_board : mg "check_board" = some (.ref ad.f_check_board)
  k_check_board : PySem.W.keepIn K (.ref ad.f_check_board) = true
  F_Board_contains : ∃ fd, Fun K "__contains__" "Board.__contains__" s_Board_contains ad.f_Board_contains fd
  h_Board_contains : Meth K ad.C_Board "__contains__" ad.f_Board_contains
  F_are_neighbours : ∃ fd, Fun K "are_neighbours" "are_neighbours" s_are_neighbours ad.f_are_neighbours fd
  m_are_neighbours : mg "are_neighbours" = some (.ref ad.f_are_neighbours)
  k_are_neighbours : PySem.W.keepIn K (.ref ad.f_are_neighbours) = true
  F_is_fact : ∃ fd, Fun K "is_fact" "is_fact" s_is_fact ad.f_is_fact fd
  m_is_fact : mg "is_fact" = some (.ref ad.f_is_fact)
  k_is_fact : PySem.W.keepIn K (.ref ad.f_is_fact) = true
  F_leads : ∃ fd, Fun K "leads" "leads" s_leads ad.f_leads fd
  m_leads : mg "leads" = some (.ref ad.f_leads)
  k_leads : PySem.W.keepIn K (.ref ad.f_leads) = true
  F_is_let : ∃ fd, Fun K "is_let" "is_let" s_is_let ad.f_is_let fd
  m_is_let : mg "is_let" = some (.ref ad.f_is_let)
  k_is_let : PySem.W.keepIn K (.ref ad.f_is_let) = true
  F_check_facts : ∃ fd, Fun K "check_facts" "check_facts" s_check_facts ad.f_check_facts fd
  m_check_facts : mg "check_facts" = some (.ref ad.f_check_facts)
  k_check_facts : PySem.W.keepIn K (.ref ad.f_check_facts) = true
  F_Notes_init : ∃ fd, FunF K "__init__" "Notes.__init__" s_Notes_init [.ref ad.E_Notes_init_0] ad.f_Notes_init fd
  mk_Notes : Mk K ad.C_Notes ad.f_Notes_init
  g_Notes : mg "Notes" = some (.ref ad.C_Notes)
  F_is_within : ∃ fd, Fun K "is_within" "is_within" s_is_within ad.f_is_within fd
  m_is_within : mg "is_within" = some (.ref ad.f_is_within)
  k_is_within : PySem.W.keepIn K (.ref ad.f_is_within) = true
  F_check_sizes : ∃ fd, Fun K "check_sizes" "check_sizes" s_check_sizes ad.f_check_sizes fd
  m_check_sizes : mg "check_sizes" = some (.ref ad.f_check_sizes)
  k_check_sizes : PySem.W.keepIn K (.ref ad.f_check_sizes) = true
  F_settings_in : ∃ fd, Fun K "settings_in" "settings_in" s_settings_in ad.f_settings_in fd
  m_settings_in : mg "settings_in" = some (.ref ad.f_settings_in)
  k_settings_in : PySem.W.keepIn K (.ref ad.f_settings_in) = true
  F_Board_init : ∃ fd, Fun K "__init__" "Board.__init__" s_Board_init ad.f_Board_init fd
  mk_Board : Mk K ad.C_Board ad.f_Board_init
  g_Board : mg "Board" = some (.ref ad.C_Board)
  F_board_told : ∃ fd, Fun K "board_told" "board_told" s_board_told ad.f_board_told fd
  m_board_told : mg "board_told" = some (.ref ad.f_board_told)
  k_board_told : PySem.W.keepIn K (.ref ad.f_board_told) = true
  F_notes_told : ∃ fd, Fun K "notes_told" "notes_told" s_notes_told ad.f_notes_told fd
  m_notes_told : mg "notes_told" = some (.ref ad.f_notes_told)
  k_notes_told : PySem.W.keepIn K (.ref ad.f_notes_told) = true
  F_Notes_read : ∃ fd, Fun K "read" "Notes.read" s_Notes_read ad.f_Notes_read fd
  cm_Notes_read : ClX.CMet K ad.C_Notes (.type "type") "read" ad.P_Notes_read ad.f_Notes_read
  cr_Notes : ClX.CRead K ad.C_Notes (.type "type")
  F_law_page : ∃ fd, Fun K "_law_page" "_law_page" s_law_page ad.f_law_page fd
  m_law_page : mg "_law_page" = some (.ref ad.f_law_page)
  k_law_page : PySem.W.keepIn K (.ref ad.f_law_page) = true
  F_Board_str : ∃ fd, Fun K "__str__" "Board.__str__" s_Board_str ad.f_Board_str fd
  h_Board_str : Meth K ad.C_Board "__str__" ad.f_Board_str
  F_Notes_str : ∃ fd, Fun K "__str__" "Notes.__str__" s_Notes_str ad.f_Notes_str fd
  h_Notes_str : Meth K ad.C_Notes "__str__" ad.f_Notes_str
  F_Notes_board : ∃ fd, Fun K "board" "Notes.board" s_Notes_board ad.f_Notes_board fd
  p_Notes_board : PropOf K ad.C_Notes "board" ad.P_Notes_board ad.f_Notes_board
  F_Notes_facts : ∃ fd, Fun K "facts" "Notes.facts" s_Notes_facts ad.f_Notes_facts fd
  p_Notes_facts : PropOf K ad.C_Notes "facts" ad.P_Notes_facts ad.f_Notes_facts
  F_Notes_len : ∃ fd, Fun K "__len__" "Notes.__len__" s_Notes_len ad.f_Notes_len fd
  h_Notes_len : Meth K ad.C_Notes "__len__" ad.f_Notes_len
  F_Notes_bool : ∃ fd, Fun K "__bool__" "Notes.__bool__" s_Notes_bool ad.f_Notes_bool fd
  h_Notes_bool : Meth K ad.C_Notes "__bool__" ad.f_Notes_bool
  F_law_shows : ∃ fd, Fun K "_law_shows" "_law_shows" s_law_shows ad.f_law_shows fd
  m_law_shows : mg "_law_shows" = some (.ref ad.f_law_shows)
  k_law_shows : PySem.W.keepIn K (.ref ad.f_law_shows) = true
  F_Board_sizes : ∃ fd, Fun K "sizes" "Board.sizes" s_Board_sizes ad.f_Board_sizes fd
  p_Board_sizes : PropOf K ad.C_Board "sizes" ad.P_Board_sizes ad.f_Board_sizes
  F_Board_eq : ∃ fd, Fun K "__eq__" "Board.__eq__" s_Board_eq ad.f_Board_eq fd
  h_Board_eq : Meth K ad.C_Board "__eq__" ad.f_Board_eq
  F_Notes_eq : ∃ fd, Fun K "__eq__" "Notes.__eq__" s_Notes_eq ad.f_Notes_eq fd
  h_Notes_eq : Meth K ad.C_Notes "__eq__" ad.f_Notes_eq
  F_law_right : ∃ fd, Fun K "_law_right" "_law_right" s_law_right ad.f_law_right fd
  m_law_right : mg "_law_right" = some (.ref ad.f_law_right)
  k_law_right : PySem.W.keepIn K (.ref ad.f_law_right) = true
  F_law_jar : ∃ fd, Fun K "_law_jar" "_law_jar" s_law_jar ad.f_law_jar fd
  m_law_jar : mg "_law_jar" = some (.ref ad.f_law_jar)
  k_law_jar : PySem.W.keepIn K (.ref ad.f_law_jar) = true
  F_law : ∃ fd, Fun K "law" "law" s_law ad.f_law fd
  m_law : mg "law" = some (.ref ad.f_law)
  k_law : PySem.W.keepIn K (.ref ad.f_law) = true
  c_Board : ClsG K ad.C_Board
  n_Board_both : NoAttr K ad.C_Board "both"
  sx_Board_Notes : PySem.W.notFirst K ad.C_Board (.ref ad.C_Notes) = true
  c_Notes : ClsG K ad.C_Notes
  n_Notes_both : NoAttr K ad.C_Notes "both"
  sd_Notes : SideB K ad.C_Notes
  off_Notes : OffB K ad.C_Notes
  sx_Notes_Board : PySem.W.notFirst K ad.C_Notes (.ref ad.C_Board) = true
  ne_Notes : PySem.W.findIn K (.ref ad.C_Notes) "__ne__" = some (some (.builtin "object.__ne__"))
  nm_Notes : PySem.W.mroIn K ad.C_Notes (.type "object") = some true
  g_DIGITS : ∃ u, mg "DIGITS" = some u ∧ RelV (V_DIGITS ad) u
  r_DIGITS : ∀ w', Rep (gm K w ad) w' D_DIGITS (V_DIGITS ad)
  g_HEAD : ∃ u, mg "HEAD" = some u ∧ RelV (.str "board") u
  g_MOST_SETTINGS : ∃ u, mg "MOST_SETTINGS" = some u ∧ RelV (.int 48) u
  g_MOST_SWITCHES : ∃ u, mg "MOST_SWITCHES" = some u ∧ RelV (.int 5) u
  g_SIGN : ∃ u, mg "SIGN" = some u ∧ RelV (.str "<") u
  g_STANDS : ∃ u, mg "STANDS" = some u ∧ RelV (V_STANDS ad) u
  r_STANDS : ∀ w', Rep (gm K w ad) w' D_STANDS (V_STANDS ad)
  isi_Board_t : ∀ t b, isi_Board t = some b → PySem.W.kitOne K (tagV (gm K w ad) t) (.ref ad.C_Board) = some b
  isi_Board_c : ∀ c b, isi_Board (.obj c) = some b → ClsG K ((gm K w ad).cls c)
  isi_Notes_t : ∀ t b, isi_Notes t = some b → PySem.W.kitOne K (tagV (gm K w ad) t) (.ref ad.C_Notes) = some b
  isi_Notes_c : ∀ c b, isi_Notes (.obj c) = some b → ClsG K ((gm K w ad).cls c)
  x_NotABoard : ExL.ClG K mg "NotABoard" ad.C_NotABoard ad.i_NotABoard [.type "ValueError", .type "Exception", .type "BaseException", .type "object"] "ValueError.__new__"
  x_InvalidFacts : ExL.ClI K mg "InvalidFacts" ad.C_InvalidFacts ad.i_InvalidFacts [.type "ValueError", .type "Exception", .type "BaseException", .type "object"] "ValueError.__new__"
  x_InvalidSizes : ExL.ClI K mg "InvalidSizes" ad.C_InvalidSizes ad.i_InvalidSizes [.type "ValueError", .type "Exception", .type "BaseException", .type "object"] "ValueError.__new__"
  x_InvalidText : ExL.ClG K mg "InvalidText" ad.C_InvalidText ad.i_InvalidText [.type "ValueError", .type "Exception", .type "BaseException", .type "object"] "ValueError.__new__"
  em_NotABoard_InvalidSizes : PySem.W.exmOne K (.ref ad.C_NotABoard) (.ref ad.C_InvalidSizes) = some false
  em_InvalidFacts_InvalidSizes : PySem.W.exmOne K (.ref ad.C_InvalidFacts) (.ref ad.C_InvalidSizes) = some false
  em_InvalidSizes_InvalidSizes : PySem.W.exmOne K (.ref ad.C_InvalidSizes) (.ref ad.C_InvalidSizes) = some true
  em_InvalidText_InvalidSizes : PySem.W.exmOne K (.ref ad.C_InvalidText) (.ref ad.C_InvalidSizes) = some false
  em_NotABoard_InvalidFacts : PySem.W.exmOne K (.ref ad.C_NotABoard) (.ref ad.C_InvalidFacts) = some false
  em_InvalidFacts_InvalidFacts : PySem.W.exmOne K (.ref ad.C_InvalidFacts) (.ref ad.C_InvalidFacts) = some true
  em_InvalidSizes_InvalidFacts : PySem.W.exmOne K (.ref ad.C_InvalidSizes) (.ref ad.C_InvalidFacts) = some false
  em_InvalidText_InvalidFacts : PySem.W.exmOne K (.ref ad.C_InvalidText) (.ref ad.C_InvalidFacts) = some false
  z_abs : mg "abs" = none
  z_all : mg "all" = none
  z_bool : mg "bool" = none
  z_int : mg "int" = none
  z_isinstance : mg "isinstance" = none
  z_len : mg "len" = none
  z_max : mg "max" = none
  z_min : mg "min" = none
  z_range : mg "range" = none
  z_repr : mg "repr" = none
  z_str : mg "str" = none
  z_tuple : mg "tuple" = none
  e_Notes_init_0 : ∀ G : Gm, G.K = K → ∀ w : Wd, Rep G w (.tup []) (.ref ad.E_Notes_init_0)
theorem exm_InvalidSizes_ok {K : PySem.W.Frag} {w : World} {mg : Str → Option Value} {ad : Ad} (T : Txt K w mg ad) : ∀ c b, exm_InvalidSizes c = some b → PySem.W.exmOne K (.ref ((gm K w ad).cls c)) (.ref ad.C_InvalidSizes) = some b := by
  intro c b h
  unfold exm_InvalidSizes at h
  split at h <;> cases h <;> first | exact T.em_NotABoard_InvalidSizes | exact T.em_InvalidFacts_InvalidSizes | exact T.em_InvalidSizes_InvalidSizes | exact T.em_InvalidText_InvalidSizes
theorem exm_InvalidFacts_ok {K : PySem.W.Frag} {w : World} {mg : Str → Option Value} {ad : Ad} (T : Txt K w mg ad) : ∀ c b, exm_InvalidFacts c = some b → PySem.W.exmOne K (.ref ((gm K w ad).cls c)) (.ref ad.C_InvalidFacts) = some b := by
  intro c b h
  unfold exm_InvalidFacts at h
  split at h <;> cases h <;> first | exact T.em_NotABoard_InvalidFacts | exact T.em_InvalidFacts_InvalidFacts | exact T.em_InvalidSizes_InvalidFacts | exact T.em_InvalidText_InvalidFacts
theorem isi_bool_t {K : PySem.W.Frag} {w : World} {ad : Ad} : ∀ t b, isi_bool t = some b → PySem.W.kitOne K (tagV (gm K w ad) t) (.type "bool") = some b := by
  intro t b h
  cases t <;> cases h <;> (first | kernel_rfl | rfl)
theorem isi_bool_c {G : Gm} : ∀ c b, isi_bool (.obj c) = some b → ClsG G.K (G.cls c) := fun _ _ h => by cases h
theorem isi_int_t {K : PySem.W.Frag} {w : World} {ad : Ad} : ∀ t b, isi_int t = some b → PySem.W.kitOne K (tagV (gm K w ad) t) (.type "int") = some b := by
  intro t b h
  cases t <;> cases h <;> (first | kernel_rfl | rfl)
theorem isi_int_c {G : Gm} : ∀ c b, isi_int (.obj c) = some b → ClsG G.K (G.cls c) := fun _ _ h => by cases h
theorem isi_str_t {K : PySem.W.Frag} {w : World} {ad : Ad} : ∀ t b, isi_str t = some b → PySem.W.kitOne K (tagV (gm K w ad) t) (.type "str") = some b := by
  intro t b h
  cases t <;> cases h <;> (first | kernel_rfl | rfl)
theorem isi_str_c {G : Gm} : ∀ c b, isi_str (.obj c) = some b → ClsG G.K (G.cls c) := fun _ _ h => by cases h
theorem isi_tuple_t {K : PySem.W.Frag} {w : World} {ad : Ad} : ∀ t b, isi_tuple t = some b → PySem.W.kitOne K (tagV (gm K w ad) t) (.type "tuple") = some b := by
  intro t b h
  cases t <;> cases h <;> (first | kernel_rfl | rfl)
theorem isi_tuple_c {G : Gm} : ∀ c b, isi_tuple (.obj c) = some b → ClsG G.K (G.cls c) := fun _ _ h => by cases h
section
variable {P : Program} {w : World} {K : PySem.W.Frag} {mg : Str → Option Value} {base : Heap} {ad : Ad}
theorem sc_law_dip : FnScope N_law_dip ["jar", "most"] (defScope s_law_dip) := ⟨rfl, rfl, rfl, by decide +kernel, rfl, by decide +kernel, by decide +kernel⟩
theorem ok_law_dip (T : Txt K w mg ad) : DefU P w (gm K w ad) mg base 1 ad.f_law_dip ["jar", "most"] (fun fd => Fun K "_law_dip" "_law_dip" s_law_dip ad.f_law_dip fd) (lift (gm K w ad) sp_law_dip) := by
  obtain ⟨fd, F⟩ := T.F_law_dip
  refine ⟨fd, okD (B := R_law_dip) F sc_law_dip len_law_dip (fun cdv A outer s H E hg hr => ?_) pure_law_dip, F⟩
  have hg0 : (A.deeper (envOfC "_law_dip" (defScope s_law_dip) s.heap.objs.size ad.f_law_dip cdv)).guards = some [] := hg
  have hx0 : PassX (cxOf (L2.CX P w) P w K mg base N_law_dip "_law_dip" (defScope s_law_dip) ad.f_law_dip cdv A outer s H E) E := L2.passes_call (L2.takes_of rfl rfl rfl rfl) fun _ _ _ _ h => h
  exact (css_cons (cs_jar (i := 0) (ce_bin opl_add (see (ce_jar (ce_var 0) (by decide))) (see ce_int)) (by decide))
    (css_cons (cs_if (ct_cmp opl_gt (see (ce_jar (ce_var 0) (by decide))) (see ce_int)) (css_cons (cs_set (i := 3) (ce_bin opl_mod (see (ce_callTy cal_int T.z_int (cab_cons (see (ce_jar (ce_var 0) (by decide))) cab_nil))) (see (ce_var 1))) sc_law_dip.nd)
    (css_cons (cs_jar (i := 0) (ce_bin opl_div (see (ce_callTy cal_int T.z_int (cab_cons (see (ce_jar (ce_var 0) (by decide))) cab_nil))) (see (ce_var 1))) (by decide))
    (css_one (cs_ret (see (ce_var 3)))))) css_nil)
    (css_cons (cs_set (i := 2) (ce_callTy cal_int T.z_int (cab_cons (see (ce_jar (ce_var 0) (by decide))) cab_nil)) sc_law_dip.nd)
    (css_cons (cs_jar (i := 0) (ce_bin opl_mod (see (ce_callTy cal_int T.z_int (cab_cons (see (ce_bin opl_add (see (ce_bin opl_add (see (ce_bin opl_mulA (see (ce_var 2)) (see ce_int))) (see (ce_bin opl_mulA (see (ce_jar (ce_var 0) (by decide))) (see ce_int))))) (see ce_int))) cab_nil))) (see ce_int)) (by decide))
    (css_one (cs_ret (see (ce_bin opl_mod (see (ce_callTy cal_int T.z_int (cab_cons (see (ce_bin opl_div (see (ce_jar (ce_var 0) (by decide))) (see ce_int))) cab_nil))) (see (ce_var 1))))))))))
theorem sc_law_pick : FnScope N_law_pick ["jar", "menu"] (defScope s_law_pick) := ⟨rfl, rfl, rfl, by decide +kernel, rfl, by decide +kernel, by decide +kernel⟩
theorem ok_law_pick (T : Txt K w mg ad) : DefU P w (gm K w ad) mg base 2 ad.f_law_pick ["jar", "menu"] (fun fd => Fun K "_law_pick" "_law_pick" s_law_pick ad.f_law_pick fd) (lift (gm K w ad) sp_law_pick) := by
  obtain ⟨fd_law_dip, F_law_dip, U_law_dip⟩ := ok_law_dip (P := P) (base := base) T
  have b_law_dip : Binds K fd_law_dip ["jar", "most"] [] := U_law_dip.binds (ps := ["jar", "most"]) fun _ _ _ _ _ _ us hl => match us, hl with | [_, _], _ => rfl
  obtain ⟨fd, F⟩ := T.F_law_pick
  refine ⟨fd, okD (B := R_law_pick) F sc_law_pick len_law_pick (fun cdv A outer s H E hg hr => ?_) pure_law_pick, F⟩
  have hg0 : (A.deeper (envOfC "_law_pick" (defScope s_law_pick) s.heap.objs.size ad.f_law_pick cdv)).guards = some [] := hg
  have hx0 : PassX (cxOf (L2.CX P w) P w K mg base N_law_pick "_law_pick" (defScope s_law_pick) ad.f_law_pick cdv A outer s H E) E := L2.passes_call (L2.takes_of rfl rfl rfl rfl) fun _ _ _ _ h => h
  exact (css_cons (cs_set (i := 2) (ce_call F_law_dip T.m_law_dip T.k_law_dip b_law_dip hg0 (hr.mono (by decide)) hx0 (ca_cons (ce_var 0) (ca_cons (ce_callB cal_len T.z_len (cab_cons (see (ce_var 1)) cab_nil)) ca_nil))) sc_law_pick.nd)
    (css_one (cs_ret (see (ce_ix (hu1 hr) (see (ce_var 1)) (see (ce_var 2)))))))
theorem sc_law_spans : FnScope N_law_spans ["jar", "most"] (defScope s_law_spans) := ⟨rfl, rfl, rfl, by decide +kernel, rfl, by decide +kernel, by decide +kernel⟩
theorem ok_law_spans (T : Txt K w mg ad) : DefU P w (gm K w ad) mg base 3 ad.f_law_spans ["jar", "most"] (fun fd => Fun K "_law_spans" "_law_spans" s_law_spans ad.f_law_spans fd) (lift (gm K w ad) sp_law_spans) := by
  obtain ⟨fd_law_dip, F_law_dip, U_law_dip⟩ := ok_law_dip (P := P) (base := base) T
  have b_law_dip : Binds K fd_law_dip ["jar", "most"] [] := U_law_dip.binds (ps := ["jar", "most"]) fun _ _ _ _ _ _ us hl => match us, hl with | [_, _], _ => rfl
  obtain ⟨fd_law_pick, F_law_pick, U_law_pick⟩ := ok_law_pick (P := P) (base := base) T
  have b_law_pick : Binds K fd_law_pick ["jar", "menu"] [] := U_law_pick.binds (ps := ["jar", "menu"]) fun _ _ _ _ _ _ us hl => match us, hl with | [_, _], _ => rfl
  obtain ⟨fd, F⟩ := T.F_law_spans
  refine ⟨fd, okD (B := R_law_spans) F sc_law_spans len_law_spans (fun cdv A outer s H E hg hr => ?_) pure_law_spans, F⟩
  have hg0 : (A.deeper (envOfC "_law_spans" (defScope s_law_spans) s.heap.objs.size ad.f_law_spans cdv)).guards = some [] := hg
  have hx0 : PassX (cxOf (L2.CX P w) P w K mg base N_law_spans "_law_spans" (defScope s_law_spans) ad.f_law_spans cdv A outer s H E) E := L2.passes_call (L2.takes_of rfl rfl rfl rfl) fun _ _ _ _ h => h
  exact (css_cons (cs_asg (vs := [2, 3]) (ce_tup (ca_cons (ce_tup ca_nil) (ca_cons ce_int ca_nil))) (pg_tup (n := 2) rfl (pgs_cons (pg_name (i := 2) sc_law_spans.nd rfl (by first | exact Or.inl rfl | exact Or.inr rfl)) (pgs_cons (pg_name (i := 3) sc_law_spans.nd rfl (by first | exact Or.inl rfl | exact Or.inr rfl)) pgs_nil))) (tg_tup (tgs_cons (tg_var (i := 2)) (tgs_cons (tg_var (i := 3)) tgs_nil))))
    (css_cons (cs_for (vs := [4]) (L2.passes_of rfl) (cis_rng1 T.z_range (ca_cons (ce_bin opl_add (see ce_int) (see (ce_call F_law_dip T.m_law_dip T.k_law_dip b_law_dip hg0 (hr.mono (by decide)) hx0 (ca_cons (ce_var 0) (ca_cons ce_int ca_nil))))) ca_nil)) (pg_name (i := 4) sc_law_spans.nd rfl (by first | exact Or.inl rfl | exact Or.inr rfl)) (tg_var (i := 4))
      (css_cons (cs_set (i := 5) (ce_call F_law_pick T.m_law_pick T.k_law_pick b_law_pick hg0 (hr.mono (by decide)) hx0 (ca_cons (ce_var 0) (ca_cons (val (cf_lst (ca_cons ce_int (ca_cons ce_int (ca_cons ce_int ca_nil))))) ca_nil))) sc_law_spans.nd)
    (css_one (cs_if (ct_cmp opl_le (see (ce_bin opl_mulA (see (ce_var 3)) (see (ce_var 5)))) (see (ce_var 1))) (css_one (cs_par (i := 2) (j := 3) (ca_cons (ce_bin opl_add (see (ce_var 2)) (see (ce_tup (ca_cons (ce_var 5) ca_nil)))) (ca_cons (ce_bin opl_mulA (see (ce_var 3)) (see (ce_var 5))) ca_nil)) sc_law_spans.nd)) css_nil))))
    (css_one (cs_ret (see (ce_if (ct_cmp (opl_ne (hu64 hr)) (see (ce_var 2)) (see (ce_tup ca_nil))) (ce_var 2) (ce_tup (ca_cons ce_int ca_nil))))))))
theorem sc_law_all : FnScope N_law_all ["spans"] (defScope s_law_all) := ⟨rfl, rfl, rfl, by decide +kernel, rfl, by decide +kernel, by decide +kernel⟩
theorem ok_law_all (T : Txt K w mg ad) : DefU P w (gm K w ad) mg base 1 ad.f_law_all ["spans"] (fun fd => Fun K "_law_all" "_law_all" s_law_all ad.f_law_all fd) (liftN (gm K w ad) sp_law_all) := by
  obtain ⟨fd, F⟩ := T.F_law_all
  refine ⟨fd, okN (B := R_law_all) F sc_law_all (fun ds Q EX h => spN_len h) (fun cdv A outer s H E hg hr => ?_) (fun ds Q EX h => spN_pure l_law_all h), F⟩
  have hg0 : (A.deeper (envOfC "_law_all" (defScope s_law_all) s.heap.objs.size ad.f_law_all cdv)).guards = some [] := hg
  have hx0 : PassX (cxOf (L2.CX P w) P w K mg base N_law_all "_law_all" (defScope s_law_all) ad.f_law_all cdv A outer s H E) E := L2.passes_call (L2.takes_of rfl rfl rfl rfl) fun _ _ _ _ h => h
  exact (css_cons (cs_setOwn (i := 1) (cf_lst (ca_cons ce_str ca_nil)) sc_law_all.nd)
    (css_cons (cs_for (vs := [2]) (L2.passes_of rfl) (cis_any (ce_var 0)) (pg_name (i := 2) sc_law_all.nd rfl (by first | exact Or.inl rfl | exact Or.inr rfl)) (tg_var (i := 2))
      (css_cons (cs_setOwn (i := 3) (cf_lst ca_nil) sc_law_all.nd)
    (css_cons (cs_off [1] (cs_for (vs := [4]) (L2.passes_of rfl) (cis_any (ce_var 1)) (pg_name (i := 4) sc_law_all.nd rfl (by first | exact Or.inl rfl | exact Or.inr rfl)) (tg_var (i := 4))
      (css_one (cs_setOwn (i := 3) (cf_add (cb_var 3) (see (val (cf_lc (own := [("glyph", 5)]) sc_law_all.nd (cie_any (see (ce_slice (see ce_str) co_none (co_some (ce_var 2))))) (blk_mk (by rfl)) (fun _ _ _ _ _ => (pg_name (i := 5) sc_law_all.nd rfl (by first | exact Or.inl rfl | exact Or.inr rfl))) (tg_var (i := 5)) (fun _ _ _ _ _ => cts_nil) (fun _ _ _ _ _ => (ce_bin opl_add (see (ce_var 4)) (see (ce_var 5)))))))) sc_law_all.nd))))
    (css_one (cs_move 1 3 sc_law_all.nd)))))
    (css_one (cs_retNew 1))))
theorem sc_law_line : FnScope N_law_line ["jar", "spans"] (defScope s_law_line) := ⟨rfl, rfl, rfl, by decide +kernel, rfl, by decide +kernel, by decide +kernel⟩
theorem ok_law_line (T : Txt K w mg ad) : DefU P w (gm K w ad) mg base 2 ad.f_law_line ["jar", "spans"] (fun fd => Fun K "_law_line" "_law_line" s_law_line ad.f_law_line fd) (lift (gm K w ad) sp_law_line) := by
  obtain ⟨fd_law_all, F_law_all, U_law_all⟩ := ok_law_all (P := P) (base := base) T
  have b_law_all : Binds K fd_law_all ["spans"] [] := U_law_all.binds (ps := ["spans"]) fun _ _ _ _ _ _ us hl => match us, hl with | [_], _ => rfl
  obtain ⟨fd_law_dip, F_law_dip, U_law_dip⟩ := ok_law_dip (P := P) (base := base) T
  have b_law_dip : Binds K fd_law_dip ["jar", "most"] [] := U_law_dip.binds (ps := ["jar", "most"]) fun _ _ _ _ _ _ us hl => match us, hl with | [_, _], _ => rfl
  obtain ⟨fd, F⟩ := T.F_law_line
  refine ⟨fd, okD (B := R_law_line) F sc_law_line len_law_line (fun cdv A outer s H E hg hr => ?_) pure_law_line, F⟩
  have hg0 : (A.deeper (envOfC "_law_line" (defScope s_law_line) s.heap.objs.size ad.f_law_line cdv)).guards = some [] := hg
  have hx0 : PassX (cxOf (L2.CX P w) P w K mg base N_law_line "_law_line" (defScope s_law_line) ad.f_law_line cdv A outer s H E) E := L2.passes_call (L2.takes_of rfl rfl rfl rfl) fun _ _ _ _ h => h
  exact (css_cons (cs_parOO (i := 2) (j := 3) (cf_call F_law_all T.m_law_all T.k_law_all b_law_all hg0 (hr.mono (by decide)) hx0 (ca_cons (ce_var 1) ca_nil)) (cf_lst ca_nil) sc_law_line.nd)
    (css_cons (cs_while (L2.passes_of rfl) (ct_cmp (opl_ne (hu64 hr)) (cb_var 2) (see (val (cf_lst ca_nil)))) (css_one (cs_appPop (i := 3) (j := 2) (ce_call F_law_dip T.m_law_dip T.k_law_dip b_law_dip hg0 (hr.mono (by decide)) hx0 (ca_cons (ce_var 0) (ca_cons (ce_callB cal_len T.z_len (cab_cons (cb_var 2) cab_nil)) ca_nil))))))
    (css_one (cs_ret (see (ce_callTy cal_tuple T.z_tuple (cab_cons (cb_var 3) cab_nil)))))))
theorem sc_law_near : FnScope N_law_near ["spans", "spot"] (defScope s_law_near) := ⟨rfl, rfl, rfl, by decide +kernel, rfl, by decide +kernel, by decide +kernel⟩
theorem ok_law_near (T : Txt K w mg ad) : DefU P w (gm K w ad) mg base 2 ad.f_law_near ["spans", "spot"] (fun fd => Fun K "_law_near" "_law_near" s_law_near ad.f_law_near fd) (lift (gm K w ad) sp_law_near) := by
  obtain ⟨fd_law_all, F_law_all, U_law_all⟩ := ok_law_all (P := P) (base := base) T
  have b_law_all : Binds K fd_law_all ["spans"] [] := U_law_all.binds (ps := ["spans"]) fun _ _ _ _ _ _ us hl => match us, hl with | [_], _ => rfl
  obtain ⟨fd, F⟩ := T.F_law_near
  refine ⟨fd, okD (B := R_law_near) F sc_law_near (fun ds Q EX h => spOf_len h) (fun cdv A outer s H E hg hr => ?_) (fun ds Q EX h => spOf_pure l_law_near h), F⟩
  have hg0 : (A.deeper (envOfC "_law_near" (defScope s_law_near) s.heap.objs.size ad.f_law_near cdv)).guards = some [] := hg
  have hx0 : PassX (cxOf (L2.CX P w) P w K mg base N_law_near "_law_near" (defScope s_law_near) ad.f_law_near cdv A outer s H E) E := L2.passes_call (L2.takes_of rfl rfl rfl rfl) fun _ _ _ _ h => h
  exact (css_cons (cs_lcV (i := 2) (own := [("each", 3)]) sc_law_near.nd (cie_any (see (val (cf_call F_law_all T.m_law_all T.k_law_all b_law_all hg0 (hr.mono (by decide)) hx0 (ca_cons (ce_var 0) ca_nil))))) (blk_mk (by rfl)) (fun _ _ _ _ _ => (pg_name (i := 3) sc_law_near.nd rfl (by first | exact Or.inl rfl | exact Or.inr rfl))) (tg_var (i := 3)) (fun _ _ _ _ _ => (cts_one (ct_cmp (opl_eq (hu64 hr)) (see (ce_callB cal_len T.z_len (cab_cons (see (ce_var 3)) cab_nil))) (see (ce_callB cal_len T.z_len (cab_cons (see (ce_var 1)) cab_nil)))))) (fun _ _ _ _ _ => (ce_var 3)))
    (css_one (cs_ret (see (val (cf_lc (own := [("each", 3)]) sc_law_near.nd (cie_any (see (ce_var 2))) (blk_mk (by rfl)) (fun _ _ _ _ _ => (pg_name (i := 3) sc_law_near.nd rfl (by first | exact Or.inl rfl | exact Or.inr rfl))) (tg_var (i := 3)) (fun _ _ _ _ _ => (cts_one (ct_cmp (opl_eq (hu64 hr)) (see (ce_callB cal_len T.z_len (cab_cons (see (val (cf_lc (own := [("k", 4)]) sc_law_near.nd (iE_of (cis_rng1 T.z_range (ca_cons (ce_callB cal_len T.z_len (cab_cons (see (ce_var 1)) cab_nil)) ca_nil))) (blk_mk (by rfl)) (fun _ _ _ _ _ => (pg_name (i := 4) sc_law_near.nd rfl (by first | exact Or.inl rfl | exact Or.inr rfl))) (tg_var (i := 4)) (fun _ _ _ _ _ => (cts_one (ct_cmp (opl_ne (hu64 hr)) (see (ce_ix (hu1 hr) (see (ce_var 3)) (see (ce_var 4)))) (see (ce_ix (hu1 hr) (see (ce_var 1)) (see (ce_var 4))))))) (fun _ _ _ _ _ => (ce_var 4))))) cab_nil))) (see ce_int)))) (fun _ _ _ _ _ => (ce_var 3))))))))
theorem sc_law_seen : FnScope N_law_seen ["jar", "spans", "line", "share"] (defScope s_law_seen) := ⟨rfl, rfl, rfl, by decide +kernel, rfl, by decide +kernel, by decide +kernel⟩
theorem ok_law_seen (T : Txt K w mg ad) : DefU P w (gm K w ad) mg base 3 ad.f_law_seen ["jar", "spans", "line", "share"] (fun fd => Fun K "_law_seen" "_law_seen" s_law_seen ad.f_law_seen fd) (lift (gm K w ad) sp_law_seen) := by
  obtain ⟨fd_law_near, F_law_near, U_law_near⟩ := ok_law_near (P := P) (base := base) T
  have b_law_near : Binds K fd_law_near ["spans", "spot"] [] := U_law_near.binds (ps := ["spans", "spot"]) fun _ _ _ _ _ _ us hl => match us, hl with | [_, _], _ => rfl
  obtain ⟨fd_law_dip, F_law_dip, U_law_dip⟩ := ok_law_dip (P := P) (base := base) T
  have b_law_dip : Binds K fd_law_dip ["jar", "most"] [] := U_law_dip.binds (ps := ["jar", "most"]) fun _ _ _ _ _ _ us hl => match us, hl with | [_, _], _ => rfl
  obtain ⟨fd, F⟩ := T.F_law_seen
  refine ⟨fd, okD (B := R_law_seen) F sc_law_seen len_law_seen (fun cdv A outer s H E hg hr => ?_) pure_law_seen, F⟩
  have hg0 : (A.deeper (envOfC "_law_seen" (defScope s_law_seen) s.heap.objs.size ad.f_law_seen cdv)).guards = some [] := hg
  have hx0 : PassX (cxOf (L2.CX P w) P w K mg base N_law_seen "_law_seen" (defScope s_law_seen) ad.f_law_seen cdv A outer s H E) E := L2.passes_call (L2.takes_of rfl rfl rfl rfl) fun _ _ _ _ h => h
  exact (css_cons (cs_setOwn (i := 4) (cf_lst ca_nil) sc_law_seen.nd)
    (css_cons (cs_for (vs := [5]) (L2.passes_of rfl) (cis_any (ce_var 2)) (pg_name (i := 5) sc_law_seen.nd rfl (by first | exact Or.inl rfl | exact Or.inr rfl)) (tg_var (i := 5))
      (css_one (cs_for (vs := [6]) (L2.passes_of rfl) (cis_any (ce_call F_law_near T.m_law_near T.k_law_near b_law_near hg0 (hr.mono (by decide)) hx0 (ca_cons (ce_var 1) (ca_cons (ce_var 5) ca_nil)))) (pg_name (i := 6) sc_law_seen.nd rfl (by first | exact Or.inl rfl | exact Or.inr rfl)) (tg_var (i := 6))
      (css_one (cs_if (PW.pt (cw_and (ct_cmp opl_lt (see (ce_index (ce_var 2) (ce_var 5))) (see (ce_index (ce_var 2) (ce_var 6)))) (cw_and1 (ct_cmp opl_lt (see (ce_call F_law_dip T.m_law_dip T.k_law_dip b_law_dip hg0 (hr.mono (by decide)) hx0 (ca_cons (ce_var 0) (ca_cons ce_int ca_nil)))) (see (ce_var 3)))))) (css_one (cs_ins (i := 4) (ce_call F_law_dip T.m_law_dip T.k_law_dip b_law_dip hg0 (hr.mono (by decide)) hx0 (ca_cons (ce_var 0) (ca_cons (ce_bin opl_add (see (ce_callB cal_len T.z_len (cab_cons (cb_var 4) cab_nil))) (see ce_int)) ca_nil))) (ce_tup (ca_cons (ce_var 5) (ca_cons (ce_var 6) ca_nil))))) css_nil)))))
    (css_one (cs_ret (see (ce_callTy cal_tuple T.z_tuple (cab_cons (cb_var 4) cab_nil)))))))
theorem sc_law_share : FnScope N_law_share ["jar"] (defScope s_law_share) := ⟨rfl, rfl, rfl, by decide +kernel, rfl, by decide +kernel, by decide +kernel⟩
theorem ok_law_share (T : Txt K w mg ad) : DefU P w (gm K w ad) mg base 3 ad.f_law_share ["jar"] (fun fd => Fun K "_law_share" "_law_share" s_law_share ad.f_law_share fd) (lift (gm K w ad) sp_law_share) := by
  obtain ⟨fd_law_pick, F_law_pick, U_law_pick⟩ := ok_law_pick (P := P) (base := base) T
  have b_law_pick : Binds K fd_law_pick ["jar", "menu"] [] := U_law_pick.binds (ps := ["jar", "menu"]) fun _ _ _ _ _ _ us hl => match us, hl with | [_, _], _ => rfl
  obtain ⟨fd, F⟩ := T.F_law_share
  refine ⟨fd, okD (B := R_law_share) F sc_law_share len_law_share (fun cdv A outer s H E hg hr => ?_) pure_law_share, F⟩
  have hg0 : (A.deeper (envOfC "_law_share" (defScope s_law_share) s.heap.objs.size ad.f_law_share cdv)).guards = some [] := hg
  have hx0 : PassX (cxOf (L2.CX P w) P w K mg base N_law_share "_law_share" (defScope s_law_share) ad.f_law_share cdv A outer s H E) E := L2.passes_call (L2.takes_of rfl rfl rfl rfl) fun _ _ _ _ h => h
  exact (css_one (cs_ret (see (ce_call F_law_pick T.m_law_pick T.k_law_pick b_law_pick hg0 (hr.mono (by decide)) hx0 (ca_cons (ce_var 0) (ca_cons (val (cf_lst (ca_cons ce_int (ca_cons ce_int (ca_cons ce_int (ca_cons ce_int (ca_cons ce_int (ca_cons ce_int ca_nil)))))))) ca_nil))))))
theorem sc_check_board : FnScope N_check_board ["value"] (defScope s_check_board) := ⟨rfl, rfl, rfl, by decide +kernel, rfl, by decide +kernel, by decide +kernel⟩
theorem ok_check_board (T : Txt K w mg ad) : DefU P w (gm K w ad) mg base 1 ad.f_check_board ["value"] (fun fd => Fun K "check_board" "check_board" s_check_board ad.f_check_board fd) (lift (gm K w ad) sp_check_board) := by
  obtain ⟨fd, F⟩ := T.F_check_board
  refine ⟨fd, okD (B := R_check_board) F sc_check_board (fun ds Q EX h => spOf_len h) (fun cdv A outer s H E hg hr => ?_) (fun ds Q EX h => spOf_pure l_check_board h), F⟩
  have hg0 : (A.deeper (envOfC "check_board" (defScope s_check_board) s.heap.objs.size ad.f_check_board cdv)).guards = some [] := hg
  have hx0 : PassX (cxOf (L2.CX P w) P w K mg base N_check_board "check_board" (defScope s_check_board) ad.f_check_board cdv A outer s H E) E := L2.passes_call (L2.takes_of rfl rfl rfl rfl) fun _ _ _ _ h => h
  exact (css_one (cs_if (ct_not (ct_val (ce_isi (see (ce_var 0)) (by exact pe_glob (v := .ref ad.C_Board) (by rfl) T.g_Board (by rfl)) T.z_isinstance (.own _) T.isi_Board_c T.isi_Board_t))) (css_one (cs_raise (c := 18) (L2.takes_of rfl rfl rfl rfl) (ExL.pmkG PySem.F.store_ValueError PySem.F.excBase_ValueError T.x_NotABoard hr (ca_cons (ce_var 0) ca_nil)) (by rfl))) css_nil))
theorem sc_Board_contains : FnScope N_Board_contains ["self", "value"] (defScope s_Board_contains) := ⟨rfl, rfl, rfl, by decide +kernel, rfl, by decide +kernel, by decide +kernel⟩
theorem ok_Board_contains (T : Txt K w mg ad) : DefU P w (gm K w ad) mg base 1 ad.f_Board_contains ["self", "value"] (fun fd => Fun K "__contains__" "Board.__contains__" s_Board_contains ad.f_Board_contains fd) (lift (gm K w ad) sp_Board_contains) := by
  obtain ⟨fd, F⟩ := T.F_Board_contains
  refine ⟨fd, okD (B := R_Board_contains) F sc_Board_contains (fun ds Q EX h => spOf_len h) (fun cdv A outer s H E hg hr => ?_) (fun ds Q EX h => spOf_pure l_Board_contains h), F⟩
  have hg0 : (A.deeper (envOfC "Board.__contains__" (defScope s_Board_contains) s.heap.objs.size ad.f_Board_contains cdv)).guards = some [] := hg
  have hx0 : PassX (cxOf (L2.CX P w) P w K mg base N_Board_contains "Board.__contains__" (defScope s_Board_contains) ad.f_Board_contains cdv A outer s H E) E := L2.passes_call (L2.takes_of rfl rfl rfl rfl) fun _ _ _ _ h => h
  exact (css_one (cs_ret (see (ce_and (ce_isi (see (ce_var 1)) (by exact pe_bltn (v := .ty "str") (u := .type "str") (by rfl) T.z_str (by decide +kernel) (by rfl)) T.z_isinstance (.ty _) isi_str_c isi_str_t) (ce_one (ce_cmp (opl_in (hu65 hr)) (see (ce_var 1)) (see (ce_ix (hu1 hr) (see (ce_fld (c := 1) (i := 0) (ce_var 0) T.c_Board.cl T.n_Board_both (by rfl))) (see ce_int)))))))))
theorem sc_are_neighbours : FnScope N_are_neighbours ["one", "other"] (defScope s_are_neighbours) := ⟨rfl, rfl, rfl, by decide +kernel, rfl, by decide +kernel, by decide +kernel⟩
theorem ok_are_neighbours (T : Txt K w mg ad) : DefU P w (gm K w ad) mg base 1 ad.f_are_neighbours ["one", "other"] (fun fd => Fun K "are_neighbours" "are_neighbours" s_are_neighbours ad.f_are_neighbours fd) (lift (gm K w ad) sp_are_neighbours) := by
  obtain ⟨fd, F⟩ := T.F_are_neighbours
  refine ⟨fd, okD (B := R_are_neighbours) F sc_are_neighbours (fun ds Q EX h => spOf_len h) (fun cdv A outer s H E hg hr => ?_) (fun ds Q EX h => spOf_pure l_are_neighbours h), F⟩
  have hg0 : (A.deeper (envOfC "are_neighbours" (defScope s_are_neighbours) s.heap.objs.size ad.f_are_neighbours cdv)).guards = some [] := hg
  have hx0 : PassX (cxOf (L2.CX P w) P w K mg base N_are_neighbours "are_neighbours" (defScope s_are_neighbours) ad.f_are_neighbours cdv A outer s H E) E := L2.passes_call (L2.takes_of rfl rfl rfl rfl) fun _ _ _ _ h => h
  exact (css_one (cs_ret (see (ce_cmp (opl_eq (hu64 hr)) (see (ce_callB cal_len T.z_len (cab_cons (see (val (cf_lc (own := [("k", 2)]) sc_are_neighbours.nd (iE_of (cis_rng1 T.z_range (ca_cons (ce_callB cal_len T.z_len (cab_cons (see (ce_var 0)) cab_nil)) ca_nil))) (blk_mk (by rfl)) (fun _ _ _ _ _ => (pg_name (i := 2) sc_are_neighbours.nd rfl (by first | exact Or.inl rfl | exact Or.inr rfl))) (tg_var (i := 2)) (fun _ _ _ _ _ => (cts_one (ct_cmp (opl_ne (hu64 hr)) (see (ce_ix (hu1 hr) (see (ce_var 0)) (see (ce_var 2)))) (see (ce_ix (hu1 hr) (see (ce_var 1)) (see (ce_var 2))))))) (fun _ _ _ _ _ => (ce_var 2))))) cab_nil))) (see ce_int)))))
theorem sc_is_fact : FnScope N_is_fact ["board", "value"] (defScope s_is_fact) := ⟨rfl, rfl, rfl, by decide +kernel, rfl, by decide +kernel, by decide +kernel⟩
theorem ok_is_fact (T : Txt K w mg ad) : DefU P w (gm K w ad) mg base 2 ad.f_is_fact ["board", "value"] (fun fd => Fun K "is_fact" "is_fact" s_is_fact ad.f_is_fact fd) (lift (gm K w ad) sp_is_fact) := by
  obtain ⟨fd_Board_contains, F_Board_contains, U_Board_contains⟩ := ok_Board_contains (P := P) (base := base) T
  have b_Board_contains : Binds K fd_Board_contains ["self", "value"] [] := U_Board_contains.binds (ps := ["self", "value"]) fun _ _ _ _ _ _ us hl => match us, hl with | [_, _], _ => rfl
  obtain ⟨fd_are_neighbours, F_are_neighbours, U_are_neighbours⟩ := ok_are_neighbours (P := P) (base := base) T
  have b_are_neighbours : Binds K fd_are_neighbours ["one", "other"] [] := U_are_neighbours.binds (ps := ["one", "other"]) fun _ _ _ _ _ _ us hl => match us, hl with | [_, _], _ => rfl
  obtain ⟨fd, F⟩ := T.F_is_fact
  refine ⟨fd, okD (B := R_is_fact) F sc_is_fact (fun ds Q EX h => spOf_len h) (fun cdv A outer s H E hg hr => ?_) (fun ds Q EX h => spOf_pure l_is_fact h), F⟩
  have hg0 : (A.deeper (envOfC "is_fact" (defScope s_is_fact) s.heap.objs.size ad.f_is_fact cdv)).guards = some [] := hg
  have hx0 : PassX (cxOf (L2.CX P w) P w K mg base N_is_fact "is_fact" (defScope s_is_fact) ad.f_is_fact cdv A outer s H E) E := L2.passes_call (L2.takes_of rfl rfl rfl rfl) fun _ _ _ _ h => h
  exact (css_cons (cs_if (PW.pt (cw_or (ct_not (ct_val (ce_isi (see (ce_var 1)) (by exact pe_bltn (v := .ty "tuple") (u := .type "tuple") (by rfl) T.z_tuple (by decide +kernel) (by rfl)) T.z_isinstance (.ty _) isi_tuple_c isi_tuple_t))) (cw_or1 (ct_cmp (opl_ne (hu64 hr)) (see (ce_callB cal_len T.z_len (cab_cons (see (ce_var 1)) cab_nil))) (see ce_int))))) (css_one (cs_ret (see ce_bl))) css_nil)
    (css_one (cs_ret (see (ce_and (ce_cmpV (opv_in (c := 1) (neg := false) rfl F_Board_contains b_Board_contains hg0 (hr.mono (by decide)) T.h_Board_contains.at_ T.h_Board_contains.fn) (ce_ix (hu1 hr) (see (ce_var 1)) (see ce_int)) (ce_var 0)) (ce_and (ce_cmpV (opv_in (c := 1) (neg := false) rfl F_Board_contains b_Board_contains hg0 (hr.mono (by decide)) T.h_Board_contains.at_ T.h_Board_contains.fn) (ce_ix (hu1 hr) (see (ce_var 1)) (see ce_int)) (ce_var 0)) (ce_one (ce_call F_are_neighbours T.m_are_neighbours T.k_are_neighbours b_are_neighbours hg0 (hr.mono (by decide)) hx0 (ca_cons (ce_ix (hu1 hr) (see (ce_var 1)) (see ce_int)) (ca_cons (ce_ix (hu1 hr) (see (ce_var 1)) (see ce_int)) ca_nil))))))))))
theorem sc_leads : FnScope N_leads ["facts", "start", "goal"] (defScope s_leads) := ⟨rfl, rfl, rfl, by decide +kernel, rfl, by decide +kernel, by decide +kernel⟩
theorem ok_leads (T : Txt K w mg ad) : DefU P w (gm K w ad) mg base 1 ad.f_leads ["facts", "start", "goal"] (fun fd => Fun K "leads" "leads" s_leads ad.f_leads fd) (lift (gm K w ad) sp_leads) := by
  obtain ⟨fd, F⟩ := T.F_leads
  refine ⟨fd, okD (B := R_leads) F sc_leads (fun ds Q EX h => spOf_len h) (fun cdv A outer s H E hg hr => ?_) (fun ds Q EX h => spOf_pure l_leads h), F⟩
  have hg0 : (A.deeper (envOfC "leads" (defScope s_leads) s.heap.objs.size ad.f_leads cdv)).guards = some [] := hg
  have hx0 : PassX (cxOf (L2.CX P w) P w K mg base N_leads "leads" (defScope s_leads) ad.f_leads cdv A outer s H E) E := L2.passes_call (L2.takes_of rfl rfl rfl rfl) fun _ _ _ _ h => h
  exact (css_cons (cs_parOO (i := 3) (j := 4) (cf_lst (ca_cons (ce_var 1) ca_nil)) (cf_lst (ca_cons (ce_var 1) ca_nil)) sc_leads.nd)
    (css_cons (cs_while (L2.passes_of rfl) (ct_cmp (opl_ne (hu64 hr)) (cb_var 4) (see (val (cf_lst ca_nil)))) (css_cons (cs_popV (i := 5) (j := 4) sc_leads.nd)
    (css_one (cs_for (vs := [6, 7]) (L2.passes_of rfl) (cis_any (ce_var 0)) (pg_tup (n := 2) rfl (pgs_cons (pg_name (i := 6) sc_leads.nd rfl (by first | exact Or.inl rfl | exact Or.inr rfl)) (pgs_cons (pg_name (i := 7) sc_leads.nd rfl (by first | exact Or.inl rfl | exact Or.inr rfl)) pgs_nil))) (tg_tup (tgs_cons (tg_var (i := 6)) (tgs_cons (tg_var (i := 7)) tgs_nil)))
      (css_one (cs_if (PW.pt (cw_and (ct_cmp (opl_eq (hu64 hr)) (see (ce_var 6)) (see (ce_var 5))) (cw_and1 (ct_cmp (opl_notin (hu65 hr)) (see (ce_var 7)) (cb_var 3))))) (css_cons (cs_app (i := 3) (ce_var 7))
    (css_one (cs_app (i := 4) (ce_var 7)))) css_nil))))))
    (css_one (cs_ret (see (ce_cmp (opl_in (hu65 hr)) (see (ce_var 2)) (cb_var 3)))))))
theorem sc_is_let : FnScope N_is_let ["facts", "fact"] (defScope s_is_let) := ⟨rfl, rfl, rfl, by decide +kernel, rfl, by decide +kernel, by decide +kernel⟩
theorem ok_is_let (T : Txt K w mg ad) : DefU P w (gm K w ad) mg base 2 ad.f_is_let ["facts", "fact"] (fun fd => Fun K "is_let" "is_let" s_is_let ad.f_is_let fd) (lift (gm K w ad) sp_is_let) := by
  obtain ⟨fd_leads, F_leads, U_leads⟩ := ok_leads (P := P) (base := base) T
  have b_leads : Binds K fd_leads ["facts", "start", "goal"] [] := U_leads.binds (ps := ["facts", "start", "goal"]) fun _ _ _ _ _ _ us hl => match us, hl with | [_, _, _], _ => rfl
  obtain ⟨fd, F⟩ := T.F_is_let
  refine ⟨fd, okD (B := R_is_let) F sc_is_let (fun ds Q EX h => spOf_len h) (fun cdv A outer s H E hg hr => ?_) (fun ds Q EX h => spOf_pure l_is_let h), F⟩
  have hg0 : (A.deeper (envOfC "is_let" (defScope s_is_let) s.heap.objs.size ad.f_is_let cdv)).guards = some [] := hg
  have hx0 : PassX (cxOf (L2.CX P w) P w K mg base N_is_let "is_let" (defScope s_is_let) ad.f_is_let cdv A outer s H E) E := L2.passes_call (L2.takes_of rfl rfl rfl rfl) fun _ _ _ _ h => h
  exact (css_one (cs_ret (see (ce_and (ce_cmp (opl_notinT (hu65 hr)) (see (ce_var 1)) (see (ce_var 0))) (ce_one (ce_not (ce_call F_leads T.m_leads T.k_leads b_leads hg0 (hr.mono (by decide)) hx0 (ca_cons (ce_var 0) (ca_cons (ce_ix (hu1 hr) (see (ce_var 1)) (see ce_int)) (ca_cons (ce_ix (hu1 hr) (see (ce_var 1)) (see ce_int)) ca_nil))))))))))
theorem sc_check_facts : FnScope N_check_facts ["board", "facts"] (defScope s_check_facts) := ⟨rfl, rfl, rfl, by decide +kernel, rfl, by decide +kernel, by decide +kernel⟩
theorem ok_check_facts (T : Txt K w mg ad) : DefU P w (gm K w ad) mg base 3 ad.f_check_facts ["board", "facts"] (fun fd => Fun K "check_facts" "check_facts" s_check_facts ad.f_check_facts fd) (lift (gm K w ad) sp_check_facts) := by
  obtain ⟨fd_is_fact, F_is_fact, U_is_fact⟩ := ok_is_fact (P := P) (base := base) T
  have b_is_fact : Binds K fd_is_fact ["board", "value"] [] := U_is_fact.binds (ps := ["board", "value"]) fun _ _ _ _ _ _ us hl => match us, hl with | [_, _], _ => rfl
  obtain ⟨fd_is_let, F_is_let, U_is_let⟩ := ok_is_let (P := P) (base := base) T
  have b_is_let : Binds K fd_is_let ["facts", "fact"] [] := U_is_let.binds (ps := ["facts", "fact"]) fun _ _ _ _ _ _ us hl => match us, hl with | [_, _], _ => rfl
  obtain ⟨fd, F⟩ := T.F_check_facts
  refine ⟨fd, okD (B := R_check_facts) F sc_check_facts (fun ds Q EX h => spOf_len h) (fun cdv A outer s H E hg hr => ?_) (fun ds Q EX h => spOf_pure l_check_facts h), F⟩
  have hg0 : (A.deeper (envOfC "check_facts" (defScope s_check_facts) s.heap.objs.size ad.f_check_facts cdv)).guards = some [] := hg
  have hx0 : PassX (cxOf (L2.CX P w) P w K mg base N_check_facts "check_facts" (defScope s_check_facts) ad.f_check_facts cdv A outer s H E) E := L2.passes_call (L2.takes_of rfl rfl rfl rfl) fun _ _ _ _ h => h
  exact (css_cons (cs_if (ct_not (ct_val (ce_isi (see (ce_var 1)) (by exact pe_bltn (v := .ty "tuple") (u := .type "tuple") (by rfl) T.z_tuple (by decide +kernel) (by rfl)) T.z_isinstance (.ty _) isi_tuple_c isi_tuple_t))) (css_one (cs_raise (c := 24) (L2.takes_of rfl rfl rfl rfl) (ExL.pmkI PySem.F.store_ValueError PySem.F.excBase_ValueError T.x_InvalidFacts hr (ca_cons ce_non ca_nil)) (by rfl))) css_nil)
    (css_one (cs_for (vs := [2]) (L2.passes_of rfl) (cis_rng1 T.z_range (ca_cons (ce_callB cal_len T.z_len (cab_cons (see (ce_var 1)) cab_nil)) ca_nil)) (pg_name (i := 2) sc_check_facts.nd rfl (by first | exact Or.inl rfl | exact Or.inr rfl)) (tg_var (i := 2))
      (css_one (cs_if (PW.pt (cw_or (ct_not (ct_val (ce_call F_is_fact T.m_is_fact T.k_is_fact b_is_fact hg0 (hr.mono (by decide)) hx0 (ca_cons (ce_var 0) (ca_cons (ce_ix (hu1 hr) (see (ce_var 1)) (see (ce_var 2))) ca_nil))))) (cw_or1 (ct_not (ct_val (ce_call F_is_let T.m_is_let T.k_is_let b_is_let hg0 (hr.mono (by decide)) hx0 (ca_cons (ce_slice (see (ce_var 1)) co_none (co_some (ce_var 2))) (ca_cons (ce_ix (hu1 hr) (see (ce_var 1)) (see (ce_var 2))) ca_nil)))))))) (css_one (cs_raise (c := 24) (L2.takes_of rfl rfl rfl rfl) (ExL.pmkI PySem.F.store_ValueError PySem.F.excBase_ValueError T.x_InvalidFacts hr (ca_cons (ce_var 2) ca_nil)) (by rfl))) css_nil)))))
theorem sc_Notes_init : FnScope N_Notes_init ["self", "board", "facts"] (defScope s_Notes_init) := ⟨rfl, rfl, rfl, by decide +kernel, rfl, by decide +kernel, by decide +kernel⟩
theorem ok_Notes_init (T : Txt K w mg ad) : DefU P w (gm K w ad) mg base 4 ad.f_Notes_init ["self", "board", "facts"] (fun fd => FunF K "__init__" "Notes.__init__" s_Notes_init [.ref ad.E_Notes_init_0] ad.f_Notes_init fd) (liftI (gm K w ad) 3 (spIn cf_Notes_init)) := by
  obtain ⟨fd_check_board, F_check_board, U_check_board⟩ := ok_check_board (P := P) (base := base) T
  have b_check_board : Binds K fd_check_board ["value"] [] := U_check_board.binds (ps := ["value"]) fun _ _ _ _ _ _ us hl => match us, hl with | [_], _ => rfl
  obtain ⟨fd_check_facts, F_check_facts, U_check_facts⟩ := ok_check_facts (P := P) (base := base) T
  have b_check_facts : Binds K fd_check_facts ["board", "facts"] [] := U_check_facts.binds (ps := ["board", "facts"]) fun _ _ _ _ _ _ us hl => match us, hl with | [_, _], _ => rfl
  obtain ⟨fd, F⟩ := T.F_Notes_init
  refine ⟨fd, okID (B := R_Notes_init) (sp := spOf cf_Notes_init) (c := 3) F sc_Notes_init (fun ds Q EX h => by rw [spI_len h]; rfl) (fun cdv A outer s H E hg hr => ?_) (fun ds Q EX x h => spI_pure l_Notes_init rfl h), F⟩
  have hg0 : (A.deeper (envOfC "Notes.__init__" (defScope s_Notes_init) s.heap.objs.size ad.f_Notes_init cdv)).guards = some [] := hg
  have hx0 : PassX (cxOf (L2.CX P w) P w K mg base N_Notes_init "Notes.__init__" (defScope s_Notes_init) ad.f_Notes_init cdv A outer s H E) E := L2.passes_call (L2.takes_of rfl rfl rfl rfl) fun _ _ _ _ h => h
  exact (css_cons (cs_expr (ce_call F_check_board T.m_check_board T.k_check_board b_check_board hg0 (hr.mono (by decide)) hx0 (ca_cons (ce_var 1) ca_nil)))
    (css_cons (cs_expr (ce_call F_check_facts T.m_check_facts T.k_check_facts b_check_facts hg0 (hr.mono (by decide)) hx0 (ca_cons (ce_var 1) (ca_cons (ce_var 2) ca_nil))))
    (css_one (cs_fldI (i := 0) (c := 3) (ce_tup (ca_cons (ce_var 1) (ca_cons (ce_var 2) ca_nil))) T.c_Notes.cl T.n_Notes_both rfl (by decide +kernel)))))
theorem sc_is_within : FnScope N_is_within ["value", "least", "most"] (defScope s_is_within) := ⟨rfl, rfl, rfl, by decide +kernel, rfl, by decide +kernel, by decide +kernel⟩
theorem ok_is_within (T : Txt K w mg ad) : DefU P w (gm K w ad) mg base 1 ad.f_is_within ["value", "least", "most"] (fun fd => Fun K "is_within" "is_within" s_is_within ad.f_is_within fd) (lift (gm K w ad) sp_is_within) := by
  obtain ⟨fd, F⟩ := T.F_is_within
  refine ⟨fd, okD (B := R_is_within) F sc_is_within (fun ds Q EX h => spOf_len h) (fun cdv A outer s H E hg hr => ?_) (fun ds Q EX h => spOf_pure l_is_within h), F⟩
  have hg0 : (A.deeper (envOfC "is_within" (defScope s_is_within) s.heap.objs.size ad.f_is_within cdv)).guards = some [] := hg
  have hx0 : PassX (cxOf (L2.CX P w) P w K mg base N_is_within "is_within" (defScope s_is_within) ad.f_is_within cdv A outer s H E) E := L2.passes_call (L2.takes_of rfl rfl rfl rfl) fun _ _ _ _ h => h
  exact (css_one (cs_ret (see (ce_and (ce_isi (see (ce_var 0)) (by exact pe_bltn (v := .ty "int") (u := .type "int") (by rfl) T.z_int (by decide +kernel) (by rfl)) T.z_isinstance (.ty _) isi_int_c isi_int_t) (ce_and (ce_not (ce_isi (see (ce_var 0)) (by exact pe_bltn (v := .ty "bool") (u := .type "bool") (by rfl) T.z_bool (by decide +kernel) (by rfl)) T.z_isinstance (.ty _) isi_bool_c isi_bool_t)) (ce_one (ce_chain opl_le opl_le (see (ce_var 1)) (see (ce_var 0)) (see (ce_var 2)))))))))
theorem sc_check_sizes : FnScope N_check_sizes ["sizes"] (defScope s_check_sizes) := ⟨rfl, rfl, rfl, by decide +kernel, rfl, by decide +kernel, by decide +kernel⟩
theorem ok_check_sizes (T : Txt K w mg ad) : DefU P w (gm K w ad) mg base 2 ad.f_check_sizes ["sizes"] (fun fd => Fun K "check_sizes" "check_sizes" s_check_sizes ad.f_check_sizes fd) (lift (gm K w ad) sp_check_sizes) := by
  obtain ⟨fd_is_within, F_is_within, U_is_within⟩ := ok_is_within (P := P) (base := base) T
  have b_is_within : Binds K fd_is_within ["value", "least", "most"] [] := U_is_within.binds (ps := ["value", "least", "most"]) fun _ _ _ _ _ _ us hl => match us, hl with | [_, _, _], _ => rfl
  obtain ⟨fd, F⟩ := T.F_check_sizes
  refine ⟨fd, okD (B := R_check_sizes) F sc_check_sizes (fun ds Q EX h => spOf_len h) (fun cdv A outer s H E hg hr => ?_) (fun ds Q EX h => spOf_pure l_check_sizes h), F⟩
  have hg0 : (A.deeper (envOfC "check_sizes" (defScope s_check_sizes) s.heap.objs.size ad.f_check_sizes cdv)).guards = some [] := hg
  have hx0 : PassX (cxOf (L2.CX P w) P w K mg base N_check_sizes "check_sizes" (defScope s_check_sizes) ad.f_check_sizes cdv A outer s H E) E := L2.passes_call (L2.takes_of rfl rfl rfl rfl) fun _ _ _ _ h => h
  exact (css_cons (cs_if (PW.pt (cw_or (ct_not (ct_val (ce_isi (see (ce_var 0)) (by exact pe_bltn (v := .ty "tuple") (u := .type "tuple") (by rfl) T.z_tuple (by decide +kernel) (by rfl)) T.z_isinstance (.ty _) isi_tuple_c isi_tuple_t))) (cw_or1 (ct_cmp (opl_eq (hu64 hr)) (see (ce_var 0)) (see (ce_tup ca_nil)))))) (css_one (cs_raise (c := 23) (L2.takes_of rfl rfl rfl rfl) (ExL.pmkI PySem.F.store_ValueError PySem.F.excBase_ValueError T.x_InvalidSizes hr (ca_cons ce_non ca_nil)) (by rfl))) css_nil)
    (css_cons (cs_set (i := 1) ce_int sc_check_sizes.nd)
    (css_one (cs_for (vs := [2]) (L2.passes_of rfl) (cis_rng1 T.z_range (ca_cons (ce_callB cal_len T.z_len (cab_cons (see (ce_var 0)) cab_nil)) ca_nil)) (pg_name (i := 2) sc_check_sizes.nd rfl (by first | exact Or.inl rfl | exact Or.inr rfl)) (tg_var (i := 2))
      (css_cons (cs_if (PW.pt (cw_or (ct_cmp (opl_eq (hu64 hr)) (see (ce_var 2)) (see (ce_gint T.g_MOST_SWITCHES.choose_spec.1 T.g_MOST_SWITCHES.choose_spec.2))) (cw_or (ct_not (ct_val (ce_call F_is_within T.m_is_within T.k_is_within b_is_within hg0 (hr.mono (by decide)) hx0 (ca_cons (ce_ix (hu1 hr) (see (ce_var 0)) (see (ce_var 2))) (ca_cons ce_int (ca_cons ce_int ca_nil)))))) (cw_or1 (ct_cmp opl_gt (see (ce_bin opl_mulA (see (ce_var 1)) (see (ce_ix (hu1 hr) (see (ce_var 0)) (see (ce_var 2)))))) (see (ce_gint T.g_MOST_SETTINGS.choose_spec.1 T.g_MOST_SETTINGS.choose_spec.2))))))) (css_one (cs_raise (c := 23) (L2.takes_of rfl rfl rfl rfl) (ExL.pmkI PySem.F.store_ValueError PySem.F.excBase_ValueError T.x_InvalidSizes hr (ca_cons (ce_var 2) ca_nil)) (by rfl))) css_nil)
    (css_one (cs_set (i := 1) (ce_bin opl_mulA (see (ce_var 1)) (see (ce_ix (hu1 hr) (see (ce_var 0)) (see (ce_var 2))))) sc_check_sizes.nd)))))))
theorem sc_settings_in : FnScope N_settings_in ["part"] (defScope s_settings_in) := ⟨rfl, rfl, rfl, by decide +kernel, rfl, by decide +kernel, by decide +kernel⟩
theorem ok_settings_in (T : Txt K w mg ad) : DefU P w (gm K w ad) mg base 1 ad.f_settings_in ["part"] (fun fd => Fun K "settings_in" "settings_in" s_settings_in ad.f_settings_in fd) (lift (gm K w ad) sp_settings_in) := by
  obtain ⟨fd, F⟩ := T.F_settings_in
  refine ⟨fd, okD (B := R_settings_in) F sc_settings_in (fun ds Q EX h => spOf_len h) (fun cdv A outer s H E hg hr => ?_) (fun ds Q EX h => spOf_pure l_settings_in h), F⟩
  have hg0 : (A.deeper (envOfC "settings_in" (defScope s_settings_in) s.heap.objs.size ad.f_settings_in cdv)).guards = some [] := hg
  have hx0 : PassX (cxOf (L2.CX P w) P w K mg base N_settings_in "settings_in" (defScope s_settings_in) ad.f_settings_in cdv A outer s H E) E := L2.passes_call (L2.takes_of rfl rfl rfl rfl) fun _ _ _ _ h => h
  exact (css_cons (cs_set (i := 1) (val (cf_lst (ca_cons ce_str ca_nil))) sc_settings_in.nd)
    (css_cons (cs_for (vs := [2]) (L2.passes_of rfl) (cis_any (ce_var 0)) (pg_name (i := 2) sc_settings_in.nd rfl (by first | exact Or.inl rfl | exact Or.inr rfl)) (tg_var (i := 2))
      (css_one (cs_setLc2 (i := 1) (own := [("begun", 3), ("stand", 4)]) (vs1 := [4]) sc_settings_in.nd (cie_any (see (ce_var 1))) (blk_mk (by rfl)) (fun _ _ _ _ _ => (pg_name (i := 3) sc_settings_in.nd rfl (by first | exact Or.inl rfl | exact Or.inr rfl))) (tg_var (i := 3)) (fun _ _ _ _ _ => cts_nil) (fun _ _ _ _ _ => (cis_any (ce_var 2))) (fun _ _ _ _ _ => (pg_name (i := 4) sc_settings_in.nd rfl (by first | exact Or.inl rfl | exact Or.inr rfl))) (tg_var (i := 4)) (fun _ _ _ _ _ => cts_nil) (fun _ _ _ _ _ => (ce_bin opl_add (see (ce_var 3)) (see (ce_var 4)))))))
    (css_one (cs_ret (see (ce_var 1))))))
theorem sc_Board_init : FnScope N_Board_init ["self", "sizes"] (defScope s_Board_init) := ⟨rfl, rfl, rfl, by decide +kernel, rfl, by decide +kernel, by decide +kernel⟩
theorem ok_Board_init (T : Txt K w mg ad) : DefU P w (gm K w ad) mg base 3 ad.f_Board_init ["self", "sizes"] (fun fd => Fun K "__init__" "Board.__init__" s_Board_init ad.f_Board_init fd) (liftI (gm K w ad) 1 (spIn cf_Board_init)) := by
  obtain ⟨fd_check_sizes, F_check_sizes, U_check_sizes⟩ := ok_check_sizes (P := P) (base := base) T
  have b_check_sizes : Binds K fd_check_sizes ["sizes"] [] := U_check_sizes.binds (ps := ["sizes"]) fun _ _ _ _ _ _ us hl => match us, hl with | [_], _ => rfl
  obtain ⟨fd_settings_in, F_settings_in, U_settings_in⟩ := ok_settings_in (P := P) (base := base) T
  have b_settings_in : Binds K fd_settings_in ["part"] [] := U_settings_in.binds (ps := ["part"]) fun _ _ _ _ _ _ us hl => match us, hl with | [_], _ => rfl
  obtain ⟨fd, F⟩ := T.F_Board_init
  refine ⟨fd, okI (B := R_Board_init) (sp := spOf cf_Board_init) (c := 1) F sc_Board_init (fun ds Q EX h => by rw [spI_len h]; rfl) (fun cdv A outer s H E hg hr => ?_) (fun ds Q EX x h => spI_pure l_Board_init rfl h), F⟩
  have hg0 : (A.deeper (envOfC "Board.__init__" (defScope s_Board_init) s.heap.objs.size ad.f_Board_init cdv)).guards = some [] := hg
  have hx0 : PassX (cxOf (L2.CX P w) P w K mg base N_Board_init "Board.__init__" (defScope s_Board_init) ad.f_Board_init cdv A outer s H E) E := L2.passes_call (L2.takes_of rfl rfl rfl rfl) fun _ _ _ _ h => h
  exact (css_cons (cs_expr (ce_call F_check_sizes T.m_check_sizes T.k_check_sizes b_check_sizes hg0 (hr.mono (by decide)) hx0 (ca_cons (ce_var 1) ca_nil)))
    (css_one (cs_fldI (i := 0) (c := 1) (ce_tup (ca_cons (ce_var 1) (ca_cons (ce_callTy cal_tuple T.z_tuple (cab_cons (see (ce_call F_settings_in T.m_settings_in T.k_settings_in b_settings_in hg0 (hr.mono (by decide)) hx0 (ca_cons (val (cf_lc (own := [("size", 2)]) sc_Board_init.nd (cie_any (see (ce_var 1))) (blk_mk (by rfl)) (fun _ _ _ _ _ => (pg_name (i := 2) sc_Board_init.nd rfl (by first | exact Or.inl rfl | exact Or.inr rfl))) (tg_var (i := 2)) (fun _ _ _ _ _ => cts_nil) (fun _ _ _ _ _ => (ce_ix (hu1 hr) (see (ce_gval (v := V_STANDS ad) T.g_STANDS.choose_spec.1 T.g_STANDS.choose_spec.2 T.r_STANDS)) (see (ce_var 2)))))) ca_nil))) cab_nil)) ca_nil))) T.c_Board.cl T.n_Board_both rfl (by decide +kernel))))
theorem sc_board_told : FnScope N_board_told ["text"] (defScope s_board_told) := ⟨rfl, rfl, rfl, by decide +kernel, rfl, by decide +kernel, by decide +kernel⟩
theorem ok_board_told (T : Txt K w mg ad) : DefU P w (gm K w ad) mg base 5 ad.f_board_told ["text"] (fun fd => Fun K "board_told" "board_told" s_board_told ad.f_board_told fd) (lift (gm K w ad) sp_board_told) := by
  obtain ⟨fd_Board_init, F_Board_init, U_Board_init⟩ := ok_Board_init (P := P) (base := base) T
  have b_Board_init : Binds K fd_Board_init ["self", "sizes"] [] := U_Board_init.binds (ps := ["self", "sizes"]) fun _ _ _ _ _ _ us hl => match us, hl with | [_, _], _ => rfl
  obtain ⟨fd, F⟩ := T.F_board_told
  refine ⟨fd, okD (B := R_board_told) F sc_board_told (fun ds Q EX h => spOf_len h) (fun cdv A outer s H E hg hr => ?_) (fun ds Q EX h => spOf_pure l_board_told h), F⟩
  have hg0 : (A.deeper (envOfC "board_told" (defScope s_board_told) s.heap.objs.size ad.f_board_told cdv)).guards = some [] := hg
  have hx0 : PassX (cxOf (L2.CX P w) P w K mg base N_board_told "board_told" (defScope s_board_told) ad.f_board_told cdv A outer s H E) E := L2.passes_call (L2.takes_of rfl rfl rfl rfl) fun _ _ _ _ h => h
  exact (css_cons (cs_if (PW.pt (cw_or (ct_not (ct_val (ce_isi (see (ce_var 0)) (by exact pe_bltn (v := .ty "str") (u := .type "str") (by rfl) T.z_str (by decide +kernel) (by rfl)) T.z_isinstance (.ty _) isi_str_c isi_str_t))) (cw_or1 (ct_not (ct_val (ce_callB cal_all T.z_all (cab_cons (see (val (cf_lc (own := [("sign", 1)]) sc_board_told.nd (cie_any (see (ce_var 0))) (blk_mk (by rfl)) (fun _ _ _ _ _ => (pg_name (i := 1) sc_board_told.nd rfl (by first | exact Or.inl rfl | exact Or.inr rfl))) (tg_var (i := 1)) (fun _ _ _ _ _ => cts_nil) (fun _ _ _ _ _ => (ce_cmp (opl_in (hu65 hr)) (see (ce_var 1)) (see (ce_gval (v := V_DIGITS ad) T.g_DIGITS.choose_spec.1 T.g_DIGITS.choose_spec.2 T.r_DIGITS))))))) cab_nil))))))) (css_one (cs_ret (see ce_non))) css_nil)
    (css_one (cs_try (n := 2) (by rfl) rfl rfl sc_board_told.nd rfl (fun E2 pn xe tk pa => have hx0 := L2.passes_call tk (fun _ _ _ _ h => h); (css_one (cs_ret (see (ce_make (c := 1) T.mk_Board F_Board_init  T.g_Board b_Board_init hg0 (hr.mono (by decide)) hx0 (ca_cons (ce_callTy cal_tuple T.z_tuple (cab_cons (see (val (cf_lc (own := [("sign", 1)]) sc_board_told.nd (cie_any (see (ce_var 0))) (blk_mk (by rfl)) (fun _ _ _ _ _ => (pg_name (i := 1) sc_board_told.nd rfl (by first | exact Or.inl rfl | exact Or.inr rfl))) (tg_var (i := 1)) (fun _ _ _ _ _ => cts_nil) (fun _ _ _ _ _ => (ce_ix (hu1 hr) (see (ce_gval (v := V_DIGITS ad) T.g_DIGITS.choose_spec.1 T.g_DIGITS.choose_spec.2 T.r_DIGITS)) (see (ce_var 1))))))) cab_nil)) ca_nil)))))) (.bare (ex := exm_InvalidSizes) (exm_InvalidSizes_ok T) (tst_name ⟨rfl, by decide, .inl T.x_InvalidSizes.gl⟩) (fun a pn => (css_one (cs_ret (see ce_non)))) .nil))))
theorem sc_notes_told : FnScope N_notes_told ["text"] (defScope s_notes_told) := ⟨rfl, rfl, rfl, by decide +kernel, rfl, by decide +kernel, by decide +kernel⟩
theorem ok_notes_told (T : Txt K w mg ad) : DefU P w (gm K w ad) mg base 6 ad.f_notes_told ["text"] (fun fd => Fun K "notes_told" "notes_told" s_notes_told ad.f_notes_told fd) (lift (gm K w ad) sp_notes_told) := by
  obtain ⟨fd_board_told, F_board_told, U_board_told⟩ := ok_board_told (P := P) (base := base) T
  have b_board_told : Binds K fd_board_told ["text"] [] := U_board_told.binds (ps := ["text"]) fun _ _ _ _ _ _ us hl => match us, hl with | [_], _ => rfl
  obtain ⟨fd_Notes_init, F_Notes_init, U_Notes_init⟩ := ok_Notes_init (P := P) (base := base) T
  have bk_0 : BdK K fd_Notes_init ["self", "board", "facts"] 3 [] [.p 0, .p 1, .p 2] [(.tup [])] := bdk_dfl U_Notes_init (by simp) (fun _ hKG _ => (Reps.cons (T.e_Notes_init_0 _ hKG _) Reps.nil)) 3 [] [.p 0, .p 1, .p 2] fun T kV doc pm an cdv ct us ws its h1 h2 h3 => match us, ws, its, h1, h2, h3 with | [_, _, _], [], [_], _, _, _ => ⟨_, rfl, rfl⟩
  obtain ⟨fd, F⟩ := T.F_notes_told
  refine ⟨fd, okD (B := R_notes_told) F sc_notes_told (fun ds Q EX h => spOf_len h) (fun cdv A outer s H E hg hr => ?_) (fun ds Q EX h => spOf_pure l_notes_told h), F⟩
  have hg0 : (A.deeper (envOfC "notes_told" (defScope s_notes_told) s.heap.objs.size ad.f_notes_told cdv)).guards = some [] := hg
  have hx0 : PassX (cxOf (L2.CX P w) P w K mg base N_notes_told "notes_told" (defScope s_notes_told) ad.f_notes_told cdv A outer s H E) E := L2.passes_call (L2.takes_of rfl rfl rfl rfl) fun _ _ _ _ h => h
  exact (css_cons (cs_set (i := 1) (ce_if (ct_val (ce_isi (see (ce_var 0)) (by exact pe_bltn (v := .ty "str") (u := .type "str") (by rfl) T.z_str (by decide +kernel) (by rfl)) T.z_isinstance (.ty _) isi_str_c isi_str_t)) (ce_split (see (ce_var 0)) (see ce_str)) (val (cf_lst (ca_cons ce_str ca_nil)))) sc_notes_told.nd)
    (css_cons (cs_lcV (i := 2) (own := [("line", 4)]) sc_notes_told.nd (cie_any (see (ce_var 1))) (blk_mk (by rfl)) (fun _ _ _ _ _ => (pg_name (i := 4) sc_notes_told.nd rfl (by first | exact Or.inl rfl | exact Or.inr rfl))) (tg_var (i := 4)) (fun _ _ _ _ _ => cts_nil) (fun _ _ _ _ _ => (ce_split (see (ce_var 4)) (see ce_str))))
    (css_cons (cs_if (PW.pt (cw_or (ct_cmp (opl_ne (hu64 hr)) (see (ce_callB cal_len T.z_len (cab_cons (see (ce_ix (hu1 hr) (see (ce_var 2)) (see ce_int))) cab_nil))) (see ce_int)) (cw_or1 (ct_cmp (opl_ne (hu64 hr)) (see (ce_ix (hu1 hr) (see (ce_ix (hu1 hr) (see (ce_var 2)) (see ce_int))) (see ce_int))) (see (ce_gstr T.g_HEAD.choose_spec.1 T.g_HEAD.choose_spec.2)))))) (css_one (cs_ret (see ce_non))) css_nil)
    (css_cons (cs_set (i := 3) (ce_call F_board_told T.m_board_told T.k_board_told b_board_told hg0 (hr.mono (by decide)) hx0 (ca_cons (ce_ix (hu1 hr) (see (ce_ix (hu1 hr) (see (ce_var 2)) (see ce_int))) (see ce_int)) ca_nil)) sc_notes_told.nd)
    (css_cons (cs_if (PW.pt (cw_or (ct_cmpV opv_is (ce_var 3) ce_non) (cw_or1 (ct_not (ct_val (ce_callB cal_all T.z_all (cab_cons (see (val (cf_lc (own := [("each", 5)]) sc_notes_told.nd (cie_any (see (ce_slice (see (ce_var 2)) (co_some ce_int) co_none))) (blk_mk (by rfl)) (fun _ _ _ _ _ => (pg_name (i := 5) sc_notes_told.nd rfl (by first | exact Or.inl rfl | exact Or.inr rfl))) (tg_var (i := 5)) (fun _ _ _ _ _ => cts_nil) (fun _ _ _ _ _ => (ce_and (ce_cmp (opl_eq (hu64 hr)) (see (ce_callB cal_len T.z_len (cab_cons (see (ce_var 5)) cab_nil))) (see ce_int)) (ce_one (ce_cmp (opl_eq (hu64 hr)) (see (ce_ix (hu1 hr) (see (ce_var 5)) (see ce_int))) (see (ce_gstr T.g_SIGN.choose_spec.1 T.g_SIGN.choose_spec.2))))))))) cab_nil))))))) (css_one (cs_ret (see ce_non))) css_nil)
    (css_one (cs_try (n := 6) (by rfl) rfl rfl sc_notes_told.nd rfl (fun E2 pn xe tk pa => have hx0 := L2.passes_call tk (fun _ _ _ _ h => h); (css_one (cs_ret (see (ce_makeK (c := 3) (ks := []) (sel := [.p 0, .p 1]) T.mk_Notes F_Notes_init T.g_Notes bk_0 hg0 (hr.mono (by decide)) hx0 (ck_pos (ca_cons (ce_var 3) (ca_cons (ce_callTy cal_tuple T.z_tuple (cab_cons (see (val (cf_lc (own := [("each", 5)]) sc_notes_told.nd (cie_any (see (ce_slice (see (ce_var 2)) (co_some ce_int) co_none))) (blk_mk (by rfl)) (fun _ _ _ _ _ => (pg_name (i := 5) sc_notes_told.nd rfl (by first | exact Or.inl rfl | exact Or.inr rfl))) (tg_var (i := 5)) (fun _ _ _ _ _ => cts_nil) (fun _ _ _ _ _ => (ce_tup (ca_cons (ce_ix (hu1 hr) (see (ce_var 5)) (see ce_int)) (ca_cons (ce_ix (hu1 hr) (see (ce_var 5)) (see ce_int)) ca_nil))))))) cab_nil)) ca_nil)))))))) (.bare (ex := exm_InvalidFacts) (exm_InvalidFacts_ok T) (tst_name ⟨rfl, by decide, .inl T.x_InvalidFacts.gl⟩) (fun a pn => (css_one (cs_ret (see ce_non)))) .nil))))))))
theorem sc_Notes_read : FnScope N_Notes_read ["cls", "text"] (defScope s_Notes_read) := ⟨rfl, rfl, rfl, by decide +kernel, rfl, by decide +kernel, by decide +kernel⟩
theorem ok_Notes_read (T : Txt K w mg ad) : DefU P w (gm K w ad) mg base 7 ad.f_Notes_read ["cls", "text"] (fun fd => Fun K "read" "Notes.read" s_Notes_read ad.f_Notes_read fd) (liftC (gm K w ad) ad.C_Notes sp_Notes_read) := by
  obtain ⟨fd_notes_told, F_notes_told, U_notes_told⟩ := ok_notes_told (P := P) (base := base) T
  have b_notes_told : Binds K fd_notes_told ["text"] [] := U_notes_told.binds (ps := ["text"]) fun _ _ _ _ _ _ us hl => match us, hl with | [_], _ => rfl
  obtain ⟨fd, F⟩ := T.F_Notes_read
  refine ⟨fd, okCm (B := R_Notes_read) F sc_Notes_read (fun ds Q EX h => spOf_len h) (fun cdv A outer s H E hg hr => ?_) (fun ds Q EX h => spOf_pureC l_Notes_read h), F⟩
  have hg0 : (A.deeper (envOfC "Notes.read" (defScope s_Notes_read) s.heap.objs.size ad.f_Notes_read cdv)).guards = some [] := hg
  have hx0 : PassX (cxOf (L2.CX P w) P w K mg base N_Notes_read "Notes.read" (defScope s_Notes_read) ad.f_Notes_read cdv A outer s H E) E := L2.passes_call (L2.takes_of rfl rfl rfl rfl) fun _ _ _ _ h => h
  exact (css_cons (cs_set (i := 2) (ce_call F_notes_told T.m_notes_told T.k_notes_told b_notes_told hg0 (hr.mono (by decide)) hx0 (ca_cons (ce_var 1) ca_nil)) sc_Notes_read.nd)
    (css_cons (cs_if (ct_cmpV opv_is (ce_var 2) ce_non) (css_one (cs_raise (c := 11) (L2.takes_of rfl rfl rfl rfl) (ExL.pmkG PySem.F.store_ValueError PySem.F.excBase_ValueError T.x_InvalidText hr (ca_cons (ce_var 1) ca_nil)) (by rfl))) css_nil)
    (css_one (cs_ret (see (ce_var 2))))))
theorem sc_law_page : FnScope N_law_page ["spans", "pairs_here"] (defScope s_law_page) := ⟨rfl, rfl, rfl, by decide +kernel, rfl, by decide +kernel, by decide +kernel⟩
theorem ok_law_page (T : Txt K w mg ad) : DefU P w (gm K w ad) mg base 1 ad.f_law_page ["spans", "pairs_here"] (fun fd => Fun K "_law_page" "_law_page" s_law_page ad.f_law_page fd) (lift (gm K w ad) sp_law_page) := by
  obtain ⟨fd, F⟩ := T.F_law_page
  refine ⟨fd, okD (B := R_law_page) F sc_law_page (fun ds Q EX h => spOf_len h) (fun cdv A outer s H E hg hr => ?_) (fun ds Q EX h => spOf_pure l_law_page h), F⟩
  have hg0 : (A.deeper (envOfC "_law_page" (defScope s_law_page) s.heap.objs.size ad.f_law_page cdv)).guards = some [] := hg
  have hx0 : PassX (cxOf (L2.CX P w) P w K mg base N_law_page "_law_page" (defScope s_law_page) ad.f_law_page cdv A outer s H E) E := L2.passes_call (L2.takes_of rfl rfl rfl rfl) fun _ _ _ _ h => h
  exact (css_cons (cs_set (i := 2) (ce_bin opl_add (see ce_str) (see (ce_join (see ce_str) (see (val (cf_lc (own := [("size", 3)]) sc_law_page.nd (cie_any (see (ce_var 0))) (blk_mk (by rfl)) (fun _ _ _ _ _ => (pg_name (i := 3) sc_law_page.nd rfl (by first | exact Or.inl rfl | exact Or.inr rfl))) (tg_var (i := 3)) (fun _ _ _ _ _ => cts_nil) (fun _ _ _ _ _ => (ce_callTy (cal_str2 hg0 (hu64 hr)) T.z_str (cab_cons (see (ce_var 3)) cab_nil))))))))) sc_law_page.nd)
    (css_one (cs_ret (see (ce_join (see ce_str) (see (val (cf_add (see (val (cf_lst (ca_cons (ce_var 2) ca_nil)))) (see (val (cf_lc (own := [("low", 4), ("high", 5)]) sc_law_page.nd (cie_any (see (ce_var 1))) (blk_mk (by rfl)) (fun _ _ _ _ _ => (pg_tup (n := 2) rfl (pgs_cons (pg_name (i := 4) sc_law_page.nd rfl (by first | exact Or.inl rfl | exact Or.inr rfl)) (pgs_cons (pg_name (i := 5) sc_law_page.nd rfl (by first | exact Or.inl rfl | exact Or.inr rfl)) pgs_nil)))) (tg_tup (tgs_cons (tg_var (i := 4)) (tgs_cons (tg_var (i := 5)) tgs_nil))) (fun _ _ _ _ _ => cts_nil) (fun _ _ _ _ _ => (ce_bin opl_add (see (ce_bin opl_add (see (ce_var 4)) (see ce_str))) (see (ce_var 5)))))))))))))))
theorem sc_Board_str : FnScope N_Board_str ["self"] (defScope s_Board_str) := ⟨rfl, rfl, rfl, by decide +kernel, rfl, by decide +kernel, by decide +kernel⟩
theorem ok_Board_str (T : Txt K w mg ad) : DefU P w (gm K w ad) mg base 1 ad.f_Board_str ["self"] (fun fd => Fun K "__str__" "Board.__str__" s_Board_str ad.f_Board_str fd) (lift (gm K w ad) sp_Board_str) := by
  obtain ⟨fd, F⟩ := T.F_Board_str
  refine ⟨fd, okD (B := R_Board_str) F sc_Board_str (fun ds Q EX h => spOf_len h) (fun cdv A outer s H E hg hr => ?_) (fun ds Q EX h => spOf_pure l_Board_str h), F⟩
  have hg0 : (A.deeper (envOfC "Board.__str__" (defScope s_Board_str) s.heap.objs.size ad.f_Board_str cdv)).guards = some [] := hg
  have hx0 : PassX (cxOf (L2.CX P w) P w K mg base N_Board_str "Board.__str__" (defScope s_Board_str) ad.f_Board_str cdv A outer s H E) E := L2.passes_call (L2.takes_of rfl rfl rfl rfl) fun _ _ _ _ h => h
  exact (css_one (cs_ret (see (ce_join (see ce_str) (see (val (cf_lc (own := [("size", 1)]) sc_Board_str.nd (cie_any (see (ce_ix (hu1 hr) (see (ce_fld (c := 1) (i := 0) (ce_var 0) T.c_Board.cl T.n_Board_both (by rfl))) (see ce_int)))) (blk_mk (by rfl)) (fun _ _ _ _ _ => (pg_name (i := 1) sc_Board_str.nd rfl (by first | exact Or.inl rfl | exact Or.inr rfl))) (tg_var (i := 1)) (fun _ _ _ _ _ => cts_nil) (fun _ _ _ _ _ => (ce_callTy (cal_str2 hg0 (hu64 hr)) T.z_str (cab_cons (see (ce_var 1)) cab_nil))))))))))
theorem sc_Notes_str : FnScope N_Notes_str ["self"] (defScope s_Notes_str) := ⟨rfl, rfl, rfl, by decide +kernel, rfl, by decide +kernel, by decide +kernel⟩
theorem ok_Notes_str (T : Txt K w mg ad) : DefU P w (gm K w ad) mg base 4 ad.f_Notes_str ["self"] (fun fd => Fun K "__str__" "Notes.__str__" s_Notes_str ad.f_Notes_str fd) (lift (gm K w ad) sp_Notes_str) := by
  obtain ⟨fd_Board_str, F_Board_str, U_Board_str⟩ := ok_Board_str (P := P) (base := base) T
  have b_Board_str : Binds K fd_Board_str ["self"] [] := U_Board_str.binds (ps := ["self"]) fun _ _ _ _ _ _ us hl => match us, hl with | [_], _ => rfl
  obtain ⟨fd, F⟩ := T.F_Notes_str
  refine ⟨fd, okD (B := R_Notes_str) F sc_Notes_str (fun ds Q EX h => spOf_len h) (fun cdv A outer s H E hg hr => ?_) (fun ds Q EX h => spOf_pure l_Notes_str h), F⟩
  have hg0 : (A.deeper (envOfC "Notes.__str__" (defScope s_Notes_str) s.heap.objs.size ad.f_Notes_str cdv)).guards = some [] := hg
  have hx0 : PassX (cxOf (L2.CX P w) P w K mg base N_Notes_str "Notes.__str__" (defScope s_Notes_str) ad.f_Notes_str cdv A outer s H E) E := L2.passes_call (L2.takes_of rfl rfl rfl rfl) fun _ _ _ _ h => h
  exact (css_cons (cs_asg (vs := [1, 2]) (ce_fld (c := 3) (i := 0) (ce_var 0) T.c_Notes.cl T.n_Notes_both (by rfl)) (pg_tup (n := 2) rfl (pgs_cons (pg_name (i := 1) sc_Notes_str.nd rfl (by first | exact Or.inl rfl | exact Or.inr rfl)) (pgs_cons (pg_name (i := 2) sc_Notes_str.nd rfl (by first | exact Or.inl rfl | exact Or.inr rfl)) pgs_nil))) (tg_tup (tgs_cons (tg_var (i := 1)) (tgs_cons (tg_var (i := 2)) tgs_nil))))
    (css_cons (cs_lcV (i := 3) (own := [("worse", 4), ("better", 5)]) sc_Notes_str.nd (cie_any (see (ce_var 2))) (blk_mk (by rfl)) (fun _ _ _ _ _ => (pg_tup (n := 2) rfl (pgs_cons (pg_name (i := 4) sc_Notes_str.nd rfl (by first | exact Or.inl rfl | exact Or.inr rfl)) (pgs_cons (pg_name (i := 5) sc_Notes_str.nd rfl (by first | exact Or.inl rfl | exact Or.inr rfl)) pgs_nil)))) (tg_tup (tgs_cons (tg_var (i := 4)) (tgs_cons (tg_var (i := 5)) tgs_nil))) (fun _ _ _ _ _ => cts_nil) (fun _ _ _ _ _ => (ce_bin opl_add (see (ce_bin opl_add (see (ce_bin opl_add (see (ce_bin opl_add (see (ce_var 4)) (see ce_str))) (see (ce_gstr T.g_SIGN.choose_spec.1 T.g_SIGN.choose_spec.2)))) (see ce_str))) (see (ce_var 5)))))
    (css_one (cs_ret (see (ce_join (see ce_str) (see (val (cf_add (see (val (cf_lst (ca_cons (ce_bin opl_add (see (ce_bin opl_add (see (ce_gstr T.g_HEAD.choose_spec.1 T.g_HEAD.choose_spec.2)) (see ce_str))) (see (ce_callTy (cal_strO (c := 1) F_Board_str b_Board_str hg0 (hr.mono (by decide)) T.h_Board_str.at_ T.h_Board_str.fn) T.z_str (cab_cons (see (ce_var 1)) cab_nil)))) ca_nil)))) (see (ce_var 3)))))))))))
theorem sc_Notes_board : FnScope N_Notes_board ["self"] (defScope s_Notes_board) := ⟨rfl, rfl, rfl, by decide +kernel, rfl, by decide +kernel, by decide +kernel⟩
theorem ok_Notes_board (T : Txt K w mg ad) : DefU P w (gm K w ad) mg base 1 ad.f_Notes_board ["self"] (fun fd => Fun K "board" "Notes.board" s_Notes_board ad.f_Notes_board fd) (lift (gm K w ad) sp_Notes_board) := by
  obtain ⟨fd, F⟩ := T.F_Notes_board
  refine ⟨fd, okD (B := R_Notes_board) F sc_Notes_board (fun ds Q EX h => spOf_len h) (fun cdv A outer s H E hg hr => ?_) (fun ds Q EX h => spOf_pure l_Notes_board h), F⟩
  have hg0 : (A.deeper (envOfC "Notes.board" (defScope s_Notes_board) s.heap.objs.size ad.f_Notes_board cdv)).guards = some [] := hg
  have hx0 : PassX (cxOf (L2.CX P w) P w K mg base N_Notes_board "Notes.board" (defScope s_Notes_board) ad.f_Notes_board cdv A outer s H E) E := L2.passes_call (L2.takes_of rfl rfl rfl rfl) fun _ _ _ _ h => h
  exact (css_one (cs_ret (see (ce_ix (hu1 hr) (see (ce_fld (c := 3) (i := 0) (ce_var 0) T.c_Notes.cl T.n_Notes_both (by rfl))) (see ce_int)))))
theorem sc_Notes_facts : FnScope N_Notes_facts ["self"] (defScope s_Notes_facts) := ⟨rfl, rfl, rfl, by decide +kernel, rfl, by decide +kernel, by decide +kernel⟩
theorem ok_Notes_facts (T : Txt K w mg ad) : DefU P w (gm K w ad) mg base 1 ad.f_Notes_facts ["self"] (fun fd => Fun K "facts" "Notes.facts" s_Notes_facts ad.f_Notes_facts fd) (lift (gm K w ad) sp_Notes_facts) := by
  obtain ⟨fd, F⟩ := T.F_Notes_facts
  refine ⟨fd, okD (B := R_Notes_facts) F sc_Notes_facts (fun ds Q EX h => spOf_len h) (fun cdv A outer s H E hg hr => ?_) (fun ds Q EX h => spOf_pure l_Notes_facts h), F⟩
  have hg0 : (A.deeper (envOfC "Notes.facts" (defScope s_Notes_facts) s.heap.objs.size ad.f_Notes_facts cdv)).guards = some [] := hg
  have hx0 : PassX (cxOf (L2.CX P w) P w K mg base N_Notes_facts "Notes.facts" (defScope s_Notes_facts) ad.f_Notes_facts cdv A outer s H E) E := L2.passes_call (L2.takes_of rfl rfl rfl rfl) fun _ _ _ _ h => h
  exact (css_one (cs_ret (see (ce_ix (hu1 hr) (see (ce_fld (c := 3) (i := 0) (ce_var 0) T.c_Notes.cl T.n_Notes_both (by rfl))) (see ce_int)))))
theorem sc_Notes_len : FnScope N_Notes_len ["self"] (defScope s_Notes_len) := ⟨rfl, rfl, rfl, by decide +kernel, rfl, by decide +kernel, by decide +kernel⟩
theorem ok_Notes_len (T : Txt K w mg ad) : DefU P w (gm K w ad) mg base 1 ad.f_Notes_len ["self"] (fun fd => Fun K "__len__" "Notes.__len__" s_Notes_len ad.f_Notes_len fd) (lift (gm K w ad) sp_Notes_len) := by
  obtain ⟨fd, F⟩ := T.F_Notes_len
  refine ⟨fd, okD (B := R_Notes_len) F sc_Notes_len (fun ds Q EX h => spOf_len h) (fun cdv A outer s H E hg hr => ?_) (fun ds Q EX h => spOf_pure l_Notes_len h), F⟩
  have hg0 : (A.deeper (envOfC "Notes.__len__" (defScope s_Notes_len) s.heap.objs.size ad.f_Notes_len cdv)).guards = some [] := hg
  have hx0 : PassX (cxOf (L2.CX P w) P w K mg base N_Notes_len "Notes.__len__" (defScope s_Notes_len) ad.f_Notes_len cdv A outer s H E) E := L2.passes_call (L2.takes_of rfl rfl rfl rfl) fun _ _ _ _ h => h
  exact (css_one (cs_ret (see (ce_callB cal_len T.z_len (cab_cons (see (ce_ix (hu1 hr) (see (ce_fld (c := 3) (i := 0) (ce_var 0) T.c_Notes.cl T.n_Notes_both (by rfl))) (see ce_int))) cab_nil)))))
theorem sc_Notes_bool : FnScope N_Notes_bool ["self"] (defScope s_Notes_bool) := ⟨rfl, rfl, rfl, by decide +kernel, rfl, by decide +kernel, by decide +kernel⟩
theorem ok_Notes_bool (T : Txt K w mg ad) : DefU P w (gm K w ad) mg base 1 ad.f_Notes_bool ["self"] (fun fd => Fun K "__bool__" "Notes.__bool__" s_Notes_bool ad.f_Notes_bool fd) (lift (gm K w ad) sp_Notes_bool) := by
  obtain ⟨fd, F⟩ := T.F_Notes_bool
  refine ⟨fd, okD (B := R_Notes_bool) F sc_Notes_bool (fun ds Q EX h => spOf_len h) (fun cdv A outer s H E hg hr => ?_) (fun ds Q EX h => spOf_pure l_Notes_bool h), F⟩
  have hg0 : (A.deeper (envOfC "Notes.__bool__" (defScope s_Notes_bool) s.heap.objs.size ad.f_Notes_bool cdv)).guards = some [] := hg
  have hx0 : PassX (cxOf (L2.CX P w) P w K mg base N_Notes_bool "Notes.__bool__" (defScope s_Notes_bool) ad.f_Notes_bool cdv A outer s H E) E := L2.passes_call (L2.takes_of rfl rfl rfl rfl) fun _ _ _ _ h => h
  exact (css_one (cs_ret (see ce_bl)))
theorem sc_law_shows : FnScope N_law_shows ["mine", "spans", "pairs_here"] (defScope s_law_shows) := ⟨rfl, rfl, rfl, by decide +kernel, rfl, by decide +kernel, by decide +kernel⟩
theorem ok_law_shows (T : Txt K w mg ad) : DefU P w (gm K w ad) mg base 7 ad.f_law_shows ["mine", "spans", "pairs_here"] (fun fd => Fun K "_law_shows" "_law_shows" s_law_shows ad.f_law_shows fd) (lift (gm K w ad) sp_law_shows) := by
  obtain ⟨fd_Board_str, F_Board_str, U_Board_str⟩ := ok_Board_str (P := P) (base := base) T
  have b_Board_str : Binds K fd_Board_str ["self"] [] := U_Board_str.binds (ps := ["self"]) fun _ _ _ _ _ _ us hl => match us, hl with | [_], _ => rfl
  obtain ⟨fd_Notes_board, F_Notes_board, U_Notes_board⟩ := ok_Notes_board (P := P) (base := base) T
  have b_Notes_board : Binds K fd_Notes_board ["self"] [] := U_Notes_board.binds (ps := ["self"]) fun _ _ _ _ _ _ us hl => match us, hl with | [_], _ => rfl
  obtain ⟨fd_Notes_facts, F_Notes_facts, U_Notes_facts⟩ := ok_Notes_facts (P := P) (base := base) T
  have b_Notes_facts : Binds K fd_Notes_facts ["self"] [] := U_Notes_facts.binds (ps := ["self"]) fun _ _ _ _ _ _ us hl => match us, hl with | [_], _ => rfl
  obtain ⟨fd_Notes_len, F_Notes_len, U_Notes_len⟩ := ok_Notes_len (P := P) (base := base) T
  have b_Notes_len : Binds K fd_Notes_len ["self"] [] := U_Notes_len.binds (ps := ["self"]) fun _ _ _ _ _ _ us hl => match us, hl with | [_], _ => rfl
  obtain ⟨fd_Notes_str, F_Notes_str, U_Notes_str⟩ := ok_Notes_str (P := P) (base := base) T
  have b_Notes_str : Binds K fd_Notes_str ["self"] [] := U_Notes_str.binds (ps := ["self"]) fun _ _ _ _ _ _ us hl => match us, hl with | [_], _ => rfl
  obtain ⟨fd_Notes_bool, F_Notes_bool, U_Notes_bool⟩ := ok_Notes_bool (P := P) (base := base) T
  have b_Notes_bool : Binds K fd_Notes_bool ["self"] [] := U_Notes_bool.binds (ps := ["self"]) fun _ _ _ _ _ _ us hl => match us, hl with | [_], _ => rfl
  obtain ⟨fd_law_page, F_law_page, U_law_page⟩ := ok_law_page (P := P) (base := base) T
  have b_law_page : Binds K fd_law_page ["spans", "pairs_here"] [] := U_law_page.binds (ps := ["spans", "pairs_here"]) fun _ _ _ _ _ _ us hl => match us, hl with | [_, _], _ => rfl
  obtain ⟨fd_Board_init, F_Board_init, U_Board_init⟩ := ok_Board_init (P := P) (base := base) T
  have b_Board_init : Binds K fd_Board_init ["self", "sizes"] [] := U_Board_init.binds (ps := ["self", "sizes"]) fun _ _ _ _ _ _ us hl => match us, hl with | [_, _], _ => rfl
  obtain ⟨fd, F⟩ := T.F_law_shows
  refine ⟨fd, okD (B := R_law_shows) F sc_law_shows (fun ds Q EX h => spOf_len h) (fun cdv A outer s H E hg hr => ?_) (fun ds Q EX h => spOf_pure l_law_shows h), F⟩
  have hg0 : (A.deeper (envOfC "_law_shows" (defScope s_law_shows) s.heap.objs.size ad.f_law_shows cdv)).guards = some [] := hg
  have hx0 : PassX (cxOf (L2.CX P w) P w K mg base N_law_shows "_law_shows" (defScope s_law_shows) ad.f_law_shows cdv A outer s H E) E := L2.passes_call (L2.takes_of rfl rfl rfl rfl) fun _ _ _ _ h => h
  exact (css_cons (cs_set (i := 3) (val (cf_lst (ca_cons (ce_callTy (cal_strO (c := 1) F_Board_str b_Board_str hg0 (hr.mono (by decide)) T.h_Board_str.at_ T.h_Board_str.fn) T.z_str (cab_cons (see (ce_prop (c := 3) (ce_var 0) T.c_Notes.cl T.p_Notes_board F_Notes_board b_Notes_board hg0 (hr.mono (by decide)))) cab_nil)) (ca_cons (ce_prop (c := 3) (ce_var 0) T.c_Notes.cl T.p_Notes_facts F_Notes_facts b_Notes_facts hg0 (hr.mono (by decide))) (ca_cons (ce_callB (cal_lenO (c := 3) F_Notes_len b_Notes_len hg0 (hr.mono (by decide)) T.h_Notes_len.at_ T.h_Notes_len.fn) T.z_len (cab_cons (see (ce_var 0)) cab_nil)) (ca_cons (ce_callTy (cal_strO (c := 3) F_Notes_str b_Notes_str hg0 (hr.mono (by decide)) T.h_Notes_str.at_ T.h_Notes_str.fn) T.z_str (cab_cons (see (ce_var 0)) cab_nil)) (ca_cons (ce_callTy (cal_boolO (c := 3) F_Notes_bool b_Notes_bool hg0 (hr.mono (by decide)) T.h_Notes_bool.at_ T.h_Notes_bool.fn) T.z_bool (cab_cons (see (ce_var 0)) cab_nil)) ca_nil))))))) sc_law_shows.nd)
    (css_cons (cs_set (i := 4) (ce_call F_law_page T.m_law_page T.k_law_page b_law_page hg0 (hr.mono (by decide)) hx0 (ca_cons (ce_var 1) (ca_cons (ce_var 2) ca_nil))) sc_law_shows.nd)
    (css_one (cs_ret (see (ce_cmp (opl_eq (hu64 hr)) (see (ce_callB (cal_repr2 hg0 (hu64 hr)) T.z_repr (cab_cons (see (ce_var 3)) cab_nil))) (see (ce_callB (cal_repr2 hg0 (hu64 hr)) T.z_repr (cab_cons (see (val (cf_lst (ca_cons (ce_callTy (cal_strO (c := 1) F_Board_str b_Board_str hg0 (hr.mono (by decide)) T.h_Board_str.at_ T.h_Board_str.fn) T.z_str (cab_cons (see (ce_make (c := 1) T.mk_Board F_Board_init  T.g_Board b_Board_init hg0 (hr.mono (by decide)) hx0 (ca_cons (ce_var 1) ca_nil))) cab_nil)) (ca_cons (ce_var 2) (ca_cons (ce_callB cal_len T.z_len (cab_cons (see (ce_var 2)) cab_nil)) (ca_cons (ce_var 4) (ca_cons ce_bl ca_nil)))))))) cab_nil)))))))))
theorem sc_Board_sizes : FnScope N_Board_sizes ["self"] (defScope s_Board_sizes) := ⟨rfl, rfl, rfl, by decide +kernel, rfl, by decide +kernel, by decide +kernel⟩
theorem ok_Board_sizes (T : Txt K w mg ad) : DefU P w (gm K w ad) mg base 1 ad.f_Board_sizes ["self"] (fun fd => Fun K "sizes" "Board.sizes" s_Board_sizes ad.f_Board_sizes fd) (lift (gm K w ad) sp_Board_sizes) := by
  obtain ⟨fd, F⟩ := T.F_Board_sizes
  refine ⟨fd, okD (B := R_Board_sizes) F sc_Board_sizes (fun ds Q EX h => spOf_len h) (fun cdv A outer s H E hg hr => ?_) (fun ds Q EX h => spOf_pure l_Board_sizes h), F⟩
  have hg0 : (A.deeper (envOfC "Board.sizes" (defScope s_Board_sizes) s.heap.objs.size ad.f_Board_sizes cdv)).guards = some [] := hg
  have hx0 : PassX (cxOf (L2.CX P w) P w K mg base N_Board_sizes "Board.sizes" (defScope s_Board_sizes) ad.f_Board_sizes cdv A outer s H E) E := L2.passes_call (L2.takes_of rfl rfl rfl rfl) fun _ _ _ _ h => h
  exact (css_one (cs_ret (see (ce_ix (hu1 hr) (see (ce_fld (c := 1) (i := 0) (ce_var 0) T.c_Board.cl T.n_Board_both (by rfl))) (see ce_int)))))
theorem sc_Board_eq : FnScope N_Board_eq ["self", "other"] (defScope s_Board_eq) := ⟨rfl, rfl, rfl, by decide +kernel, rfl, by decide +kernel, by decide +kernel⟩
theorem ok_Board_eq (T : Txt K w mg ad) : DefU P w (gm K w ad) mg base 3 ad.f_Board_eq ["self", "other"] (fun fd => Fun K "__eq__" "Board.__eq__" s_Board_eq ad.f_Board_eq fd) (lift (gm K w ad) sp_Board_eq) := by
  obtain ⟨fd_Board_sizes, F_Board_sizes, U_Board_sizes⟩ := ok_Board_sizes (P := P) (base := base) T
  have b_Board_sizes : Binds K fd_Board_sizes ["self"] [] := U_Board_sizes.binds (ps := ["self"]) fun _ _ _ _ _ _ us hl => match us, hl with | [_], _ => rfl
  obtain ⟨fd, F⟩ := T.F_Board_eq
  refine ⟨fd, okD (B := R_Board_eq) F sc_Board_eq (fun ds Q EX h => spOf_len h) (fun cdv A outer s H E hg hr => ?_) (fun ds Q EX h => spOf_pure l_Board_eq h), F⟩
  have hg0 : (A.deeper (envOfC "Board.__eq__" (defScope s_Board_eq) s.heap.objs.size ad.f_Board_eq cdv)).guards = some [] := hg
  have hx0 : PassX (cxOf (L2.CX P w) P w K mg base N_Board_eq "Board.__eq__" (defScope s_Board_eq) ad.f_Board_eq cdv A outer s H E) E := L2.passes_call (L2.takes_of rfl rfl rfl rfl) fun _ _ _ _ h => h
  exact (css_one (cs_ret (see (ce_and (ce_isi (see (ce_var 1)) (by exact pe_glob (v := .ref ad.C_Board) (by rfl) T.g_Board (by rfl)) T.z_isinstance (.own _) T.isi_Board_c T.isi_Board_t) (ce_one (ce_cmp (opl_eq (hu64 hr)) (see (ce_prop (c := 1) (ce_var 0) T.c_Board.cl T.p_Board_sizes F_Board_sizes b_Board_sizes hg0 (hr.mono (by decide)))) (see (ce_prop (c := 1) (ce_var 1) T.c_Board.cl T.p_Board_sizes F_Board_sizes b_Board_sizes hg0 (hr.mono (by decide))))))))))
theorem sc_Notes_eq : FnScope N_Notes_eq ["self", "other"] (defScope s_Notes_eq) := ⟨rfl, rfl, rfl, by decide +kernel, rfl, by decide +kernel, by decide +kernel⟩
theorem ok_Notes_eq (T : Txt K w mg ad) : DefU P w (gm K w ad) mg base 6 ad.f_Notes_eq ["self", "other"] (fun fd => Fun K "__eq__" "Notes.__eq__" s_Notes_eq ad.f_Notes_eq fd) (lift (gm K w ad) sp_Notes_eq) := by
  obtain ⟨fd_Board_eq, F_Board_eq, U_Board_eq⟩ := ok_Board_eq (P := P) (base := base) T
  have b_Board_eq : Binds K fd_Board_eq ["self", "other"] [] := U_Board_eq.binds (ps := ["self", "other"]) fun _ _ _ _ _ _ us hl => match us, hl with | [_, _], _ => rfl
  obtain ⟨fd, F⟩ := T.F_Notes_eq
  refine ⟨fd, okD (B := R_Notes_eq) F sc_Notes_eq (fun ds Q EX h => spOf_len h) (fun cdv A outer s H E hg hr => ?_) (fun ds Q EX h => spOf_pure l_Notes_eq h), F⟩
  have hg0 : (A.deeper (envOfC "Notes.__eq__" (defScope s_Notes_eq) s.heap.objs.size ad.f_Notes_eq cdv)).guards = some [] := hg
  have hx0 : PassX (cxOf (L2.CX P w) P w K mg base N_Notes_eq "Notes.__eq__" (defScope s_Notes_eq) ad.f_Notes_eq cdv A outer s H E) E := L2.passes_call (L2.takes_of rfl rfl rfl rfl) fun _ _ _ _ h => h
  exact (css_one (cs_ret (see (ce_and (ce_isi (see (ce_var 1)) (by exact pe_glob (v := .ref ad.C_Notes) (by rfl) T.g_Notes (by rfl)) T.z_isinstance (.own _) T.isi_Notes_c T.isi_Notes_t) (ce_one (ce_cmp (opl_eqP (c := 1) F_Board_eq b_Board_eq hg0 (hr.mono (by decide)) T.h_Board_eq.at_ T.h_Board_eq.fn) (see (ce_fld (c := 3) (i := 0) (ce_var 0) T.c_Notes.cl T.n_Notes_both (by rfl))) (see (ce_fld (c := 3) (i := 0) (ce_var 1) T.c_Notes.cl T.n_Notes_both (by rfl)))))))))
theorem sc_law_right : FnScope N_law_right ["jar"] (defScope s_law_right) := ⟨rfl, rfl, rfl, by decide +kernel, rfl, by decide +kernel, by decide +kernel⟩
theorem ok_law_right (T : Txt K w mg ad) : DefU P w (gm K w ad) mg base 8 ad.f_law_right ["jar"] (fun fd => Fun K "_law_right" "_law_right" s_law_right ad.f_law_right fd) (lift (gm K w ad) sp_law_right) := by
  obtain ⟨fd_law_spans, F_law_spans, U_law_spans⟩ := ok_law_spans (P := P) (base := base) T
  have b_law_spans : Binds K fd_law_spans ["jar", "most"] [] := U_law_spans.binds (ps := ["jar", "most"]) fun _ _ _ _ _ _ us hl => match us, hl with | [_, _], _ => rfl
  obtain ⟨fd_law_line, F_law_line, U_law_line⟩ := ok_law_line (P := P) (base := base) T
  have b_law_line : Binds K fd_law_line ["jar", "spans"] [] := U_law_line.binds (ps := ["jar", "spans"]) fun _ _ _ _ _ _ us hl => match us, hl with | [_, _], _ => rfl
  obtain ⟨fd_law_seen, F_law_seen, U_law_seen⟩ := ok_law_seen (P := P) (base := base) T
  have b_law_seen : Binds K fd_law_seen ["jar", "spans", "line", "share"] [] := U_law_seen.binds (ps := ["jar", "spans", "line", "share"]) fun _ _ _ _ _ _ us hl => match us, hl with | [_, _, _, _], _ => rfl
  obtain ⟨fd_law_share, F_law_share, U_law_share⟩ := ok_law_share (P := P) (base := base) T
  have b_law_share : Binds K fd_law_share ["jar"] [] := U_law_share.binds (ps := ["jar"]) fun _ _ _ _ _ _ us hl => match us, hl with | [_], _ => rfl
  obtain ⟨fd_Notes_init, F_Notes_init, U_Notes_init⟩ := ok_Notes_init (P := P) (base := base) T
  obtain ⟨fd_Board_init, F_Board_init, U_Board_init⟩ := ok_Board_init (P := P) (base := base) T
  have b_Board_init : Binds K fd_Board_init ["self", "sizes"] [] := U_Board_init.binds (ps := ["self", "sizes"]) fun _ _ _ _ _ _ us hl => match us, hl with | [_, _], _ => rfl
  obtain ⟨fd_Notes_read, F_Notes_read, U_Notes_read⟩ := ok_Notes_read (P := P) (base := base) T
  have b_Notes_read : Binds K fd_Notes_read ["cls", "text"] [] := U_Notes_read.binds (ps := ["cls", "text"]) fun _ _ _ _ _ _ us hl => match us, hl with | [_, _], _ => rfl
  obtain ⟨fd_law_page, F_law_page, U_law_page⟩ := ok_law_page (P := P) (base := base) T
  have b_law_page : Binds K fd_law_page ["spans", "pairs_here"] [] := U_law_page.binds (ps := ["spans", "pairs_here"]) fun _ _ _ _ _ _ us hl => match us, hl with | [_, _], _ => rfl
  obtain ⟨fd_Notes_str, F_Notes_str, U_Notes_str⟩ := ok_Notes_str (P := P) (base := base) T
  have b_Notes_str : Binds K fd_Notes_str ["self"] [] := U_Notes_str.binds (ps := ["self"]) fun _ _ _ _ _ _ us hl => match us, hl with | [_], _ => rfl
  obtain ⟨fd_law_shows, F_law_shows, U_law_shows⟩ := ok_law_shows (P := P) (base := base) T
  have b_law_shows : Binds K fd_law_shows ["mine", "spans", "pairs_here"] [] := U_law_shows.binds (ps := ["mine", "spans", "pairs_here"]) fun _ _ _ _ _ _ us hl => match us, hl with | [_, _, _], _ => rfl
  obtain ⟨fd_Notes_eq, F_Notes_eq, U_Notes_eq⟩ := ok_Notes_eq (P := P) (base := base) T
  have b_Notes_eq : Binds K fd_Notes_eq ["self", "other"] [] := U_Notes_eq.binds (ps := ["self", "other"]) fun _ _ _ _ _ _ us hl => match us, hl with | [_, _], _ => rfl
  obtain ⟨fd_Notes_board, F_Notes_board, U_Notes_board⟩ := ok_Notes_board (P := P) (base := base) T
  have b_Notes_board : Binds K fd_Notes_board ["self"] [] := U_Notes_board.binds (ps := ["self"]) fun _ _ _ _ _ _ us hl => match us, hl with | [_], _ => rfl
  obtain ⟨fd_Board_eq, F_Board_eq, U_Board_eq⟩ := ok_Board_eq (P := P) (base := base) T
  have b_Board_eq : Binds K fd_Board_eq ["self", "other"] [] := U_Board_eq.binds (ps := ["self", "other"]) fun _ _ _ _ _ _ us hl => match us, hl with | [_, _], _ => rfl
  have bk_0 : BdK K fd_Notes_init ["self", "board", "facts"] 3 [] [.p 0, .p 1, .p 2] [(.tup [])] := bdk_dfl U_Notes_init (by simp) (fun _ hKG _ => (Reps.cons (T.e_Notes_init_0 _ hKG _) Reps.nil)) 3 [] [.p 0, .p 1, .p 2] fun T kV doc pm an cdv ct us ws its h1 h2 h3 => match us, ws, its, h1, h2, h3 with | [_, _, _], [], [_], _, _, _ => ⟨_, rfl, rfl⟩
  have bk_1 : BdK K fd_Notes_init ["self", "board", "facts"] 1 ["facts", "board"] [.p 0, .k 1, .k 0] [(.tup [])] := bdk_dfl U_Notes_init (by simp) (fun _ hKG _ => (Reps.cons (T.e_Notes_init_0 _ hKG _) Reps.nil)) 1 ["facts", "board"] [.p 0, .k 1, .k 0] fun T kV doc pm an cdv ct us ws its h1 h2 h3 => match us, ws, its, h1, h2, h3 with | [_], [_, _], [_], _, _, _ => ⟨_, rfl, rfl⟩
  have bk_2 : BdK K fd_Notes_read ["cls", "text"] 1 ["text"] [.p 0, .k 0] [] := bdk_of U_Notes_read 1 ["text"] [.p 0, .k 0] fun kV doc pm an cdv ct us ws h1 h2 => match us, ws, h1, h2 with | [_], [_], _, _ => rfl
  have bk_3 : BdK K fd_Notes_init ["self", "board", "facts"] 2 [] [.p 0, .p 1, .d 0] [(.tup [])] := bdk_dfl U_Notes_init (by simp) (fun _ hKG _ => (Reps.cons (T.e_Notes_init_0 _ hKG _) Reps.nil)) 2 [] [.p 0, .p 1, .d 0] fun T kV doc pm an cdv ct us ws its h1 h2 h3 => match us, ws, its, h1, h2, h3 with | [_, _], [], [_], _, _, _ => ⟨_, rfl, rfl⟩
  have bk_4 : BdK K fd_Notes_init ["self", "board", "facts"] 1 ["board"] [.p 0, .k 0, .d 0] [(.tup [])] := bdk_dfl U_Notes_init (by simp) (fun _ hKG _ => (Reps.cons (T.e_Notes_init_0 _ hKG _) Reps.nil)) 1 ["board"] [.p 0, .k 0, .d 0] fun T kV doc pm an cdv ct us ws its h1 h2 h3 => match us, ws, its, h1, h2, h3 with | [_], [_], [_], _, _, _ => ⟨_, rfl, rfl⟩
  obtain ⟨fd, F⟩ := T.F_law_right
  refine ⟨fd, okD (B := R_law_right) F sc_law_right len_law_right (fun cdv A outer s H E hg hr => ?_) pure_law_right, F⟩
  have hg0 : (A.deeper (envOfC "_law_right" (defScope s_law_right) s.heap.objs.size ad.f_law_right cdv)).guards = some [] := hg
  have hx0 : PassX (cxOf (L2.CX P w) P w K mg base N_law_right "_law_right" (defScope s_law_right) ad.f_law_right cdv A outer s H E) E := L2.passes_call (L2.takes_of rfl rfl rfl rfl) fun _ _ _ _ h => h
  exact (css_cons (cs_for (vs := [1]) (L2.passes_of rfl) (cis_rng1 T.z_range (ca_cons ce_int ca_nil)) (pg_name (i := 1) sc_law_right.nd rfl (by first | exact Or.inl rfl | exact Or.inr rfl)) (tg_var (i := 1))
      (css_cons (cs_set (i := 2) (ce_call F_law_spans T.m_law_spans T.k_law_spans b_law_spans hg0 (hr.mono (by decide)) hx0 (ca_cons (ce_var 0) (ca_cons ce_int ca_nil))) sc_law_right.nd)
    (css_cons (cs_set (i := 3) (ce_call F_law_line T.m_law_line T.k_law_line b_law_line hg0 (hr.mono (by decide)) hx0 (ca_cons (ce_var 0) (ca_cons (ce_var 2) ca_nil))) sc_law_right.nd)
    (css_cons (cs_asg (vs := [4, 5]) (val (cf_lc (own := [("k", 12)]) sc_law_right.nd (iE_of (cis_rng1 T.z_range (ca_cons ce_int ca_nil))) (blk_mk (by rfl)) (fun _ _ _ _ _ => (pg_name (i := 12) sc_law_right.nd rfl (by first | exact Or.inl rfl | exact Or.inr rfl))) (tg_var (i := 12)) (fun _ _ _ _ _ => cts_nil) (fun _ _ _ _ _ => (ce_call F_law_seen T.m_law_seen T.k_law_seen b_law_seen hg0 (hr.mono (by decide)) passL (ca_cons (ce_var 0) (ca_cons (ce_var 2) (ca_cons (ce_var 3) (ca_cons (ce_call F_law_share T.m_law_share T.k_law_share b_law_share hg0 (hr.mono (by decide)) passL (ca_cons (ce_var 0) ca_nil)) ca_nil)))))))) (pg_lst (n := 2) rfl (pgs_cons (pg_name (i := 4) sc_law_right.nd rfl (by first | exact Or.inl rfl | exact Or.inr rfl)) (pgs_cons (pg_name (i := 5) sc_law_right.nd rfl (by first | exact Or.inl rfl | exact Or.inr rfl)) pgs_nil))) (tg_lst (tgs_cons (tg_var (i := 4)) (tgs_cons (tg_var (i := 5)) tgs_nil))))
    (css_cons (cs_par (i := 6) (j := 7) (ca_cons (ce_makeK (c := 3) (ks := []) (sel := [.p 0, .p 1]) T.mk_Notes F_Notes_init T.g_Notes bk_0 hg0 (hr.mono (by decide)) hx0 (ck_pos (ca_cons (ce_make (c := 1) T.mk_Board F_Board_init  T.g_Board b_Board_init hg0 (hr.mono (by decide)) hx0 (ca_cons (ce_var 2) ca_nil)) (ca_cons (ce_var 4) ca_nil)))) (ca_cons (ce_makeK (c := 3) (ks := ["facts", "board"]) (sel := [.k 1, .k 0]) T.mk_Notes F_Notes_init T.g_Notes bk_1 hg0 (hr.mono (by decide)) hx0 (ck_kw0 (ck_cons (ce_var 4) (ck_cons (ce_make (c := 1) T.mk_Board F_Board_init  T.g_Board b_Board_init hg0 (hr.mono (by decide)) hx0 (ca_cons (ce_var 2) ca_nil)) ck_nil)))) ca_nil)) sc_law_right.nd)
    (css_cons (cs_set (i := 8) (ce_cmeth T.g_Notes T.cr_Notes T.cm_Notes_read F_Notes_read b_Notes_read hg0 (hr.mono (by decide)) hx0 (ca_cons (ce_call F_law_page T.m_law_page T.k_law_page b_law_page hg0 (hr.mono (by decide)) hx0 (ca_cons (ce_var 2) (ca_cons (ce_var 4) ca_nil))) ca_nil)) sc_law_right.nd)
    (css_cons (cs_if (ct_not (ct_val (ce_callB cal_all T.z_all (cab_cons (see (val (cf_lc (own := [("each", 13)]) sc_law_right.nd (cie_any (see (val (cf_lst (ca_cons (ce_var 6) (ca_cons (ce_var 7) (ca_cons (ce_var 8) (ca_cons (ce_cmethK (ks := ["text"]) (sel := [.k 0]) T.g_Notes T.cr_Notes T.cm_Notes_read F_Notes_read bk_2 hg0 (hr.mono (by decide)) hx0 (ck_cons (ce_callTy (cal_strO (c := 3) F_Notes_str b_Notes_str hg0 (hr.mono (by decide)) T.h_Notes_str.at_ T.h_Notes_str.fn) T.z_str (cab_cons (see (ce_var 6)) cab_nil)) ck_nil)) ca_nil)))))))) (blk_mk (by rfl)) (fun _ _ _ _ _ => (pg_name (i := 13) sc_law_right.nd rfl (by first | exact Or.inl rfl | exact Or.inr rfl))) (tg_var (i := 13)) (fun _ _ _ _ _ => cts_nil) (fun _ _ _ _ _ => (ce_call F_law_shows T.m_law_shows T.k_law_shows b_law_shows hg0 (hr.mono (by decide)) passL (ca_cons (ce_var 13) (ca_cons (ce_var 2) (ca_cons (ce_var 4) ca_nil)))))))) cab_nil)))) (css_one (cs_ret (see ce_bl))) css_nil)
    (css_cons (cs_for (vs := [9, 10]) (L2.passes_of rfl) (cis_any (val (cf_lst (ca_cons (ce_tup (ca_cons (ce_var 7) (ca_cons ce_bl ca_nil))) (ca_cons (ce_tup (ca_cons (ce_var 8) (ca_cons ce_bl ca_nil))) (ca_cons (ce_tup (ca_cons (ce_makeK (c := 3) (ks := []) (sel := [.p 0, .p 1]) T.mk_Notes F_Notes_init T.g_Notes bk_0 hg0 (hr.mono (by decide)) hx0 (ck_pos (ca_cons (ce_make (c := 1) T.mk_Board F_Board_init  T.g_Board b_Board_init hg0 (hr.mono (by decide)) hx0 (ca_cons (ce_var 2) ca_nil)) (ca_cons (ce_var 5) ca_nil)))) (ca_cons (ce_cmp (opl_eq (hu64 hr)) (see (ce_var 5)) (see (ce_var 4))) ca_nil))) ca_nil)))))) (pg_tup (n := 2) rfl (pgs_cons (pg_name (i := 9) sc_law_right.nd rfl (by first | exact Or.inl rfl | exact Or.inr rfl)) (pgs_cons (pg_name (i := 10) sc_law_right.nd rfl (by first | exact Or.inl rfl | exact Or.inr rfl)) pgs_nil))) (tg_tup (tgs_cons (tg_var (i := 9)) (tgs_cons (tg_var (i := 10)) tgs_nil)))
      (css_one (cs_if (ct_cmp (opl_ne (hu64 hr)) (see (ce_callB (cal_repr2 hg0 (hu64 hr)) T.z_repr (cab_cons (see (val (cf_lst (ca_cons (ce_cmp (opl_eqO (c := 3) F_Notes_eq b_Notes_eq hg0 (hr.mono (by decide)) T.h_Notes_eq.at_ T.h_Notes_eq.fn) (see (ce_var 6)) (see (ce_var 9))) (ca_cons (ce_cmp (opl_eqO (c := 3) F_Notes_eq b_Notes_eq hg0 (hr.mono (by decide)) T.h_Notes_eq.at_ T.h_Notes_eq.fn) (see (ce_var 9)) (see (ce_var 6))) (ca_cons (ce_cmp (opl_neO (c := 3) F_Notes_eq b_Notes_eq hg0 (hr.mono (by decide)) T.ne_Notes T.nm_Notes T.h_Notes_eq.at_ T.h_Notes_eq.fn) (see (ce_var 6)) (see (ce_var 9))) ca_nil)))))) cab_nil))) (see (ce_callB (cal_repr2 hg0 (hu64 hr)) T.z_repr (cab_cons (see (val (cf_lst (ca_cons (ce_var 10) (ca_cons (ce_var 10) (ca_cons (ce_not (ce_var 10)) ca_nil)))))) cab_nil)))) (css_one (cs_ret (see ce_bl))) css_nil)))
    (css_cons (cs_for (vs := [11]) (L2.passes_of rfl) (cis_any (val (cf_lst (ca_cons (ce_callTy (cal_strO (c := 3) F_Notes_str b_Notes_str hg0 (hr.mono (by decide)) T.h_Notes_str.at_ T.h_Notes_str.fn) T.z_str (cab_cons (see (ce_var 6)) cab_nil)) (ca_cons (ce_prop (c := 3) (ce_var 6) T.c_Notes.cl T.p_Notes_board F_Notes_board b_Notes_board hg0 (hr.mono (by decide))) (ca_cons (ce_var 4) (ca_cons ce_non (ca_cons ce_int (ca_cons (val (cf_lst ca_nil)) (ca_cons ce_emp (ca_cons (ce_tup (ca_cons (ce_var 6) ca_nil)) ca_nil))))))))))) (pg_name (i := 11) sc_law_right.nd rfl (by first | exact Or.inl rfl | exact Or.inr rfl)) (tg_var (i := 11))
      (css_one (cs_if (ct_cmp (opl_ne (hu64 hr)) (see (ce_callB (cal_repr2 hg0 (hu64 hr)) T.z_repr (cab_cons (see (val (cf_lst (ca_cons (ce_cmpV (opv_eqLW (c := 3) (cs := [1]) F_Notes_eq b_Notes_eq hg0 (hr.mono (by decide)) T.h_Notes_eq.at_ T.h_Notes_eq.fn T.sd_Notes (side_cons T.sx_Notes_Board side_nil)) (ce_var 6) (ce_var 11)) (ca_cons (ce_cmpV (opv_eqRW (c := 3) (c2 := 1) F_Notes_eq b_Notes_eq hg0 (hr.mono (by decide)) T.h_Notes_eq.at_ T.h_Notes_eq.fn T.off_Notes F_Board_eq b_Board_eq (hr.mono (by decide)) T.h_Board_eq.at_ T.h_Board_eq.fn T.sx_Board_Notes) (ce_var 11) (ce_var 6)) (ca_cons (ce_cmpV (opv_neLW (c := 3) (cs := [1]) F_Notes_eq b_Notes_eq hg0 (hr.mono (by decide)) T.ne_Notes T.nm_Notes T.h_Notes_eq.at_ T.h_Notes_eq.fn T.sd_Notes (side_cons T.sx_Notes_Board side_nil)) (ce_var 6) (ce_var 11)) ca_nil)))))) cab_nil))) (see ce_str)) (css_one (cs_ret (see ce_bl))) css_nil)))
    (css_one (cs_if (PW.pt (cw_or (ct_not (ct_val (ce_call F_law_shows T.m_law_shows T.k_law_shows b_law_shows hg0 (hr.mono (by decide)) hx0 (ca_cons (ce_makeK (c := 3) (ks := []) (sel := [.p 0, .d 0]) T.mk_Notes F_Notes_init T.g_Notes bk_3 hg0 (hr.mono (by decide)) hx0 (ck_pos (ca_cons (ce_make (c := 1) T.mk_Board F_Board_init  T.g_Board b_Board_init hg0 (hr.mono (by decide)) hx0 (ca_cons (ce_var 2) ca_nil)) ca_nil))) (ca_cons (ce_var 2) (ca_cons (ce_tup ca_nil) ca_nil)))))) (cw_or1 (ct_not (ct_val (ce_call F_law_shows T.m_law_shows T.k_law_shows b_law_shows hg0 (hr.mono (by decide)) hx0 (ca_cons (ce_makeK (c := 3) (ks := ["board"]) (sel := [.k 0, .d 0]) T.mk_Notes F_Notes_init T.g_Notes bk_4 hg0 (hr.mono (by decide)) hx0 (ck_kw0 (ck_cons (ce_make (c := 1) T.mk_Board F_Board_init  T.g_Board b_Board_init hg0 (hr.mono (by decide)) hx0 (ca_cons (ce_var 2) ca_nil)) ck_nil))) (ca_cons (ce_var 2) (ca_cons (ce_tup ca_nil) ca_nil))))))))) (css_one (cs_ret (see ce_bl))) css_nil)))))))))))
    (css_one (cs_ret (see ce_bl))))
theorem sc_law_jar : FnScope N_law_jar ["script", "k"] (defScope s_law_jar) := ⟨rfl, rfl, rfl, by decide +kernel, rfl, by decide +kernel, by decide +kernel⟩
theorem ok_law_jar (T : Txt K w mg ad) : DefU P w (gm K w ad) mg base 1 ad.f_law_jar ["script", "k"] (fun fd => Fun K "_law_jar" "_law_jar" s_law_jar ad.f_law_jar fd) (lift (gm K w ad) sp_law_jar) := by
  obtain ⟨fd, F⟩ := T.F_law_jar
  refine ⟨fd, okD (B := R_law_jar) F sc_law_jar len_law_jar (fun cdv A outer s H E hg hr => ?_) pure_law_jar, F⟩
  have hg0 : (A.deeper (envOfC "_law_jar" (defScope s_law_jar) s.heap.objs.size ad.f_law_jar cdv)).guards = some [] := hg
  have hx0 : PassX (cxOf (L2.CX P w) P w K mg base N_law_jar "_law_jar" (defScope s_law_jar) ad.f_law_jar cdv A outer s H E) E := L2.passes_call (L2.takes_of rfl rfl rfl rfl) fun _ _ _ _ h => h
  exact (css_cons (cs_set (i := 2) (ce_bin opl_add (see (ce_bin opl_mulA (see (ce_bin opl_mulA (see ce_int) (see (ce_bin opl_add (see (ce_var 1)) (see ce_int))))) (see (ce_bin opl_add (see (ce_var 1)) (see ce_int))))) (see (ce_bin opl_mulA (see ce_int) (see (ce_callB cal_len T.z_len (cab_cons (see (ce_var 0)) cab_nil)))))) sc_law_jar.nd)
    (css_cons (cs_for (vs := [3]) (L2.passes_of rfl) (cis_any (ce_slice (see (ce_var 0)) co_none (co_some ce_int))) (pg_name (i := 3) sc_law_jar.nd rfl (by first | exact Or.inl rfl | exact Or.inr rfl)) (tg_var (i := 3))
      (css_one (cs_set (i := 2) (ce_bin opl_mod (see (ce_callTy cal_int T.z_int (cab_cons (see (ce_bin opl_add (see (ce_bin opl_mulA (see (ce_var 2)) (see ce_int))) (see (ce_var 3)))) cab_nil))) (see ce_int)) sc_law_jar.nd)))
    (css_cons (cs_set (i := 4) (ce_if (ct_cmp opl_lt (see (ce_var 1)) (see (ce_callB cal_len T.z_len (cab_cons (see (ce_var 0)) cab_nil)))) (ce_ix (hu1 hr) (see (ce_var 0)) (see (ce_var 1))) ce_int) sc_law_jar.nd)
    (css_cons (cs_set (i := 5) (ce_if (PW.pt (cw_or (ct_cmp opl_lt (see (ce_var 4)) (see ce_int)) (cw_or1 (ct_cmp opl_ge (see (ce_var 4)) (see (ce_bin opl_pow (see ce_int) (see ce_int))))))) (ce_callB cal_abs T.z_abs (cab_cons (see (ce_var 4)) cab_nil)) ce_int) sc_law_jar.nd)
    (css_one (cs_retJar (cf_lst (ca_cons (ce_var 5) (ca_cons (ce_bin opl_mod (see (ce_callTy cal_int T.z_int (cab_cons (see (ce_bin opl_add (see (ce_bin opl_add (see (ce_bin opl_mulA (see (ce_var 2)) (see ce_int))) (see (ce_bin opl_mulA (see (ce_var 4)) (see ce_int))))) (see (ce_bin opl_mulA (see ce_int) (see (ce_bin opl_add (see (ce_var 1)) (see ce_int))))))) cab_nil))) (see ce_int)) (ca_cons ce_int ca_nil))))))))))
theorem sc_law : FnScope N_law ["script"] (defScope s_law) := ⟨rfl, rfl, rfl, by decide +kernel, rfl, by decide +kernel, by decide +kernel⟩
theorem ok_law (T : Txt K w mg ad) {fd : FuncData} (F : Fun K "law" "law" s_law ad.f_law fd) : FnG P w (gm K w ad).K mg base 9 ad.f_law fd ["script"] (lift (gm K w ad) sp_law) := by
  obtain ⟨fd_law_right, F_law_right, U_law_right⟩ := ok_law_right (P := P) (base := base) T
  have b_law_right : Binds K fd_law_right ["jar"] [] := U_law_right.binds (ps := ["jar"]) fun _ _ _ _ _ _ us hl => match us, hl with | [_], _ => rfl
  obtain ⟨fd_law_jar, F_law_jar, U_law_jar⟩ := ok_law_jar (P := P) (base := base) T
  have b_law_jar : Binds K fd_law_jar ["script", "k"] [] := U_law_jar.binds (ps := ["script", "k"]) fun _ _ _ _ _ _ us hl => match us, hl with | [_, _], _ => rfl
  refine okD (B := R_law) F sc_law len_law (fun cdv A outer s H E hg hr => ?_) pure_law
  have hg0 : (A.deeper (envOfC "law" (defScope s_law) s.heap.objs.size ad.f_law cdv)).guards = some [] := hg
  have hx0 : PassX (cxOf (L2.CX P w) P w K mg base N_law "law" (defScope s_law) ad.f_law cdv A outer s H E) E := L2.passes_call (L2.takes_of rfl rfl rfl rfl) fun _ _ _ _ h => h
  exact (css_cons (cs_for (vs := [1]) (L2.passes_of rfl) (cis_rng1 T.z_range (ca_cons (ce_callB cal_max2 T.z_max (cab_cons (see ce_int) (cab_cons (see (ce_callB cal_min2 T.z_min (cab_cons (see (ce_callB cal_len T.z_len (cab_cons (see (ce_var 0)) cab_nil))) (cab_cons (see ce_int) cab_nil)))) cab_nil))) ca_nil)) (pg_name (i := 1) sc_law.nd rfl (by first | exact Or.inl rfl | exact Or.inr rfl)) (tg_var (i := 1))
      (css_one (cs_if (ct_not (ct_val (ce_call F_law_right T.m_law_right T.k_law_right b_law_right hg0 (hr.mono (by decide)) hx0 (ca_cons (ce_call F_law_jar T.m_law_jar T.k_law_jar b_law_jar hg0 (hr.mono (by decide)) hx0 (ca_cons (ce_var 0) (ca_cons (ce_var 1) ca_nil))) ca_nil)))) (css_one (cs_ret (see ce_bl))) css_nil)))
    (css_one (cs_ret (see ce_bl))))
end
end K15
namespace K15
open PySem L2 DL PyProof.Rows
def v_f_law_dip (K : PySem.W.Frag) : Addr := He.ga K "_law_dip"
def v_f_law_pick (K : PySem.W.Frag) : Addr := He.ga K "_law_pick"
def v_f_law_spans (K : PySem.W.Frag) : Addr := He.ga K "_law_spans"
def v_f_law_all (K : PySem.W.Frag) : Addr := He.ga K "_law_all"
def v_f_law_line (K : PySem.W.Frag) : Addr := He.ga K "_law_line"
def v_f_law_near (K : PySem.W.Frag) : Addr := He.ga K "_law_near"
def v_f_law_seen (K : PySem.W.Frag) : Addr := He.ga K "_law_seen"
def v_f_law_share (K : PySem.W.Frag) : Addr := He.ga K "_law_share"
def v_f_check_board (K : PySem.W.Frag) : Addr := He.ga K "check_board"
def v_f_Board_contains (K : PySem.W.Frag) : Addr := He.ma K (He.ga K "Board") "__contains__"
def v_f_are_neighbours (K : PySem.W.Frag) : Addr := He.ga K "are_neighbours"
def v_f_is_fact (K : PySem.W.Frag) : Addr := He.ga K "is_fact"
def v_f_leads (K : PySem.W.Frag) : Addr := He.ga K "leads"
def v_f_is_let (K : PySem.W.Frag) : Addr := He.ga K "is_let"
def v_f_check_facts (K : PySem.W.Frag) : Addr := He.ga K "check_facts"
def v_f_Notes_init (K : PySem.W.Frag) : Addr := He.ma K (He.ga K "Notes") "__init__"
def v_E_Notes_init_0 (K : PySem.W.Frag) : Addr := He.dflAt ("Notes", some "__init__") 0 K
def v_f_is_within (K : PySem.W.Frag) : Addr := He.ga K "is_within"
def v_f_check_sizes (K : PySem.W.Frag) : Addr := He.ga K "check_sizes"
def v_f_settings_in (K : PySem.W.Frag) : Addr := He.ga K "settings_in"
def v_f_Board_init (K : PySem.W.Frag) : Addr := He.ma K (He.ga K "Board") "__init__"
def v_f_board_told (K : PySem.W.Frag) : Addr := He.ga K "board_told"
def v_f_notes_told (K : PySem.W.Frag) : Addr := He.ga K "notes_told"
def v_P_Notes_read (K : PySem.W.Frag) : Addr := He.ma K (He.ga K "Notes") "read"
def v_f_Notes_read (K : PySem.W.Frag) : Addr := He5.wf K (He.ga K "Notes") "classmethod" "read"
def v_f_law_page (K : PySem.W.Frag) : Addr := He.ga K "_law_page"
def v_f_Board_str (K : PySem.W.Frag) : Addr := He.ma K (He.ga K "Board") "__str__"
def v_f_Notes_str (K : PySem.W.Frag) : Addr := He.ma K (He.ga K "Notes") "__str__"
def v_P_Notes_board (K : PySem.W.Frag) : Addr := He.ma K (He.ga K "Notes") "board"
def v_f_Notes_board (K : PySem.W.Frag) : Addr := HdM.getF K (He.ma K (He.ga K "Notes") "board")
def v_P_Notes_facts (K : PySem.W.Frag) : Addr := He.ma K (He.ga K "Notes") "facts"
def v_f_Notes_facts (K : PySem.W.Frag) : Addr := HdM.getF K (He.ma K (He.ga K "Notes") "facts")
def v_f_Notes_len (K : PySem.W.Frag) : Addr := He.ma K (He.ga K "Notes") "__len__"
def v_f_Notes_bool (K : PySem.W.Frag) : Addr := He.ma K (He.ga K "Notes") "__bool__"
def v_f_law_shows (K : PySem.W.Frag) : Addr := He.ga K "_law_shows"
def v_P_Board_sizes (K : PySem.W.Frag) : Addr := He.ma K (He.ga K "Board") "sizes"
def v_f_Board_sizes (K : PySem.W.Frag) : Addr := HdM.getF K (He.ma K (He.ga K "Board") "sizes")
def v_f_Board_eq (K : PySem.W.Frag) : Addr := He.ma K (He.ga K "Board") "__eq__"
def v_f_Notes_eq (K : PySem.W.Frag) : Addr := He.ma K (He.ga K "Notes") "__eq__"
def v_f_law_right (K : PySem.W.Frag) : Addr := He.ga K "_law_right"
def v_f_law_jar (K : PySem.W.Frag) : Addr := He.ga K "_law_jar"
def v_f_law (K : PySem.W.Frag) : Addr := He.ga K "law"
def v_C_Board (K : PySem.W.Frag) : Addr := He.ga K "Board"
def v_C_Notes (K : PySem.W.Frag) : Addr := He.ga K "Notes"
def v_A_STANDS (K : PySem.W.Frag) : Addr := He.ga K "STANDS"
def v_A_DIGITS (K : PySem.W.Frag) : Addr := He.ga K "DIGITS"
def v_C_NotABoard (K : PySem.W.Frag) : Addr := He.ga K "NotABoard"
def v_i_NotABoard (K : PySem.W.Frag) : Addr := He.ma K (He.ga K "NotABoard") "__init__"
def v_C_InvalidFacts (K : PySem.W.Frag) : Addr := He.ga K "InvalidFacts"
def v_i_InvalidFacts (K : PySem.W.Frag) : Addr := He.ma K (He.ga K "InvalidFacts") "__init__"
def v_C_InvalidSizes (K : PySem.W.Frag) : Addr := He.ga K "InvalidSizes"
def v_i_InvalidSizes (K : PySem.W.Frag) : Addr := He.ma K (He.ga K "InvalidSizes") "__init__"
def v_C_InvalidText (K : PySem.W.Frag) : Addr := He.ga K "InvalidText"
def v_i_InvalidText (K : PySem.W.Frag) : Addr := He.ma K (He.ga K "InvalidText") "__init__"
theorem is_Board {c : Nat} {b : Bool} (h : isi_Board (.obj c) = some b) : c = 1 ∨ c = 3 := by revert h; unfold isi_Board; split <;> intro h <;> simp_all
theorem is_Notes {c : Nat} {b : Bool} (h : isi_Notes (.obj c) = some b) : c = 1 ∨ c = 3 := by revert h; unfold isi_Notes; split <;> intro h <;> simp_all
def m_law_dip : HdM.DfM := ⟨v_f_law_dip, "_law_dip", "_law_dip", defArgs s_law_dip, defBody s_law_dip, defScope s_law_dip, []⟩
def m_law_pick : HdM.DfM := ⟨v_f_law_pick, "_law_pick", "_law_pick", defArgs s_law_pick, defBody s_law_pick, defScope s_law_pick, []⟩
def m_law_spans : HdM.DfM := ⟨v_f_law_spans, "_law_spans", "_law_spans", defArgs s_law_spans, defBody s_law_spans, defScope s_law_spans, []⟩
def m_law_all : HdM.DfM := ⟨v_f_law_all, "_law_all", "_law_all", defArgs s_law_all, defBody s_law_all, defScope s_law_all, []⟩
def m_law_line : HdM.DfM := ⟨v_f_law_line, "_law_line", "_law_line", defArgs s_law_line, defBody s_law_line, defScope s_law_line, []⟩
def m_law_near : HdM.DfM := ⟨v_f_law_near, "_law_near", "_law_near", defArgs s_law_near, defBody s_law_near, defScope s_law_near, []⟩
def m_law_seen : HdM.DfM := ⟨v_f_law_seen, "_law_seen", "_law_seen", defArgs s_law_seen, defBody s_law_seen, defScope s_law_seen, []⟩
def m_law_share : HdM.DfM := ⟨v_f_law_share, "_law_share", "_law_share", defArgs s_law_share, defBody s_law_share, defScope s_law_share, []⟩
def m_check_board : HdM.DfM := ⟨v_f_check_board, "check_board", "check_board", defArgs s_check_board, defBody s_check_board, defScope s_check_board, []⟩
def m_Board_contains : HdM.DfM := ⟨v_f_Board_contains, "__contains__", "Board.__contains__", defArgs s_Board_contains, defBody s_Board_contains, defScope s_Board_contains, []⟩
def m_are_neighbours : HdM.DfM := ⟨v_f_are_neighbours, "are_neighbours", "are_neighbours", defArgs s_are_neighbours, defBody s_are_neighbours, defScope s_are_neighbours, []⟩
def m_is_fact : HdM.DfM := ⟨v_f_is_fact, "is_fact", "is_fact", defArgs s_is_fact, defBody s_is_fact, defScope s_is_fact, []⟩
def m_leads : HdM.DfM := ⟨v_f_leads, "leads", "leads", defArgs s_leads, defBody s_leads, defScope s_leads, []⟩
def m_is_let : HdM.DfM := ⟨v_f_is_let, "is_let", "is_let", defArgs s_is_let, defBody s_is_let, defScope s_is_let, []⟩
def m_check_facts : HdM.DfM := ⟨v_f_check_facts, "check_facts", "check_facts", defArgs s_check_facts, defBody s_check_facts, defScope s_check_facts, []⟩
def m_Notes_init : HdM.DfM := ⟨v_f_Notes_init, "__init__", "Notes.__init__", defArgs s_Notes_init, defBody s_Notes_init, defScope s_Notes_init, [.adr v_E_Notes_init_0]⟩
def m_is_within : HdM.DfM := ⟨v_f_is_within, "is_within", "is_within", defArgs s_is_within, defBody s_is_within, defScope s_is_within, []⟩
def m_check_sizes : HdM.DfM := ⟨v_f_check_sizes, "check_sizes", "check_sizes", defArgs s_check_sizes, defBody s_check_sizes, defScope s_check_sizes, []⟩
def m_settings_in : HdM.DfM := ⟨v_f_settings_in, "settings_in", "settings_in", defArgs s_settings_in, defBody s_settings_in, defScope s_settings_in, []⟩
def m_Board_init : HdM.DfM := ⟨v_f_Board_init, "__init__", "Board.__init__", defArgs s_Board_init, defBody s_Board_init, defScope s_Board_init, []⟩
def m_board_told : HdM.DfM := ⟨v_f_board_told, "board_told", "board_told", defArgs s_board_told, defBody s_board_told, defScope s_board_told, []⟩
def m_notes_told : HdM.DfM := ⟨v_f_notes_told, "notes_told", "notes_told", defArgs s_notes_told, defBody s_notes_told, defScope s_notes_told, []⟩
def m_Notes_read : HdM.DfM := ⟨v_f_Notes_read, "read", "Notes.read", defArgs s_Notes_read, defBody s_Notes_read, defScope s_Notes_read, []⟩
def m_law_page : HdM.DfM := ⟨v_f_law_page, "_law_page", "_law_page", defArgs s_law_page, defBody s_law_page, defScope s_law_page, []⟩
def m_Board_str : HdM.DfM := ⟨v_f_Board_str, "__str__", "Board.__str__", defArgs s_Board_str, defBody s_Board_str, defScope s_Board_str, []⟩
def m_Notes_str : HdM.DfM := ⟨v_f_Notes_str, "__str__", "Notes.__str__", defArgs s_Notes_str, defBody s_Notes_str, defScope s_Notes_str, []⟩
def m_Notes_board : HdM.DfM := ⟨v_f_Notes_board, "board", "Notes.board", defArgs s_Notes_board, defBody s_Notes_board, defScope s_Notes_board, []⟩
def m_Notes_facts : HdM.DfM := ⟨v_f_Notes_facts, "facts", "Notes.facts", defArgs s_Notes_facts, defBody s_Notes_facts, defScope s_Notes_facts, []⟩
def m_Notes_len : HdM.DfM := ⟨v_f_Notes_len, "__len__", "Notes.__len__", defArgs s_Notes_len, defBody s_Notes_len, defScope s_Notes_len, []⟩
def m_Notes_bool : HdM.DfM := ⟨v_f_Notes_bool, "__bool__", "Notes.__bool__", defArgs s_Notes_bool, defBody s_Notes_bool, defScope s_Notes_bool, []⟩
def m_law_shows : HdM.DfM := ⟨v_f_law_shows, "_law_shows", "_law_shows", defArgs s_law_shows, defBody s_law_shows, defScope s_law_shows, []⟩
def m_Board_sizes : HdM.DfM := ⟨v_f_Board_sizes, "sizes", "Board.sizes", defArgs s_Board_sizes, defBody s_Board_sizes, defScope s_Board_sizes, []⟩
def m_Board_eq : HdM.DfM := ⟨v_f_Board_eq, "__eq__", "Board.__eq__", defArgs s_Board_eq, defBody s_Board_eq, defScope s_Board_eq, []⟩
def m_Notes_eq : HdM.DfM := ⟨v_f_Notes_eq, "__eq__", "Notes.__eq__", defArgs s_Notes_eq, defBody s_Notes_eq, defScope s_Notes_eq, []⟩
def m_law_right : HdM.DfM := ⟨v_f_law_right, "_law_right", "_law_right", defArgs s_law_right, defBody s_law_right, defScope s_law_right, []⟩
def m_law_jar : HdM.DfM := ⟨v_f_law_jar, "_law_jar", "_law_jar", defArgs s_law_jar, defBody s_law_jar, defScope s_law_jar, []⟩
def m_law : HdM.DfM := ⟨v_f_law, "law", "law", defArgs s_law, defBody s_law, defScope s_law, []⟩
def m_x_NotABoard : HdM.DfM := ⟨v_i_NotABoard, "__init__", "NotABoard.__init__", defArgs (inClass (top 5) 0), defBody (inClass (top 5) 0), defScope (inClass (top 5) 0), []⟩
def m_x_InvalidFacts : HdM.DfM := ⟨v_i_InvalidFacts, "__init__", "InvalidFacts.__init__", defArgs (inClass (top 7) 0), defBody (inClass (top 7) 0), defScope (inClass (top 7) 0), []⟩
def m_x_InvalidSizes : HdM.DfM := ⟨v_i_InvalidSizes, "__init__", "InvalidSizes.__init__", defArgs (inClass (top 6) 0), defBody (inClass (top 6) 0), defScope (inClass (top 6) 0), []⟩
def m_x_InvalidText : HdM.DfM := ⟨v_i_InvalidText, "__init__", "InvalidText.__init__", defArgs (inClass (top 3) 0), defBody (inClass (top 3) 0), defScope (inClass (top 3) 0), []⟩
def q_0 : PySem.W.Frag → Bool := fun K => decide (PySem.W.nsIn K mainGlobals "_law_dip" = some (some (.ref (v_f_law_dip K))))
def q_1 : PySem.W.Frag → Bool := fun K => decide (PySem.W.keepIn K (.ref (v_f_law_dip K)) = true)
def q_2 : PySem.W.Frag → Bool := fun K => decide (PySem.W.nsIn K mainGlobals "_law_pick" = some (some (.ref (v_f_law_pick K))))
def q_3 : PySem.W.Frag → Bool := fun K => decide (PySem.W.keepIn K (.ref (v_f_law_pick K)) = true)
def q_4 : PySem.W.Frag → Bool := fun K => decide (PySem.W.nsIn K mainGlobals "_law_spans" = some (some (.ref (v_f_law_spans K))))
def q_5 : PySem.W.Frag → Bool := fun K => decide (PySem.W.keepIn K (.ref (v_f_law_spans K)) = true)
def q_6 : PySem.W.Frag → Bool := fun K => decide (PySem.W.nsIn K mainGlobals "_law_all" = some (some (.ref (v_f_law_all K))))
def q_7 : PySem.W.Frag → Bool := fun K => decide (PySem.W.keepIn K (.ref (v_f_law_all K)) = true)
def q_8 : PySem.W.Frag → Bool := fun K => decide (PySem.W.nsIn K mainGlobals "_law_line" = some (some (.ref (v_f_law_line K))))
def q_9 : PySem.W.Frag → Bool := fun K => decide (PySem.W.keepIn K (.ref (v_f_law_line K)) = true)
def q_10 : PySem.W.Frag → Bool := fun K => decide (PySem.W.nsIn K mainGlobals "_law_near" = some (some (.ref (v_f_law_near K))))
def q_11 : PySem.W.Frag → Bool := fun K => decide (PySem.W.keepIn K (.ref (v_f_law_near K)) = true)
def q_12 : PySem.W.Frag → Bool := fun K => decide (PySem.W.nsIn K mainGlobals "_law_seen" = some (some (.ref (v_f_law_seen K))))
def q_13 : PySem.W.Frag → Bool := fun K => decide (PySem.W.keepIn K (.ref (v_f_law_seen K)) = true)
def q_14 : PySem.W.Frag → Bool := fun K => decide (PySem.W.nsIn K mainGlobals "_law_share" = some (some (.ref (v_f_law_share K))))
def q_15 : PySem.W.Frag → Bool := fun K => decide (PySem.W.keepIn K (.ref (v_f_law_share K)) = true)
def q_16 : PySem.W.Frag → Bool := fun K => decide (PySem.W.nsIn K mainGlobals "check_board" = some (some (.ref (v_f_check_board K))))
def q_17 : PySem.W.Frag → Bool := fun K => decide (PySem.W.keepIn K (.ref (v_f_check_board K)) = true)
def q_18 : PySem.W.Frag → Bool := fun K => decide (PySem.W.findIn K (.ref (v_C_Board K)) "__contains__" = some (some (.ref (v_f_Board_contains K))))
def q_19 : PySem.W.Frag → Bool := fun K => decide (PySem.W.isFn K (.ref (v_f_Board_contains K)) = true)
def q_20 : PySem.W.Frag → Bool := fun K => decide (PySem.W.keepIn K (.ref (v_f_Board_contains K)) = true)
def q_21 : PySem.W.Frag → Bool := fun K => decide (PySem.W.nsIn K mainGlobals "are_neighbours" = some (some (.ref (v_f_are_neighbours K))))
def q_22 : PySem.W.Frag → Bool := fun K => decide (PySem.W.keepIn K (.ref (v_f_are_neighbours K)) = true)
def q_23 : PySem.W.Frag → Bool := fun K => decide (PySem.W.nsIn K mainGlobals "is_fact" = some (some (.ref (v_f_is_fact K))))
def q_24 : PySem.W.Frag → Bool := fun K => decide (PySem.W.keepIn K (.ref (v_f_is_fact K)) = true)
def q_25 : PySem.W.Frag → Bool := fun K => decide (PySem.W.nsIn K mainGlobals "leads" = some (some (.ref (v_f_leads K))))
def q_26 : PySem.W.Frag → Bool := fun K => decide (PySem.W.keepIn K (.ref (v_f_leads K)) = true)
def q_27 : PySem.W.Frag → Bool := fun K => decide (PySem.W.nsIn K mainGlobals "is_let" = some (some (.ref (v_f_is_let K))))
def q_28 : PySem.W.Frag → Bool := fun K => decide (PySem.W.keepIn K (.ref (v_f_is_let K)) = true)
def q_29 : PySem.W.Frag → Bool := fun K => decide (PySem.W.nsIn K mainGlobals "check_facts" = some (some (.ref (v_f_check_facts K))))
def q_30 : PySem.W.Frag → Bool := fun K => decide (PySem.W.keepIn K (.ref (v_f_check_facts K)) = true)
def q_31 : PySem.W.Frag → Bool := fun K => decide (PySem.W.findIn K (.ref (v_C_Notes K)) "__init__" = some (some (.ref (v_f_Notes_init K))))
def q_32 : PySem.W.Frag → Bool := fun K => decide (PySem.W.isFn K (.ref (v_f_Notes_init K)) = true)
def q_33 : PySem.W.Frag → Bool := fun K => HdM.unitB K (v_E_Notes_init_0 K)
def q_34 : PySem.W.Frag → Bool := fun K => decide (PySem.W.keepIn K (.ref (v_f_Notes_init K)) = true)
def q_35 : PySem.W.Frag → Bool := fun K => decide (PySem.W.nsIn K mainGlobals "is_within" = some (some (.ref (v_f_is_within K))))
def q_36 : PySem.W.Frag → Bool := fun K => decide (PySem.W.keepIn K (.ref (v_f_is_within K)) = true)
def q_37 : PySem.W.Frag → Bool := fun K => decide (PySem.W.nsIn K mainGlobals "check_sizes" = some (some (.ref (v_f_check_sizes K))))
def q_38 : PySem.W.Frag → Bool := fun K => decide (PySem.W.keepIn K (.ref (v_f_check_sizes K)) = true)
def q_39 : PySem.W.Frag → Bool := fun K => decide (PySem.W.nsIn K mainGlobals "settings_in" = some (some (.ref (v_f_settings_in K))))
def q_40 : PySem.W.Frag → Bool := fun K => decide (PySem.W.keepIn K (.ref (v_f_settings_in K)) = true)
def q_41 : PySem.W.Frag → Bool := fun K => decide (PySem.W.findIn K (.ref (v_C_Board K)) "__init__" = some (some (.ref (v_f_Board_init K))))
def q_42 : PySem.W.Frag → Bool := fun K => decide (PySem.W.isFn K (.ref (v_f_Board_init K)) = true)
def q_43 : PySem.W.Frag → Bool := fun K => decide (PySem.W.keepIn K (.ref (v_f_Board_init K)) = true)
def q_44 : PySem.W.Frag → Bool := fun K => decide (PySem.W.nsIn K mainGlobals "board_told" = some (some (.ref (v_f_board_told K))))
def q_45 : PySem.W.Frag → Bool := fun K => decide (PySem.W.keepIn K (.ref (v_f_board_told K)) = true)
def q_46 : PySem.W.Frag → Bool := fun K => decide (PySem.W.nsIn K mainGlobals "notes_told" = some (some (.ref (v_f_notes_told K))))
def q_47 : PySem.W.Frag → Bool := fun K => decide (PySem.W.keepIn K (.ref (v_f_notes_told K)) = true)
def q_48 : PySem.W.Frag → Bool := fun K => decide (He5.wrapB K (v_C_Notes K) "classmethod" "classmethod.__get__" "read" = true)
def q_49 : PySem.W.Frag → Bool := fun K => decide (PySem.W.fnIn K (v_f_Notes_read K) = true)
def q_50 : PySem.W.Frag → Bool := fun K => decide (PySem.W.keepIn K (.ref (v_f_Notes_read K)) = true)
def q_51 : PySem.W.Frag → Bool := fun K => decide (PySem.W.nsIn K mainGlobals "_law_page" = some (some (.ref (v_f_law_page K))))
def q_52 : PySem.W.Frag → Bool := fun K => decide (PySem.W.keepIn K (.ref (v_f_law_page K)) = true)
def q_53 : PySem.W.Frag → Bool := fun K => decide (PySem.W.findIn K (.ref (v_C_Board K)) "__str__" = some (some (.ref (v_f_Board_str K))))
def q_54 : PySem.W.Frag → Bool := fun K => decide (PySem.W.isFn K (.ref (v_f_Board_str K)) = true)
def q_55 : PySem.W.Frag → Bool := fun K => decide (PySem.W.keepIn K (.ref (v_f_Board_str K)) = true)
def q_56 : PySem.W.Frag → Bool := fun K => decide (PySem.W.findIn K (.ref (v_C_Notes K)) "__str__" = some (some (.ref (v_f_Notes_str K))))
def q_57 : PySem.W.Frag → Bool := fun K => decide (PySem.W.isFn K (.ref (v_f_Notes_str K)) = true)
def q_58 : PySem.W.Frag → Bool := fun K => decide (PySem.W.keepIn K (.ref (v_f_Notes_str K)) = true)
def q_59 : PySem.W.Frag → Bool := fun K => decide (PySem.W.findIn K (.ref (v_C_Notes K)) "board" = some (some (.ref (v_P_Notes_board K))))
def q_60 : PySem.W.Frag → Bool := fun K => HdM.getB K (v_P_Notes_board K)
def q_61 : PySem.W.Frag → Bool := fun K => decide (PySem.W.specialIn K (.ref (v_P_Notes_board K)) "__get__" = some (some (.builtin "property.__get__")))
def q_62 : PySem.W.Frag → Bool := fun K => decide (PySem.W.takesIn K (.ref (v_P_Notes_board K)) = some true)
def q_63 : PySem.W.Frag → Bool := fun K => decide (PySem.W.keepIn K (.ref (v_f_Notes_board K)) = true)
def q_64 : PySem.W.Frag → Bool := fun K => decide (PySem.W.findIn K (.ref (v_C_Notes K)) "facts" = some (some (.ref (v_P_Notes_facts K))))
def q_65 : PySem.W.Frag → Bool := fun K => HdM.getB K (v_P_Notes_facts K)
def q_66 : PySem.W.Frag → Bool := fun K => decide (PySem.W.specialIn K (.ref (v_P_Notes_facts K)) "__get__" = some (some (.builtin "property.__get__")))
def q_67 : PySem.W.Frag → Bool := fun K => decide (PySem.W.takesIn K (.ref (v_P_Notes_facts K)) = some true)
def q_68 : PySem.W.Frag → Bool := fun K => decide (PySem.W.keepIn K (.ref (v_f_Notes_facts K)) = true)
def q_69 : PySem.W.Frag → Bool := fun K => decide (PySem.W.findIn K (.ref (v_C_Notes K)) "__len__" = some (some (.ref (v_f_Notes_len K))))
def q_70 : PySem.W.Frag → Bool := fun K => decide (PySem.W.isFn K (.ref (v_f_Notes_len K)) = true)
def q_71 : PySem.W.Frag → Bool := fun K => decide (PySem.W.keepIn K (.ref (v_f_Notes_len K)) = true)
def q_72 : PySem.W.Frag → Bool := fun K => decide (PySem.W.findIn K (.ref (v_C_Notes K)) "__bool__" = some (some (.ref (v_f_Notes_bool K))))
def q_73 : PySem.W.Frag → Bool := fun K => decide (PySem.W.isFn K (.ref (v_f_Notes_bool K)) = true)
def q_74 : PySem.W.Frag → Bool := fun K => decide (PySem.W.keepIn K (.ref (v_f_Notes_bool K)) = true)
def q_75 : PySem.W.Frag → Bool := fun K => decide (PySem.W.nsIn K mainGlobals "_law_shows" = some (some (.ref (v_f_law_shows K))))
def q_76 : PySem.W.Frag → Bool := fun K => decide (PySem.W.keepIn K (.ref (v_f_law_shows K)) = true)
def q_77 : PySem.W.Frag → Bool := fun K => decide (PySem.W.findIn K (.ref (v_C_Board K)) "sizes" = some (some (.ref (v_P_Board_sizes K))))
def q_78 : PySem.W.Frag → Bool := fun K => HdM.getB K (v_P_Board_sizes K)
def q_79 : PySem.W.Frag → Bool := fun K => decide (PySem.W.specialIn K (.ref (v_P_Board_sizes K)) "__get__" = some (some (.builtin "property.__get__")))
def q_80 : PySem.W.Frag → Bool := fun K => decide (PySem.W.takesIn K (.ref (v_P_Board_sizes K)) = some true)
def q_81 : PySem.W.Frag → Bool := fun K => decide (PySem.W.keepIn K (.ref (v_f_Board_sizes K)) = true)
def q_82 : PySem.W.Frag → Bool := fun K => decide (PySem.W.findIn K (.ref (v_C_Board K)) "__eq__" = some (some (.ref (v_f_Board_eq K))))
def q_83 : PySem.W.Frag → Bool := fun K => decide (PySem.W.isFn K (.ref (v_f_Board_eq K)) = true)
def q_84 : PySem.W.Frag → Bool := fun K => decide (PySem.W.keepIn K (.ref (v_f_Board_eq K)) = true)
def q_85 : PySem.W.Frag → Bool := fun K => decide (PySem.W.findIn K (.ref (v_C_Notes K)) "__eq__" = some (some (.ref (v_f_Notes_eq K))))
def q_86 : PySem.W.Frag → Bool := fun K => decide (PySem.W.isFn K (.ref (v_f_Notes_eq K)) = true)
def q_87 : PySem.W.Frag → Bool := fun K => decide (PySem.W.keepIn K (.ref (v_f_Notes_eq K)) = true)
def q_88 : PySem.W.Frag → Bool := fun K => decide (PySem.W.nsIn K mainGlobals "_law_right" = some (some (.ref (v_f_law_right K))))
def q_89 : PySem.W.Frag → Bool := fun K => decide (PySem.W.keepIn K (.ref (v_f_law_right K)) = true)
def q_90 : PySem.W.Frag → Bool := fun K => decide (PySem.W.nsIn K mainGlobals "_law_jar" = some (some (.ref (v_f_law_jar K))))
def q_91 : PySem.W.Frag → Bool := fun K => decide (PySem.W.keepIn K (.ref (v_f_law_jar K)) = true)
def q_92 : PySem.W.Frag → Bool := fun K => decide (PySem.W.nsIn K mainGlobals "law" = some (some (.ref (v_f_law K))))
def q_93 : PySem.W.Frag → Bool := fun K => decide (PySem.W.keepIn K (.ref (v_f_law K)) = true)
def q_94 : PySem.W.Frag → Bool := fun K => decide (PySem.W.nsIn K mainGlobals "Board" = some (some (.ref (v_C_Board K))))
def q_95 : PySem.W.Frag → Bool := fun K => decide (PySem.W.nsIn K mainGlobals "Notes" = some (some (.ref (v_C_Notes K))))
def q_96 : PySem.W.Frag → Bool := fun K => decide (PySem.W.readsIn K (v_C_Notes K) (.type "type") = true)
def q_97 : PySem.W.Frag → Bool := fun K => decide (PySem.W.specialIn K (.ref (v_C_Notes K)) "__getattribute__" = some (some (.builtin "type.__getattribute__")))
def q_98 : PySem.W.Frag → Bool := fun K => decide (PySem.W.plainGet K (v_C_Board K) Str.empty = true)
def q_99 : PySem.W.Frag → Bool := fun K => decide (PySem.W.hasDictIn K (v_C_Board K) = true)
def q_100 : PySem.W.Frag → Bool := fun K => decide (PySem.W.plainOver K (v_C_Board K) = true)
def q_101 : PySem.W.Frag → Bool := fun K => decide (PySem.W.findIn K (.ref (v_C_Board K)) "__setattr__" = some (some (.builtin "object.__setattr__")))
def q_102 : PySem.W.Frag → Bool := fun K => decide (PySem.W.findIn K (.ref (v_C_Board K)) "__class__" = some (some (.builtin "object.__class__")))
def q_103 : PySem.W.Frag → Bool := fun K => decide (PySem.W.mroIn K (v_C_Board K) (.type "object") = some true)
def q_104 : PySem.W.Frag → Bool := fun K => decide (PySem.W.makesIn K (v_C_Board K) = true)
def q_105 : PySem.W.Frag → Bool := fun K => decide (PySem.W.notFirst K (v_C_Board K) (.ref (v_C_Notes K)) = true)
def q_106 : PySem.W.Frag → Bool := fun K => decide (PySem.W.keepIn K (.ref (v_C_Board K)) = true)
def q_107 : PySem.W.Frag → Bool := fun K => decide (PySem.W.findIn K (.ref (v_C_Board K)) "both" = some none)
def q_108 : PySem.W.Frag → Bool := fun K => decide (PySem.W.plainGet K (v_C_Notes K) Str.empty = true)
def q_109 : PySem.W.Frag → Bool := fun K => decide (PySem.W.hasDictIn K (v_C_Notes K) = true)
def q_110 : PySem.W.Frag → Bool := fun K => decide (PySem.W.plainOver K (v_C_Notes K) = true)
def q_111 : PySem.W.Frag → Bool := fun K => decide (PySem.W.findIn K (.ref (v_C_Notes K)) "__setattr__" = some (some (.builtin "object.__setattr__")))
def q_112 : PySem.W.Frag → Bool := fun K => decide (PySem.W.findIn K (.ref (v_C_Notes K)) "__class__" = some (some (.builtin "object.__class__")))
def q_113 : PySem.W.Frag → Bool := fun K => decide (PySem.W.mroIn K (v_C_Notes K) (.type "object") = some true)
def q_114 : PySem.W.Frag → Bool := fun K => decide (PySem.W.makesIn K (v_C_Notes K) = true)
def q_115 : PySem.W.Frag → Bool := fun K => decide (PySem.W.findIn K (.ref (v_C_Notes K)) "__ne__" = some (some (.builtin "object.__ne__")))
def q_116 : PySem.W.Frag → Bool := fun K => decide (PySem.W.notFirst K (v_C_Notes K) (.type "str") = true)
def q_117 : PySem.W.Frag → Bool := fun K => decide (PySem.W.subIn K (.ref (v_C_Notes K)) (.type "str") = some false)
def q_118 : PySem.W.Frag → Bool := fun K => decide (PySem.W.notFirst K (v_C_Notes K) (.type "int") = true)
def q_119 : PySem.W.Frag → Bool := fun K => decide (PySem.W.subIn K (.ref (v_C_Notes K)) (.type "int") = some false)
def q_120 : PySem.W.Frag → Bool := fun K => decide (PySem.W.notFirst K (v_C_Notes K) (.type "NoneType") = true)
def q_121 : PySem.W.Frag → Bool := fun K => decide (PySem.W.subIn K (.ref (v_C_Notes K)) (.type "NoneType") = some false)
def q_122 : PySem.W.Frag → Bool := fun K => decide (PySem.W.notFirst K (v_C_Notes K) (.type "tuple") = true)
def q_123 : PySem.W.Frag → Bool := fun K => decide (PySem.W.subIn K (.ref (v_C_Notes K)) (.type "tuple") = some false)
def q_124 : PySem.W.Frag → Bool := fun K => decide (PySem.W.notFirst K (v_C_Notes K) (.type "list") = true)
def q_125 : PySem.W.Frag → Bool := fun K => decide (PySem.W.subIn K (.ref (v_C_Notes K)) (.type "list") = some false)
def q_126 : PySem.W.Frag → Bool := fun K => decide (PySem.W.notFirst K (v_C_Notes K) (.type "dict") = true)
def q_127 : PySem.W.Frag → Bool := fun K => decide (PySem.W.subIn K (.ref (v_C_Notes K)) (.type "dict") = some false)
def q_128 : PySem.W.Frag → Bool := fun K => decide (PySem.W.notFirst K (v_C_Notes K) (.ref (v_C_Board K)) = true)
def q_129 : PySem.W.Frag → Bool := fun K => decide (PySem.W.keepIn K (.ref (v_C_Notes K)) = true)
def q_130 : PySem.W.Frag → Bool := fun K => decide (PySem.W.findIn K (.ref (v_C_Notes K)) "both" = some none)
def q_131 : PySem.W.Frag → Bool := fun K => decide (PySem.W.specialIn K (.builtin "object.__class__") "__get__" = some (some (.builtin "getset_descriptor.__get__")))
def q_132 : PySem.W.Frag → Bool := fun K => decide (PySem.W.takesIn K (.builtin "object.__class__") = some true)
def q_133 : PySem.W.Frag → Bool := fun K => decide (PySem.W.nsIn K mainGlobals "DIGITS" = some (some (.ref (v_A_DIGITS K))))
def q_134 : PySem.W.Frag → Bool := fun K => HdM.dicB K (v_A_DIGITS K) (([.inr "2", .inr "3"] : List Key).zip ([.int 2, .int 3] : List V))
def q_135 : PySem.W.Frag → Bool := fun K => HdM.strB K "HEAD" "board"
def q_136 : PySem.W.Frag → Bool := fun K => HdM.intB K "MOST_SETTINGS" 48
def q_137 : PySem.W.Frag → Bool := fun K => HdM.intB K "MOST_SWITCHES" 5
def q_138 : PySem.W.Frag → Bool := fun K => HdM.strB K "SIGN" "<"
def q_139 : PySem.W.Frag → Bool := fun K => decide (PySem.W.nsIn K mainGlobals "STANDS" = some (some (.ref (v_A_STANDS K))))
def q_140 : PySem.W.Frag → Bool := fun K => HdM.dicB K (v_A_STANDS K) (([.inl 2, .inl 3] : List Key).zip ([.str "01", .str "012"] : List V))
def q_141 : PySem.W.Frag → Bool := fun K => decide (PySem.W.kitOne K (.type "NoneType") (.ref (v_C_Board K)) = some false)
def q_142 : PySem.W.Frag → Bool := fun K => decide (PySem.W.kitOne K (.type "bool") (.ref (v_C_Board K)) = some false)
def q_143 : PySem.W.Frag → Bool := fun K => decide (PySem.W.kitOne K (.type "int") (.ref (v_C_Board K)) = some false)
def q_144 : PySem.W.Frag → Bool := fun K => decide (PySem.W.kitOne K (.type "str") (.ref (v_C_Board K)) = some false)
def q_145 : PySem.W.Frag → Bool := fun K => decide (PySem.W.kitOne K (.type "tuple") (.ref (v_C_Board K)) = some false)
def q_146 : PySem.W.Frag → Bool := fun K => decide (PySem.W.kitOne K (.type "list") (.ref (v_C_Board K)) = some false)
def q_147 : PySem.W.Frag → Bool := fun K => decide (PySem.W.kitOne K (.type "dict") (.ref (v_C_Board K)) = some false)
def q_148 : PySem.W.Frag → Bool := fun K => decide (PySem.W.kitOne K (.ref (v_C_Board K)) (.ref (v_C_Board K)) = some true)
def q_149 : PySem.W.Frag → Bool := fun K => decide (PySem.W.kitOne K (.ref (v_C_Notes K)) (.ref (v_C_Board K)) = some false)
def q_150 : PySem.W.Frag → Bool := fun K => decide (PySem.W.kitOne K (.type "NoneType") (.ref (v_C_Notes K)) = some false)
def q_151 : PySem.W.Frag → Bool := fun K => decide (PySem.W.kitOne K (.type "bool") (.ref (v_C_Notes K)) = some false)
def q_152 : PySem.W.Frag → Bool := fun K => decide (PySem.W.kitOne K (.type "int") (.ref (v_C_Notes K)) = some false)
def q_153 : PySem.W.Frag → Bool := fun K => decide (PySem.W.kitOne K (.type "str") (.ref (v_C_Notes K)) = some false)
def q_154 : PySem.W.Frag → Bool := fun K => decide (PySem.W.kitOne K (.type "tuple") (.ref (v_C_Notes K)) = some false)
def q_155 : PySem.W.Frag → Bool := fun K => decide (PySem.W.kitOne K (.type "list") (.ref (v_C_Notes K)) = some false)
def q_156 : PySem.W.Frag → Bool := fun K => decide (PySem.W.kitOne K (.type "dict") (.ref (v_C_Notes K)) = some false)
def q_157 : PySem.W.Frag → Bool := fun K => decide (PySem.W.kitOne K (.ref (v_C_Board K)) (.ref (v_C_Notes K)) = some false)
def q_158 : PySem.W.Frag → Bool := fun K => decide (PySem.W.kitOne K (.ref (v_C_Notes K)) (.ref (v_C_Notes K)) = some true)
def q_159 : PySem.W.Frag → Bool := fun K => decide (PySem.W.nsIn K mainGlobals "abs" = some none)
def q_160 : PySem.W.Frag → Bool := fun K => decide (PySem.W.nsIn K mainGlobals "all" = some none)
def q_161 : PySem.W.Frag → Bool := fun K => decide (PySem.W.nsIn K mainGlobals "bool" = some none)
def q_162 : PySem.W.Frag → Bool := fun K => decide (PySem.W.nsIn K mainGlobals "int" = some none)
def q_163 : PySem.W.Frag → Bool := fun K => decide (PySem.W.nsIn K mainGlobals "isinstance" = some none)
def q_164 : PySem.W.Frag → Bool := fun K => decide (PySem.W.nsIn K mainGlobals "len" = some none)
def q_165 : PySem.W.Frag → Bool := fun K => decide (PySem.W.nsIn K mainGlobals "max" = some none)
def q_166 : PySem.W.Frag → Bool := fun K => decide (PySem.W.nsIn K mainGlobals "min" = some none)
def q_167 : PySem.W.Frag → Bool := fun K => decide (PySem.W.nsIn K mainGlobals "range" = some none)
def q_168 : PySem.W.Frag → Bool := fun K => decide (PySem.W.nsIn K mainGlobals "repr" = some none)
def q_169 : PySem.W.Frag → Bool := fun K => decide (PySem.W.nsIn K mainGlobals "str" = some none)
def q_170 : PySem.W.Frag → Bool := fun K => decide (PySem.W.nsIn K mainGlobals "tuple" = some none)
def q_171 : PySem.W.Frag → Bool := fun K => decide (PySem.W.nsIn K mainGlobals "NotABoard" = some (some (.ref (v_C_NotABoard K))))
def q_172 : PySem.W.Frag → Bool := fun K => decide (PySem.W.excInitIn K (v_C_NotABoard K) [.type "ValueError", .type "Exception", .type "BaseException", .type "object"] "ValueError.__new__" = true)
def q_173 : PySem.W.Frag → Bool := fun K => decide (PySem.W.hasDictIn K (v_C_NotABoard K) = true)
def q_174 : PySem.W.Frag → Bool := fun K => decide (PySem.W.findIn K (.ref (v_C_NotABoard K)) "__setattr__" = some (some (.builtin "object.__setattr__")))
def q_175 : PySem.W.Frag → Bool := fun K => decide (PySem.W.takerIn K (v_C_NotABoard K) "given" = some none)
def q_176 : PySem.W.Frag → Bool := fun K => decide (PySem.W.findIn K (.ref (v_C_NotABoard K)) "__init__" = some (some (.ref (v_i_NotABoard K))))
def q_177 : PySem.W.Frag → Bool := fun K => decide (PySem.W.typeIn K (.ref (v_i_NotABoard K)) = some (.type "function"))
def q_178 : PySem.W.Frag → Bool := fun K => decide (PySem.W.keepIn K (.ref (v_C_NotABoard K)) = true)
def q_179 : PySem.W.Frag → Bool := fun K => decide (PySem.W.subIn K (.ref (v_C_NotABoard K)) (.type "BaseException") = some true)
def q_180 : PySem.W.Frag → Bool := fun K => decide (PySem.W.typeIn K (.ref (v_C_NotABoard K)) = some (.type "type"))
def q_181 : PySem.W.Frag → Bool := fun K => decide (ExL.kwB K (v_i_NotABoard K) = true)
def q_182 : PySem.W.Frag → Bool := fun K => decide (PySem.W.nsIn K mainGlobals "InvalidFacts" = some (some (.ref (v_C_InvalidFacts K))))
def q_183 : PySem.W.Frag → Bool := fun K => decide (PySem.W.excInitIn K (v_C_InvalidFacts K) [.type "ValueError", .type "Exception", .type "BaseException", .type "object"] "ValueError.__new__" = true)
def q_184 : PySem.W.Frag → Bool := fun K => decide (PySem.W.hasDictIn K (v_C_InvalidFacts K) = true)
def q_185 : PySem.W.Frag → Bool := fun K => decide (PySem.W.findIn K (.ref (v_C_InvalidFacts K)) "__setattr__" = some (some (.builtin "object.__setattr__")))
def q_186 : PySem.W.Frag → Bool := fun K => decide (PySem.W.takerIn K (v_C_InvalidFacts K) "index" = some none)
def q_187 : PySem.W.Frag → Bool := fun K => decide (PySem.W.findIn K (.ref (v_C_InvalidFacts K)) "__init__" = some (some (.ref (v_i_InvalidFacts K))))
def q_188 : PySem.W.Frag → Bool := fun K => decide (PySem.W.typeIn K (.ref (v_i_InvalidFacts K)) = some (.type "function"))
def q_189 : PySem.W.Frag → Bool := fun K => decide (PySem.W.keepIn K (.ref (v_C_InvalidFacts K)) = true)
def q_190 : PySem.W.Frag → Bool := fun K => decide (PySem.W.subIn K (.ref (v_C_InvalidFacts K)) (.type "BaseException") = some true)
def q_191 : PySem.W.Frag → Bool := fun K => decide (PySem.W.typeIn K (.ref (v_C_InvalidFacts K)) = some (.type "type"))
def q_192 : PySem.W.Frag → Bool := fun K => decide (ExL.kwB K (v_i_InvalidFacts K) = true)
def q_193 : PySem.W.Frag → Bool := fun K => decide (PySem.W.nsIn K mainGlobals "InvalidSizes" = some (some (.ref (v_C_InvalidSizes K))))
def q_194 : PySem.W.Frag → Bool := fun K => decide (PySem.W.excInitIn K (v_C_InvalidSizes K) [.type "ValueError", .type "Exception", .type "BaseException", .type "object"] "ValueError.__new__" = true)
def q_195 : PySem.W.Frag → Bool := fun K => decide (PySem.W.hasDictIn K (v_C_InvalidSizes K) = true)
def q_196 : PySem.W.Frag → Bool := fun K => decide (PySem.W.findIn K (.ref (v_C_InvalidSizes K)) "__setattr__" = some (some (.builtin "object.__setattr__")))
def q_197 : PySem.W.Frag → Bool := fun K => decide (PySem.W.takerIn K (v_C_InvalidSizes K) "index" = some none)
def q_198 : PySem.W.Frag → Bool := fun K => decide (PySem.W.findIn K (.ref (v_C_InvalidSizes K)) "__init__" = some (some (.ref (v_i_InvalidSizes K))))
def q_199 : PySem.W.Frag → Bool := fun K => decide (PySem.W.typeIn K (.ref (v_i_InvalidSizes K)) = some (.type "function"))
def q_200 : PySem.W.Frag → Bool := fun K => decide (PySem.W.keepIn K (.ref (v_C_InvalidSizes K)) = true)
def q_201 : PySem.W.Frag → Bool := fun K => decide (PySem.W.subIn K (.ref (v_C_InvalidSizes K)) (.type "BaseException") = some true)
def q_202 : PySem.W.Frag → Bool := fun K => decide (PySem.W.typeIn K (.ref (v_C_InvalidSizes K)) = some (.type "type"))
def q_203 : PySem.W.Frag → Bool := fun K => decide (ExL.kwB K (v_i_InvalidSizes K) = true)
def q_204 : PySem.W.Frag → Bool := fun K => decide (PySem.W.nsIn K mainGlobals "InvalidText" = some (some (.ref (v_C_InvalidText K))))
def q_205 : PySem.W.Frag → Bool := fun K => decide (PySem.W.excInitIn K (v_C_InvalidText K) [.type "ValueError", .type "Exception", .type "BaseException", .type "object"] "ValueError.__new__" = true)
def q_206 : PySem.W.Frag → Bool := fun K => decide (PySem.W.hasDictIn K (v_C_InvalidText K) = true)
def q_207 : PySem.W.Frag → Bool := fun K => decide (PySem.W.findIn K (.ref (v_C_InvalidText K)) "__setattr__" = some (some (.builtin "object.__setattr__")))
def q_208 : PySem.W.Frag → Bool := fun K => decide (PySem.W.takerIn K (v_C_InvalidText K) "given" = some none)
def q_209 : PySem.W.Frag → Bool := fun K => decide (PySem.W.findIn K (.ref (v_C_InvalidText K)) "__init__" = some (some (.ref (v_i_InvalidText K))))
def q_210 : PySem.W.Frag → Bool := fun K => decide (PySem.W.typeIn K (.ref (v_i_InvalidText K)) = some (.type "function"))
def q_211 : PySem.W.Frag → Bool := fun K => decide (PySem.W.keepIn K (.ref (v_C_InvalidText K)) = true)
def q_212 : PySem.W.Frag → Bool := fun K => decide (PySem.W.subIn K (.ref (v_C_InvalidText K)) (.type "BaseException") = some true)
def q_213 : PySem.W.Frag → Bool := fun K => decide (PySem.W.typeIn K (.ref (v_C_InvalidText K)) = some (.type "type"))
def q_214 : PySem.W.Frag → Bool := fun K => decide (ExL.kwB K (v_i_InvalidText K) = true)
def q_215 : PySem.W.Frag → Bool := fun K => decide (PySem.W.exmOne K (.ref (v_C_NotABoard K)) (.ref (v_C_InvalidSizes K)) = some false)
def q_216 : PySem.W.Frag → Bool := fun K => decide (PySem.W.exmOne K (.ref (v_C_InvalidFacts K)) (.ref (v_C_InvalidSizes K)) = some false)
def q_217 : PySem.W.Frag → Bool := fun K => decide (PySem.W.exmOne K (.ref (v_C_InvalidSizes K)) (.ref (v_C_InvalidSizes K)) = some true)
def q_218 : PySem.W.Frag → Bool := fun K => decide (PySem.W.exmOne K (.ref (v_C_InvalidText K)) (.ref (v_C_InvalidSizes K)) = some false)
def q_219 : PySem.W.Frag → Bool := fun K => decide (PySem.W.exmOne K (.ref (v_C_NotABoard K)) (.ref (v_C_InvalidFacts K)) = some false)
def q_220 : PySem.W.Frag → Bool := fun K => decide (PySem.W.exmOne K (.ref (v_C_InvalidFacts K)) (.ref (v_C_InvalidFacts K)) = some true)
def q_221 : PySem.W.Frag → Bool := fun K => decide (PySem.W.exmOne K (.ref (v_C_InvalidSizes K)) (.ref (v_C_InvalidFacts K)) = some false)
def q_222 : PySem.W.Frag → Bool := fun K => decide (PySem.W.exmOne K (.ref (v_C_InvalidText K)) (.ref (v_C_InvalidFacts K)) = some false)
def fs_0 : List (PySem.W.Frag → Bool) := [q_0, q_1, q_2, q_3, q_4, q_5, q_6, q_7, q_8, q_9, q_10, q_11, q_12, q_13, q_14, q_15, q_16, q_17, q_18, q_19, q_20, q_21, q_22, q_23, q_24]
def fs_1 : List (PySem.W.Frag → Bool) := [q_25, q_26, q_27, q_28, q_29, q_30, q_31, q_32, q_33, q_34, q_35, q_36, q_37, q_38, q_39, q_40, q_41, q_42, q_43, q_44, q_45, q_46, q_47, q_48, q_49]
def fs_2 : List (PySem.W.Frag → Bool) := [q_50, q_51, q_52, q_53, q_54, q_55, q_56, q_57, q_58, q_59, q_60, q_61, q_62, q_63, q_64, q_65, q_66, q_67, q_68, q_69, q_70, q_71, q_72, q_73, q_74]
def fs_3 : List (PySem.W.Frag → Bool) := [q_75, q_76, q_77, q_78, q_79, q_80, q_81, q_82, q_83, q_84, q_85, q_86, q_87, q_88, q_89, q_90, q_91, q_92, q_93, q_94, q_95, q_96, q_97, q_98, q_99]
def fs_4 : List (PySem.W.Frag → Bool) := [q_100, q_101, q_102, q_103, q_104, q_105, q_106, q_107, q_108, q_109, q_110, q_111, q_112, q_113, q_114, q_115, q_116, q_117, q_118, q_119, q_120, q_121, q_122, q_123, q_124]
def fs_5 : List (PySem.W.Frag → Bool) := [q_125, q_126, q_127, q_128, q_129, q_130, q_131, q_132, q_133, q_134, q_135, q_136, q_137, q_138, q_139, q_140, q_141, q_142, q_143, q_144, q_145, q_146, q_147, q_148, q_149]
def fs_6 : List (PySem.W.Frag → Bool) := [q_150, q_151, q_152, q_153, q_154, q_155, q_156, q_157, q_158, q_159, q_160, q_161, q_162, q_163, q_164, q_165, q_166, q_167, q_168, q_169, q_170, q_171, q_172, q_173, q_174]
def fs_7 : List (PySem.W.Frag → Bool) := [q_175, q_176, q_177, q_178, q_179, q_180, q_181, q_182, q_183, q_184, q_185, q_186, q_187, q_188, q_189, q_190, q_191, q_192, q_193, q_194, q_195, q_196, q_197, q_198, q_199]
def fs_8 : List (PySem.W.Frag → Bool) := [q_200, q_201, q_202, q_203, q_204, q_205, q_206, q_207, q_208, q_209, q_210, q_211, q_212, q_213, q_214, q_215, q_216, q_217, q_218, q_219, q_220, q_221, q_222]
def fs : List (PySem.W.Frag → Bool) := fs_0 ++ (fs_1 ++ (fs_2 ++ (fs_3 ++ (fs_4 ++ (fs_5 ++ (fs_6 ++ (fs_7 ++ (fs_8))))))))
def fn_0 : List HdM.DfM := [m_law_dip, m_law_pick, m_law_spans, m_law_all, m_law_line, m_law_near, m_law_seen, m_law_share, m_check_board, m_Board_contains, m_are_neighbours, m_is_fact, m_leads, m_is_let, m_check_facts, m_Notes_init, m_is_within, m_check_sizes, m_settings_in, m_Board_init, m_board_told, m_notes_told, m_Notes_read, m_law_page, m_Board_str]
def fn_1 : List HdM.DfM := [m_Notes_str, m_Notes_board, m_Notes_facts, m_Notes_len, m_Notes_bool, m_law_shows, m_Board_sizes, m_Board_eq, m_Notes_eq, m_law_right, m_law_jar, m_law, m_x_NotABoard, m_x_InvalidFacts, m_x_InvalidSizes, m_x_InvalidText]
def fn : List HdM.DfM := fn_0 ++ (fn_1)
def dc : List (PySem.W.Frag → Addr) := [v_A_DIGITS, v_A_STANDS]
def hs : List (List Key) := [[.inr "2", .inr "3"], [.inl 2, .inl 3]]
theorem all_mk {l : PySem.W.OpenLaw} {w : World} {K : PySem.W.Frag} {h : Heap} {mg : Str → Option Value} {fa : Addr} (X : K.In h) (c : HdM.SaysM fs fn dc hs w K) (G : h.Ns mainGlobals mg) (hfa : mg "law" = some (.ref fa))
    : ∃ (G : Gm) (fd : FuncData), G.K = K ∧ G.tb = [] ∧ (∀ (s : Shared) (v : Value), BindsTo s fd ⟨[v], []⟩ [("script", v)]) ∧ ∀ base : Heap, K.In base → base.Ns mainGlobals mg → FnG l.prog w K mg base 9 fa fd ["script"] (lift G sp_law) := by
  have a_law_dip : PySem.W.nsIn K mainGlobals "_law_dip" = some (some (.ref (v_f_law_dip K))) := of_decide_eq_true (c.fact 0 (f := q_0))
  have k_law_dip : PySem.W.keepIn K (.ref (v_f_law_dip K)) = true := of_decide_eq_true (c.fact 1 (f := q_1))
  have a_law_pick : PySem.W.nsIn K mainGlobals "_law_pick" = some (some (.ref (v_f_law_pick K))) := of_decide_eq_true (c.fact 2 (f := q_2))
  have k_law_pick : PySem.W.keepIn K (.ref (v_f_law_pick K)) = true := of_decide_eq_true (c.fact 3 (f := q_3))
  have a_law_spans : PySem.W.nsIn K mainGlobals "_law_spans" = some (some (.ref (v_f_law_spans K))) := of_decide_eq_true (c.fact 4 (f := q_4))
  have k_law_spans : PySem.W.keepIn K (.ref (v_f_law_spans K)) = true := of_decide_eq_true (c.fact 5 (f := q_5))
  have a_law_all : PySem.W.nsIn K mainGlobals "_law_all" = some (some (.ref (v_f_law_all K))) := of_decide_eq_true (c.fact 6 (f := q_6))
  have k_law_all : PySem.W.keepIn K (.ref (v_f_law_all K)) = true := of_decide_eq_true (c.fact 7 (f := q_7))
  have a_law_line : PySem.W.nsIn K mainGlobals "_law_line" = some (some (.ref (v_f_law_line K))) := of_decide_eq_true (c.fact 8 (f := q_8))
  have k_law_line : PySem.W.keepIn K (.ref (v_f_law_line K)) = true := of_decide_eq_true (c.fact 9 (f := q_9))
  have a_law_near : PySem.W.nsIn K mainGlobals "_law_near" = some (some (.ref (v_f_law_near K))) := of_decide_eq_true (c.fact 10 (f := q_10))
  have k_law_near : PySem.W.keepIn K (.ref (v_f_law_near K)) = true := of_decide_eq_true (c.fact 11 (f := q_11))
  have a_law_seen : PySem.W.nsIn K mainGlobals "_law_seen" = some (some (.ref (v_f_law_seen K))) := of_decide_eq_true (c.fact 12 (f := q_12))
  have k_law_seen : PySem.W.keepIn K (.ref (v_f_law_seen K)) = true := of_decide_eq_true (c.fact 13 (f := q_13))
  have a_law_share : PySem.W.nsIn K mainGlobals "_law_share" = some (some (.ref (v_f_law_share K))) := of_decide_eq_true (c.fact 14 (f := q_14))
  have k_law_share : PySem.W.keepIn K (.ref (v_f_law_share K)) = true := of_decide_eq_true (c.fact 15 (f := q_15))
  have a_check_board : PySem.W.nsIn K mainGlobals "check_board" = some (some (.ref (v_f_check_board K))) := of_decide_eq_true (c.fact 16 (f := q_16))
  have k_check_board : PySem.W.keepIn K (.ref (v_f_check_board K)) = true := of_decide_eq_true (c.fact 17 (f := q_17))
  have a_Board_contains : PySem.W.findIn K (.ref (v_C_Board K)) "__contains__" = some (some (.ref (v_f_Board_contains K))) := of_decide_eq_true (c.fact 18 (f := q_18))
  have i_Board_contains : PySem.W.isFn K (.ref (v_f_Board_contains K)) = true := of_decide_eq_true (c.fact 19 (f := q_19))
  have k_Board_contains : PySem.W.keepIn K (.ref (v_f_Board_contains K)) = true := of_decide_eq_true (c.fact 20 (f := q_20))
  have a_are_neighbours : PySem.W.nsIn K mainGlobals "are_neighbours" = some (some (.ref (v_f_are_neighbours K))) := of_decide_eq_true (c.fact 21 (f := q_21))
  have k_are_neighbours : PySem.W.keepIn K (.ref (v_f_are_neighbours K)) = true := of_decide_eq_true (c.fact 22 (f := q_22))
  have a_is_fact : PySem.W.nsIn K mainGlobals "is_fact" = some (some (.ref (v_f_is_fact K))) := of_decide_eq_true (c.fact 23 (f := q_23))
  have k_is_fact : PySem.W.keepIn K (.ref (v_f_is_fact K)) = true := of_decide_eq_true (c.fact 24 (f := q_24))
  have a_leads : PySem.W.nsIn K mainGlobals "leads" = some (some (.ref (v_f_leads K))) := of_decide_eq_true (c.fact 25 (f := q_25))
  have k_leads : PySem.W.keepIn K (.ref (v_f_leads K)) = true := of_decide_eq_true (c.fact 26 (f := q_26))
  have a_is_let : PySem.W.nsIn K mainGlobals "is_let" = some (some (.ref (v_f_is_let K))) := of_decide_eq_true (c.fact 27 (f := q_27))
  have k_is_let : PySem.W.keepIn K (.ref (v_f_is_let K)) = true := of_decide_eq_true (c.fact 28 (f := q_28))
  have a_check_facts : PySem.W.nsIn K mainGlobals "check_facts" = some (some (.ref (v_f_check_facts K))) := of_decide_eq_true (c.fact 29 (f := q_29))
  have k_check_facts : PySem.W.keepIn K (.ref (v_f_check_facts K)) = true := of_decide_eq_true (c.fact 30 (f := q_30))
  have a_Notes_init : PySem.W.findIn K (.ref (v_C_Notes K)) "__init__" = some (some (.ref (v_f_Notes_init K))) := of_decide_eq_true (c.fact 31 (f := q_31))
  have i_Notes_init : PySem.W.isFn K (.ref (v_f_Notes_init K)) = true := of_decide_eq_true (c.fact 32 (f := q_32))
  obtain ⟨un_15_0, us_15_0, u_Notes_init_0⟩ := HdM.unit_ok (show HdM.unitB K (v_E_Notes_init_0 K) = true from c.fact 33 (f := q_33))
  have k_Notes_init : PySem.W.keepIn K (.ref (v_f_Notes_init K)) = true := of_decide_eq_true (c.fact 34 (f := q_34))
  have a_is_within : PySem.W.nsIn K mainGlobals "is_within" = some (some (.ref (v_f_is_within K))) := of_decide_eq_true (c.fact 35 (f := q_35))
  have k_is_within : PySem.W.keepIn K (.ref (v_f_is_within K)) = true := of_decide_eq_true (c.fact 36 (f := q_36))
  have a_check_sizes : PySem.W.nsIn K mainGlobals "check_sizes" = some (some (.ref (v_f_check_sizes K))) := of_decide_eq_true (c.fact 37 (f := q_37))
  have k_check_sizes : PySem.W.keepIn K (.ref (v_f_check_sizes K)) = true := of_decide_eq_true (c.fact 38 (f := q_38))
  have a_settings_in : PySem.W.nsIn K mainGlobals "settings_in" = some (some (.ref (v_f_settings_in K))) := of_decide_eq_true (c.fact 39 (f := q_39))
  have k_settings_in : PySem.W.keepIn K (.ref (v_f_settings_in K)) = true := of_decide_eq_true (c.fact 40 (f := q_40))
  have a_Board_init : PySem.W.findIn K (.ref (v_C_Board K)) "__init__" = some (some (.ref (v_f_Board_init K))) := of_decide_eq_true (c.fact 41 (f := q_41))
  have i_Board_init : PySem.W.isFn K (.ref (v_f_Board_init K)) = true := of_decide_eq_true (c.fact 42 (f := q_42))
  have k_Board_init : PySem.W.keepIn K (.ref (v_f_Board_init K)) = true := of_decide_eq_true (c.fact 43 (f := q_43))
  have a_board_told : PySem.W.nsIn K mainGlobals "board_told" = some (some (.ref (v_f_board_told K))) := of_decide_eq_true (c.fact 44 (f := q_44))
  have k_board_told : PySem.W.keepIn K (.ref (v_f_board_told K)) = true := of_decide_eq_true (c.fact 45 (f := q_45))
  have a_notes_told : PySem.W.nsIn K mainGlobals "notes_told" = some (some (.ref (v_f_notes_told K))) := of_decide_eq_true (c.fact 46 (f := q_46))
  have k_notes_told : PySem.W.keepIn K (.ref (v_f_notes_told K)) = true := of_decide_eq_true (c.fact 47 (f := q_47))
  have wm_Notes_read : He5.wrapB K (v_C_Notes K) "classmethod" "classmethod.__get__" "read" = true := of_decide_eq_true (c.fact 48 (f := q_48))
  have wi_Notes_read : PySem.W.fnIn K (v_f_Notes_read K) = true := of_decide_eq_true (c.fact 49 (f := q_49))
  have k_Notes_read : PySem.W.keepIn K (.ref (v_f_Notes_read K)) = true := of_decide_eq_true (c.fact 50 (f := q_50))
  have a_law_page : PySem.W.nsIn K mainGlobals "_law_page" = some (some (.ref (v_f_law_page K))) := of_decide_eq_true (c.fact 51 (f := q_51))
  have k_law_page : PySem.W.keepIn K (.ref (v_f_law_page K)) = true := of_decide_eq_true (c.fact 52 (f := q_52))
  have a_Board_str : PySem.W.findIn K (.ref (v_C_Board K)) "__str__" = some (some (.ref (v_f_Board_str K))) := of_decide_eq_true (c.fact 53 (f := q_53))
  have i_Board_str : PySem.W.isFn K (.ref (v_f_Board_str K)) = true := of_decide_eq_true (c.fact 54 (f := q_54))
  have k_Board_str : PySem.W.keepIn K (.ref (v_f_Board_str K)) = true := of_decide_eq_true (c.fact 55 (f := q_55))
  have a_Notes_str : PySem.W.findIn K (.ref (v_C_Notes K)) "__str__" = some (some (.ref (v_f_Notes_str K))) := of_decide_eq_true (c.fact 56 (f := q_56))
  have i_Notes_str : PySem.W.isFn K (.ref (v_f_Notes_str K)) = true := of_decide_eq_true (c.fact 57 (f := q_57))
  have k_Notes_str : PySem.W.keepIn K (.ref (v_f_Notes_str K)) = true := of_decide_eq_true (c.fact 58 (f := q_58))
  have a_Notes_board : PySem.W.findIn K (.ref (v_C_Notes K)) "board" = some (some (.ref (v_P_Notes_board K))) := of_decide_eq_true (c.fact 59 (f := q_59))
  obtain ⟨rp_26, pr_Notes_board⟩ := HdM.get_ok (show HdM.getB K (v_P_Notes_board K) = true from c.fact 60 (f := q_60))
  have pg_Notes_board : PySem.W.specialIn K (.ref (v_P_Notes_board K)) "__get__" = some (some (.builtin "property.__get__")) := of_decide_eq_true (c.fact 61 (f := q_61))
  have pt_Notes_board : PySem.W.takesIn K (.ref (v_P_Notes_board K)) = some true := of_decide_eq_true (c.fact 62 (f := q_62))
  have k_Notes_board : PySem.W.keepIn K (.ref (v_f_Notes_board K)) = true := of_decide_eq_true (c.fact 63 (f := q_63))
  have a_Notes_facts : PySem.W.findIn K (.ref (v_C_Notes K)) "facts" = some (some (.ref (v_P_Notes_facts K))) := of_decide_eq_true (c.fact 64 (f := q_64))
  obtain ⟨rp_27, pr_Notes_facts⟩ := HdM.get_ok (show HdM.getB K (v_P_Notes_facts K) = true from c.fact 65 (f := q_65))
  have pg_Notes_facts : PySem.W.specialIn K (.ref (v_P_Notes_facts K)) "__get__" = some (some (.builtin "property.__get__")) := of_decide_eq_true (c.fact 66 (f := q_66))
  have pt_Notes_facts : PySem.W.takesIn K (.ref (v_P_Notes_facts K)) = some true := of_decide_eq_true (c.fact 67 (f := q_67))
  have k_Notes_facts : PySem.W.keepIn K (.ref (v_f_Notes_facts K)) = true := of_decide_eq_true (c.fact 68 (f := q_68))
  have a_Notes_len : PySem.W.findIn K (.ref (v_C_Notes K)) "__len__" = some (some (.ref (v_f_Notes_len K))) := of_decide_eq_true (c.fact 69 (f := q_69))
  have i_Notes_len : PySem.W.isFn K (.ref (v_f_Notes_len K)) = true := of_decide_eq_true (c.fact 70 (f := q_70))
  have k_Notes_len : PySem.W.keepIn K (.ref (v_f_Notes_len K)) = true := of_decide_eq_true (c.fact 71 (f := q_71))
  have a_Notes_bool : PySem.W.findIn K (.ref (v_C_Notes K)) "__bool__" = some (some (.ref (v_f_Notes_bool K))) := of_decide_eq_true (c.fact 72 (f := q_72))
  have i_Notes_bool : PySem.W.isFn K (.ref (v_f_Notes_bool K)) = true := of_decide_eq_true (c.fact 73 (f := q_73))
  have k_Notes_bool : PySem.W.keepIn K (.ref (v_f_Notes_bool K)) = true := of_decide_eq_true (c.fact 74 (f := q_74))
  have a_law_shows : PySem.W.nsIn K mainGlobals "_law_shows" = some (some (.ref (v_f_law_shows K))) := of_decide_eq_true (c.fact 75 (f := q_75))
  have k_law_shows : PySem.W.keepIn K (.ref (v_f_law_shows K)) = true := of_decide_eq_true (c.fact 76 (f := q_76))
  have a_Board_sizes : PySem.W.findIn K (.ref (v_C_Board K)) "sizes" = some (some (.ref (v_P_Board_sizes K))) := of_decide_eq_true (c.fact 77 (f := q_77))
  obtain ⟨rp_31, pr_Board_sizes⟩ := HdM.get_ok (show HdM.getB K (v_P_Board_sizes K) = true from c.fact 78 (f := q_78))
  have pg_Board_sizes : PySem.W.specialIn K (.ref (v_P_Board_sizes K)) "__get__" = some (some (.builtin "property.__get__")) := of_decide_eq_true (c.fact 79 (f := q_79))
  have pt_Board_sizes : PySem.W.takesIn K (.ref (v_P_Board_sizes K)) = some true := of_decide_eq_true (c.fact 80 (f := q_80))
  have k_Board_sizes : PySem.W.keepIn K (.ref (v_f_Board_sizes K)) = true := of_decide_eq_true (c.fact 81 (f := q_81))
  have a_Board_eq : PySem.W.findIn K (.ref (v_C_Board K)) "__eq__" = some (some (.ref (v_f_Board_eq K))) := of_decide_eq_true (c.fact 82 (f := q_82))
  have i_Board_eq : PySem.W.isFn K (.ref (v_f_Board_eq K)) = true := of_decide_eq_true (c.fact 83 (f := q_83))
  have k_Board_eq : PySem.W.keepIn K (.ref (v_f_Board_eq K)) = true := of_decide_eq_true (c.fact 84 (f := q_84))
  have a_Notes_eq : PySem.W.findIn K (.ref (v_C_Notes K)) "__eq__" = some (some (.ref (v_f_Notes_eq K))) := of_decide_eq_true (c.fact 85 (f := q_85))
  have i_Notes_eq : PySem.W.isFn K (.ref (v_f_Notes_eq K)) = true := of_decide_eq_true (c.fact 86 (f := q_86))
  have k_Notes_eq : PySem.W.keepIn K (.ref (v_f_Notes_eq K)) = true := of_decide_eq_true (c.fact 87 (f := q_87))
  have a_law_right : PySem.W.nsIn K mainGlobals "_law_right" = some (some (.ref (v_f_law_right K))) := of_decide_eq_true (c.fact 88 (f := q_88))
  have k_law_right : PySem.W.keepIn K (.ref (v_f_law_right K)) = true := of_decide_eq_true (c.fact 89 (f := q_89))
  have a_law_jar : PySem.W.nsIn K mainGlobals "_law_jar" = some (some (.ref (v_f_law_jar K))) := of_decide_eq_true (c.fact 90 (f := q_90))
  have k_law_jar : PySem.W.keepIn K (.ref (v_f_law_jar K)) = true := of_decide_eq_true (c.fact 91 (f := q_91))
  have a_law : PySem.W.nsIn K mainGlobals "law" = some (some (.ref (v_f_law K))) := of_decide_eq_true (c.fact 92 (f := q_92))
  have k_law : PySem.W.keepIn K (.ref (v_f_law K)) = true := of_decide_eq_true (c.fact 93 (f := q_93))
  have g_Board : PySem.W.nsIn K mainGlobals "Board" = some (some (.ref (v_C_Board K))) := of_decide_eq_true (c.fact 94 (f := q_94))
  have g_Notes : PySem.W.nsIn K mainGlobals "Notes" = some (some (.ref (v_C_Notes K))) := of_decide_eq_true (c.fact 95 (f := q_95))
  have rd_Notes : PySem.W.readsIn K (v_C_Notes K) (.type "type") = true := of_decide_eq_true (c.fact 96 (f := q_96))
  have sg_Notes : PySem.W.specialIn K (.ref (v_C_Notes K)) "__getattribute__" = some (some (.builtin "type.__getattribute__")) := of_decide_eq_true (c.fact 97 (f := q_97))
  have pg_Board : PySem.W.plainGet K (v_C_Board K) Str.empty = true := of_decide_eq_true (c.fact 98 (f := q_98))
  have hd_Board : PySem.W.hasDictIn K (v_C_Board K) = true := of_decide_eq_true (c.fact 99 (f := q_99))
  have po_Board : PySem.W.plainOver K (v_C_Board K) = true := of_decide_eq_true (c.fact 100 (f := q_100))
  have sa_Board : PySem.W.findIn K (.ref (v_C_Board K)) "__setattr__" = some (some (.builtin "object.__setattr__")) := of_decide_eq_true (c.fact 101 (f := q_101))
  have ca_Board : PySem.W.findIn K (.ref (v_C_Board K)) "__class__" = some (some (.builtin "object.__class__")) := of_decide_eq_true (c.fact 102 (f := q_102))
  have cm_Board : PySem.W.mroIn K (v_C_Board K) (.type "object") = some true := of_decide_eq_true (c.fact 103 (f := q_103))
  have mk_Board : PySem.W.makesIn K (v_C_Board K) = true := of_decide_eq_true (c.fact 104 (f := q_104))
  have sx_Board_Notes : PySem.W.notFirst K (v_C_Board K) (.ref (v_C_Notes K)) = true := of_decide_eq_true (c.fact 105 (f := q_105))
  have kc_Board : PySem.W.keepIn K (.ref (v_C_Board K)) = true := of_decide_eq_true (c.fact 106 (f := q_106))
  have n_Board_both : PySem.W.findIn K (.ref (v_C_Board K)) "both" = some none := of_decide_eq_true (c.fact 107 (f := q_107))
  have pg_Notes : PySem.W.plainGet K (v_C_Notes K) Str.empty = true := of_decide_eq_true (c.fact 108 (f := q_108))
  have hd_Notes : PySem.W.hasDictIn K (v_C_Notes K) = true := of_decide_eq_true (c.fact 109 (f := q_109))
  have po_Notes : PySem.W.plainOver K (v_C_Notes K) = true := of_decide_eq_true (c.fact 110 (f := q_110))
  have sa_Notes : PySem.W.findIn K (.ref (v_C_Notes K)) "__setattr__" = some (some (.builtin "object.__setattr__")) := of_decide_eq_true (c.fact 111 (f := q_111))
  have ca_Notes : PySem.W.findIn K (.ref (v_C_Notes K)) "__class__" = some (some (.builtin "object.__class__")) := of_decide_eq_true (c.fact 112 (f := q_112))
  have cm_Notes : PySem.W.mroIn K (v_C_Notes K) (.type "object") = some true := of_decide_eq_true (c.fact 113 (f := q_113))
  have mk_Notes : PySem.W.makesIn K (v_C_Notes K) = true := of_decide_eq_true (c.fact 114 (f := q_114))
  have ne_Notes : PySem.W.findIn K (.ref (v_C_Notes K)) "__ne__" = some (some (.builtin "object.__ne__")) := of_decide_eq_true (c.fact 115 (f := q_115))
  have sd_Notes_str : PySem.W.notFirst K (v_C_Notes K) (.type "str") = true := of_decide_eq_true (c.fact 116 (f := q_116))
  have of_Notes_str : PySem.W.subIn K (.ref (v_C_Notes K)) (.type "str") = some false := of_decide_eq_true (c.fact 117 (f := q_117))
  have sd_Notes_int : PySem.W.notFirst K (v_C_Notes K) (.type "int") = true := of_decide_eq_true (c.fact 118 (f := q_118))
  have of_Notes_int : PySem.W.subIn K (.ref (v_C_Notes K)) (.type "int") = some false := of_decide_eq_true (c.fact 119 (f := q_119))
  have sd_Notes_NoneType : PySem.W.notFirst K (v_C_Notes K) (.type "NoneType") = true := of_decide_eq_true (c.fact 120 (f := q_120))
  have of_Notes_NoneType : PySem.W.subIn K (.ref (v_C_Notes K)) (.type "NoneType") = some false := of_decide_eq_true (c.fact 121 (f := q_121))
  have sd_Notes_tuple : PySem.W.notFirst K (v_C_Notes K) (.type "tuple") = true := of_decide_eq_true (c.fact 122 (f := q_122))
  have of_Notes_tuple : PySem.W.subIn K (.ref (v_C_Notes K)) (.type "tuple") = some false := of_decide_eq_true (c.fact 123 (f := q_123))
  have sd_Notes_list : PySem.W.notFirst K (v_C_Notes K) (.type "list") = true := of_decide_eq_true (c.fact 124 (f := q_124))
  have of_Notes_list : PySem.W.subIn K (.ref (v_C_Notes K)) (.type "list") = some false := of_decide_eq_true (c.fact 125 (f := q_125))
  have sd_Notes_dict : PySem.W.notFirst K (v_C_Notes K) (.type "dict") = true := of_decide_eq_true (c.fact 126 (f := q_126))
  have of_Notes_dict : PySem.W.subIn K (.ref (v_C_Notes K)) (.type "dict") = some false := of_decide_eq_true (c.fact 127 (f := q_127))
  have sx_Notes_Board : PySem.W.notFirst K (v_C_Notes K) (.ref (v_C_Board K)) = true := of_decide_eq_true (c.fact 128 (f := q_128))
  have kc_Notes : PySem.W.keepIn K (.ref (v_C_Notes K)) = true := of_decide_eq_true (c.fact 129 (f := q_129))
  have n_Notes_both : PySem.W.findIn K (.ref (v_C_Notes K)) "both" = some none := of_decide_eq_true (c.fact 130 (f := q_130))
  have cg_ : PySem.W.specialIn K (.builtin "object.__class__") "__get__" = some (some (.builtin "getset_descriptor.__get__")) := of_decide_eq_true (c.fact 131 (f := q_131))
  have ct_ : PySem.W.takesIn K (.builtin "object.__class__") = some true := of_decide_eq_true (c.fact 132 (f := q_132))
  have g_DIGITS : PySem.W.nsIn K mainGlobals "DIGITS" = some (some (.ref (v_A_DIGITS K))) := of_decide_eq_true (c.fact 133 (f := q_133))
  have d_DIGITS : KDic K w (v_A_DIGITS K) (([.inr "2", .inr "3"] : List Key).zip ([.int 2, .int 3] : List V)) := HdM.dic_ok (show HdM.dicB K (v_A_DIGITS K) (([.inr "2", .inr "3"] : List Key).zip ([.int 2, .int 3] : List V)) = true from c.fact 134 (f := q_134)) ((c.hash 0 (a := v_A_DIGITS) (l := [.inr "2", .inr "3"])).trans rfl)
  obtain ⟨tk_HEAD, g_HEAD⟩ := HdM.str_ok (show HdM.strB K "HEAD" "board" = true from c.fact 135 (f := q_135))
  obtain ⟨tk_MOST_SETTINGS, g_MOST_SETTINGS⟩ := HdM.int_ok (show HdM.intB K "MOST_SETTINGS" 48 = true from c.fact 136 (f := q_136))
  obtain ⟨tk_MOST_SWITCHES, g_MOST_SWITCHES⟩ := HdM.int_ok (show HdM.intB K "MOST_SWITCHES" 5 = true from c.fact 137 (f := q_137))
  obtain ⟨tk_SIGN, g_SIGN⟩ := HdM.str_ok (show HdM.strB K "SIGN" "<" = true from c.fact 138 (f := q_138))
  have g_STANDS : PySem.W.nsIn K mainGlobals "STANDS" = some (some (.ref (v_A_STANDS K))) := of_decide_eq_true (c.fact 139 (f := q_139))
  have d_STANDS : KDic K w (v_A_STANDS K) (([.inl 2, .inl 3] : List Key).zip ([.str "01", .str "012"] : List V)) := HdM.dic_ok (show HdM.dicB K (v_A_STANDS K) (([.inl 2, .inl 3] : List Key).zip ([.str "01", .str "012"] : List V)) = true from c.fact 140 (f := q_140)) ((c.hash 1 (a := v_A_STANDS) (l := [.inl 2, .inl 3])).trans rfl)
  have ki_Board_non : PySem.W.kitOne K (.type "NoneType") (.ref (v_C_Board K)) = some false := of_decide_eq_true (c.fact 141 (f := q_141))
  have ki_Board_bl : PySem.W.kitOne K (.type "bool") (.ref (v_C_Board K)) = some false := of_decide_eq_true (c.fact 142 (f := q_142))
  have ki_Board_int : PySem.W.kitOne K (.type "int") (.ref (v_C_Board K)) = some false := of_decide_eq_true (c.fact 143 (f := q_143))
  have ki_Board_str : PySem.W.kitOne K (.type "str") (.ref (v_C_Board K)) = some false := of_decide_eq_true (c.fact 144 (f := q_144))
  have ki_Board_tup : PySem.W.kitOne K (.type "tuple") (.ref (v_C_Board K)) = some false := of_decide_eq_true (c.fact 145 (f := q_145))
  have ki_Board_lst : PySem.W.kitOne K (.type "list") (.ref (v_C_Board K)) = some false := of_decide_eq_true (c.fact 146 (f := q_146))
  have ki_Board_dic : PySem.W.kitOne K (.type "dict") (.ref (v_C_Board K)) = some false := of_decide_eq_true (c.fact 147 (f := q_147))
  have ki_Board_Board : PySem.W.kitOne K (.ref (v_C_Board K)) (.ref (v_C_Board K)) = some true := of_decide_eq_true (c.fact 148 (f := q_148))
  have ki_Board_Notes : PySem.W.kitOne K (.ref (v_C_Notes K)) (.ref (v_C_Board K)) = some false := of_decide_eq_true (c.fact 149 (f := q_149))
  have ki_Notes_non : PySem.W.kitOne K (.type "NoneType") (.ref (v_C_Notes K)) = some false := of_decide_eq_true (c.fact 150 (f := q_150))
  have ki_Notes_bl : PySem.W.kitOne K (.type "bool") (.ref (v_C_Notes K)) = some false := of_decide_eq_true (c.fact 151 (f := q_151))
  have ki_Notes_int : PySem.W.kitOne K (.type "int") (.ref (v_C_Notes K)) = some false := of_decide_eq_true (c.fact 152 (f := q_152))
  have ki_Notes_str : PySem.W.kitOne K (.type "str") (.ref (v_C_Notes K)) = some false := of_decide_eq_true (c.fact 153 (f := q_153))
  have ki_Notes_tup : PySem.W.kitOne K (.type "tuple") (.ref (v_C_Notes K)) = some false := of_decide_eq_true (c.fact 154 (f := q_154))
  have ki_Notes_lst : PySem.W.kitOne K (.type "list") (.ref (v_C_Notes K)) = some false := of_decide_eq_true (c.fact 155 (f := q_155))
  have ki_Notes_dic : PySem.W.kitOne K (.type "dict") (.ref (v_C_Notes K)) = some false := of_decide_eq_true (c.fact 156 (f := q_156))
  have ki_Notes_Board : PySem.W.kitOne K (.ref (v_C_Board K)) (.ref (v_C_Notes K)) = some false := of_decide_eq_true (c.fact 157 (f := q_157))
  have ki_Notes_Notes : PySem.W.kitOne K (.ref (v_C_Notes K)) (.ref (v_C_Notes K)) = some true := of_decide_eq_true (c.fact 158 (f := q_158))
  have z_abs : PySem.W.nsIn K mainGlobals "abs" = some none := of_decide_eq_true (c.fact 159 (f := q_159))
  have z_all : PySem.W.nsIn K mainGlobals "all" = some none := of_decide_eq_true (c.fact 160 (f := q_160))
  have z_bool : PySem.W.nsIn K mainGlobals "bool" = some none := of_decide_eq_true (c.fact 161 (f := q_161))
  have z_int : PySem.W.nsIn K mainGlobals "int" = some none := of_decide_eq_true (c.fact 162 (f := q_162))
  have z_isinstance : PySem.W.nsIn K mainGlobals "isinstance" = some none := of_decide_eq_true (c.fact 163 (f := q_163))
  have z_len : PySem.W.nsIn K mainGlobals "len" = some none := of_decide_eq_true (c.fact 164 (f := q_164))
  have z_max : PySem.W.nsIn K mainGlobals "max" = some none := of_decide_eq_true (c.fact 165 (f := q_165))
  have z_min : PySem.W.nsIn K mainGlobals "min" = some none := of_decide_eq_true (c.fact 166 (f := q_166))
  have z_range : PySem.W.nsIn K mainGlobals "range" = some none := of_decide_eq_true (c.fact 167 (f := q_167))
  have z_repr : PySem.W.nsIn K mainGlobals "repr" = some none := of_decide_eq_true (c.fact 168 (f := q_168))
  have z_str : PySem.W.nsIn K mainGlobals "str" = some none := of_decide_eq_true (c.fact 169 (f := q_169))
  have z_tuple : PySem.W.nsIn K mainGlobals "tuple" = some none := of_decide_eq_true (c.fact 170 (f := q_170))
  have xg_NotABoard : PySem.W.nsIn K mainGlobals "NotABoard" = some (some (.ref (v_C_NotABoard K))) := of_decide_eq_true (c.fact 171 (f := q_171))
  have x1_NotABoard : PySem.W.excInitIn K (v_C_NotABoard K) [.type "ValueError", .type "Exception", .type "BaseException", .type "object"] "ValueError.__new__" = true := of_decide_eq_true (c.fact 172 (f := q_172))
  have x2_NotABoard : PySem.W.hasDictIn K (v_C_NotABoard K) = true := of_decide_eq_true (c.fact 173 (f := q_173))
  have x3_NotABoard : PySem.W.findIn K (.ref (v_C_NotABoard K)) "__setattr__" = some (some (.builtin "object.__setattr__")) := of_decide_eq_true (c.fact 174 (f := q_174))
  have x4_NotABoard : PySem.W.takerIn K (v_C_NotABoard K) "given" = some none := of_decide_eq_true (c.fact 175 (f := q_175))
  have x5_NotABoard : PySem.W.findIn K (.ref (v_C_NotABoard K)) "__init__" = some (some (.ref (v_i_NotABoard K))) := of_decide_eq_true (c.fact 176 (f := q_176))
  have x6_NotABoard : PySem.W.typeIn K (.ref (v_i_NotABoard K)) = some (.type "function") := of_decide_eq_true (c.fact 177 (f := q_177))
  have x7_NotABoard : PySem.W.keepIn K (.ref (v_C_NotABoard K)) = true := of_decide_eq_true (c.fact 178 (f := q_178))
  have x8_NotABoard : PySem.W.subIn K (.ref (v_C_NotABoard K)) (.type "BaseException") = some true := of_decide_eq_true (c.fact 179 (f := q_179))
  have x9_NotABoard : PySem.W.typeIn K (.ref (v_C_NotABoard K)) = some (.type "type") := of_decide_eq_true (c.fact 180 (f := q_180))
  have x0_NotABoard : ExL.kwB K (v_i_NotABoard K) = true := of_decide_eq_true (c.fact 181 (f := q_181))
  have xg_InvalidFacts : PySem.W.nsIn K mainGlobals "InvalidFacts" = some (some (.ref (v_C_InvalidFacts K))) := of_decide_eq_true (c.fact 182 (f := q_182))
  have x1_InvalidFacts : PySem.W.excInitIn K (v_C_InvalidFacts K) [.type "ValueError", .type "Exception", .type "BaseException", .type "object"] "ValueError.__new__" = true := of_decide_eq_true (c.fact 183 (f := q_183))
  have x2_InvalidFacts : PySem.W.hasDictIn K (v_C_InvalidFacts K) = true := of_decide_eq_true (c.fact 184 (f := q_184))
  have x3_InvalidFacts : PySem.W.findIn K (.ref (v_C_InvalidFacts K)) "__setattr__" = some (some (.builtin "object.__setattr__")) := of_decide_eq_true (c.fact 185 (f := q_185))
  have x4_InvalidFacts : PySem.W.takerIn K (v_C_InvalidFacts K) "index" = some none := of_decide_eq_true (c.fact 186 (f := q_186))
  have x5_InvalidFacts : PySem.W.findIn K (.ref (v_C_InvalidFacts K)) "__init__" = some (some (.ref (v_i_InvalidFacts K))) := of_decide_eq_true (c.fact 187 (f := q_187))
  have x6_InvalidFacts : PySem.W.typeIn K (.ref (v_i_InvalidFacts K)) = some (.type "function") := of_decide_eq_true (c.fact 188 (f := q_188))
  have x7_InvalidFacts : PySem.W.keepIn K (.ref (v_C_InvalidFacts K)) = true := of_decide_eq_true (c.fact 189 (f := q_189))
  have x8_InvalidFacts : PySem.W.subIn K (.ref (v_C_InvalidFacts K)) (.type "BaseException") = some true := of_decide_eq_true (c.fact 190 (f := q_190))
  have x9_InvalidFacts : PySem.W.typeIn K (.ref (v_C_InvalidFacts K)) = some (.type "type") := of_decide_eq_true (c.fact 191 (f := q_191))
  have x0_InvalidFacts : ExL.kwB K (v_i_InvalidFacts K) = true := of_decide_eq_true (c.fact 192 (f := q_192))
  have xg_InvalidSizes : PySem.W.nsIn K mainGlobals "InvalidSizes" = some (some (.ref (v_C_InvalidSizes K))) := of_decide_eq_true (c.fact 193 (f := q_193))
  have x1_InvalidSizes : PySem.W.excInitIn K (v_C_InvalidSizes K) [.type "ValueError", .type "Exception", .type "BaseException", .type "object"] "ValueError.__new__" = true := of_decide_eq_true (c.fact 194 (f := q_194))
  have x2_InvalidSizes : PySem.W.hasDictIn K (v_C_InvalidSizes K) = true := of_decide_eq_true (c.fact 195 (f := q_195))
  have x3_InvalidSizes : PySem.W.findIn K (.ref (v_C_InvalidSizes K)) "__setattr__" = some (some (.builtin "object.__setattr__")) := of_decide_eq_true (c.fact 196 (f := q_196))
  have x4_InvalidSizes : PySem.W.takerIn K (v_C_InvalidSizes K) "index" = some none := of_decide_eq_true (c.fact 197 (f := q_197))
  have x5_InvalidSizes : PySem.W.findIn K (.ref (v_C_InvalidSizes K)) "__init__" = some (some (.ref (v_i_InvalidSizes K))) := of_decide_eq_true (c.fact 198 (f := q_198))
  have x6_InvalidSizes : PySem.W.typeIn K (.ref (v_i_InvalidSizes K)) = some (.type "function") := of_decide_eq_true (c.fact 199 (f := q_199))
  have x7_InvalidSizes : PySem.W.keepIn K (.ref (v_C_InvalidSizes K)) = true := of_decide_eq_true (c.fact 200 (f := q_200))
  have x8_InvalidSizes : PySem.W.subIn K (.ref (v_C_InvalidSizes K)) (.type "BaseException") = some true := of_decide_eq_true (c.fact 201 (f := q_201))
  have x9_InvalidSizes : PySem.W.typeIn K (.ref (v_C_InvalidSizes K)) = some (.type "type") := of_decide_eq_true (c.fact 202 (f := q_202))
  have x0_InvalidSizes : ExL.kwB K (v_i_InvalidSizes K) = true := of_decide_eq_true (c.fact 203 (f := q_203))
  have xg_InvalidText : PySem.W.nsIn K mainGlobals "InvalidText" = some (some (.ref (v_C_InvalidText K))) := of_decide_eq_true (c.fact 204 (f := q_204))
  have x1_InvalidText : PySem.W.excInitIn K (v_C_InvalidText K) [.type "ValueError", .type "Exception", .type "BaseException", .type "object"] "ValueError.__new__" = true := of_decide_eq_true (c.fact 205 (f := q_205))
  have x2_InvalidText : PySem.W.hasDictIn K (v_C_InvalidText K) = true := of_decide_eq_true (c.fact 206 (f := q_206))
  have x3_InvalidText : PySem.W.findIn K (.ref (v_C_InvalidText K)) "__setattr__" = some (some (.builtin "object.__setattr__")) := of_decide_eq_true (c.fact 207 (f := q_207))
  have x4_InvalidText : PySem.W.takerIn K (v_C_InvalidText K) "given" = some none := of_decide_eq_true (c.fact 208 (f := q_208))
  have x5_InvalidText : PySem.W.findIn K (.ref (v_C_InvalidText K)) "__init__" = some (some (.ref (v_i_InvalidText K))) := of_decide_eq_true (c.fact 209 (f := q_209))
  have x6_InvalidText : PySem.W.typeIn K (.ref (v_i_InvalidText K)) = some (.type "function") := of_decide_eq_true (c.fact 210 (f := q_210))
  have x7_InvalidText : PySem.W.keepIn K (.ref (v_C_InvalidText K)) = true := of_decide_eq_true (c.fact 211 (f := q_211))
  have x8_InvalidText : PySem.W.subIn K (.ref (v_C_InvalidText K)) (.type "BaseException") = some true := of_decide_eq_true (c.fact 212 (f := q_212))
  have x9_InvalidText : PySem.W.typeIn K (.ref (v_C_InvalidText K)) = some (.type "type") := of_decide_eq_true (c.fact 213 (f := q_213))
  have x0_InvalidText : ExL.kwB K (v_i_InvalidText K) = true := of_decide_eq_true (c.fact 214 (f := q_214))
  have em_NotABoard_InvalidSizes : PySem.W.exmOne K (.ref (v_C_NotABoard K)) (.ref (v_C_InvalidSizes K)) = some false := of_decide_eq_true (c.fact 215 (f := q_215))
  have em_InvalidFacts_InvalidSizes : PySem.W.exmOne K (.ref (v_C_InvalidFacts K)) (.ref (v_C_InvalidSizes K)) = some false := of_decide_eq_true (c.fact 216 (f := q_216))
  have em_InvalidSizes_InvalidSizes : PySem.W.exmOne K (.ref (v_C_InvalidSizes K)) (.ref (v_C_InvalidSizes K)) = some true := of_decide_eq_true (c.fact 217 (f := q_217))
  have em_InvalidText_InvalidSizes : PySem.W.exmOne K (.ref (v_C_InvalidText K)) (.ref (v_C_InvalidSizes K)) = some false := of_decide_eq_true (c.fact 218 (f := q_218))
  have em_NotABoard_InvalidFacts : PySem.W.exmOne K (.ref (v_C_NotABoard K)) (.ref (v_C_InvalidFacts K)) = some false := of_decide_eq_true (c.fact 219 (f := q_219))
  have em_InvalidFacts_InvalidFacts : PySem.W.exmOne K (.ref (v_C_InvalidFacts K)) (.ref (v_C_InvalidFacts K)) = some true := of_decide_eq_true (c.fact 220 (f := q_220))
  have em_InvalidSizes_InvalidFacts : PySem.W.exmOne K (.ref (v_C_InvalidSizes K)) (.ref (v_C_InvalidFacts K)) = some false := of_decide_eq_true (c.fact 221 (f := q_221))
  have em_InvalidText_InvalidFacts : PySem.W.exmOne K (.ref (v_C_InvalidText K)) (.ref (v_C_InvalidFacts K)) = some false := of_decide_eq_true (c.fact 222 (f := q_222))
  have e := hfa.symm.trans (PySem.W.mg_of X G a_law)
  have e2 : fa = v_f_law K := by injection e with e; injection e with e
  have T : Txt K w mg ⟨(v_f_law_dip K), (v_f_law_pick K), (v_f_law_spans K), (v_f_law_all K), (v_f_law_line K), (v_f_law_near K), (v_f_law_seen K), (v_f_law_share K), (v_f_check_board K), (v_f_Board_contains K), (v_f_are_neighbours K), (v_f_is_fact K), (v_f_leads K), (v_f_is_let K), (v_f_check_facts K), (v_f_Notes_init K), (v_f_is_within K), (v_f_check_sizes K), (v_f_settings_in K), (v_f_Board_init K), (v_f_board_told K), (v_f_notes_told K), (v_f_Notes_read K), (v_f_law_page K), (v_f_Board_str K), (v_f_Notes_str K), (v_f_Notes_board K), (v_f_Notes_facts K), (v_f_Notes_len K), (v_f_Notes_bool K), (v_f_law_shows K), (v_f_Board_sizes K), (v_f_Board_eq K), (v_f_Notes_eq K), (v_f_law_right K), (v_f_law_jar K), fa, (v_C_Board K), (v_C_Notes K), (v_P_Notes_read K), (v_P_Notes_board K), (v_P_Notes_facts K), (v_P_Board_sizes K), (v_A_DIGITS K), (v_A_STANDS K), (v_E_Notes_init_0 K), (v_C_NotABoard K), (v_i_NotABoard K), (v_C_InvalidFacts K), (v_i_InvalidFacts K), (v_C_InvalidSizes K), (v_i_InvalidSizes K), (v_C_InvalidText K), (v_i_InvalidText K)⟩ := {
    F_law_dip := HdM.fun_of (c.def_ 0 (d := m_law_dip))
    m_law_dip := PySem.W.mg_of X G a_law_dip
    k_law_dip := k_law_dip
    F_law_pick := HdM.fun_of (c.def_ 1 (d := m_law_pick))
    m_law_pick := PySem.W.mg_of X G a_law_pick
    k_law_pick := k_law_pick
    F_law_spans := HdM.fun_of (c.def_ 2 (d := m_law_spans))
    m_law_spans := PySem.W.mg_of X G a_law_spans
    k_law_spans := k_law_spans
    F_law_all := HdM.fun_of (c.def_ 3 (d := m_law_all))
    m_law_all := PySem.W.mg_of X G a_law_all
    k_law_all := k_law_all
    F_law_line := HdM.fun_of (c.def_ 4 (d := m_law_line))
    m_law_line := PySem.W.mg_of X G a_law_line
    k_law_line := k_law_line
    F_law_near := HdM.fun_of (c.def_ 5 (d := m_law_near))
    m_law_near := PySem.W.mg_of X G a_law_near
    k_law_near := k_law_near
    F_law_seen := HdM.fun_of (c.def_ 6 (d := m_law_seen))
    m_law_seen := PySem.W.mg_of X G a_law_seen
    k_law_seen := k_law_seen
    F_law_share := HdM.fun_of (c.def_ 7 (d := m_law_share))
    m_law_share := PySem.W.mg_of X G a_law_share
    k_law_share := k_law_share
    F_check_board := HdM.fun_of (c.def_ 8 (d := m_check_board))
    m_check_board := PySem.W.mg_of X G a_check_board
    k_check_board := k_check_board
    F_Board_contains := HdM.fun_of (c.def_ 9 (d := m_Board_contains))
    h_Board_contains := ⟨a_Board_contains, i_Board_contains, k_Board_contains⟩
    F_are_neighbours := HdM.fun_of (c.def_ 10 (d := m_are_neighbours))
    m_are_neighbours := PySem.W.mg_of X G a_are_neighbours
    k_are_neighbours := k_are_neighbours
    F_is_fact := HdM.fun_of (c.def_ 11 (d := m_is_fact))
    m_is_fact := PySem.W.mg_of X G a_is_fact
    k_is_fact := k_is_fact
    F_leads := HdM.fun_of (c.def_ 12 (d := m_leads))
    m_leads := PySem.W.mg_of X G a_leads
    k_leads := k_leads
    F_is_let := HdM.fun_of (c.def_ 13 (d := m_is_let))
    m_is_let := PySem.W.mg_of X G a_is_let
    k_is_let := k_is_let
    F_check_facts := HdM.fun_of (c.def_ 14 (d := m_check_facts))
    m_check_facts := PySem.W.mg_of X G a_check_facts
    k_check_facts := k_check_facts
    F_Notes_init := c.def_ 15 (d := m_Notes_init)
    mk_Notes := ⟨mk_Notes, a_Notes_init, i_Notes_init, kc_Notes⟩
    g_Notes := PySem.W.mg_of X G g_Notes
    F_is_within := HdM.fun_of (c.def_ 16 (d := m_is_within))
    m_is_within := PySem.W.mg_of X G a_is_within
    k_is_within := k_is_within
    F_check_sizes := HdM.fun_of (c.def_ 17 (d := m_check_sizes))
    m_check_sizes := PySem.W.mg_of X G a_check_sizes
    k_check_sizes := k_check_sizes
    F_settings_in := HdM.fun_of (c.def_ 18 (d := m_settings_in))
    m_settings_in := PySem.W.mg_of X G a_settings_in
    k_settings_in := k_settings_in
    F_Board_init := HdM.fun_of (c.def_ 19 (d := m_Board_init))
    mk_Board := ⟨mk_Board, a_Board_init, i_Board_init, kc_Board⟩
    g_Board := PySem.W.mg_of X G g_Board
    F_board_told := HdM.fun_of (c.def_ 20 (d := m_board_told))
    m_board_told := PySem.W.mg_of X G a_board_told
    k_board_told := k_board_told
    F_notes_told := HdM.fun_of (c.def_ 21 (d := m_notes_told))
    m_notes_told := PySem.W.mg_of X G a_notes_told
    k_notes_told := k_notes_told
    F_Notes_read := HdM.fun_of (c.def_ 22 (d := m_Notes_read))
    cm_Notes_read := He5.cmet_of wm_Notes_read wi_Notes_read
    F_law_page := HdM.fun_of (c.def_ 23 (d := m_law_page))
    m_law_page := PySem.W.mg_of X G a_law_page
    k_law_page := k_law_page
    F_Board_str := HdM.fun_of (c.def_ 24 (d := m_Board_str))
    h_Board_str := ⟨a_Board_str, i_Board_str, k_Board_str⟩
    F_Notes_str := HdM.fun_of (c.def_ 25 (d := m_Notes_str))
    h_Notes_str := ⟨a_Notes_str, i_Notes_str, k_Notes_str⟩
    F_Notes_board := HdM.fun_of (c.def_ 26 (d := m_Notes_board))
    p_Notes_board := ⟨a_Notes_board, pg_Notes_board, pt_Notes_board, ⟨_, pr_Notes_board⟩⟩
    F_Notes_facts := HdM.fun_of (c.def_ 27 (d := m_Notes_facts))
    p_Notes_facts := ⟨a_Notes_facts, pg_Notes_facts, pt_Notes_facts, ⟨_, pr_Notes_facts⟩⟩
    F_Notes_len := HdM.fun_of (c.def_ 28 (d := m_Notes_len))
    h_Notes_len := ⟨a_Notes_len, i_Notes_len, k_Notes_len⟩
    F_Notes_bool := HdM.fun_of (c.def_ 29 (d := m_Notes_bool))
    h_Notes_bool := ⟨a_Notes_bool, i_Notes_bool, k_Notes_bool⟩
    F_law_shows := HdM.fun_of (c.def_ 30 (d := m_law_shows))
    m_law_shows := PySem.W.mg_of X G a_law_shows
    k_law_shows := k_law_shows
    F_Board_sizes := HdM.fun_of (c.def_ 31 (d := m_Board_sizes))
    p_Board_sizes := ⟨a_Board_sizes, pg_Board_sizes, pt_Board_sizes, ⟨_, pr_Board_sizes⟩⟩
    F_Board_eq := HdM.fun_of (c.def_ 32 (d := m_Board_eq))
    h_Board_eq := ⟨a_Board_eq, i_Board_eq, k_Board_eq⟩
    F_Notes_eq := HdM.fun_of (c.def_ 33 (d := m_Notes_eq))
    h_Notes_eq := ⟨a_Notes_eq, i_Notes_eq, k_Notes_eq⟩
    F_law_right := HdM.fun_of (c.def_ 34 (d := m_law_right))
    m_law_right := PySem.W.mg_of X G a_law_right
    k_law_right := k_law_right
    F_law_jar := HdM.fun_of (c.def_ 35 (d := m_law_jar))
    m_law_jar := PySem.W.mg_of X G a_law_jar
    k_law_jar := k_law_jar
    F_law := by rw [e2]; exact HdM.fun_of (c.def_ 36 (d := m_law))
    m_law := by rw [e2]; exact PySem.W.mg_of X G a_law
    k_law := by rw [e2]; exact k_law
    cr_Notes := ⟨rd_Notes, sg_Notes⟩
    c_Board := ⟨⟨pg_Board, hd_Board, po_Board, sa_Board⟩, ca_Board, cg_, ct_, cm_Board⟩
    n_Board_both := n_Board_both
    sx_Board_Notes := sx_Board_Notes
    c_Notes := ⟨⟨pg_Notes, hd_Notes, po_Notes, sa_Notes⟩, ca_Notes, cg_, ct_, cm_Notes⟩
    n_Notes_both := n_Notes_both
    ne_Notes := ne_Notes
    nm_Notes := cm_Notes
    sd_Notes := ⟨sd_Notes_str, sd_Notes_int, sd_Notes_NoneType, sd_Notes_tuple, sd_Notes_list, sd_Notes_dict⟩
    off_Notes := ⟨of_Notes_str, of_Notes_int, of_Notes_NoneType, of_Notes_tuple, of_Notes_list, of_Notes_dict⟩
    sx_Notes_Board := sx_Notes_Board
    g_DIGITS := ⟨_, PySem.W.mg_of X G g_DIGITS, rfl⟩
    g_HEAD := ⟨_, PySem.W.mg_of X G g_HEAD, ⟨_, rfl⟩⟩
    g_MOST_SETTINGS := ⟨_, PySem.W.mg_of X G g_MOST_SETTINGS, ⟨_, rfl⟩⟩
    g_MOST_SWITCHES := ⟨_, PySem.W.mg_of X G g_MOST_SWITCHES, ⟨_, rfl⟩⟩
    g_SIGN := ⟨_, PySem.W.mg_of X G g_SIGN, ⟨_, rfl⟩⟩
    g_STANDS := ⟨_, PySem.W.mg_of X G g_STANDS, rfl⟩
    r_DIGITS := fun w' => rep_dic (G := gm K w ⟨(v_f_law_dip K), (v_f_law_pick K), (v_f_law_spans K), (v_f_law_all K), (v_f_law_line K), (v_f_law_near K), (v_f_law_seen K), (v_f_law_share K), (v_f_check_board K), (v_f_Board_contains K), (v_f_are_neighbours K), (v_f_is_fact K), (v_f_leads K), (v_f_is_let K), (v_f_check_facts K), (v_f_Notes_init K), (v_f_is_within K), (v_f_check_sizes K), (v_f_settings_in K), (v_f_Board_init K), (v_f_board_told K), (v_f_notes_told K), (v_f_Notes_read K), (v_f_law_page K), (v_f_Board_str K), (v_f_Notes_str K), (v_f_Notes_board K), (v_f_Notes_facts K), (v_f_Notes_len K), (v_f_Notes_bool K), (v_f_law_shows K), (v_f_Board_sizes K), (v_f_Board_eq K), (v_f_Notes_eq K), (v_f_law_right K), (v_f_law_jar K), fa, (v_C_Board K), (v_C_Notes K), (v_P_Notes_read K), (v_P_Notes_board K), (v_P_Notes_facts K), (v_P_Board_sizes K), (v_A_DIGITS K), (v_A_STANDS K), (v_E_Notes_init_0 K), (v_C_NotABoard K), (v_i_NotABoard K), (v_C_InvalidFacts K), (v_i_InvalidFacts K), (v_C_InvalidSizes K), (v_i_InvalidSizes K), (v_C_InvalidText K), (v_i_InvalidText K)⟩) (vs := [.int 2, .int 3]) d_DIGITS rfl (Reps.cons Rep.int (Reps.cons Rep.int Reps.nil))
    r_STANDS := fun w' => rep_dic (G := gm K w ⟨(v_f_law_dip K), (v_f_law_pick K), (v_f_law_spans K), (v_f_law_all K), (v_f_law_line K), (v_f_law_near K), (v_f_law_seen K), (v_f_law_share K), (v_f_check_board K), (v_f_Board_contains K), (v_f_are_neighbours K), (v_f_is_fact K), (v_f_leads K), (v_f_is_let K), (v_f_check_facts K), (v_f_Notes_init K), (v_f_is_within K), (v_f_check_sizes K), (v_f_settings_in K), (v_f_Board_init K), (v_f_board_told K), (v_f_notes_told K), (v_f_Notes_read K), (v_f_law_page K), (v_f_Board_str K), (v_f_Notes_str K), (v_f_Notes_board K), (v_f_Notes_facts K), (v_f_Notes_len K), (v_f_Notes_bool K), (v_f_law_shows K), (v_f_Board_sizes K), (v_f_Board_eq K), (v_f_Notes_eq K), (v_f_law_right K), (v_f_law_jar K), fa, (v_C_Board K), (v_C_Notes K), (v_P_Notes_read K), (v_P_Notes_board K), (v_P_Notes_facts K), (v_P_Board_sizes K), (v_A_DIGITS K), (v_A_STANDS K), (v_E_Notes_init_0 K), (v_C_NotABoard K), (v_i_NotABoard K), (v_C_InvalidFacts K), (v_i_InvalidFacts K), (v_C_InvalidSizes K), (v_i_InvalidSizes K), (v_C_InvalidText K), (v_i_InvalidText K)⟩) (vs := [.str "01", .str "012"]) d_STANDS rfl (Reps.cons Rep.str (Reps.cons Rep.str Reps.nil))
    isi_Board_t := fun t b h => by
      revert h; unfold isi_Board; split <;> intro h <;> cases h <;> first | exact ki_Board_non | exact ki_Board_bl | exact ki_Board_int | exact ki_Board_str | exact ki_Board_tup | exact ki_Board_lst | exact ki_Board_dic | exact ki_Board_Board | exact ki_Board_Notes
    isi_Board_c := fun c b h => by
      have e := is_Board h
      rcases e with rfl | rfl <;> first | exact ⟨⟨pg_Board, hd_Board, po_Board, sa_Board⟩, ca_Board, cg_, ct_, cm_Board⟩ | exact ⟨⟨pg_Notes, hd_Notes, po_Notes, sa_Notes⟩, ca_Notes, cg_, ct_, cm_Notes⟩
    isi_Notes_t := fun t b h => by
      revert h; unfold isi_Notes; split <;> intro h <;> cases h <;> first | exact ki_Notes_non | exact ki_Notes_bl | exact ki_Notes_int | exact ki_Notes_str | exact ki_Notes_tup | exact ki_Notes_lst | exact ki_Notes_dic | exact ki_Notes_Board | exact ki_Notes_Notes
    isi_Notes_c := fun c b h => by
      have e := is_Notes h
      rcases e with rfl | rfl <;> first | exact ⟨⟨pg_Board, hd_Board, po_Board, sa_Board⟩, ca_Board, cg_, ct_, cm_Board⟩ | exact ⟨⟨pg_Notes, hd_Notes, po_Notes, sa_Notes⟩, ca_Notes, cg_, ct_, cm_Notes⟩
    x_NotABoard := ExL.clG_of (PySem.W.mg_of X G xg_NotABoard) x1_NotABoard x2_NotABoard x3_NotABoard x4_NotABoard x5_NotABoard x6_NotABoard x7_NotABoard x8_NotABoard x9_NotABoard (c.def_ 37 (d := m_x_NotABoard)) x0_NotABoard
    x_InvalidFacts := ExL.clI_of (PySem.W.mg_of X G xg_InvalidFacts) x1_InvalidFacts x2_InvalidFacts x3_InvalidFacts x4_InvalidFacts x5_InvalidFacts x6_InvalidFacts x7_InvalidFacts x8_InvalidFacts x9_InvalidFacts (c.def_ 38 (d := m_x_InvalidFacts)) x0_InvalidFacts
    x_InvalidSizes := ExL.clI_of (PySem.W.mg_of X G xg_InvalidSizes) x1_InvalidSizes x2_InvalidSizes x3_InvalidSizes x4_InvalidSizes x5_InvalidSizes x6_InvalidSizes x7_InvalidSizes x8_InvalidSizes x9_InvalidSizes (c.def_ 39 (d := m_x_InvalidSizes)) x0_InvalidSizes
    x_InvalidText := ExL.clG_of (PySem.W.mg_of X G xg_InvalidText) x1_InvalidText x2_InvalidText x3_InvalidText x4_InvalidText x5_InvalidText x6_InvalidText x7_InvalidText x8_InvalidText x9_InvalidText (c.def_ 40 (d := m_x_InvalidText)) x0_InvalidText
    em_NotABoard_InvalidSizes := em_NotABoard_InvalidSizes
    em_InvalidFacts_InvalidSizes := em_InvalidFacts_InvalidSizes
    em_InvalidSizes_InvalidSizes := em_InvalidSizes_InvalidSizes
    em_InvalidText_InvalidSizes := em_InvalidText_InvalidSizes
    em_NotABoard_InvalidFacts := em_NotABoard_InvalidFacts
    em_InvalidFacts_InvalidFacts := em_InvalidFacts_InvalidFacts
    em_InvalidSizes_InvalidFacts := em_InvalidSizes_InvalidFacts
    em_InvalidText_InvalidFacts := em_InvalidText_InvalidFacts
    z_abs := PySem.W.mg_none_of X G z_abs
    z_all := PySem.W.mg_none_of X G z_all
    z_bool := PySem.W.mg_none_of X G z_bool
    z_int := PySem.W.mg_none_of X G z_int
    z_isinstance := PySem.W.mg_none_of X G z_isinstance
    z_len := PySem.W.mg_none_of X G z_len
    z_max := PySem.W.mg_none_of X G z_max
    z_min := PySem.W.mg_none_of X G z_min
    z_range := PySem.W.mg_none_of X G z_range
    z_repr := PySem.W.mg_none_of X G z_repr
    z_str := PySem.W.mg_none_of X G z_str
    z_tuple := PySem.W.mg_none_of X G z_tuple
    e_Notes_init_0 := fun _ hKG _ => rep_unit u_Notes_init_0 hKG }
  obtain ⟨fdl, Fl⟩ := T.F_law
  refine ⟨gm K w ⟨(v_f_law_dip K), (v_f_law_pick K), (v_f_law_spans K), (v_f_law_all K), (v_f_law_line K), (v_f_law_near K), (v_f_law_seen K), (v_f_law_share K), (v_f_check_board K), (v_f_Board_contains K), (v_f_are_neighbours K), (v_f_is_fact K), (v_f_leads K), (v_f_is_let K), (v_f_check_facts K), (v_f_Notes_init K), (v_f_is_within K), (v_f_check_sizes K), (v_f_settings_in K), (v_f_Board_init K), (v_f_board_told K), (v_f_notes_told K), (v_f_Notes_read K), (v_f_law_page K), (v_f_Board_str K), (v_f_Notes_str K), (v_f_Notes_board K), (v_f_Notes_facts K), (v_f_Notes_len K), (v_f_Notes_bool K), (v_f_law_shows K), (v_f_Board_sizes K), (v_f_Board_eq K), (v_f_Notes_eq K), (v_f_law_right K), (v_f_law_jar K), fa, (v_C_Board K), (v_C_Notes K), (v_P_Notes_read K), (v_P_Notes_board K), (v_P_Notes_facts K), (v_P_Board_sizes K), (v_A_DIGITS K), (v_A_STANDS K), (v_E_Notes_init_0 K), (v_C_NotABoard K), (v_i_NotABoard K), (v_C_InvalidFacts K), (v_i_InvalidFacts K), (v_C_InvalidSizes K), (v_i_InvalidSizes K), (v_C_InvalidText K), (v_i_InvalidText K)⟩, fdl, rfl, rfl, ?_, fun base _ _ => ok_law T Fl⟩
  obtain ⟨⟨oc, od, kV, doc, pm, an, cdv, ct, osl, rfl, lk, cd⟩, kp⟩ := Fl
  exact fun s v => .of_eq rfl
abbrev R : PySem.W.OpenRow := PySem.W.OpenLaw.row PySem.Challenge.rw_switchhills_k15_whole_notes_made
def nq : Nat := 45
abbrev qv : Program := PySem.W.view R.prog [nq]
def names_0 : List Str := ["_wall", "__name__", "WrongValue", "InvalidText", "InvalidFact", "NotABoard", "InvalidSizes", "InvalidFacts", "WrongName", "UnknownSetting", "MOST_SWITCHES", "MOST_SETTINGS", "STANDS", "DIGITS", "is_within", "check_sizes", "settings_in", "board_told", "Board", "check_board", "check_setting", "are_neighbours", "HEAD", "SIGN", "is_fact"]
def names_1 : List Str := ["leads", "is_let", "check_facts", "Notes", "notes_told", "_law_jar", "_law_dip", "_law_pick", "_law_spans", "_law_all", "_law_near", "_law_line", "_law_seen", "_law_share", "_law_page", "_law_shows", "_law_right"]
def names : List Str := names_0 ++ (names_1)
def xs_0 : List Str := ["_law_dip", "_law_pick", "_law_spans", "_law_all", "_law_line", "_law_near", "_law_seen", "_law_share", "check_board", "are_neighbours", "is_fact", "leads", "is_let", "check_facts", "is_within", "check_sizes", "settings_in", "board_told", "notes_told", "_law_page", "_law_shows", "_law_right", "_law_jar", "law", "Board"]
def xs_1 : List Str := ["Notes", "NotABoard", "InvalidFacts", "InvalidSizes", "InvalidText", "DIGITS", "STANDS"]
def xs : List Str := xs_0 ++ (xs_1)
set_option maxHeartbeats 0 in
theorem run_f (w : World) : HandSHeadRun.RunEq R qv (HdM.hookM xs fs fn dc hs) (HdM.obM xs fs fn dc) 40000 names (w.withFollow "special-get-raises" false) := by
  intro os
  kernel_rfl
set_option maxHeartbeats 0 in
theorem run_t (w : World) : HandSHeadRun.RunEq R qv (HdM.hookM xs fs fn dc hs) (HdM.obM xs fs fn dc) 40000 names (w.withFollow "special-get-raises" true) := by
  intro os
  kernel_rfl
theorem run (w : World) : HandSHeadRun.RunEq R qv (HdM.hookM xs fs fn dc hs) (HdM.obM xs fs fn dc) 40000 names w := PySem.W.byRow2 "special-get-raises" (P := fun w => HandSHeadRun.RunEq R qv (HdM.hookM xs fs fn dc hs) (HdM.obM xs fs fn dc) 40000 names w) run_f run_t w
end K15
open PySem PySem.W PySem.Calls PyProof.Rows in
set_option maxRecDepth 100000 in
set_option maxHeartbeats 0 in
theorem PySem.Challenge.cw_switchhills_k15_whole_notes_made_holds : PySem.Challenge.rw_switchhills_k15_whole_notes_made.Holds := by
  w_on; o_law
  refine HandSHeadRun.head_any (r := OpenLaw.row PySem.Challenge.rw_switchhills_k15_whole_notes_made) (q := K15.qv) (H := HdM.hookM K15.xs K15.fs K15.fn K15.dc K15.hs) (ob := HdM.obM K15.xs K15.fs K15.fn K15.dc) (M := 40000) (loose := K15.names) (d := HandSHeadRun.topDef (OpenLaw.row PySem.Challenge.rw_switchhills_k15_whole_notes_made).prog K15.nq) (kwd := []) HdM.obM_eq (by kernel_rfl) (fun s => by kernel_rfl) K15.run (by kernel_rfl) (by kernel_rfl) (by kernel_rfl) (by rfl) (by first | assumption | decide +kernel) (by decide +kernel) ⟨rfl, rfl, rfl, rfl, rfl, by decide +kernel⟩ ?hw ?hc
  case hw => w_witness2
  case hc =>
    refine HdM.walk_ofM (l := PySem.Challenge.rw_switchhills_k15_whole_notes_made) (n := 63) (k := 9) (x := "script") (sp := K15.sp_law) rfl (by decide) (by kernel_rfl) ⟨rfl, by decide, by decide⟩ ?F K15.law_asks
    intro w K mg fa h KX c G hmg0
    have hmg : mg ("law" : PySem.Str) = some (.ref fa) := by
      have e : (HandSHeadRun.topDef (OpenLaw.row PySem.Challenge.rw_switchhills_k15_whole_notes_made).prog K15.nq).name = ("law" : PySem.Str) := by kernel_rfl
      rw [← e]
      exact hmg0
    exact K15.all_mk KX c G hmg
