import PyProof.Rows.All
import Wide.All
import OpenK.AllK
import Wide.FinOn
import HandS.ForMost
import HandS.Exc
import HandS.ExcOwn
import HandS.WordsExc
import HandS.Property
import HandS.TupAny
import HandS.Deep
import HandS.IsInst
import HandS.ReCall
import HandS.Lambda
import HandS.Flow
import HandS.Style
import KE.KSortTupG
import HandS.RaiseMore
import KE.KExcIs
import HandS.TryOnly
import HandS.EndBits
import HandS.Strs
import HandS.Defaults
import PyProof.Rows.ListMulArg
import HandS.TupMul
import KE.KRevSl
import HandS.More
import PyProof.InstNe
import HandS.SetFor
import PyProof.Rows.SortShellAny
import KE.KExcInit
import KE.KTryMore
import KE.KStateDown
import HandS.Head0
import HandS.Head1
import HandS.Head2
import HandS.HeadHook1
import HandS.HeadHook2
import HandS.EndTab
import PyProof.ListStr
import HandS.Conv
import PyProof.StrBlock2
import PyProof.NeKinds
import PyProof.Rows.CountFlat
import PyProof.EqKinds
import HandS.Text
import HandS.ClsMeth
import HandS.HeadNt
import PySem.Challenge.RW_switchhills_k03_whole_sizes_and_texts_re
set_option Elab.async false
set_option linter.all false
set_option maxRecDepth 100000
set_option maxHeartbeats 4000000
/-! The data layer, part 0: new tuples whose object is known to have no dict of its own (so that their methods may be called). -/
namespace DL
open PySem L2 PyProof.Rows
/-- a tuple without a dict of its own: known, or of the module -/
def TpT (K : PySem.W.Frag) (H : Hp) (a : Addr) (xs : List V) : Prop := (∃ o, H a = some (.frz o (.tup xs)) ∧ o.dict = none) ∨
  ∃ (o : Obj) (its : Array Value) (n : Nat), K.lookup a = some o ∧ o.cls = .type "tuple" ∧ o.dict = none ∧ o.data = .seq its n ∧ its.size ≤ sizeLine ∧ Vals xs its.toList
theorem TpT.sqt {K : PySem.W.Frag} {H : Hp} {a : Addr} {xs : List V} (h : TpT K H a xs) : SqT K H a xs := by
  rcases h with ⟨o, e, _⟩ | ⟨o, its, n, e, c, _, d, z, r⟩
  · exact .inl (.inr ⟨o, e⟩)
  · exact .inr ⟨o, its, n, e, c, d, z, r⟩
theorem tpT_sub {K : PySem.W.Frag} {H H' : Hp} {a : Addr} {xs : List V} (k : ∀ a o, H a = some o → H' a = some o) (h : TpT K H a xs) : TpT K H' a xs := h.imp (fun ⟨o, e, d⟩ => ⟨o, k _ _ e, d⟩) id
section
variable {X : Cx} {es : List Expr} {t : TA} {pos : Pos}
/-- a new tuple at p -/
abbrev NewT (H : Hp) (xs : List V) (Q : VK) : Prop := ∀ p o, H p = none → o.dict = none → Q (.ref p) (upd H p (.frz o (.tup xs)))
theorem laidT {pins : List (Addr × Obj)} {σ : L2.St} {H : Hp} {s : Shared} {xs : List V} {its : List Value} {Q : VK} (I : Inv X pins σ H s) (r : Vals xs its) (hz : xs.length ≤ sizeLine) (q : NewT H xs Q) :
    EP X pins σ Q (.ref s.heap.objs.size) { s with heap := s.heap.push { cls := .type "tuple", data := .seq its.toArray } } :=
  ⟨.ref s.heap.objs.size, _, I.laid (t' := s.toks) (o := .frz { cls := .type "tuple", data := .seq its.toArray } (.tup xs)) (fun _ _ q => Heap.get?_push_of_some _ q) (Nat.le_refl _)
    ⟨Heap.get?_push_size _ rfl, hz, its, r, IsTup.new _ _⟩, rfl, q _ _ (I.hok.fresh (Nat.le_refl _)) rfl⟩
def tTupF (t : TA) : TE := fun σ H Q => t σ H fun xs H1 => xs.length ≤ sizeLine ∧ NewT H1 xs Q
theorem pe_tupF {x1} (h : PA X es t) : PE X (.Tuple es x1 pos) (tTupF t) := by
  refine ⟨fun pins s σ H Q I hq => ?_⟩
  exact wpAny_Tuple_spliced (thn (h.run pos pins s σ H _ I hq) fun us s1 ⟨xs, H1, I1, r, z, q⟩ => ⟨by rw [← r.length]; exact z, laidT I1 r z q⟩)
def rCatF (K : PySem.W.Frag) : R2 := fun x y H Q => ∃ a b xs ys, x = .ref a ∧ y = .ref b ∧ SqT K H a xs ∧ SqT K H b ys ∧ xs.length + ys.length ≤ sizeLine ∧
  (xs = [] → Q (.ref b) H) ∧ (xs ≠ [] → ys = [] → Q (.ref a) H) ∧ (xs ≠ [] → ys ≠ [] → NewT H (xs ++ ys) Q)
theorem op_catF : OpR X (binaryOp .Add) (rCatF X.K) := by
  intro pins s σ H x y v u Q I rx ry h
  obtain ⟨a, b, xs, ys, rfl, rfl, ha, hb, hz, q0, q1, q2⟩ := h
  by_cases hx : xs = []
  · subst hx
    exact op_catA pins s σ H _ _ v u Q I rx ry ⟨a, b, [], ys, rfl, rfl, ha, hb, hz, q0, fun z => absurd rfl z, fun z => absurd rfl z⟩
  · cases rx
    cases ry
    obtain ⟨its, r1, p1, _⟩ := I.tuple ha
    obtain ⟨its2, r2, p2, _⟩ := I.tuple hb
    refine HT.cat_tup p1 p2 (fun z => hx (r1.nil_iff.mp z)) (fun z => ⟨.ref a, H, I, rfl, q1 hx (r2.nil_iff.mp z)⟩) (fun z => ?_) (by rw [← r1.length, ← r2.length]; exact hz)
    exact laidT I (r1.append r2) (by rw [List.length_append]; exact hz) (q2 hx fun w => z (r2.nil_iff.mpr w))
def rSlF (K : PySem.W.Frag) : V → Option Int → Option Int → Hp → VK → Prop := fun x lo hi H Q => ∃ a xs, x = .ref a ∧ SqT K H a xs ∧
  (HT.sIx xs.length 0 lo = 0 ∧ HT.sIx xs.length xs.length hi = xs.length → Q (.ref a) H) ∧ (¬ (HT.sIx xs.length 0 lo = 0 ∧ HT.sIx xs.length xs.length hi = xs.length) → NewT H (cutV xs lo hi) Q)
theorem sl_tupF : SlR X (rSlF X.K) := by
  intro pins s σ H x v vl vu lo hi sl Q I rx hs pl pu h
  obtain ⟨a, xs, rfl, hx, q1, q2⟩ := h
  by_cases hw : HT.sIx xs.length 0 lo = 0 ∧ HT.sIx xs.length xs.length hi = xs.length
  · exact sl_tupA pins s σ H _ v vl vu lo hi sl Q I rx hs pl pu ⟨a, xs, rfl, hx, q1, fun z => absurd hw z⟩
  · cases rx
    obtain ⟨its, r, ht, hz⟩ := I.tuple hx
    have hlen : its.toArray.size = xs.length := by rw [List.size_toArray]; exact r.length.symm
    refine ⟨"tuple", _, PyProof.Rows.slot_tuple_getitem.lookup, ht.typeIs, ?_⟩
    refine HT.getItem_tuple_cut ht hs pl pu (by rw [hlen]; exact hw) ?_ (by rw [hlen]; exact hz)
    rw [hlen]
    exact laidT I ((r.drop (HT.sIx xs.length 0 lo)).take (HT.sIx xs.length xs.length hi - HT.sIx xs.length 0 lo)) (Nat.le_trans (cutV_length xs lo hi) hz) (q2 hw)
theorem call_tupleF : CallR X (.type "tuple") (fun xs H Q => ∃ p ys, xs = [.ref p] ∧ ((SqL X.K H p ys ∧ NewT H ys Q) ∨ (SqT X.K H p ys ∧ Q (.ref p) H))) := by
  intro pins s σ H xs us Q I r h
  obtain ⟨p, ys, rfl, h⟩ := h
  rcases h with ⟨hq, q⟩ | ⟨hq, q⟩
  · obtain ⟨u, rfl, rx⟩ := vals1 r
    cases rx
    obtain ⟨its, r', pl, hz⟩ := I.list hq
    have hlen := r'.length
    refine call_tuple_list pl.isList (fun h' kp => ?_) (by simp only [List.size_toArray] <;> omega)
    exact laidT (I.kept (t' := s.toks) kp) r' hz q
  · exact call_tuple_of pins s σ H _ us Q I r ⟨p, ys, rfl, .inr ⟨hq, q⟩⟩
end
end DL
/-! The data layer, part 1: data, worlds, frames, readings. -/
namespace DL
open PySem L2

/-- plain data, as a program that shares nothing sees it -/
inductive D where
  | non | bl (b : Bool) | int (i : Int) | str (s : Str)
  | tup (ds : List D) | lst (ds : List D)
  | dic (ks : List Key) (ds : List D)
  | obj (c : Nat) (ds : List D)
  | exc (c : Nat) (ds : List D)
  | jar

/-- what is fixed: the written part, the own classes' addresses and attributes -/
structure Gm where
  K : PySem.W.Frag
  pw : World
  cls : Nat → Addr
  fld : Nat → List Str
  tb : List (Addr × Str) := []

/-- a world: what of the heap is frozen; what changes outside of the frames (jr): the jars (ja), the tables of code objects (tb: the table, the name that its code objects bear) -/
structure Wd where
  hd : Hp
  jr : Addr → Prop
  ja : Addr → Prop
  tb : List (Addr × Str)

/-- a dict of the written part -/
def KEnt (w : World) : List DictEntry → List (Key × V) → Prop
  | [], [] => True
  | e :: r, (k, v) :: t => keyIs k e.key = true ∧ e.hash = keyH w k ∧ RelV v e.val ∧ KEnt w r t
  | _, _ => False
def KDic (K : PySem.W.Frag) (w : World) (a : Addr) (kvs : List (Key × V)) : Prop :=
  ∃ es n, K.lookup a = some ⟨.type "dict", none, .dict es n, #[]⟩ ∧ (a == sysModules) = false ∧ KEnt w es.toList kvs

/-- a list that may be read: tracked, known, or the module's own -/
def LsT (K : PySem.W.Frag) (H : Hp) (a : Addr) (xs : List V) : Prop := Rd H a (.lst xs) ∨ ∃ its n, K.lookup a = some { cls := .type "list", data := .seq its n } ∧ its.size ≤ sizeLine ∧ Vals xs its.toList
theorem LsT.sql {K : PySem.W.Frag} {H : Hp} {a : Addr} {xs : List V} (h : LsT K H a xs) : SqL K H a xs := by
  rcases h with h | ⟨its, n, e, z, r⟩
  · exact .inl h
  · exact .inr ⟨_, its, n, e, rfl, rfl, rfl, z, r⟩
/-- what stands at a is an exception of the class at C; its dict -/
def XcAt (o : HO) (C : Addr) (od : Option Addr) (a : Addr) : Prop := ∀ (P : Program) (w : World) (H : Hp) (h : Heap), ObjOk P w H h a o → ∃ (oe : Obj) (vs : Array Value), h.get? a = some oe ∧ oe.cls = .ref C ∧ oe.dict = od ∧ oe.data = .fields vs
mutual
def Rep (G : Gm) (w : Wd) : D → V → Prop
  | .non, v => v = .non
  | .bl b, v => v = .bl b
  | .int i, v => v = .int i
  | .str s, v => v = .str s
  | .tup ds, v => ∃ a vs, v = .ref a ∧ TpT G.K w.hd a vs ∧ Reps G w ds vs
  | .lst ds, v => ∃ a vs, v = .ref a ∧ LsT G.K w.hd a vs ∧ Reps G w ds vs
  | .dic ks ds, v => ∃ a vs, v = .ref a ∧ (w.hd a = some (.dK (ks.zip vs)) ∨ KDic G.K G.pw a (ks.zip vs)) ∧ ks.length = vs.length ∧ Reps G w ds vs
  | .obj c ds, v => ∃ a dx fs, v = .ref a ∧ w.hd a = some (.ins (G.cls c) dx fs) ∧ fs.map (·.1) = G.fld c ∧ Reps G w ds (fs.map (·.2)) ∧ w.tb = G.tb
  | .exc c ds, v => ∃ a o od vs, v = .ref a ∧ w.hd a = some o ∧ XcAt o (G.cls c) od a ∧ Reps G w ds vs ∧ ((od = none ∧ vs = []) ∨ ∃ dx nm u, od = some dx ∧ vs = [u] ∧ G.fld c = [nm] ∧ w.hd dx = some (.xd [(nm, u)]))
  | .jar, v => ∃ a, v = .ref a ∧ w.ja a
def Reps (G : Gm) (w : Wd) : List D → List V → Prop
  | [], vs => vs = []
  | d :: ds, vs => ∃ v r, vs = v :: r ∧ Rep G w d v ∧ Reps G w ds r
end

/-- more is frozen -/
structure Sub (w w' : Wd) : Prop where
  hd : ∀ a o, w.hd a = some o → w'.hd a = some o
  jr : ∀ a, w.jr a → w'.jr a
  ja : ∀ a, w.ja a → w'.ja a
  tb : w'.tb = w.tb
theorem Sub.refl (w : Wd) : Sub w w := ⟨fun _ _ h => h, fun _ h => h, fun _ h => h, rfl⟩
theorem Sub.trans {w1 w2 w3 : Wd} (a : Sub w1 w2) (b : Sub w2 w3) : Sub w1 w3 := ⟨fun x o h => b.hd x o (a.hd x o h), fun x h => b.jr x (a.jr x h), fun x h => b.ja x (a.ja x h), b.tb.trans a.tb⟩
theorem sqT_sub {K : PySem.W.Frag} {H H' : Hp} {a : Addr} {xs : List V} (k : ∀ a o, H a = some o → H' a = some o) (h : SqT K H a xs) : SqT K H' a xs := by
  rcases h with (h | ⟨o, h⟩) | h
  · exact .inl (.inl (k _ _ h))
  · exact .inl (.inr ⟨o, k _ _ h⟩)
  · exact .inr h
theorem rd_sub {H H' : Hp} {a : Addr} {u : HO} (k : ∀ a o, H a = some o → H' a = some o) (h : Rd H a u) : Rd H' a u := by
  rcases h with h | ⟨o, h⟩
  · exact .inl (k _ _ h)
  · exact .inr ⟨o, k _ _ h⟩
theorem lsT_sub {K : PySem.W.Frag} {H H' : Hp} {a : Addr} {xs : List V} (k : ∀ a o, H a = some o → H' a = some o) (h : LsT K H a xs) : LsT K H' a xs := h.imp (rd_sub k) id
mutual
theorem Rep.mono {G : Gm} {w w' : Wd} (k : Sub w w') : ∀ {d : D} {v : V}, Rep G w d v → Rep G w' d v
  | .non, v, h => by unfold Rep at h ⊢; exact h
  | .bl b, v, h => by unfold Rep at h ⊢; exact h
  | .int i, v, h => by unfold Rep at h ⊢; exact h
  | .str s, v, h => by unfold Rep at h ⊢; exact h
  | .tup ds, v, h => by
    unfold Rep at h ⊢
    obtain ⟨a, vs, e, hs, hr⟩ := h
    exact ⟨a, vs, e, tpT_sub k.hd hs, Reps.mono k hr⟩
  | .lst ds, v, h => by
    unfold Rep at h ⊢
    obtain ⟨a, vs, e, hs, hr⟩ := h
    exact ⟨a, vs, e, lsT_sub k.hd hs, Reps.mono k hr⟩
  | .dic ks ds, v, h => by
    unfold Rep at h ⊢
    obtain ⟨a, vs, e, hs, hl, hr⟩ := h
    exact ⟨a, vs, e, hs.imp (k.hd _ _) id, hl, Reps.mono k hr⟩
  | .obj c ds, v, h => by
    unfold Rep at h ⊢
    obtain ⟨a, dx, fs, e, hs, hl, hr, ht⟩ := h
    exact ⟨a, dx, fs, e, k.hd _ _ hs, hl, Reps.mono k hr, k.tb.trans ht⟩
  | .exc c ds, v, h => by
    unfold Rep at h ⊢
    obtain ⟨a, o, od, vs, e, ho, hx, hr, hd⟩ := h
    exact ⟨a, o, od, vs, e, k.hd _ _ ho, hx, Reps.mono k hr, hd.imp id fun ⟨dx, nm, u, h1, h2, h3, h4⟩ => ⟨dx, nm, u, h1, h2, h3, k.hd _ _ h4⟩⟩
  | .jar, v, h => by
    unfold Rep at h ⊢
    obtain ⟨a, e, hj⟩ := h
    exact ⟨a, e, k.ja a hj⟩
theorem Reps.mono {G : Gm} {w w' : Wd} (k : Sub w w') : ∀ {ds : List D} {vs : List V}, Reps G w ds vs → Reps G w' ds vs
  | [], vs, h => by unfold Reps at h ⊢; exact h
  | d :: ds, vs, h => by
    unfold Reps at h ⊢
    obtain ⟨v, r, e, h1, h2⟩ := h
    exact ⟨v, r, e, Rep.mono k h1, Reps.mono k h2⟩
end

/-! ### Reps as a relation of lists -/
section
variable {G : Gm} {w : Wd}
theorem Reps.nil : Reps G w [] [] := by unfold Reps; rfl
theorem Reps.cons {d : D} {ds : List D} {v : V} {vs : List V} (h : Rep G w d v) (t : Reps G w ds vs) : Reps G w (d :: ds) (v :: vs) := by
  unfold Reps; exact ⟨v, vs, rfl, h, t⟩
theorem Reps.of_nil {vs : List V} (h : Reps G w [] vs) : vs = [] := by unfold Reps at h; exact h
theorem Reps.of_cons {d : D} {ds : List D} {vs : List V} (h : Reps G w (d :: ds) vs) : ∃ v r, vs = v :: r ∧ Rep G w d v ∧ Reps G w ds r := by
  unfold Reps at h; exact h
theorem Reps.length : ∀ {ds : List D} {vs : List V}, Reps G w ds vs → ds.length = vs.length
  | [], vs, h => by rw [h.of_nil]; rfl
  | d :: ds, vs, h => by
    obtain ⟨v, r, e, _, h2⟩ := h.of_cons
    rw [e, List.length_cons, List.length_cons, Reps.length h2]
theorem Reps.append : ∀ {ds es : List D} {vs us : List V}, Reps G w ds vs → Reps G w es us → Reps G w (ds ++ es) (vs ++ us)
  | [], es, vs, us, h, k => by rw [h.of_nil]; exact k
  | d :: ds, es, vs, us, h, k => by
    obtain ⟨v, r, e, h1, h2⟩ := h.of_cons
    rw [e]
    exact Reps.cons h1 (Reps.append h2 k)
theorem Reps.get : ∀ {ds : List D} {vs : List V} {i : Nat} {v : V}, Reps G w ds vs → vs[i]? = some v → ∃ d, ds[i]? = some d ∧ Rep G w d v
  | [], vs, i, v, h, e => by rw [h.of_nil] at e; simp at e
  | d :: ds, vs, i, v, h, e => by
    obtain ⟨x, r, q, h1, h2⟩ := h.of_cons
    subst q
    cases i with
    | zero => simp at e; subst e; exact ⟨d, by simp, h1⟩
    | succ i =>
      obtain ⟨d', a, b⟩ := Reps.get (i := i) (v := v) h2 (by simpa using e)
      exact ⟨d', by simpa using a, b⟩
theorem Reps.getD : ∀ {ds : List D} {vs : List V} {i : Nat} {d : D}, Reps G w ds vs → ds[i]? = some d → ∃ v, vs[i]? = some v ∧ Rep G w d v
  | [], vs, i, d, h, e => by simp at e
  | x :: ds, vs, i, d, h, e => by
    obtain ⟨v, r, q, h1, h2⟩ := h.of_cons
    subst q
    cases i with
    | zero => simp at e; subst e; exact ⟨v, by simp, h1⟩
    | succ i =>
      obtain ⟨d', a, b⟩ := Reps.getD (i := i) (d := d) h2 (by simpa using e)
      exact ⟨d', by simpa using a, b⟩
theorem Reps.take : ∀ {ds : List D} {vs : List V} (n : Nat), Reps G w ds vs → Reps G w (ds.take n) (vs.take n)
  | [], vs, n, h => by rw [h.of_nil]; simp; exact Reps.nil
  | d :: ds, vs, n, h => by
    obtain ⟨v, r, e, h1, h2⟩ := h.of_cons
    subst e
    cases n with
    | zero => exact Reps.nil
    | succ n => exact Reps.cons h1 (Reps.take n h2)
theorem Reps.drop : ∀ {ds : List D} {vs : List V} (n : Nat), Reps G w ds vs → Reps G w (ds.drop n) (vs.drop n)
  | [], vs, n, h => by rw [h.of_nil]; simp; exact Reps.nil
  | d :: ds, vs, n, h => by
    obtain ⟨v, r, e, h1, h2⟩ := h.of_cons
    subst e
    cases n with
    | zero => exact Reps.cons h1 h2
    | succ n => exact Reps.drop n h2
theorem Reps.reverse : ∀ {ds : List D} {vs : List V}, Reps G w ds vs → Reps G w ds.reverse vs.reverse
  | [], vs, h => by rw [h.of_nil]; exact Reps.nil
  | d :: ds, vs, h => by
    obtain ⟨v, r, e, h1, h2⟩ := h.of_cons
    subst e
    rw [List.reverse_cons, List.reverse_cons]
    exact Reps.append (Reps.reverse h2) (Reps.cons h1 Reps.nil)
theorem Rep.int_of {i : Int} {v : V} (h : Rep G w (.int i) v) : v = .int i := by unfold Rep at h; exact h
theorem Rep.str_of {i : Str} {v : V} (h : Rep G w (.str i) v) : v = .str i := by unfold Rep at h; exact h
theorem Rep.bl_of {i : Bool} {v : V} (h : Rep G w (.bl i) v) : v = .bl i := by unfold Rep at h; exact h
theorem Rep.non_of {v : V} (h : Rep G w .non v) : v = .non := by unfold Rep at h; exact h
theorem Rep.tup_of {ds : List D} {v : V} (h : Rep G w (.tup ds) v) : ∃ a vs, v = .ref a ∧ TpT G.K w.hd a vs ∧ Reps G w ds vs := by unfold Rep at h; exact h
theorem Rep.lst_of {ds : List D} {v : V} (h : Rep G w (.lst ds) v) : ∃ a vs, v = .ref a ∧ LsT G.K w.hd a vs ∧ Reps G w ds vs := by unfold Rep at h; exact h
theorem Rep.dic_of {ks : List Key} {ds : List D} {v : V} (h : Rep G w (.dic ks ds) v) : ∃ a vs, v = .ref a ∧ (w.hd a = some (.dK (ks.zip vs)) ∨ KDic G.K G.pw a (ks.zip vs)) ∧ ks.length = vs.length ∧ Reps G w ds vs := by unfold Rep at h; exact h
theorem Rep.obj_of {c : Nat} {ds : List D} {v : V} (h : Rep G w (.obj c ds) v) : ∃ a dx fs, v = .ref a ∧ w.hd a = some (.ins (G.cls c) dx fs) ∧ fs.map (·.1) = G.fld c ∧ Reps G w ds (fs.map (·.2)) ∧ w.tb = G.tb := by unfold Rep at h; exact h
theorem Rep.exc_of {c : Nat} {ds : List D} {v : V} (h : Rep G w (.exc c ds) v) : ∃ a o od vs, v = .ref a ∧ w.hd a = some o ∧ XcAt o (G.cls c) od a ∧ Reps G w ds vs ∧ ((od = none ∧ vs = []) ∨ ∃ dx nm u, od = some dx ∧ vs = [u] ∧ G.fld c = [nm] ∧ w.hd dx = some (.xd [(nm, u)])) := by unfold Rep at h; exact h
theorem Rep.jar_of {v : V} (h : Rep G w .jar v) : ∃ a, v = .ref a ∧ w.ja a := by unfold Rep at h; exact h
theorem Rep.int {i : Int} : Rep G w (.int i) (.int i) := by unfold Rep; rfl
theorem Rep.str {i : Str} : Rep G w (.str i) (.str i) := by unfold Rep; rfl
theorem Rep.bl {i : Bool} : Rep G w (.bl i) (.bl i) := by unfold Rep; rfl
theorem Rep.non : Rep G w .non .non := by unfold Rep; rfl
theorem Rep.tup {ds : List D} {a : Addr} {vs : List V} (h : TpT G.K w.hd a vs) (r : Reps G w ds vs) : Rep G w (.tup ds) (.ref a) := by unfold Rep; exact ⟨a, vs, rfl, h, r⟩
theorem Rep.lst {ds : List D} {a : Addr} {vs : List V} (h : Rd w.hd a (.lst vs)) (r : Reps G w ds vs) : Rep G w (.lst ds) (.ref a) := by unfold Rep; exact ⟨a, vs, rfl, .inl h, r⟩
theorem Reps.ints : ∀ {ns : List Int} {vs : List V}, Reps G w (ns.map D.int) vs → vs = ns.map V.int
  | [], vs, h => h.of_nil
  | n :: ns, vs, h => by
    obtain ⟨v, r, e, h1, h2⟩ := Reps.of_cons (h : Reps G w (D.int n :: ns.map D.int) vs)
    rw [e, h1.int_of, Reps.ints h2]; rfl
theorem Reps.strs : ∀ {ns : List Str} {vs : List V}, Reps G w (ns.map D.str) vs → vs = ns.map V.str
  | [], vs, h => h.of_nil
  | n :: ns, vs, h => by
    obtain ⟨v, r, e, h1, h2⟩ := Reps.of_cons (h : Reps G w (D.str n :: ns.map D.str) vs)
    rw [e, h1.str_of, Reps.strs h2]; rfl
theorem Reps.bls : ∀ {ns : List Bool} {vs : List V}, Reps G w (ns.map D.bl) vs → vs = ns.map V.bl
  | [], vs, h => h.of_nil
  | n :: ns, vs, h => by
    obtain ⟨v, r, e, h1, h2⟩ := Reps.of_cons (h : Reps G w (D.bl n :: ns.map D.bl) vs)
    rw [e, h1.bl_of, Reps.bls h2]; rfl
theorem Reps.of_ints : ∀ {ns : List Int}, Reps G w (ns.map D.int) (ns.map V.int)
  | [] => Reps.nil
  | _ :: _ => Reps.cons Rep.int Reps.of_ints
end

/-! ### worlds and heaps -/
/-- the table at P tells code objects of the name q alone, which are frozen -/
def TabD (w : Wd) (H : Hp) (P : Addr) (q : Str) : Prop := ∃ ps : Array Value, H P = some (.tbl ps) ∧ TriplesOk ps.toList ∧ ∀ (pos : Pos) (cv : Value), codeAmong pos ps.toList = some cv → ∃ c, cv = .ref c ∧ w.hd c = some (LamX.CodeO c q)
structure Ok (w : Wd) (H : Hp) : Prop where
  sub : ∀ a o, w.hd a = some o → H a = some o
  jn : ∀ a, w.jr a → w.hd a = none ∧ H a ≠ none
  jar : ∀ a, w.ja a → w.jr a ∧ ∃ d s c : Int, H a = some (.lst [.int d, .int s, .int c])
  tab : ∀ p ∈ w.tb, w.jr p.1 ∧ TabD w H p.1 p.2
theorem TabD.go {w w' : Wd} {H H' : Hp} {P : Addr} {q : Str} (t : TabD w H P q) (hH : H' P = H P) (hw : ∀ a o, w.hd a = some o → w'.hd a = some o) : TabD w' H' P q := by
  obtain ⟨ps, h1, h2, h3⟩ := t
  refine ⟨ps, hH.trans h1, h2, fun pos cv e => ?_⟩
  obtain ⟨c, e1, e2⟩ := h3 pos cv e
  exact ⟨c, e1, hw _ _ e2⟩
structure Le (w : Wd) (H : Hp) (w' : Wd) (H' : Hp) : Prop where
  sub : Sub w w'
  keep : ∀ a o, H a = some o → ¬ w.jr a → H' a = some o
  old : ∀ a, H a ≠ none → w'.jr a → w.jr a
  oldh : ∀ a, H a ≠ none → w'.hd a ≠ none → w.hd a ≠ none
  dom : ∀ a, H a ≠ none → H' a ≠ none
theorem Le.refl (w : Wd) (H : Hp) : Le w H w H := ⟨.refl w, fun _ _ h _ => h, fun _ _ h => h, fun _ _ h => h, fun _ h => h⟩
theorem Le.trans {w w1 w2 : Wd} {H H1 H2 : Hp} (a : Le w H w1 H1) (b : Le w1 H1 w2 H2) : Le w H w2 H2 where
  sub := a.sub.trans b.sub
  keep := fun x o h nj => b.keep x o (a.keep x o h nj) fun j => nj (a.old x (by rw [h]; exact fun z => by cases z) j)
  old := fun x h j => a.old x h (b.old x (a.dom x h) j)
  oldh := fun x h j => a.oldh x h (b.oldh x (a.dom x h) j)
  dom := fun x h => b.dom x (a.dom x h)
/-- a new object, not frozen -/
theorem Le.new {w : Wd} {H : Hp} {p : Addr} {o : HO} (h : H p = none) : Le w H w (upd H p o) where
  sub := .refl w
  keep := fun a u e _ => by rw [upd_ne (ne_of_none e h)]; exact e
  old := fun _ _ j => j
  oldh := fun _ _ j => j
  dom := fun a e => by
    by_cases z : a = p
    · subst z; exact absurd h e
    · rw [upd_ne z]; exact e
theorem Ok.none_hd {w : Wd} {H : Hp} (ok : Ok w H) {a : Addr} (h : H a = none) : w.hd a = none := by
  cases e : w.hd a with
  | none => rfl
  | some o => rw [ok.sub a o e] at h; cases h
theorem Ok.none_jr {w : Wd} {H : Hp} (ok : Ok w H) {a : Addr} (h : H a = none) : ¬ w.jr a := fun j => (ok.jn a j).2 h
theorem Ok.new {w : Wd} {H : Hp} {p : Addr} {o : HO} (ok : Ok w H) (h : H p = none) : Ok w (upd H p o) where
  sub := fun a u e => by
    have z := ok.sub a u e
    rw [upd_ne (ne_of_none z h)]; exact z
  jn := fun a j => by
    obtain ⟨e, z⟩ := ok.jn a j
    exact ⟨e, by rw [upd_ne (fun y => z (by rw [y]; exact h))]; exact z⟩
  jar := fun a j => by
    obtain ⟨e, d, s, c, z⟩ := ok.jar a j
    exact ⟨e, d, s, c, by rw [upd_ne (ne_of_none z h)]; exact z⟩
  tab := fun q m => by
    obtain ⟨e, t⟩ := ok.tab q m
    exact ⟨e, t.go (upd_ne fun y => (ok.jn q.1 e).2 (by rw [y]; exact h)) fun _ _ z => z⟩
/-- one object more is frozen, as it stands -/
def Wd.frz (w : Wd) (H : Hp) (p : Addr) : Wd := ⟨fun a => if a = p then H p else w.hd a, w.jr, w.ja, w.tb⟩
theorem frz_at {w : Wd} {H : Hp} {p : Addr} : (w.frz H p).hd p = H p := by show (if p = p then H p else _) = _; rw [if_pos rfl]
theorem frz_ne {w : Wd} {H : Hp} {p a : Addr} (h : a ≠ p) : (w.frz H p).hd a = w.hd a := by show (if a = p then H p else _) = _; rw [if_neg h]
theorem Sub.frz {w : Wd} {H : Hp} {p : Addr} (h : w.hd p = none) : Sub w (w.frz H p) where
  hd := fun a o e => by
    rw [frz_ne (ne_of_none e h)]; exact e
  jr := fun _ j => j
  ja := fun _ j => j
  tb := rfl
theorem Ok.frz {w : Wd} {H : Hp} {p : Addr} (ok : Ok w H) (nj : ¬ w.jr p) : Ok (w.frz H p) H where
  sub := fun a o e => by
    by_cases z : a = p
    · subst z; rw [frz_at] at e; exact e
    · rw [frz_ne z] at e; exact ok.sub a o e
  jn := fun a j => by
    obtain ⟨e, r⟩ := ok.jn a j
    have na : a ≠ p := fun z => by
      subst z; exact nj j
    exact ⟨by rw [frz_ne na]; exact e, r⟩
  jar := ok.jar
  tab := fun q m => by
    obtain ⟨e, t⟩ := ok.tab q m
    refine ⟨e, t.go rfl fun a o z => ?_⟩
    by_cases y : a = p
    · subst y; rw [frz_at]; exact ok.sub _ _ z
    · rw [frz_ne y]; exact z
/-- what is new behind (w0, H0) may be frozen -/
theorem Le.frz {w0 w : Wd} {H0 H : Hp} {p : Addr} (l : Le w0 H0 w H) (hn : w.hd p = none) (h0 : H0 p = none) : Le w0 H0 (w.frz H p) H where
  sub := l.sub.trans (.frz hn)
  keep := l.keep
  old := l.old
  oldh := fun a h j => by
    by_cases z : a = p
    · subst z; exact absurd h0 h
    · rw [frz_ne z] at j; exact l.oldh a h j
  dom := l.dom
/-- an unfrozen object that is no jar and new behind (w0, H0) is changed -/
theorem Le.put {w0 w : Wd} {H0 H : Hp} {p : Addr} {o : HO} (l : Le w0 H0 w H) (h0 : H0 p = none) : Le w0 H0 w (upd H p o) where
  sub := l.sub
  keep := fun a u e nj => by rw [upd_ne (ne_of_none e h0)]; exact l.keep a u e nj
  old := l.old
  oldh := l.oldh
  dom := fun a e => by
    by_cases z : a = p
    · subst z; rw [upd_same]; exact fun q => by cases q
    · rw [upd_ne z]; exact l.dom a e
theorem Ok.put {w : Wd} {H : Hp} {p : Addr} {o : HO} (ok : Ok w H) (hn : w.hd p = none) (nj : ¬ w.jr p) : Ok w (upd H p o) where
  sub := fun a u e => by
    rw [upd_ne (ne_of_none e hn)]; exact ok.sub a u e
  jn := fun a j => by
    obtain ⟨e, z⟩ := ok.jn a j
    exact ⟨e, by rw [upd_ne (fun y => by rw [y] at j; exact nj j)]; exact z⟩
  jar := fun a j => by
    obtain ⟨e, d, s, c, z⟩ := ok.jar a j
    exact ⟨e, d, s, c, by rw [upd_ne (fun y => by rw [y] at e; exact nj e)]; exact z⟩
  tab := fun q m => by
    obtain ⟨e, t⟩ := ok.tab q m
    exact ⟨e, t.go (upd_ne fun y => nj (by rw [← y]; exact e)) fun _ _ z => z⟩

/-! ### slots, frames -/
inductive Sl where
  | un
  | val (d : D)
  | own (ds : List D)
  | ownd (ks : List Key) (ds : List D)
  | slf (x : Addr) (c : Nat) (ds : List D)
def Sl.isOwn : Sl → Bool
  | .own _ => true | .ownd _ _ => true | .slf _ _ _ => true
  | _ => false
/-- a slot's value is an object of the frame's own -/
def Mine (H0 : Hp) (w : Wd) (a : Addr) : Prop := w.hd a = none ∧ ¬ w.jr a ∧ H0 a = none
def SlotOk (G : Gm) (H0 : Hp) (w : Wd) (H : Hp) : Sl → Option (Option V) → Prop
  | .un, _ => True
  | .val d, o => ∃ v, o = some (some v) ∧ Rep G w d v
  | .own ds, o => ∃ a vs, o = some (some (.ref a)) ∧ Mine H0 w a ∧ H a = some (.lst vs) ∧ Reps G w ds vs
  | .ownd ks ds, o => ∃ a vs, o = some (some (.ref a)) ∧ Mine H0 w a ∧ H a = some (.dK (ks.zip vs)) ∧ ks.length = vs.length ∧ Reps G w ds vs
  | .slf x c ds, o => ∃ a dx fs, o = some (some (.ref a)) ∧ Mine H0 w a ∧ H a = some (.ins (G.cls c) dx fs) ∧ (∃ l, G.fld c = fs.map (·.1) ++ l) ∧ fs.length < 1000 ∧ Reps G w ds (fs.map (·.2)) ∧ a = x
abbrev Env := List Sl
structure Fr (G : Gm) (w0 : Wd) (H0 : Hp) (r : Env) (s : St) (w : Wd) (H : Hp) : Prop where
  ok : Ok w H
  le : Le w0 H0 w H
  len : r.length = s.length
  slot : ∀ (i : Nat) x, r[i]? = some x → SlotOk G H0 w H x s[i]?
  dist : ∀ (i j : Nat) x y a, r[i]? = some x → r[j]? = some y → x.isOwn = true → y.isOwn = true → s[i]? = some (some (.ref a)) → s[j]? = some (some (.ref a)) → i = j
theorem Mine.le {H0 : Hp} {w w' : Wd} {H H' : Hp} {a : Addr} {o : HO} (m : Mine H0 w a) (h : H a = some o) (l : Le w H w' H') : Mine H0 w' a := by
  have hn : H a ≠ none := by rw [h]; exact fun z => by cases z
  refine ⟨?_, fun j => m.2.1 (l.old a hn j), m.2.2⟩
  cases e : w'.hd a with
  | none => rfl
  | some u => exact absurd m.1 (l.oldh a hn (by rw [e]; exact fun z => by cases z))
theorem SlotOk.le {G : Gm} {H0 : Hp} {w w' : Wd} {H H' : Hp} {x : Sl} {o : Option (Option V)} (l : Le w H w' H') (h : SlotOk G H0 w H x o) : SlotOk G H0 w' H' x o := by
  cases x with
  | un => trivial
  | val d => obtain ⟨v, e, r⟩ := h; exact ⟨v, e, r.mono l.sub⟩
  | own ds => obtain ⟨a, vs, e, m, h1, r⟩ := h; exact ⟨a, vs, e, m.le h1 l, l.keep _ _ h1 m.2.1, r.mono l.sub⟩
  | ownd ks ds => obtain ⟨a, vs, e, m, h1, hl, r⟩ := h; exact ⟨a, vs, e, m.le h1 l, l.keep _ _ h1 m.2.1, hl, r.mono l.sub⟩
  | slf x c ds => obtain ⟨a, dx, fs, e, m, h1, hl, hz, r, ax⟩ := h; exact ⟨a, dx, fs, e, m.le h1 l, l.keep _ _ h1 m.2.1, hl, hz, r.mono l.sub, ax⟩
theorem Fr.go {G : Gm} {w0 : Wd} {H0 : Hp} {r : Env} {s : St} {w w' : Wd} {H H' : Hp} (f : Fr G w0 H0 r s w H) (l : Le w H w' H') (ok : Ok w' H') : Fr G w0 H0 r s w' H' :=
  ⟨ok, f.le.trans l, f.len, fun i x e => (f.slot i x e).le l, f.dist⟩
/-- a slot takes a value that is no own object -/
theorem Fr.set {G : Gm} {w0 : Wd} {H0 : Hp} {r : Env} {s : St} {w : Wd} {H : Hp} {i : Nat} {x : Sl} {v : V} (f : Fr G w0 H0 r s w H) (hx : x.isOwn = false) (h : SlotOk G H0 w H x (some (some v))) :
    Fr G w0 H0 (r.set i x) (s.set i (some v)) w H where
  ok := f.ok
  le := f.le
  len := by simpa using f.len
  slot := fun j y e => by
    by_cases z : i = j
    · subst z
      have hi : i < r.length := by
        have q := (List.getElem?_eq_some_iff.mp e).1
        simpa using q
      rw [List.getElem?_set_self hi] at e
      rw [List.getElem?_set_self (f.len ▸ hi)]
      cases e
      exact h
    · rw [List.getElem?_set_ne z] at e
      rw [List.getElem?_set_ne z]
      exact f.slot j y e
  dist := fun j k y u a e1 e2 o1 o2 q1 q2 => by
    have hlt : ∀ {n : Nat} {y : Sl}, (r.set i x)[n]? = some y → y.isOwn = true → i ≠ n := fun {n y} e o z => by
      subst z
      have hi : i < r.length := by
        have q := (List.getElem?_eq_some_iff.mp e).1
        simpa using q
      rw [List.getElem?_set_self hi] at e
      cases e
      rw [hx] at o; cases o
    have n1 := hlt e1 o1
    have n2 := hlt e2 o2
    rw [List.getElem?_set_ne n1] at e1 q1
    rw [List.getElem?_set_ne n2] at e2 q2
    exact f.dist j k y u a e1 e2 o1 o2 q1 q2
/-- a slot takes a new own object -/
theorem Fr.setOwn {G : Gm} {w0 : Wd} {H0 : Hp} {r : Env} {s : St} {w : Wd} {H Hb : Hp} {i : Nat} {x : Sl} {p : Addr} (f : Fr G w0 H0 r s w H)
    (hb : ∀ (j : Nat) y a, r[j]? = some y → y.isOwn = true → s[j]? = some (some (.ref a)) → Hb a ≠ none) (hp : Hb p = none) (h : SlotOk G H0 w H x (some (some (.ref p)))) :
    Fr G w0 H0 (r.set i x) (s.set i (some (.ref p))) w H where
  ok := f.ok
  le := f.le
  len := by simpa using f.len
  slot := fun j y e => by
    by_cases z : i = j
    · subst z
      have hi : i < r.length := by
        have q := (List.getElem?_eq_some_iff.mp e).1
        simpa using q
      rw [List.getElem?_set_self hi] at e
      rw [List.getElem?_set_self (f.len ▸ hi)]
      cases e
      exact h
    · rw [List.getElem?_set_ne z] at e
      rw [List.getElem?_set_ne z]
      exact f.slot j y e
  dist := fun j k y u a e1 e2 o1 o2 q1 q2 => by
    by_cases z1 : i = j
    · by_cases z2 : i = k
      · exact z1.symm.trans z2
      · subst z1
        have hi : i < s.length := by
          have q := (List.getElem?_eq_some_iff.mp q1).1
          simpa using q
        rw [List.getElem?_set_self hi] at q1
        cases q1
        rw [List.getElem?_set_ne z2] at e2 q2
        exact absurd hp (hb k u _ e2 o2 q2)
    · by_cases z2 : i = k
      · subst z2
        have hi : i < s.length := by
          have q := (List.getElem?_eq_some_iff.mp q2).1
          simpa using q
        rw [List.getElem?_set_self hi] at q2
        cases q2
        rw [List.getElem?_set_ne z1] at e1 q1
        exact absurd hp (hb j y _ e1 o1 q1)
      · rw [List.getElem?_set_ne z1] at e1 q1
        rw [List.getElem?_set_ne z2] at e2 q2
        exact f.dist j k y u a e1 e2 o1 o2 q1 q2
theorem Fr.ownAt {G : Gm} {w0 : Wd} {H0 : Hp} {r : Env} {s : St} {w : Wd} {H : Hp} (f : Fr G w0 H0 r s w H) (j : Nat) (y : Sl) (a : Addr) (e : r[j]? = some y) (o : y.isOwn = true) (q : s[j]? = some (some (.ref a))) : H a ≠ none := by
  have h := f.slot j y e
  rw [q] at h
  cases y with
  | un => cases o
  | val d => cases o
  | own ds => obtain ⟨b, vs, e, _, h1, _⟩ := h; cases e; rw [h1]; exact fun z => by cases z
  | ownd ks ds => obtain ⟨b, vs, e, _, h1, _⟩ := h; cases e; rw [h1]; exact fun z => by cases z
  | slf x c ds => obtain ⟨b, dx, fs, e, _, h1, _⟩ := h; cases e; rw [h1]; exact fun z => by cases z
/-- an own object (in slot i) is changed -/
theorem Fr.chg {G : Gm} {w0 : Wd} {H0 : Hp} {r : Env} {s : St} {w : Wd} {H : Hp} {i : Nat} {x y : Sl} {p : Addr} {o : HO} (f : Fr G w0 H0 r s w H) (e : r[i]? = some x) (ox : x.isOwn = true) (q : s[i]? = some (some (.ref p)))
    (m : Mine H0 w p) (h : SlotOk G H0 w (upd H p o) y (some (some (.ref p)))) : Fr G w0 H0 (r.set i y) s w (upd H p o) where
  ok := f.ok.put m.1 m.2.1
  le := f.le.put m.2.2
  len := by simpa using f.len
  slot := fun j z e' => by
    by_cases zj : i = j
    · subst zj
      have hi : i < r.length := (List.getElem?_eq_some_iff.mp e).1
      rw [List.getElem?_set_self hi] at e'
      cases e'
      rw [q]
      exact h
    · rw [List.getElem?_set_ne zj] at e'
      have hz := f.slot j z e'
      have ne : ∀ a, z.isOwn = true → s[j]? = some (some (.ref a)) → a ≠ p := fun a oz qa za => by
        subst za
        exact zj (f.dist i j x z a e e' ox oz q qa)
      cases z with
      | un => trivial
      | val d => exact hz
      | own ds => obtain ⟨a, vs, e2, m2, h2, r2⟩ := hz; exact ⟨a, vs, e2, m2, by rw [upd_ne (ne a rfl e2)]; exact h2, r2⟩
      | ownd ks ds => obtain ⟨a, vs, e2, m2, h2, r2⟩ := hz; exact ⟨a, vs, e2, m2, by rw [upd_ne (ne a rfl e2)]; exact h2, r2⟩
      | slf x c ds => obtain ⟨a, dx, fs, e2, m2, h2, r2⟩ := hz; exact ⟨a, dx, fs, e2, m2, by rw [upd_ne (ne a rfl e2)]; exact h2, r2⟩
  dist := fun j k u v a e1 e2 o1 o2 q1 q2 => by
    have old : ∀ {n : Nat} {u : Sl}, (r.set i y)[n]? = some u → u.isOwn = true → ∃ u', r[n]? = some u' ∧ u'.isOwn = true := fun {n u} en on => by
      by_cases z : i = n
      · subst z; exact ⟨x, e, ox⟩
      · rw [List.getElem?_set_ne z] at en; exact ⟨u, en, on⟩
    obtain ⟨u', a1, b1⟩ := old e1 o1
    obtain ⟨v', a2, b2⟩ := old e2 o2
    exact f.dist j k u' v' a a1 a2 b1 b2 q1 q2
/-- an own list, dict becomes a value: nobody changes it from here on -/
def Sl.off : Sl → Sl
  | .own ds => .val (.lst ds)
  | .ownd ks ds => .val (.dic ks ds)
  | x => x
theorem Fr.off {G : Gm} {w0 : Wd} {H0 : Hp} {r : Env} {s : St} {w : Wd} {H : Hp} {i : Nat} {x : Sl} {p : Addr} {y : Sl} (f : Fr G w0 H0 r s w H) (e : r[i]? = some x) (ox : x.isOwn = true) (q : s[i]? = some (some (.ref p)))
    (m : Mine H0 w p) (oy : y.isOwn = false) (h : SlotOk G H0 (w.frz H p) H y (some (some (.ref p)))) : Fr G w0 H0 (r.set i y) s (w.frz H p) H where
  ok := f.ok.frz m.2.1
  le := f.le.frz m.1 m.2.2
  len := by simpa using f.len
  slot := fun j z e' => by
    by_cases zj : i = j
    · subst zj
      have hi : i < r.length := (List.getElem?_eq_some_iff.mp e).1
      rw [List.getElem?_set_self hi] at e'
      cases e'
      rw [q]
      exact h
    · rw [List.getElem?_set_ne zj] at e'
      have hz := f.slot j z e'
      have sb : Sub w (w.frz H p) := .frz m.1
      have ne : ∀ a, z.isOwn = true → s[j]? = some (some (.ref a)) → a ≠ p := fun a oz qa za => by
        subst za
        exact zj (f.dist i j x z a e e' ox oz q qa)
      have mn : ∀ {a}, Mine H0 w a → a ≠ p → Mine H0 (w.frz H p) a := fun {a} k na => ⟨by rw [frz_ne na]; exact k.1, k.2.1, k.2.2⟩
      cases z with
      | un => trivial
      | val d => obtain ⟨v, e2, r2⟩ := hz; exact ⟨v, e2, r2.mono sb⟩
      | own ds => obtain ⟨a, vs, e2, m2, h2, r2⟩ := hz; exact ⟨a, vs, e2, mn m2 (ne a rfl e2), h2, r2.mono sb⟩
      | ownd ks ds => obtain ⟨a, vs, e2, m2, h2, hl, r2⟩ := hz; exact ⟨a, vs, e2, mn m2 (ne a rfl e2), h2, hl, r2.mono sb⟩
      | slf x c ds => obtain ⟨a, dx, fs, e2, m2, h2, hl, hz', r2, ax⟩ := hz; exact ⟨a, dx, fs, e2, mn m2 (ne a rfl e2), h2, hl, hz', r2.mono sb, ax⟩
  dist := fun j k u v a e1 e2 o1 o2 q1 q2 => by
    have nn : ∀ {n : Nat} {u : Sl}, (r.set i y)[n]? = some u → u.isOwn = true → i ≠ n := fun {n u} en on z => by
      subst z
      have hi : i < r.length := (List.getElem?_eq_some_iff.mp e).1
      rw [List.getElem?_set_self hi] at en
      cases en
      rw [oy] at on; cases on
    have n1 := nn e1 o1
    have n2 := nn e2 o2
    rw [List.getElem?_set_ne n1] at e1
    rw [List.getElem?_set_ne n2] at e2
    exact f.dist j k u v a e1 e2 o1 o2 q1 q2
end DL
/-! The data layer, part 2: the readings over data, names, constants, operators. -/
namespace DL
open PySem L2

/-- an exception: its class by number, its attribute -/
structure XD where
  c : Nat
  d : Option D
abbrev XP := XD → Prop
abbrev FE := Env → (D → Prop) → XP → Prop
abbrev FT := Env → (Bool → Prop) → XP → Prop
abbrev FA := Env → (List D → Prop) → XP → Prop
/-- what is wanted behind a statement -/
structure DE where
  nx : Env → Prop
  rt : D → Prop
  bk : Env → Prop := fun _ => False
  ct : Env → Prop := fun _ => False
  rn : List D → Prop := fun _ => False
abbrev FS := DE → XP → Env → Prop

def ExAt (G : Gm) (w : Wd) (H : Hp) (x : XD) (od : Option Addr) : Prop :=
  match x.d with
  | none => od = none
  | some d => ∃ a nm v, od = some a ∧ G.fld x.c = [nm] ∧ w.hd a = some (.xd [(nm, v)]) ∧ Rep G w d v
def LkE (G : Gm) (E : XK) (w0 : Wd) (H0 : Hp) (EX : XP) : Prop := (∀ x od w H, Le w0 H0 w H → Ok w H → ExAt G w H x od → EX x → E (.ref (G.cls x.c)) od H) ∧ w0.tb = G.tb
theorem LkE.none {G : Gm} {E : XK} {w0 : Wd} {H0 : Hp} (ht : w0.tb = G.tb) : LkE G E w0 H0 (fun _ => False) := ⟨fun _ _ _ _ _ _ _ h => h.elim, ht⟩
/-- a value that may be an own list or dict -/
def See (G : Gm) (H0 : Hp) (w : Wd) (H : Hp) (d : D) (v : V) : Prop :=
  Rep G w d v ∨ (∃ a vs ds, v = .ref a ∧ d = .lst ds ∧ Mine H0 w a ∧ H a = some (.lst vs) ∧ Reps G w ds vs) ∨
    ∃ a vs ks ds, v = .ref a ∧ d = .dic ks ds ∧ Mine H0 w a ∧ H a = some (.dK (ks.zip vs)) ∧ ks.length = vs.length ∧ Reps G w ds vs
theorem See.go {G : Gm} {H0 : Hp} {w w' : Wd} {H H' : Hp} {d : D} {v : V} (h : See G H0 w H d v) (l : Le w H w' H') : See G H0 w' H' d v := by
  rcases h with h | ⟨a, vs, ds, e1, e2, m, h1, r⟩ | ⟨a, vs, ks, ds, e1, e2, m, h1, hl, r⟩
  · exact .inl (h.mono l.sub)
  · exact .inr (.inl ⟨a, vs, ds, e1, e2, m.le h1 l, l.keep _ _ h1 m.2.1, r.mono l.sub⟩)
  · exact .inr (.inr ⟨a, vs, ks, ds, e1, e2, m.le h1 l, l.keep _ _ h1 m.2.1, hl, r.mono l.sub⟩)
inductive Sees (G : Gm) (H0 : Hp) (w : Wd) (H : Hp) : List D → List V → Prop where
  | nil : Sees G H0 w H [] []
  | cons {d ds v vs} : See G H0 w H d v → Sees G H0 w H ds vs → Sees G H0 w H (d :: ds) (v :: vs)
theorem Sees.go {G : Gm} {H0 : Hp} {w w' : Wd} {H H' : Hp} (l : Le w H w' H') : ∀ {ds : List D} {vs : List V}, Sees G H0 w H ds vs → Sees G H0 w' H' ds vs
  | _, _, .nil => .nil
  | _, _, .cons h t => .cons (h.go l) (Sees.go l t)

/-! ### the readings -/
section
variable (G : Gm) (E : XK)
def tD (F : FE) : TE := fun s H Q => ∃ w0 H0 r w QD EX, Fr G w0 H0 r s w H ∧ LkE G E w0 H0 EX ∧ F r QD EX ∧ ∀ d v w' H', Le w H w' H' → Ok w' H' → Rep G w' d v → QD d → Q v H'
def bD (F : FE) : TE := fun s H Q => ∃ w0 H0 r w QD EX, Fr G w0 H0 r s w H ∧ LkE G E w0 H0 EX ∧ F r QD EX ∧ ∀ d v w' H', Le w H w' H' → Ok w' H' → See G H0 w' H' d v → QD d → Q v H'
/-- a new list -/
def fD (F : FA) : TE := fun s H Q => ∃ w0 H0 r w QD EX, Fr G w0 H0 r s w H ∧ LkE G E w0 H0 EX ∧ F r QD EX ∧
  ∀ ds a vs w' H', Le w H w' H' → Ok w' H' → H a = none → Mine H0 w' a → H' a = some (.lst vs) → Reps G w' ds vs → QD ds → Q (.ref a) H'
def ttD (F : FT) : TT := fun s H Q => ∃ w0 H0 r w QD EX, Fr G w0 H0 r s w H ∧ LkE G E w0 H0 EX ∧ F r QD EX ∧ ∀ b w' H', Le w H w' H' → Ok w' H' → QD b → Q b H'
def taD (F : FA) : TA := fun s H Q => ∃ w0 H0 r w QD EX, Fr G w0 H0 r s w H ∧ LkE G E w0 H0 EX ∧ F r QD EX ∧ ∀ ds vs w' H', Le w H w' H' → Ok w' H' → Reps G w' ds vs → QD ds → Q vs H'
def baD (F : FA) : TA := fun s H Q => ∃ w0 H0 r w QD EX, Fr G w0 H0 r s w H ∧ LkE G E w0 H0 EX ∧ F r QD EX ∧ ∀ ds vs w' H', Le w H w' H' → Ok w' H' → Sees G H0 w' H' ds vs → QD ds → Q vs H'
structure Lk (w0 : Wd) (H0 : Hp) (wk : Wd) (A : DE) (B : Ends) : Prop where
  nx : ∀ r s w H, Fr G w0 H0 r s w H → Sub wk w → A.nx r → B.nx s H
  rt : ∀ d v w H, Le w0 H0 w H → Ok w H → Rep G w d v → A.rt d → B.rt v H
  bk : ∀ r s w H, Fr G w0 H0 r s w H → Sub wk w → A.bk r → B.bk s H
  ct : ∀ r s w H, Fr G w0 H0 r s w H → Sub wk w → A.ct r → B.ct s H
  rn : ∀ ds a vs w H, Le w0 H0 w H → Ok w H → Mine H0 w a → H a = some (.lst vs) → Reps G w ds vs → A.rn ds → B.rt (.ref a) H
def sD (F : FS) : TS := fun B s H => ∃ w0 H0 wk r w A EX, Fr G w0 H0 r s w H ∧ Sub wk w ∧ LkE G E w0 H0 EX ∧ Lk G w0 H0 wk A B ∧ F A EX r
end
section
variable {X : Cx} {G : Gm} {E : XK} {e a b : Expr} {es : List Expr} {t t' : TE} {pos : Pos}
theorem _root_.L2.PE.weak (h : PE X e t) (k : ∀ s H Q, t' s H Q → t s H Q) : PE X e t' := ⟨fun p s σ H Q I q => h.run p s σ H Q I (k σ H Q q)⟩
theorem _root_.L2.PT.weak {t t' : TT} (h : PT X e t) (k : ∀ s H Q, t' s H Q → t s H Q) : PT X e t' := ⟨fun p s σ H Q I q => h.run p s σ H Q I (k σ H Q q)⟩
theorem _root_.L2.PW.weak {t t' : TT} (h : PW X e t) (k : ∀ s H Q, t' s H Q → t s H Q) : PW X e t' := ⟨fun wh p s σ H Q I q => h.run wh p s σ H Q I (k σ H Q q)⟩
theorem _root_.L2.PA.weak {t t' : TA} (h : PA X es t) (k : ∀ s H Q, t' s H Q → t s H Q) : PA X es t' := ⟨fun ps p s σ H Q I q => h.run ps p s σ H Q I (k σ H Q q)⟩
theorem _root_.L2.PS.weak {st : Stmt} {t t' : TS} (h : PS X st t) (k : ∀ B s H, t' B s H → t B s H) : PS X st t' := ⟨fun p s σ H B I q => h.run p s σ H B I (k B σ H q)⟩
theorem _root_.L2.PSs.weak {st : List Stmt} {t t' : TS} (h : PSs X st t) (k : ∀ B s H, t' B s H → t B s H) : PSs X st t' := ⟨fun p s σ H B I q => h.run p s σ H B I (k B σ H q)⟩

theorem see (h : PE X e (tD G E F)) : PE X e (bD G E F) := h.weak fun s H Q ⟨w0, H0, r, w, QD, EX, fr, lk, f, k⟩ =>
  ⟨w0, H0, r, w, QD, EX, fr, lk, f, fun d v w' H' l ok rp q => k d v w' H' l ok (.inl rp) q⟩
/-- a new list as a value -/
def fL (F : FA) : FE := fun r Q EX => F r (fun ds => Q (.lst ds)) EX
theorem val (h : PE X e (fD G E F)) : PE X e (tD G E (fL F)) := h.weak fun s H Q ⟨w0, H0, r, w, QD, EX, fr, lk, f, k⟩ =>
  ⟨w0, H0, r, w, fun ds => QD (.lst ds), EX, fr, lk, f, fun ds a vs w' H' l ok hn m h1 rp q => by
    refine k (.lst ds) (.ref a) (w'.frz H' a) H' (l.frz m.1 hn) (ok.frz m.2.1) (Rep.lst (Rd.of (by rw [frz_at]; exact h1)) (rp.mono (.frz m.1))) q⟩

/-! ### names, constants -/
def fVar (i : Nat) : FE := fun r Q _ => match r[i]? with
  | some (.val d) => Q d
  | _ => False
def fSee (i : Nat) : FE := fun r Q _ => match r[i]? with
  | some (.val d) => Q d
  | some (.own ds) => Q (.lst ds)
  | some (.ownd ks ds) => Q (.dic ks ds)
  | _ => False
def fC (d : D) : FE := fun _ Q _ => Q d
theorem ce_var (i : Nat) {x : Str} {pos : Pos} (hN : X.N[i]? = some x := by rfl) (hv : Vis X.env.scope x := by first | exact Or.inl rfl | exact Or.inr (Or.inl rfl) | exact Or.inr (Or.inr rfl)) (hd : (x == ("__debug__" : Str)) = false := by decide)
    (hcd : (x == ("__classdict__" : Str)) = false := by decide) : PE X (.Name x pos) (tD G E (fVar i)) := (pe_var hN hv hd hcd).weak fun s H Q ⟨w0, H0, r, w, QD, EX, fr, lk, f, k⟩ => by
  unfold fVar at f
  cases e : r[i]? with
  | none => rw [e] at f; exact f.elim
  | some x =>
    rw [e] at f
    cases x with
    | val d =>
      obtain ⟨v, q, rp⟩ := fr.slot i _ e
      exact ⟨v, q, k d v w H (.refl w H) fr.ok rp f⟩
    | un => exact f.elim
    | own _ => exact f.elim
    | ownd _ _ => exact f.elim
    | slf _ _ _ => exact f.elim
theorem cb_var (i : Nat) {x : Str} {pos : Pos} (hN : X.N[i]? = some x := by rfl) (hv : Vis X.env.scope x := by first | exact Or.inl rfl | exact Or.inr (Or.inl rfl) | exact Or.inr (Or.inr rfl)) (hd : (x == ("__debug__" : Str)) = false := by decide)
    (hcd : (x == ("__classdict__" : Str)) = false := by decide) : PE X (.Name x pos) (bD G E (fSee i)) := (pe_var hN hv hd hcd).weak fun s H Q ⟨w0, H0, r, w, QD, EX, fr, lk, f, k⟩ => by
  unfold fSee at f
  cases e : r[i]? with
  | none => rw [e] at f; exact f.elim
  | some x =>
    rw [e] at f
    cases x with
    | val d =>
      obtain ⟨v, q, rp⟩ := fr.slot i _ e
      exact ⟨v, q, k d v w H (.refl w H) fr.ok (.inl rp) f⟩
    | own ds =>
      obtain ⟨a, vs, q, m, h1, rp⟩ := fr.slot i _ e
      exact ⟨_, q, k (.lst ds) _ w H (.refl w H) fr.ok (.inr (.inl ⟨a, vs, ds, rfl, rfl, m, h1, rp⟩)) f⟩
    | ownd ks ds =>
      obtain ⟨a, vs, q, m, h1, hl, rp⟩ := fr.slot i _ e
      exact ⟨_, q, k (.dic ks ds) _ w H (.refl w H) fr.ok (.inr (.inr ⟨a, vs, ks, ds, rfl, rfl, m, h1, hl, rp⟩)) f⟩
    | un => exact f.elim
    | slf _ _ _ => exact f.elim
theorem ce_const {v : V} {d : D} (h : PE X e (tC v)) (rp : ∀ w, Rep G w d v) : PE X e (tD G E (fC d)) := h.weak fun s H Q ⟨w0, H0, r, w, QD, EX, fr, lk, f, k⟩ =>
  k d v w H (.refl w H) fr.ok (rp w) f
theorem ce_int {i j pos} : PE X (.Constant (.int i) j pos) (tD G E (fC (.int i))) := ce_const pe_int fun _ => Rep.int
theorem ce_bl {i j pos} : PE X (.Constant (.bool i) j pos) (tD G E (fC (.bl i))) := ce_const pe_bl fun _ => Rep.bl
theorem ce_non {j pos} : PE X (.Constant .none j pos) (tD G E (fC .non)) := ce_const pe_non fun _ => Rep.non
theorem ce_str {i j pos} : PE X (.Constant (.str i) j pos) (tD G E (fC (.str i))) := ce_const pe_str fun _ => Rep.str
/-- a module's int -/
theorem ce_gint {x : Str} {i : Int} {u : Value} {pos : Pos} (hm : X.mg x = some u) (r : RelV (.int i) u) (hg : Gl X x := by rfl) (hd : (x == ("__debug__" : Str)) = false := by decide) : PE X (.Name x pos) (tD G E (fC (.int i))) := ce_const (pe_glob hg hm r hd) fun _ => Rep.int

/-! ### two-place operators -/
abbrev G2 := D → D → (D → Prop) → Prop
def f2 (g : G2) (A B : FE) : FE := fun r Q EX => A r (fun x => B r (fun y => g x y Q) EX) EX
/-- an operator's rule over data -/
structure OpL (G : Gm) (X : Cx) (op : Value → Value → Sem Value) (g : G2) : Prop where
  ex : ∃ r, OpR X op r ∧ ∀ H0 w H x y v u Q (QD : D → Prop), Ok w H → See G H0 w H x v → See G H0 w H y u → g x y QD →
    (∀ d z w' H', Le w H w' H' → Ok w' H' → Rep G w' d z → QD d → Q z H') → r v u H Q
theorem OpL.link {op : Value → Value → Sem Value} {g : G2} {rr : R2} {A B : FE} (k0 : ∀ H0 w H x y v u Q (QD : D → Prop), Ok w H → See G H0 w H x v → See G H0 w H y u → g x y QD →
    (∀ d z w' H', Le w H w' H' → Ok w' H' → Rep G w' d z → QD d → Q z H') → rr v u H Q) (s : St) (H : Hp) (Q : VK) (h : tD G E (f2 g A B) s H Q) : tOp rr (bD G E A) (bD G E B) s H Q := by
  obtain ⟨w0, H0, r, w, QD, EX, fr, lk, f, k⟩ := h
  refine ⟨w0, H0, r, w, _, EX, fr, lk, f, fun x v w1 H1 l1 ok1 s1 q1 => ?_⟩
  refine ⟨w0, H0, r, w1, _, EX, fr.go l1 ok1, lk, q1, fun y u w2 H2 l2 ok2 s2 q2 => ?_⟩
  exact k0 H0 w2 H2 x y v u Q QD ok2 (s1.go l2) s2 q2 fun d z w3 H3 l3 ok3 r3 q3 => k d z w3 H3 ((l1.trans l2).trans l3) ok3 r3 q3
theorem ce_bin {op : Operator} {g : G2} {A B : FE} (ho : OpL G X (binaryOp op) g) (ha : PE X a (bD G E A)) (hb : PE X b (bD G E B)) : PE X (.BinOp a op b pos) (tD G E (f2 g A B)) := by
  obtain ⟨rr, hr, k0⟩ := ho.ex
  exact (pe_op hr ha hb).weak (OpL.link (op := binaryOp op) k0)
theorem ce_cmp {op : CmpOp} {g : G2} {A B : FE} (ho : OpL G X (compareOp op) g) (ha : PE X a (bD G E A)) (hb : PE X b (bD G E B)) (hm : behindInMarks op b = false := by first | exact nomark _ (by decide) (by decide) | rfl) : PE X (.Compare a [op] [b] pos) (tD G E (f2 g A B)) := by
  obtain ⟨rr, hr, k0⟩ := ho.ex
  exact (pe_cmpR hr ha hb hm).weak (OpL.link (op := compareOp op) k0)
/-- a value as a test: it is a bool -/
def fTb (F : FE) : FT := fun r Q EX => F r (fun d => ∃ b, d = .bl b ∧ Q b) EX
theorem ct_of_tTest {t : TE} {F : FE} (h : PT X e (tTest t)) (k0 : ∀ s H Q, tD G E F s H Q → t s H Q) : PT X e (ttD G E (fTb F)) := h.weak fun s H Q ⟨w0, H0, r, w, QD, EX, fr, lk, f, k⟩ =>
  k0 s H _ ⟨w0, H0, r, w, _, EX, fr, lk, f, fun d v w' H' l ok rp ⟨b, ed, qb⟩ => ⟨b, by rw [ed] at rp; exact rp.bl_of, k b w' H' l ok qb⟩⟩
theorem ct_cmp {op : CmpOp} {g : G2} {A B : FE} (ho : OpL G X (compareOp op) g) (ha : PE X a (bD G E A)) (hb : PE X b (bD G E B)) (hm : behindInMarks op b = false := by first | exact nomark _ (by decide) (by decide) | rfl) : PT X (.Compare a [op] [b] pos) (ttD G E (fTb (f2 g A B))) := by
  obtain ⟨rr, hr, k0⟩ := ho.ex
  exact ct_of_tTest (pt_cmpR hr ha hb hm) (OpL.link (op := compareOp op) k0)
/-- an expression that gives a bool, as a test -/
theorem ct_val {F : FE} (h : PE X e (tD G E F)) (he : ∀ whole, isTrue e X.env whole = (do let v ← whole; standAt e.pos; holding [v] (truthy v)) := by intro _; rfl) : PT X e (ttD G E (fTb F)) := (pt_val h he).weak fun s H Q ⟨w0, H0, r, w, QD, EX, fr, lk, f, k⟩ =>
  ⟨w0, H0, r, w, _, EX, fr, lk, f, fun d v w' H' l ok rp ⟨b, ed, qb⟩ => ⟨b, by rw [ed] at rp; exact rp.bl_of, k b w' H' l ok qb⟩⟩
/-- two comparisons in a chain -/
def fChain (g g' : G2) (A B C : FE) : FE := fun r Q EX => A r (fun x => B r (fun y => g x y fun z => ∃ b, z = .bl b ∧ if b = true then C r (fun u => g' y u Q) EX else Q (.bl false)) EX) EX
theorem chain_link {op op' : CmpOp} {g g' : G2} {A B C : FE} {rr rr' : R2} (k0 : ∀ H0 w H x y v u Q (QD : D → Prop), Ok w H → See G H0 w H x v → See G H0 w H y u → g x y QD →
    (∀ d z w' H', Le w H w' H' → Ok w' H' → Rep G w' d z → QD d → Q z H') → rr v u H Q)
    (k1 : ∀ H0 w H x y v u Q (QD : D → Prop), Ok w H → See G H0 w H x v → See G H0 w H y u → g' x y QD →
    (∀ d z w' H', Le w H w' H' → Ok w' H' → Rep G w' d z → QD d → Q z H') → rr' v u H Q) (s : St) (H : Hp) (Q : VK) (h : tD G E (fChain g g' A B C) s H Q) : tChain rr rr' (bD G E A) (bD G E B) (bD G E C) s H Q := by
  obtain ⟨w0, H0, r, w, QD, EX, fr, lk, f, k⟩ := h
  refine ⟨w0, H0, r, w, _, EX, fr, lk, f, fun x v w1 H1 l1 ok1 s1 q1 => ?_⟩
  refine ⟨w0, H0, r, w1, _, EX, fr.go l1 ok1, lk, q1, fun y u w2 H2 l2 ok2 s2 q2 => ?_⟩
  refine k0 H0 w2 H2 x y v u _ _ ok2 (s1.go l2) s2 q2 fun d z w3 H3 l3 ok3 r3 ⟨b, ed, q3⟩ => ?_
  rw [ed] at r3
  refine ⟨b, r3.bl_of, ?_⟩
  cases b with
  | false =>
    rw [if_neg Bool.false_ne_true] at q3 ⊢
    exact k _ _ w3 H3 ((l1.trans l2).trans l3) ok3 Rep.bl q3
  | true =>
    rw [if_pos rfl] at q3 ⊢
    refine ⟨w0, H0, r, w3, _, EX, ((fr.go l1 ok1).go l2 ok2).go l3 ok3, lk, q3, fun u' v' w4 H4 l4 ok4 s4 q4 => ?_⟩
    exact k1 H0 w4 H4 y u' u v' Q QD ok4 ((s2.go l3).go l4) s4 q4 fun d' z' w5 H5 l5 ok5 r5 q5 => k d' z' w5 H5 (((l1.trans l2).trans l3).trans (l4.trans l5)) ok5 r5 q5
theorem ce_chain {c : Expr} {op op' : CmpOp} {g g' : G2} {A B C : FE} (ho : OpL G X (compareOp op) g) (ho' : OpL G X (compareOp op') g') (ha : PE X a (bD G E A)) (hb : PE X b (bD G E B)) (hc : PE X c (bD G E C))
    (hm : lastMarks [op, op'] [b, c] = false := by with_unfolding_all rfl) : PE X (.Compare a [op, op'] [b, c] pos) (tD G E (fChain g g' A B C)) := by
  obtain ⟨rr, hr, k0⟩ := ho.ex
  obtain ⟨rr', hr', k1⟩ := ho'.ex
  exact (pe_chain hr hr' ha hb hc hm).weak (chain_link (op := op) (op' := op') k0 k1)
/-! ### and, or, not, if else -/
def fAndT (A B : FT) : FT := fun r Q EX => A r (fun b => if b = true then B r Q EX else Q false) EX
def fOrT (A B : FT) : FT := fun r Q EX => A r (fun b => if b = true then Q true else B r Q EX) EX
def fNotT (A : FT) : FT := fun r Q EX => A r (fun b => Q (!b)) EX
def fAnd (A B : FE) : FE := fun r Q EX => A r (fun d => ∃ b, d = .bl b ∧ if b = true then B r Q EX else Q (.bl false)) EX
def fNot (A : FE) : FE := fun r Q EX => A r (fun d => ∃ b, d = .bl b ∧ Q (.bl (!b))) EX
def fIf (T : FT) (A B : FE) : FE := fun r Q EX => T r (fun b => if b = true then A r Q EX else B r Q EX) EX
variable {rest : List Expr}
theorem cw_and1 {A : FT} (ha : PT X a (ttD G E A)) : PW X (.BoolOp .And [a] pos) (ttD G E A) := pw_and1 ha
theorem cw_or1 {A : FT} (ha : PT X a (ttD G E A)) : PW X (.BoolOp .Or [a] pos) (ttD G E A) := pw_or1 ha
theorem cw_and {A B : FT} (ha : PT X a (ttD G E A)) (hb : PW X (.BoolOp .And (b :: rest) pos) (ttD G E B)) : PW X (.BoolOp .And (a :: b :: rest) pos) (ttD G E (fAndT A B)) := (pw_and ha hb).weak fun s H Q ⟨w0, H0, r, w, QD, EX, fr, lk, f, k⟩ => by
  refine ⟨w0, H0, r, w, _, EX, fr, lk, f, fun c w1 H1 l1 ok1 q1 => ?_⟩
  cases c with
  | true =>
    rw [if_pos rfl] at q1 ⊢
    exact ⟨w0, H0, r, w1, QD, EX, fr.go l1 ok1, lk, q1, fun d w2 H2 l2 ok2 q2 => k d w2 H2 (l1.trans l2) ok2 q2⟩
  | false =>
    rw [if_neg Bool.false_ne_true] at q1 ⊢
    exact k false w1 H1 l1 ok1 q1
theorem cw_or {A B : FT} (ha : PT X a (ttD G E A)) (hb : PW X (.BoolOp .Or (b :: rest) pos) (ttD G E B)) : PW X (.BoolOp .Or (a :: b :: rest) pos) (ttD G E (fOrT A B)) := (pw_or ha hb).weak fun s H Q ⟨w0, H0, r, w, QD, EX, fr, lk, f, k⟩ => by
  refine ⟨w0, H0, r, w, _, EX, fr, lk, f, fun c w1 H1 l1 ok1 q1 => ?_⟩
  cases c with
  | true =>
    rw [if_pos rfl] at q1 ⊢
    exact k true w1 H1 l1 ok1 q1
  | false =>
    rw [if_neg Bool.false_ne_true] at q1 ⊢
    exact ⟨w0, H0, r, w1, QD, EX, fr.go l1 ok1, lk, q1, fun d w2 H2 l2 ok2 q2 => k d w2 H2 (l1.trans l2) ok2 q2⟩
theorem ct_not {A : FT} (ha : PT X a (ttD G E A)) : PT X (.UnaryOp .Not a pos) (ttD G E (fNotT A)) := (pt_not ha).weak fun s H Q ⟨w0, H0, r, w, QD, EX, fr, lk, f, k⟩ =>
  ⟨w0, H0, r, w, _, EX, fr, lk, f, fun c w1 H1 l1 ok1 q1 => k _ w1 H1 l1 ok1 q1⟩
theorem ce_one {op} {A : FE} (h : PE X a (tD G E A)) : PE X (.BoolOp op [a] pos) (tD G E A) := pe_one h
theorem ce_and {A B : FE} (ha : PE X a (tD G E A)) (hb : PE X (.BoolOp .And (b :: rest) pos) (tD G E B)) : PE X (.BoolOp .And (a :: b :: rest) pos) (tD G E (fAnd A B)) := (pe_and ha hb).weak fun s H Q ⟨w0, H0, r, w, QD, EX, fr, lk, f, k⟩ => by
  refine ⟨w0, H0, r, w, _, EX, fr, lk, f, fun x v w1 H1 l1 ok1 rp ⟨c, ex, q1⟩ => ?_⟩
  rw [ex] at rp
  refine ⟨c, rp.bl_of, ?_⟩
  cases c with
  | true =>
    rw [if_pos rfl] at q1 ⊢
    exact ⟨w0, H0, r, w1, QD, EX, fr.go l1 ok1, lk, q1, fun d u w2 H2 l2 ok2 r2 q2 => k d u w2 H2 (l1.trans l2) ok2 r2 q2⟩
  | false =>
    rw [if_neg Bool.false_ne_true] at q1 ⊢
    exact k _ _ w1 H1 l1 ok1 Rep.bl q1
theorem ce_not {A : FE} (ha : PE X a (tD G E A)) : PE X (.UnaryOp .Not a pos) (tD G E (fNot A)) := (pe_not ha).weak fun s H Q ⟨w0, H0, r, w, QD, EX, fr, lk, f, k⟩ =>
  ⟨w0, H0, r, w, _, EX, fr, lk, f, fun x v w1 H1 l1 ok1 rp ⟨c, ex, q1⟩ => ⟨c, by rw [ex] at rp; exact rp.bl_of, k _ _ w1 H1 l1 ok1 Rep.bl q1⟩⟩
theorem ce_if {c : Expr} {T : FT} {A B : FE} (hc : PT X c (ttD G E T)) (ha : PE X a (tD G E A)) (hb : PE X b (tD G E B)) : PE X (.IfExp c a b pos) (tD G E (fIf T A B)) := (pe_ifExp hc ha hb).weak fun s H Q ⟨w0, H0, r, w, QD, EX, fr, lk, f, k⟩ => by
  refine ⟨w0, H0, r, w, _, EX, fr, lk, f, fun c w1 H1 l1 ok1 q1 => ?_⟩
  cases c with
  | true =>
    rw [if_pos rfl] at q1 ⊢
    exact ⟨w0, H0, r, w1, QD, EX, fr.go l1 ok1, lk, q1, fun d u w2 H2 l2 ok2 r2 q2 => k d u w2 H2 (l1.trans l2) ok2 r2 q2⟩
  | false =>
    rw [if_neg Bool.false_ne_true] at q1 ⊢
    exact ⟨w0, H0, r, w1, QD, EX, fr.go l1 ok1, lk, q1, fun d u w2 H2 l2 ok2 r2 q2 => k d u w2 H2 (l1.trans l2) ok2 r2 q2⟩

/-! ### argument lists, displays -/
def fNil : FA := fun _ Q _ => Q []
def fCons (A : FE) (B : FA) : FA := fun r Q EX => A r (fun d => B r (fun ds => Q (d :: ds)) EX) EX
theorem ca_nil : PA X [] (taD G E fNil) := PA.weak pa_nil fun s H Q ⟨w0, H0, r, w, QD, EX, fr, lk, f, k⟩ => k [] [] w H (.refl w H) fr.ok Reps.nil f
theorem ca_cons {A : FE} {B : FA} (ha : PE X e (tD G E A)) (hr : PA X es (taD G E B)) (hs : starEach (e :: es) X.env = (false, eval e X.env) :: starEach es X.env := by rfl) : PA X (e :: es) (taD G E (fCons A B)) := (pa_cons ha hr hs).weak fun s H Q ⟨w0, H0, r, w, QD, EX, fr, lk, f, k⟩ =>
  ⟨w0, H0, r, w, _, EX, fr, lk, f, fun d v w1 H1 l1 ok1 r1 q1 => ⟨w0, H0, r, w1, _, EX, fr.go l1 ok1, lk, q1, fun ds vs w2 H2 l2 ok2 r2 q2 => k (d :: ds) (v :: vs) w2 H2 (l1.trans l2) ok2 (Reps.cons (r1.mono l2.sub) r2) q2⟩⟩
theorem cab_nil : PA X [] (baD G E fNil) := PA.weak pa_nil fun s H Q ⟨w0, H0, r, w, QD, EX, fr, lk, f, k⟩ => k [] [] w H (.refl w H) fr.ok .nil f
theorem cab_cons {A : FE} {B : FA} (ha : PE X e (bD G E A)) (hr : PA X es (baD G E B)) (hs : starEach (e :: es) X.env = (false, eval e X.env) :: starEach es X.env := by rfl) : PA X (e :: es) (baD G E (fCons A B)) := (pa_cons ha hr hs).weak fun s H Q ⟨w0, H0, r, w, QD, EX, fr, lk, f, k⟩ =>
  ⟨w0, H0, r, w, _, EX, fr, lk, f, fun d v w1 H1 l1 ok1 r1 q1 => ⟨w0, H0, r, w1, _, EX, fr.go l1 ok1, lk, q1, fun ds vs w2 H2 l2 ok2 r2 q2 => k (d :: ds) (v :: vs) w2 H2 (l1.trans l2) ok2 (.cons (r1.go l2) r2) q2⟩⟩
def fTup (A : FA) : FE := fun r Q EX => A r (fun ds => ds.length ≤ sizeLine ∧ Q (.tup ds)) EX
def fLst (A : FA) : FA := fun r Q EX => A r (fun ds => ds.length ≤ sizeLine ∧ Q ds) EX
theorem Mine.new {w0 w w1 : Wd} {H0 H H1 : Hp} {p : Addr} (l0 : Le w0 H0 w1 H1) (ok : Ok w1 H1) (h : H1 p = none) : Mine H0 w1 p := by
  refine ⟨ok.none_hd h, ok.none_jr h, ?_⟩
  cases q : H0 p with
  | none => rfl
  | some o => exact absurd h (l0.dom p (by rw [q]; exact fun z => by cases z))
theorem Le.none_of {w w1 : Wd} {H H1 : Hp} {p : Addr} (l : Le w H w1 H1) (h : H1 p = none) : H p = none := by
  cases q : H p with
  | none => rfl
  | some o => exact absurd h (l.dom p (by rw [q]; exact fun z => by cases z))
/-- a new tuple, frozen at once -/
theorem newTup {w1 : Wd} {H1 : Hp} {p : Addr} {ds : List D} {vs : List V} {o : Obj} (ok : Ok w1 H1) (h : H1 p = none) (hd : o.dict = none) (r : Reps G w1 ds vs) :
    ∃ w2, Le w1 H1 w2 (upd H1 p (.frz o (.tup vs))) ∧ Ok w2 (upd H1 p (.frz o (.tup vs))) ∧ Rep G w2 (.tup ds) (.ref p) := by
  have hn := ok.none_hd h
  have nj := ok.none_jr h
  refine ⟨w1.frz (upd H1 p (.frz o (.tup vs))) p, (Le.new h).frz hn h, (ok.new h).frz nj, Rep.tup (.inl ⟨o, by rw [frz_at, upd_same], hd⟩) (r.mono (.frz hn))⟩
theorem ce_tup {x1} {A : FA} (h : PA X es (taD G E A)) : PE X (.Tuple es x1 pos) (tD G E (fTup A)) := PE.weak (pe_tupF h) fun s H Q ⟨w0, H0, r, w, QD, EX, fr, lk, f, k⟩ =>
  ⟨w0, H0, r, w, _, EX, fr, lk, f, fun ds vs w1 H1 l1 ok1 r1 ⟨hz, q1⟩ => ⟨by rw [← r1.length]; exact hz, fun p o hp hd => by
    obtain ⟨w2, l2, ok2, r2⟩ := newTup (p := p) ok1 hp hd r1
    exact k _ _ w2 _ (l1.trans l2) ok2 r2 q1⟩⟩
theorem cf_lst {A : FA} (h : PA X es (taD G E A)) : PE X (.List es pos) (fD G E (fLst A)) := PE.weak (pe_lst h) fun s H Q ⟨w0, H0, r, w, QD, EX, fr, lk, f, k⟩ =>
  ⟨w0, H0, r, w, _, EX, fr, lk, f, fun ds vs w1 H1 l1 ok1 r1 ⟨hz, q1⟩ => ⟨by rw [← r1.length]; exact hz, fun p hp =>
    k ds p vs w1 _ (l1.trans (Le.new hp)) (ok1.new hp) (l1.none_of hp) (Mine.new (w := w) (H := H) (fr.le.trans l1) ok1 hp) upd_same r1 q1⟩⟩
end
end DL
/-! The data layer, part 3: what a seen value is; operators, comparisons, subscripts, slices. -/
namespace DL
open PySem L2

section
variable {G : Gm} {H0 : Hp} {w : Wd} {H : Hp} {v : V}
theorem See.int_of {i : Int} (h : See G H0 w H (.int i) v) : v = .int i := by
  rcases h with h | ⟨_, _, _, _, e, _⟩ | ⟨_, _, _, _, _, e, _⟩
  · exact h.int_of
  · cases e
  · cases e
theorem See.str_of {i : Str} (h : See G H0 w H (.str i) v) : v = .str i := by
  rcases h with h | ⟨_, _, _, _, e, _⟩ | ⟨_, _, _, _, _, e, _⟩
  · exact h.str_of
  · cases e
  · cases e
theorem See.bl_of {i : Bool} (h : See G H0 w H (.bl i) v) : v = .bl i := by
  rcases h with h | ⟨_, _, _, _, e, _⟩ | ⟨_, _, _, _, _, e, _⟩
  · exact h.bl_of
  · cases e
  · cases e
theorem See.non_of (h : See G H0 w H .non v) : v = .non := by
  rcases h with h | ⟨_, _, _, _, e, _⟩ | ⟨_, _, _, _, _, e, _⟩
  · exact h.non_of
  · cases e
  · cases e
theorem See.tup_of {ds : List D} (ok : Ok w H) (h : See G H0 w H (.tup ds) v) : ∃ a vs, v = .ref a ∧ SqT G.K H a vs ∧ Reps G w ds vs := by
  rcases h with h | ⟨_, _, _, _, e, _⟩ | ⟨_, _, _, _, _, e, _⟩
  · obtain ⟨a, vs, e, s, r⟩ := h.tup_of
    exact ⟨a, vs, e, sqT_sub ok.sub s.sqt, r⟩
  · cases e
  · cases e
theorem See.tup_rep {ds : List D} (h : See G H0 w H (.tup ds) v) : Rep G w (.tup ds) v := by
  rcases h with h | ⟨_, _, _, _, e, _⟩ | ⟨_, _, _, _, _, e, _⟩
  · exact h
  · cases e
  · cases e
theorem See.lst_of {ds : List D} (ok : Ok w H) (h : See G H0 w H (.lst ds) v) : ∃ a vs, v = .ref a ∧ LsT G.K H a vs ∧ Reps G w ds vs := by
  rcases h with h | ⟨a, vs, es, e1, e, m, h1, r⟩ | ⟨_, _, _, _, _, e, _⟩
  · obtain ⟨a, vs, e, s, r⟩ := h.lst_of
    exact ⟨a, vs, e, lsT_sub ok.sub s, r⟩
  · cases e
    exact ⟨a, vs, e1, .inl (.of h1), r⟩
  · cases e
theorem See.dic_of {ks : List Key} {ds : List D} (ok : Ok w H) (h : See G H0 w H (.dic ks ds) v) : ∃ a vs, v = .ref a ∧ (H a = some (.dK (ks.zip vs)) ∨ KDic G.K G.pw a (ks.zip vs)) ∧ ks.length = vs.length ∧ Reps G w ds vs := by
  rcases h with h | ⟨_, _, _, _, e, _⟩ | ⟨a, vs, k2, d2, e1, e, m, h1, hl, r⟩
  · obtain ⟨a, vs, e, s, hl, r⟩ := h.dic_of
    exact ⟨a, vs, e, s.imp (ok.sub _ _) id, hl, r⟩
  · cases e
  · cases e
    exact ⟨a, vs, e1, .inl h1, hl, r⟩
/-- a flat value, or a tuple: no own object -/
theorem See.rep {d : D} (h : See G H0 w H d v) (n1 : ∀ ds, d ≠ .lst ds) (n2 : ∀ ks ds, d ≠ .dic ks ds) : Rep G w d v := by
  rcases h with h | ⟨_, _, ds, _, e, _⟩ | ⟨_, _, ks, ds, _, e, _⟩
  · exact h
  · exact absurd e (n1 ds)
  · exact absurd e (n2 ks ds)
theorem SqL.rd {K : PySem.W.Frag} {a : Addr} {vs : List V} (h : Rd H a (.lst vs)) : SqL K H a vs := .inl h
/-- a new list, frozen at once -/
theorem newLst {w1 : Wd} {H1 : Hp} {p : Addr} {ds : List D} {vs : List V} (ok : Ok w1 H1) (h : H1 p = none) (r : Reps G w1 ds vs) :
    ∃ w2, Le w1 H1 w2 (upd H1 p (.lst vs)) ∧ Ok w2 (upd H1 p (.lst vs)) ∧ Rep G w2 (.lst ds) (.ref p) := by
  have hn := ok.none_hd h
  have nj := ok.none_jr h
  exact ⟨w1.frz (upd H1 p (.lst vs)) p, (Le.new h).frz hn h, (ok.new h).frz nj, Rep.lst (Rd.of (by rw [frz_at, upd_same])) (r.mono (.frz hn))⟩
end

/-! ### + - * // % ** -/
/-- lists: any that may be read -/
theorem LsT.at {X : Cx} {pins : List (Addr × Obj)} {σ : L2.St} {H : Hp} {s : Shared} {a : Addr} {xs : List V} (I : Inv X pins σ H s) (h : LsT X.K H a xs) : ∃ (its : List Value) (n : Nat), Vals xs its ∧ s.heap.get? a = some { cls := .type "list", data := .seq its.toArray n } := by
  rcases h with h | ⟨its, n, e, z, r⟩
  · obtain ⟨_, its, n, r, e⟩ := h.ok I.hok
    exact ⟨its, n, r, e⟩
  · exact ⟨its.toList, n, r, I.kIn _ _ e⟩
def rCatR (K : PySem.W.Frag) : R2 := fun x y H Q => ∃ l b xs zs, x = .ref l ∧ y = .ref b ∧ LsT K H l xs ∧ LsT K H b zs ∧ xs.length + zs.length ≤ sizeLine ∧ ∀ p, H p = none → Q (.ref p) (upd H p (.lst (xs ++ zs)))
theorem op_catR {X : Cx} : OpR X (binaryOp .Add) (rCatR X.K) := by
  intro pins s σ H x y v u Q I rx ry hyp
  obtain ⟨l, b, xs, zs, rfl, rfl, h1, h2, hz, q⟩ := hyp
  cases rx
  cases ry
  obtain ⟨its, n, r, e⟩ := h1.at I
  obtain ⟨its2, n2, r2, e2⟩ := h2.at I
  have l1 := r.length
  have l2 := r2.length
  refine PySem.P.add_list e e2 ?_ (by simp only [List.size_toArray]; omega)
  have glue : its.toArray ++ its2.toArray = (its ++ its2).toArray := by simp
  have len : (xs ++ zs).length ≤ sizeLine := by rw [List.length_append]; omega
  rw [glue]
  exact ⟨V.ref s.heap.objs.size, upd H s.heap.objs.size (.lst (xs ++ zs)), I.lnew (t' := s.toks) (Vals.append r r2) len, rfl, q _ I.fresh⟩
def addD : G2 := fun x y Q => match x, y with
  | .int i, .int j => Q (.int (i + j))
  | .str i, .str j => i.length + j.length ≤ sizeLine ∧ Q (.str (i ++ j))
  | .tup a, .tup b => a.length + b.length ≤ sizeLine ∧ Q (.tup (a ++ b))
  | .lst a, .lst b => a.length + b.length ≤ sizeLine ∧ Q (.lst (a ++ b))
  | _, _ => False
variable {G : Gm} {X : Cx}
theorem opl_add (hK : X.K = G.K := by rfl) : OpL G X (binaryOp .Add) addD := by
  refine ⟨_, op_add.or (op_add_str.or (op_catF.or op_catR)), fun H0 w H x y v u Q QD ok sx sy g k => ?_⟩
  cases x with
  | int i => cases y with
    | int j => exact .inl ⟨i, j, sx.int_of, sy.int_of, k _ _ w H (.refl w H) ok Rep.int g⟩
    | _ => exact g.elim
  | str i => cases y with
    | str j => exact .inr (.inl ⟨i, j, sx.str_of, sy.str_of, g.1, k _ _ w H (.refl w H) ok Rep.str g.2⟩)
    | _ => exact g.elim
  | tup a => cases y with
    | tup b =>
      obtain ⟨p, vs, rfl, s1, r1⟩ := sx.tup_of ok
      obtain ⟨q, us, rfl, s2, r2⟩ := sy.tup_of ok
      refine .inr (.inr (.inl ⟨p, q, vs, us, rfl, rfl, hK ▸ s1, hK ▸ s2, by rw [← r1.length, ← r2.length]; exact g.1, fun e => ?_, fun _ e => ?_, fun _ _ p o hp hd => ?_⟩))
      · subst e
        have ea : a = [] := List.length_eq_zero_iff.mp r1.length
        subst ea
        exact k _ _ w H (.refl w H) ok sy.tup_rep g.2
      · subst e
        have eb : b = [] := List.length_eq_zero_iff.mp r2.length
        subst eb
        refine k _ _ w H (.refl w H) ok sx.tup_rep ?_
        have := g.2
        rwa [List.append_nil] at this
      · obtain ⟨w2, l2, ok2, rp⟩ := newTup (p := p) ok hp hd (r1.append r2)
        exact k _ _ w2 _ l2 ok2 rp g.2
    | _ => exact g.elim
  | lst a => cases y with
    | lst b =>
      obtain ⟨p, vs, rfl, s1, r1⟩ := sx.lst_of ok
      obtain ⟨q, us, rfl, s2, r2⟩ := sy.lst_of ok
      refine .inr (.inr (.inr ⟨p, q, vs, us, rfl, rfl, hK ▸ s1, hK ▸ s2, by rw [← r1.length, ← r2.length]; exact g.1, fun p hp => ?_⟩))
      obtain ⟨w2, l2, ok2, rp⟩ := newLst (p := p) ok hp (r1.append r2)
      exact k _ _ w2 _ l2 ok2 rp g.2
    | _ => exact g.elim
  | _ => exact g.elim
/-- two ints under a condition -/
def intD (C : Int → Int → Prop) (f : Int → Int → D) : G2 := fun x y Q => match x, y with
  | .int i, .int j => C i j ∧ Q (f i j)
  | _, _ => False
theorem opl_int {op : Value → Value → Sem Value} {C : Int → Int → Prop} {f : Int → Int → Int} (h : OpR X op (rI C fun i j => .int (f i j))) : OpL G X op (intD C fun i j => .int (f i j)) := by
  refine ⟨_, h, fun H0 w H x y v u Q QD ok sx sy g k => ?_⟩
  cases x with
  | int i => cases y with
    | int j => exact ⟨i, j, sx.int_of, sy.int_of, g.1, k _ _ w H (.refl w H) ok Rep.int g.2⟩
    | _ => exact g.elim
  | _ => exact g.elim
abbrev mulD : G2 := intD CMul fun i j => .int (i * j)
abbrev divD : G2 := intD CDivN fun i j => .int (i.fdiv j)
abbrev modD : G2 := intD (fun _ j => j ≠ 0) fun i j => .int (i.fmod j)
abbrev powD : G2 := intD CPow fun i j => .int (i ^ j.toNat)
theorem opl_div : OpL G X (binaryOp .FloorDiv) divD := opl_int op_fdivN
theorem opl_mod : OpL G X (binaryOp .Mod) modD := opl_int op_modN
theorem opl_pow : OpL G X (binaryOp .Pow) powD := opl_int op_pow

/-! ### comparisons -/
/-- order: ints, texts -/
def ordD (p : Int → Int → Bool) (q : Str → Str → Bool) : G2 := fun x y Q => match x, y with
  | .int i, .int j => Q (.bl (p i j))
  | .str i, .str j => Q (.bl (q i j))
  | _, _ => False
theorem opl_ord {op : Value → Value → Sem Value} {p : Int → Int → Bool} {q : Str → Str → Bool} (h1 : OpR X op (rI0 fun i j => .bl (p i j))) (h2 : OpR X op (fun x y H Q => ∃ i j, x = .str i ∧ y = .str j ∧ Q (.bl (q i j)) H)) : OpL G X op (ordD p q) := by
  refine ⟨_, h1.or h2, fun H0 w H x y v u Q QD ok sx sy g k => ?_⟩
  cases x with
  | int i => cases y with
    | int j => exact .inl ⟨i, j, sx.int_of, sy.int_of, k _ _ w H (.refl w H) ok Rep.bl g⟩
    | _ => exact g.elim
  | str i => cases y with
    | str j => exact .inr ⟨i, j, sx.str_of, sy.str_of, k _ _ w H (.refl w H) ok Rep.bl g⟩
    | _ => exact g.elim
  | _ => exact g.elim
/-- texts: by code points -/
def ltS (i j : Str) : Bool := decide (i.cps.toList < j.cps.toList)
abbrev ltD : G2 := ordD (fun i j => decide (i < j)) ltS
abbrev leD : G2 := ordD (fun i j => decide (i ≤ j)) fun i j => !ltS j i
abbrev gtD : G2 := ordD (fun i j => decide (j < i)) fun i j => ltS j i
abbrev geD : G2 := ordD (fun i j => decide (j ≤ i)) fun i j => !ltS i j
theorem opl_lt : OpL G X (compareOp .Lt) ltD := opl_ord op_lt op_lt_str
theorem opl_le : OpL G X (compareOp .LtE) leD := opl_ord op_le op_le_str
theorem opl_gt : OpL G X (compareOp .Gt) gtD := opl_ord op_gt op_gt_str
theorem opl_ge : OpL G X (compareOp .GtE) geD := opl_ord op_ge op_ge_str

/-! ### data as the library sees it -/
mutual
def pd : D → PyData
  | .non => .none
  | .bl b => .bool b
  | .int i => .int i
  | .str s => .str s
  | .tup ds => .tuple (pds ds)
  | .lst ds => .list (pds ds)
  | .dic _ _ => .dict []
  | .obj _ _ => .dict []
  | .exc _ _ => .dict []
  | .jar => .dict []
def pds : List D → List PyData
  | [] => []
  | d :: ds => pd d :: pds ds
end
mutual
/-- nothing but None, bools, ints, texts, tuples, lists -/
def plain : D → Bool
  | .tup ds => plains ds
  | .lst ds => plains ds
  | .dic _ _ => false
  | .obj _ _ => false
  | .exc _ _ => false
  | .jar => false
  | .non => true
  | .bl _ => true
  | .int _ => true
  | .str _ => true
def plains : List D → Bool
  | [] => true
  | d :: ds => plain d && plains ds
end
mutual
theorem Rep.dp {w : Wd} {H : Hp} (k : ∀ a o, w.hd a = some o → H a = some o) : ∀ (d : D) {v : V}, plain d = true → Rep G w d v → Dp G.K H v (pd d)
  | .non, v, _, h => by rw [h.non_of]; unfold pd; exact .non
  | .bl b, v, _, h => by rw [h.bl_of]; unfold pd; exact .bl b
  | .int i, v, _, h => by rw [h.int_of]; unfold pd; exact .int i
  | .str s, v, _, h => by rw [h.str_of]; unfold pd; exact .str s
  | .tup ds, v, p, h => by
    obtain ⟨a, vs, e, s, r⟩ := h.tup_of
    unfold plain at p
    unfold pd
    rw [e]
    exact .tup (sqT_sub k s.sqt) (Reps.dp k ds p r)
  | .lst ds, v, p, h => by
    obtain ⟨a, vs, e, s, r⟩ := h.lst_of
    unfold plain at p
    unfold pd
    rw [e]
    exact .lst (lsT_sub k s).sql (Reps.dp k ds p r)
  | .dic _ _, v, p, h => by unfold plain at p; cases p
  | .obj _ _, v, p, h => by unfold plain at p; cases p
  | .exc _ _, v, p, h => by unfold plain at p; cases p
  | .jar, v, p, h => by unfold plain at p; cases p
theorem Reps.dp {w : Wd} {H : Hp} (k : ∀ a o, w.hd a = some o → H a = some o) : ∀ (ds : List D) {vs : List V}, plains ds = true → Reps G w ds vs → DpAll G.K H vs (pds ds)
  | [], vs, _, h => by rw [h.of_nil]; unfold pds; exact .nil
  | d :: ds, vs, p, h => by
    obtain ⟨v, r, e, h1, h2⟩ := h.of_cons
    unfold plains at p
    rw [Bool.and_eq_true] at p
    unfold pds
    rw [e]
    exact .cons (Rep.dp k d p.1 h1) (Reps.dp k ds p.2 h2)
end
theorem See.dp {H0 : Hp} {w : Wd} {H : Hp} {d : D} {v : V} (ok : Ok w H) (p : plain d = true) (h : See G H0 w H d v) : Dp G.K H v (pd d) := by
  rcases h with h | ⟨a, vs, ds, e1, e2, m, h1, r⟩ | ⟨_, _, _, _, _, e, _⟩
  · exact h.dp ok.sub d p
  · subst e2
    unfold plain at p
    unfold pd
    rw [e1]
    exact .lst (SqL.of h1) (Reps.dp ok.sub ds p r)
  · subst e; unfold plain at p; cases p
/-- == of data -/
def shp (d : D) : Prop := plain d = true ∧ SeqAt.shaped (pd d) = true
def eqb (x y : D) : Bool := PyData.eqv (pd x) (pd y)
def bothS (x y : D) : Option Bool := match x, y with
  | .str a, .str b => some (decide (a.cps.toList = b.cps.toList))
  | _, _ => none
theorem bothS_some {x y : D} {b : Bool} (h : bothS x y = some b) : ∃ s t, x = .str s ∧ y = .str t ∧ b = decide (s.cps.toList = t.cps.toList) := by
  unfold bothS at h
  split at h
  · rename_i s t
    exact ⟨s, t, rfl, rfl, (Option.some.inj h).symm⟩
  · cases h
theorem dec_strs {s t : Str} : decide (V.str s = V.str t) = decide (s.cps.toList = t.cps.toList) := by
  refine decide_eq_decide.mpr ⟨fun h => ?_, fun h => ?_⟩
  · cases h; rfl
  · cases s; cases t
    exact congrArg (fun z => V.str ⟨z⟩) (Array.toList_inj.mp h)
def eqD : G2 := fun x y Q => match bothS x y with
  | some b => Q (.bl b)
  | none => shp x ∧ shp y ∧ Q (.bl (eqb x y))
def neD : G2 := fun x y Q => match bothS x y with
  | some b => Q (.bl (!b))
  | none => shp x ∧ shp y ∧ Q (.bl (!eqb x y))
theorem opl_eq (hu : X.A.units + 64 < cLine) (hK : X.K = G.K := by rfl) : OpL G X (compareOp .Eq) eqD := by
  refine ⟨_, op_eq.or (op_eqD hu), fun H0 w H x y v u Q QD ok sx sy g k => ?_⟩
  unfold eqD at g
  cases e : bothS x y with
  | some b =>
    rw [e] at g
    obtain ⟨s, t, rfl, rfl, rfl⟩ := bothS_some e
    refine .inl ?_
    rw [sx.str_of, sy.str_of]
    refine ⟨rfl, ?_⟩
    rw [dec_strs]
    exact k _ _ w H (.refl w H) ok Rep.bl g
  | none =>
    rw [e] at g
    obtain ⟨⟨p1, q1⟩, ⟨p2, q2⟩, g⟩ := g
    exact .inr ⟨pd x, pd y, hK ▸ sx.dp ok p1, hK ▸ sy.dp ok p2, q1, q2, k _ _ w H (.refl w H) ok Rep.bl g⟩
theorem opl_ne (hu : X.A.units + 64 < cLine) (hK : X.K = G.K := by rfl) : OpL G X (compareOp .NotEq) neD := by
  refine ⟨_, op_ne.or (op_neD hu), fun H0 w H x y v u Q QD ok sx sy g k => ?_⟩
  unfold neD at g
  cases e : bothS x y with
  | some b =>
    rw [e] at g
    obtain ⟨s, t, rfl, rfl, rfl⟩ := bothS_some e
    refine .inl ?_
    rw [sx.str_of, sy.str_of]
    refine ⟨rfl, ?_⟩
    rw [dec_strs]
    exact k _ _ w H (.refl w H) ok Rep.bl g
  | none =>
    rw [e] at g
    obtain ⟨⟨p1, q1⟩, ⟨p2, q2⟩, g⟩ := g
    exact .inr ⟨pd x, pd y, hK ▸ sx.dp ok p1, hK ▸ sy.dp ok p2, q1, q2, k _ _ w H (.refl w H) ok Rep.bl g⟩
/-- is None, is not None -/
def isNon : D → Bool
  | .non => true
  | _ => false
theorem Rep.non_iff {w : Wd} {x : D} {v : V} (h : Rep G w x v) : decide (v = .non) = isNon x := by
  cases x with
  | non => rw [h.non_of]; rfl
  | bl b => rw [h.bl_of]; rfl
  | int b => rw [h.int_of]; rfl
  | str b => rw [h.str_of]; rfl
  | tup ds => obtain ⟨a, vs, e, _⟩ := h.tup_of; rw [e]; rfl
  | lst ds => obtain ⟨a, vs, e, _⟩ := h.lst_of; rw [e]; rfl
  | dic ks ds => obtain ⟨a, vs, e, _⟩ := h.dic_of; rw [e]; rfl
  | obj c ds => obtain ⟨a, dx, fs, e, _⟩ := h.obj_of; rw [e]; rfl
  | exc c ds => obtain ⟨a, _, _, _, e, _⟩ := h.exc_of; rw [e]; rfl
  | jar => obtain ⟨a, e, _⟩ := h.jar_of; rw [e]; rfl
/-! ### in, not in -/
def flatD : D → Bool
  | .non => true | .bl _ => true | .int _ => true | .str _ => true
  | _ => false
theorem Rep.flat {w : Wd} {x : D} {v : V} (f : flatD x = true) (h : Rep G w x v) : flatV v = true := by
  cases x with
  | non => rw [h.non_of]; rfl
  | bl b => rw [h.bl_of]; rfl
  | int b => rw [h.int_of]; rfl
  | str b => rw [h.str_of]; rfl
  | _ => cases f
theorem Reps.flat {w : Wd} : ∀ {ds : List D} {vs : List V}, ds.all flatD = true → Reps G w ds vs → vs.all flatV = true
  | [], vs, _, h => by rw [h.of_nil]; rfl
  | d :: ds, vs, f, h => by
    obtain ⟨v, r, e, h1, h2⟩ := h.of_cons
    rw [List.all_cons, Bool.and_eq_true] at f
    rw [e, List.all_cons, h1.flat f.1, Reps.flat f.2 h2]; rfl
theorem eqV_eqb {w : Wd} {x y : D} {v u : V} (f : flatD x = true) (f2 : flatD y = true) (h : Rep G w x v) (h2 : Rep G w y u) : eqV v u = eqb x y := by
  cases x with
  | non => rw [h.non_of]; cases y with
    | non => rw [h2.non_of]; rfl
    | bl b => rw [h2.bl_of]; rfl
    | int b => rw [h2.int_of]; rfl
    | str b => rw [h2.str_of]; rfl
    | _ => cases f2
  | bl b => rw [h.bl_of]; cases y with
    | non => rw [h2.non_of]; rfl
    | bl b => rw [h2.bl_of]; rfl
    | int b => rw [h2.int_of]; rfl
    | str b => rw [h2.str_of]; rfl
    | _ => cases f2
  | int b => rw [h.int_of]; cases y with
    | non => rw [h2.non_of]; rfl
    | bl b => rw [h2.bl_of]; rfl
    | int b => rw [h2.int_of]; rfl
    | str b => rw [h2.str_of]; rfl
    | _ => cases f2
  | str b => rw [h.str_of]; cases y with
    | non => rw [h2.non_of]; rfl
    | bl b => rw [h2.bl_of]; rfl
    | int b => rw [h2.int_of]; rfl
    | str b => rw [h2.str_of]; rfl
    | _ => cases f2
  | _ => cases f
theorem inV_any {w : Wd} {x : D} {v : V} (f : flatD x = true) (h : Rep G w x v) : ∀ {ds : List D} {vs : List V}, ds.all flatD = true → Reps G w ds vs → inV v vs = ds.any fun z => eqb z x
  | [], vs, _, r => by rw [r.of_nil]; rfl
  | d :: ds, vs, fs, r => by
    obtain ⟨u, t, e, h1, h2⟩ := r.of_cons
    rw [List.all_cons, Bool.and_eq_true] at fs
    have ih := inV_any f h fs.2 h2
    unfold inV at ih ⊢
    rw [e, List.any_cons, List.any_cons, eqV_eqb fs.1 f h1 h, ih]
theorem flat_n1 {x : D} (f : flatD x = true) : ∀ ds, x ≠ .lst ds := fun ds e => by rw [e] at f; cases f
theorem flat_n2 {x : D} (f : flatD x = true) : ∀ ks ds, x ≠ .dic ks ds := fun ks ds e => by rw [e] at f; cases f
/-- x in y: flat in a tuple or a list of flat ones; data in a list of data; a sign in a text -/
def inD (neg : Bool) : G2 := fun x y Q => match y with
  | .tup ds => flatD x = true ∧ ds.all flatD = true ∧ Q (.bl (neg != ds.any fun z => eqb z x))
  | .lst ds => (shp x ∧ shp (.lst ds) ∧ Q (.bl (neg != ds.any fun z => eqb z x)))
  | .str z => match x with
    | .str c => ∃ n, c = ⟨#[n]⟩ ∧ Q (.bl (neg != decide (n ∈ z.cps.toList)))
    | _ => False
  | .dic ks _ => match x with
    | .str c => Q (.bl (neg != ks.any fun k => decide (k = Sum.inr c)))
    | .int c => Q (.bl (neg != ks.any fun k => decide (k = Sum.inl c)))
    | _ => False
  | _ => False
theorem pds_map : ∀ ds : List D, pds ds = ds.map pd
  | [] => rfl
  | d :: ds => by unfold pds; rw [pds_map ds]; rfl
end DL
/-! The data layer, part 4: in; subscripts, slices; dicts. -/
namespace DL
open PySem L2 PyProof.Rows
variable {G : Gm} {X : Cx}

/-! ### a written dict -/
theorem KEnt.keys {w : World} : ∀ {es : List DictEntry} {kvs : List (Key × V)}, KEnt w es kvs → ∀ e ∈ es, ∃ k, keyIs k e.key = true ∧ e.hash = keyH w k
  | [], [], _, e, he => by simp at he
  | e0 :: r, (k, v) :: t, h, e, he => by
    unfold KEnt at h
    obtain ⟨h1, h2, _, h4⟩ := h
    rcases List.mem_cons.mp he with q | q
    · rw [q]; exact ⟨k, h1, h2⟩
    · exact KEnt.keys h4 e q
  | [], _ :: _, h, _, _ => by unfold KEnt at h; exact h.elim
  | _ :: _, [], h, _, _ => by unfold KEnt at h; exact h.elim
theorem keyIs_iff {k k' : Key} {v : Value} (h : keyIs k v = true) : keyIs k' v = decide (k = k') := by
  by_cases e : k = k'
  · subst e; rw [h, decide_eq_true rfl]
  · rw [decide_eq_false e]
    cases q : keyIs k' v with
    | false => rfl
    | true =>
      rcases keyIs_shape h with ⟨i, t, r1, r2⟩ | ⟨x, t, r1, r2⟩ <;> rcases keyIs_shape q with ⟨j, u, r3, r4⟩ | ⟨y, u, r3, r4⟩
      · rw [r2] at r4; injection r4 with z _; exact absurd (by rw [r1, r3, z]) e
      · rw [r2] at r4; cases r4
      · rw [r2] at r4; cases r4
      · rw [r2] at r4; injection r4 with z _; exact absurd (by rw [r1, r3, z]) e
theorem KEnt.find {w : World} (k : Key) : ∀ {es : List DictEntry} {kvs : List (Key × V)}, KEnt w es kvs → RelO (valV kvs k) ((es.find? fun d => keyIs k d.key).map (·.val))
  | [], [], _ => True.intro
  | e0 :: r, (k0, v) :: t, h => by
    unfold KEnt at h
    obtain ⟨h1, h2, h3, h4⟩ := h
    rw [List.find?_cons, keyIs_iff h1]
    by_cases e : k0 = k
    · rw [decide_eq_true e, valV_pos (show (k0, v).1 = k from e)]
      exact h3
    · rw [decide_eq_false e, valV_neg (show ¬ (k0, v).1 = k from e)]
      exact KEnt.find k h4
  | [], _ :: _, h => by unfold KEnt at h; exact h.elim
  | _ :: _, [], h => by unfold KEnt at h; exact h.elim
theorem KDic.map {K : PySem.W.Frag} {P : Program} {w : World} {a : Addr} {kvs : List (Key × V)} {h : Heap} (d : KDic K w a kvs) (X : K.In h) : (a == sysModules) = false ∧ ∃ f, h.MapOf (mixKind P w) a f ∧ ∀ k, RelO (valV kvs k) (f k) := by
  obtain ⟨es, n, hl, hs, he⟩ := d
  refine ⟨hs, fun k => findBy (mixKind P w).is es k, ⟨_, es, n, X _ _ hl, ⟨rfl, rfl, rfl⟩, rfl, fun e m => he.keys e (Array.mem_toList_iff.mpr m), fun _ => rfl⟩, fun k => ?_⟩
  have q := he.find k
  obtain ⟨l⟩ := es
  show RelO (valV kvs k) (findBy (mixKind P w).is l.toArray k)
  unfold findBy
  rw [List.find?_toArray]
  exact q
/-- the value at a key over data -/
def dget (ks : List Key) (ds : List D) (k : Key) : Option D := ((ks.zip ds).find? fun p => decide (p.1 = k)).map (·.2)
theorem dget_rel {w : Wd} (k : Key) : ∀ {ks : List Key} {ds : List D} {vs : List V}, ks.length = vs.length → Reps G w ds vs →
    (∀ d, dget ks ds k = some d → ∃ v, valV (ks.zip vs) k = some v ∧ Rep G w d v) ∧ (dget ks ds k = none → valV (ks.zip vs) k = none)
  | [], ds, vs, hl, r => ⟨fun d h => by simp [dget] at h, fun _ => by simp [valV]⟩
  | k0 :: ks, [], vs, hl, r => by
    rw [r.of_nil] at hl
    simp at hl
  | k0 :: ks, d :: ds, vs, hl, r => by
    obtain ⟨v, t, e, h1, h2⟩ := r.of_cons
    subst e
    rw [List.length_cons, List.length_cons] at hl
    have ih := dget_rel (w := w) k (ks := ks) (ds := ds) (vs := t) (by omega) h2
    by_cases e : k0 = k
    · have z1 : dget (k0 :: ks) (d :: ds) k = some d := by simp [dget, e]
      have z2 : valV ((k0 :: ks).zip (v :: t)) k = some v := valV_pos (show (k0, v).1 = k from e)
      rw [z1, z2]
      exact ⟨fun d' q => ⟨v, rfl, by cases q; exact h1⟩, fun q => by cases q⟩
    · have z1 : dget (k0 :: ks) (d :: ds) k = dget ks ds k := by simp [dget, e]
      have z2 : valV ((k0 :: ks).zip (v :: t)) k = valV (ks.zip t) k := valV_neg (show ¬ (k0, v).1 = k from e)
      rw [z1, z2]
      exact ih
/-- a key as data -/
def keyD : D → Option Key
  | .int i => some (.inl i)
  | .str s => some (.inr s)
  | _ => none
theorem keyD_see {H0 : Hp} {w : Wd} {H : Hp} {d : D} {v : V} {k : Key} (h : See G H0 w H d v) (e : keyD d = some k) : v = kV k := by
  cases d with
  | int i => cases e; exact h.int_of
  | str i => cases e; exact h.str_of
  | _ => cases e
/-- reading of d[k] by values: a tracked or a written dict -/
def rDic (K : PySem.W.Frag) (w : World) : R2 := fun x y H Q => ∃ a kvs k v, x = .ref a ∧ y = kV k ∧ (H a = some (.dK kvs) ∨ KDic K w a kvs) ∧ valV kvs k = some v ∧ Q v H
theorem mixIs {P : Program} {w : World} {k : Key} {u : Value} (r : RelV (kV k) u) : (mixKind P w).is k u = true := by
  cases k with
  | inl i => obtain ⟨t, e⟩ := (show ∃ t, u = Value.int i t from r); rw [e]; exact mixKind_int P w i t
  | inr x => obtain ⟨t, e⟩ := (show ∃ t, u = Value.str x t from r); rw [e]; exact mixKind_str P w x t
theorem ix_dic (hu : X.A.units + 1 < cLine) : IxR X (rDic X.K X.w) := by
  intro value slice pins s σ H x y v u Q I rx ry hyp hs
  obtain ⟨a, kvs, k, z, rfl, rfl, hd, hv, q⟩ := hyp
  cases rx
  rcases hd with hd | hd
  · have g : DGet H a (kV k) (some z) := hv ▸ DGet.k hd
    exact tail_any (dict_typeIs I g) PySem.F.slot_dict_getitem.lookup (d_getItem hu I g ry fun w' s' I' r' => ⟨z, H, I', r', q⟩) hs
  · obtain ⟨_, f, hm, hf⟩ := hd.map (P := X.prog) I.kIn
    obtain ⟨w', hw, rw'⟩ := RelO.some_of (v := z) (o := f k) (by rw [← hv]; exact hf k)
    exact tail_any hm.typeIs PySem.F.slot_dict_getitem.lookup (wpAny_getItem_of (mixIs ry) hm hw ⟨z, H, I.tok _, rw', q⟩) hs
def rDicIn (K : PySem.W.Frag) (w : World) (neg : Bool) : R2 := fun y x H Q => ∃ a kvs k, x = .ref a ∧ y = kV k ∧ (H a = some (.dK kvs) ∨ KDic K w a kvs) ∧ Q (.bl (neg != (valV kvs k).isSome)) H
theorem op_dicIn (hu : X.A.units + 1 < cLine) : OpR X (compareOp .In) (rDicIn X.K X.w false) := by
  intro pins s σ H y x u v Q I ry rx hyp
  obtain ⟨a, kvs, k, rfl, rfl, hd, q⟩ := hyp
  cases rx
  rw [Bool.false_bne] at q
  rcases hd with hd | hd
  · exact d_in hu I (DGet.k hd) ry fun s' I' => ⟨.bl _, H, I', rfl, q⟩
  · obtain ⟨hs, f, hm, hf⟩ := hd.map (P := X.prog) I.kIn
    have e : (f k).isSome = (valV kvs k).isSome := by
      have := hf k
      revert this
      cases valV kvs k <;> cases f k <;> intro z <;> first | rfl | exact z.elim
    refine wpAny_in_of (mixIs ry) hs hm ?_
    rw [e]
    exact ⟨.bl _, H, I.tok _, rfl, q⟩
theorem op_dicNotIn (hu : X.A.units + 1 < cLine) : OpR X (compareOp .NotIn) (rDicIn X.K X.w true) := by
  intro pins s σ H y x u v Q I ry rx hyp
  obtain ⟨a, kvs, k, rfl, rfl, hd, q⟩ := hyp
  cases rx
  rw [Bool.true_bne] at q
  rcases hd with hd | hd
  · exact d_notIn hu I (DGet.k hd) ry fun s' I' => ⟨.bl _, H, I', rfl, q⟩
  · obtain ⟨hs, f, hm, hf⟩ := hd.map (P := X.prog) I.kIn
    have e : (f k).isSome = (valV kvs k).isSome := by
      have := hf k
      revert this
      cases valV kvs k <;> cases f k <;> intro z <;> first | rfl | exact z.elim
    refine wpAny_notIn_of (mixIs ry) hs hm ?_
    rw [e]
    exact ⟨.bl _, H, I.tok _, rfl, q⟩

/-! ### in, not in -/
theorem valV_ks {k : Key} : ∀ {ks : List Key} {vs : List V}, ks.length = vs.length → (valV (ks.zip vs) k).isSome = ks.any fun k0 => decide (k0 = k)
  | [], vs, _ => by simp [valV]
  | k0 :: ks, [], h => by simp at h
  | k0 :: ks, v :: vs, h => by
    have ih := valV_ks (k := k) (ks := ks) (vs := vs) (by simpa using h)
    by_cases e : k0 = k
    · rw [List.zip_cons_cons, valV_pos (show (k0, v).1 = k from e)]; simp [e]
    · rw [List.zip_cons_cons, valV_neg (show ¬ (k0, v).1 = k from e), ih]; simp [e]
/-- the readings that serve in, by the operator -/
structure InRules (X : Cx) (op : CmpOp) (neg : Bool) : Prop where
  seq : OpR X (compareOp op) (rIn X.K neg)
  deep : ∃ r, OpR X (compareOp op) r ∧ ∀ x y H Q d ds, Dp X.K H x d → Dp X.K H y (.list ds) → SeqAt.shaped d = true → SeqAt.shaped (.list ds) = true → Q (.bl (neg != ds.any fun z => PyData.eqv z d)) H → r x y H Q
  sign : OpR X (compareOp op) (fun x y H Q => ∃ (c : Nat) (z : Str), x = .str ⟨#[c]⟩ ∧ y = .str z ∧ Q (.bl (neg != decide (c ∈ z.cps.toList))) H)
  dic : OpR X (compareOp op) (rDicIn X.K X.w neg)
theorem inRules (hu : X.A.units + 65 < cLine) : InRules X .In false where
  seq := op_in_seq
  deep := ⟨_, op_inD hu, fun x y H Q d ds h1 h2 h3 h4 q => ⟨d, ds, h1, h2, h3, h4, by rw [Bool.false_bne] at q; exact q⟩⟩
  sign := fun pins s σ H x y v u Q I rx ry ⟨c, z, e1, e2, q⟩ => op_in_sign pins s σ H x y v u Q I rx ry ⟨c, z, e1, e2, by rw [Bool.false_bne] at q; exact q⟩
  dic := op_dicIn (by omega)
theorem notInRules (hu : X.A.units + 65 < cLine) : InRules X .NotIn true where
  seq := op_notIn_seq
  deep := ⟨_, op_notInD hu, fun x y H Q d ds h1 h2 h3 h4 q => ⟨d, ds, h1, h2, h3, h4, by rw [Bool.true_bne] at q; exact q⟩⟩
  sign := fun pins s σ H x y v u Q I rx ry ⟨c, z, e1, e2, q⟩ => op_notIn_sign pins s σ H x y v u Q I rx ry ⟨c, z, e1, e2, by rw [Bool.true_bne] at q; exact q⟩
  dic := op_dicNotIn (by omega)
theorem bneIf (neg b : Bool) : (if neg = true then !b else b) = (neg != b) := by cases neg <;> cases b <;> rfl
theorem opl_inG {op : CmpOp} {neg : Bool} (R : InRules X op neg) (hK : X.K = G.K := by rfl) (hW : X.w = G.pw := by rfl) : OpL G X (compareOp op) (inD neg) := by
  obtain ⟨rd, hrd, kd⟩ := R.deep
  refine ⟨_, R.seq.or (hrd.or (R.sign.or R.dic)), fun H0 w H x y v u Q QD ok sx sy g k => ?_⟩
  cases y with
  | tup ds =>
    obtain ⟨p, vs, rfl, s1, r1⟩ := sy.tup_of ok
    obtain ⟨f1, f2, g⟩ := g
    have rx := sx.rep (flat_n1 f1) (flat_n2 f1)
    refine .inl ⟨p, vs, rfl, .inr (hK ▸ s1), rx.flat f1, Reps.flat f2 r1, ?_⟩
    rw [inV_any f1 rx f2 r1, bneIf]
    exact k _ _ w H (.refl w H) ok Rep.bl g
  | lst ds =>
    obtain ⟨⟨p1, p2⟩, ⟨p3, p4⟩, g⟩ := g
    have e : pd (.lst ds) = .list (ds.map pd) := by rw [← pds_map]; conv => lhs; unfold pd
    have d1 := sx.dp ok p1
    have d2 := sy.dp ok p3
    rw [e] at d2 p4
    refine .inr (.inl (kd v u H Q (pd x) (ds.map pd) (hK ▸ d1) (hK ▸ d2) p2 p4 ?_))
    rw [List.any_map]
    exact k _ _ w H (.refl w H) ok Rep.bl g
  | str z =>
    cases x with
    | str c =>
      obtain ⟨n, rfl, g⟩ := g
      exact .inr (.inr (.inl ⟨n, z, sx.str_of, sy.str_of, k _ _ w H (.refl w H) ok Rep.bl g⟩))
    | _ => exact g.elim
  | dic ks ds =>
    obtain ⟨a, vs, rfl, hd, hl, r⟩ := sy.dic_of ok
    have fin : ∀ key : Key, v = kV key → QD (.bl (neg != ks.any fun k0 => decide (k0 = key))) → rDicIn X.K X.w neg v (.ref a) H Q := fun key e q =>
      ⟨a, ks.zip vs, key, rfl, e, hK ▸ hW ▸ hd, by
        rw [valV_ks hl]
        exact k _ _ w H (.refl w H) ok Rep.bl q⟩
    cases x with
    | str c => exact .inr (.inr (.inr (fin (.inr c) sx.str_of g)))
    | int c => exact .inr (.inr (.inr (fin (.inl c) sx.int_of g)))
    | _ => exact g.elim
  | _ => exact g.elim
theorem opl_in (hu : X.A.units + 65 < cLine) (hK : X.K = G.K := by rfl) (hW : X.w = G.pw := by rfl) : OpL G X (compareOp .In) (inD false) := opl_inG (inRules hu) hK hW
theorem opl_notin (hu : X.A.units + 65 < cLine) (hK : X.K = G.K := by rfl) (hW : X.w = G.pw := by rfl) : OpL G X (compareOp .NotIn) (inD true) := opl_inG (notInRules hu) hK hW

/-! ### x[i] -/
def ixD : G2 := fun x y Q => match x with
  | .tup ds => ∃ i d, y = .int i ∧ atI ds i = some d ∧ Q d
  | .lst ds => ∃ i d, y = .int i ∧ atI ds i = some d ∧ Q d
  | .str z => ∃ i c, y = .int i ∧ z.length ≤ sizeLine ∧ atI z.cps.toList i = some c ∧ Q (.str ⟨#[c]⟩)
  | .dic ks ds => ∃ k d, keyD y = some k ∧ dget ks ds k = some d ∧ Q d
  | _ => False
theorem atI_rep {w : Wd} {ds : List D} {vs : List V} {i : Int} {d : D} (r : Reps G w ds vs) (h : atI ds i = some d) : ∃ v, atI vs i = some v ∧ Rep G w d v := by
  unfold atI at h ⊢
  rw [← r.length]
  cases e : ixN ds.length i with
  | none => rw [e] at h; cases h
  | some j =>
    rw [e] at h
    exact r.getD h
theorem ce_ix {a b : Expr} {pos : Pos} {E : XK} {A B : FE} (hu : X.A.units + 1 < cLine) (ha : PE X a (bD G E A)) (hb : PE X b (bD G E B)) (hs : PlainIx b := by exact fun _ _ => rfl) (hK : X.K = G.K := by rfl) (hW : X.w = G.pw := by rfl) :
    PE X (.Subscript a b pos) (tD G E (f2 ixD A B)) := by
  refine (pe_ix (ix_list.or (ix_tup.or (ix_str.or (ix_dic hu)))) ha hb hs).weak (OpL.link (op := binaryOp .Add) fun H0 w H x y v u Q QD ok sx sy g k => ?_)
  cases x with
  | tup ds =>
    obtain ⟨i, d, rfl, e, g⟩ := g
    obtain ⟨p, vs, rfl, s1, r1⟩ := sx.tup_of ok
    obtain ⟨z, e2, r2⟩ := atI_rep r1 e
    exact .inr (.inl ⟨p, vs, i, z, rfl, sy.int_of, hK ▸ s1, e2, k _ _ w H (.refl w H) ok r2 g⟩)
  | lst ds =>
    obtain ⟨i, d, rfl, e, g⟩ := g
    obtain ⟨p, vs, rfl, s1, r1⟩ := sx.lst_of ok
    obtain ⟨z, e2, r2⟩ := atI_rep r1 e
    exact .inl ⟨p, vs, i, z, rfl, sy.int_of, hK ▸ s1.sql, e2, k _ _ w H (.refl w H) ok r2 g⟩
  | str z =>
    obtain ⟨i, c, rfl, hz, e, g⟩ := g
    exact .inr (.inr (.inl ⟨z, i, c, sx.str_of, sy.int_of, hz, e, k _ _ w H (.refl w H) ok Rep.str g⟩))
  | dic ks ds =>
    obtain ⟨key, d, e1, e2, g⟩ := g
    obtain ⟨a, vs, rfl, hd, hl, r⟩ := sx.dic_of ok
    obtain ⟨z, e3, r3⟩ := (dget_rel (w := w) key hl r).1 d e2
    exact .inr (.inr (.inr ⟨a, ks.zip vs, key, z, rfl, keyD_see sy e1, hK ▸ hW ▸ hd, e3, k _ _ w H (.refl w H) ok r3 g⟩))
  | _ => exact g.elim

/-! ### x[a:b] -/
def cutD (ds : List D) (lo hi : Option Int) : List D := (ds.drop (HT.sIx ds.length 0 lo)).take (HT.sIx ds.length ds.length hi - HT.sIx ds.length 0 lo)
abbrev FO := Env → (Option Int → Prop) → XP → Prop
def fNone : FO := fun _ Q _ => Q none
def fSome (A : FE) : FO := fun r Q EX => A r (fun d => ∃ i, d = .int i ∧ Q (some i)) EX
def toD (G : Gm) (E : XK) (F : FO) : TO := fun s H Q => ∃ w0 H0 r w QD EX, Fr G w0 H0 r s w H ∧ LkE G E w0 H0 EX ∧ F r QD EX ∧ ∀ o w' H', Le w H w' H' → Ok w' H' → QD o → Q o H'
theorem co_none {E : XK} : PO X none (toD G E fNone) := ⟨fun p s σ H Q I ⟨w0, H0, r, w, QD, EX, fr, lk, f, k⟩ => po_none.run p s σ H Q I (k none w H (.refl w H) fr.ok f)⟩
theorem co_some {E : XK} {e : Expr} {A : FE} (h : PE X e (tD G E A)) : PO X (some e) (toD G E (fSome A)) := ⟨fun p s σ H Q I ⟨w0, H0, r, w, QD, EX, fr, lk, f, k⟩ =>
  (po_some h).run p s σ H Q I ⟨w0, H0, r, w, _, EX, fr, lk, f, fun d v w1 H1 l1 ok1 r1 ⟨i, ed, q⟩ => ⟨i, by rw [ed] at r1; exact r1.int_of, k _ w1 H1 l1 ok1 q⟩⟩⟩
def fSlice (A : FE) (L U : FO) : FE := fun r Q EX => A r (fun x => L r (fun lo => U r (fun hi => match x with
  | .tup ds => Q (.tup (cutD ds lo hi))
  | .lst ds => Q (.lst (cutD ds lo hi))
  | .str z => z.length ≤ sizeLine ∧ Q (.str (cutS z lo hi))
  | _ => False) EX) EX) EX
theorem cut_rep {w : Wd} {ds : List D} {vs : List V} {lo hi : Option Int} (r : Reps G w ds vs) : Reps G w (cutD ds lo hi) (cutV vs lo hi) := by
  unfold cutD cutV
  rw [r.length]
  exact (r.drop _).take _
theorem cut_whole {ds : List D} {lo hi : Option Int} (h : HT.sIx ds.length 0 lo = 0 ∧ HT.sIx ds.length ds.length hi = ds.length) : cutD ds lo hi = ds := by
  unfold cutD
  rw [h.1, h.2]
  simp
theorem ce_slice {a : Expr} {lo hi : Option Expr} {p2 pos : Pos} {E : XK} {A : FE} {L U : FO} (ha : PE X a (bD G E A)) (hl : PO X lo (toD G E L)) (hh : PO X hi (toD G E U)) (hK : X.K = G.K := by rfl) :
    PE X (.Subscript a (.Slice lo hi none p2) pos) (tD G E (fSlice A L U)) := PE.weak (pe_slice (sl_str.or (sl_tupF.or sl_list)) ha hl hh) fun s H Q ⟨w0, H0, r, w, QD, EX, fr, lk, f, k⟩ => by
  refine ⟨w0, H0, r, w, _, EX, fr, lk, f, fun x v w1 H1 l1 ok1 s1 q1 => ?_⟩
  refine ⟨w0, H0, r, w1, _, EX, fr.go l1 ok1, lk, q1, fun lo w2 H2 l2 ok2 q2 => ?_⟩
  refine ⟨w0, H0, r, w2, _, EX, (fr.go l1 ok1).go l2 ok2, lk, q2, fun hi w3 H3 l3 ok3 q3 => ?_⟩
  have s3 := (s1.go l2).go l3
  have l := (l1.trans l2).trans l3
  cases x with
  | str z => exact .inl ⟨z, s3.str_of, q3.1, k _ _ w3 H3 l ok3 Rep.str q3.2⟩
  | tup ds =>
    obtain ⟨p, vs, e, t1, r1⟩ := s3.tup_of ok3
    refine .inr (.inl ⟨p, vs, e, hK ▸ t1, fun hw => ?_, fun _ p' o hp hd => ?_⟩)
    · rw [← r1.length] at hw
      have q4 : QD (.tup (cutD ds lo hi)) := q3
      rw [cut_whole hw] at q4
      have rp := s3.tup_rep
      rw [e] at rp
      exact k _ _ w3 H3 l ok3 rp q4
    · obtain ⟨w4, l4, ok4, rp⟩ := newTup (p := p') ok3 hp hd (cut_rep (lo := lo) (hi := hi) r1)
      exact k _ _ w4 _ (l.trans l4) ok4 rp q3
  | lst ds =>
    obtain ⟨p, vs, e, t1, r1⟩ := s3.lst_of ok3
    refine .inr (.inr ⟨p, vs, e, hK ▸ t1.sql, fun p' hp => ?_⟩)
    obtain ⟨w4, l4, ok4, rp⟩ := newLst (p := p') ok3 hp (cut_rep (lo := lo) (hi := hi) r1)
    exact k _ _ w4 _ (l.trans l4) ok4 rp q3
  | _ => exact q3.elim
end DL
/-! The data layer, part 5: statements, loops, comprehensions. -/
namespace DL
open PySem L2
section
variable {X : Cx} {G : Gm} {E : XK} {e : Expr} {st : Stmt} {rest : List Stmt} {pos : Pos}

theorem Fr.setV {w0 : Wd} {H0 : Hp} {r : Env} {s : L2.St} {w : Wd} {H : Hp} {i : Nat} {d : D} {v : V} (f : Fr G w0 H0 r s w H) (rp : Rep G w d v) : Fr G w0 H0 (r.set i (.val d)) (s.set i (some v)) w H :=
  Fr.set (x := .val d) f rfl ⟨v, rfl, rp⟩
theorem SlotOk.own {H0 : Hp} {w : Wd} {H : Hp} {a : Addr} {vs : List V} {ds : List D} (m : Mine H0 w a) (h : H a = some (.lst vs)) (r : Reps G w ds vs) : SlotOk G H0 w H (.own ds) (some (some (.ref a))) := ⟨a, vs, rfl, m, h, r⟩

/-! ### blocks -/
def sNext : FS := fun A _ r => A.nx r
def sSeq (F F' : FS) : FS := fun A EX r => F { A with nx := fun r' => F' A EX r' } EX r
theorem css_nil : PSs X [] (sD G E sNext) := PSs.weak pss_nil fun B s H ⟨w0, H0, wk, r, w, A, EX, fr, sb, lk, ll, f⟩ => ll.nx r s w H fr sb f
theorem css_cons {F F' : FS} (h1 : PS X st (sD G E F)) (h2 : PSs X rest (sD G E F')) : PSs X (st :: rest) (sD G E (sSeq F F')) := PSs.weak (pss_cons h1 h2) fun B s H ⟨w0, H0, wk, r, w, A, EX, fr, sb, lk, ll, f⟩ =>
  ⟨w0, H0, wk, r, w, { A with nx := fun r' => F' A EX r' }, EX, fr, sb, lk, ⟨fun r' s' w' H' fr' sb' f' => ⟨w0, H0, wk, r', w', A, EX, fr', sb', lk, ll, f'⟩, ll.rt, ll.bk, ll.ct, ll.rn⟩, f⟩
theorem css_one {F : FS} (h1 : PS X st (sD G E F)) : PSs X [st] (sD G E F) := pss_one h1
def sIf (T : FT) (F F' : FS) : FS := fun A EX r => T r (fun b => if b = true then F A EX r else F' A EX r) EX
theorem cs_if {c : Expr} {a b : List Stmt} {T : FT} {F F' : FS} (hc : PT X c (ttD G E T)) (ha : PSs X a (sD G E F)) (hb : PSs X b (sD G E F')) : PS X (.If c a b pos) (sD G E (sIf T F F')) := (ps_if hc ha hb).weak fun B s H ⟨w0, H0, wk, r, w, A, EX, fr, sb, lk, ll, f⟩ =>
  ⟨w0, H0, r, w, _, EX, fr, lk, f, fun b w1 H1 l1 ok1 q1 => by
    cases b with
    | true =>
      rw [if_pos rfl] at q1 ⊢
      exact ⟨w0, H0, wk, r, w1, A, EX, fr.go l1 ok1, sb.trans l1.sub, lk, ll, q1⟩
    | false =>
      rw [if_neg Bool.false_ne_true] at q1 ⊢
      exact ⟨w0, H0, wk, r, w1, A, EX, fr.go l1 ok1, sb.trans l1.sub, lk, ll, q1⟩⟩
def sExpr (F : FE) : FS := fun A EX r => F r (fun _ => A.nx r) EX
theorem cs_expr {F : FE} (he : PE X e (tD G E F)) (hs : swapsWith e none pos.line X.env = pure false := by rfl) : PS X (.Expr e pos) (sD G E (sExpr F)) := (ps_expr he hs).weak fun B s H ⟨w0, H0, wk, r, w, A, EX, fr, sb, lk, ll, f⟩ =>
  ⟨w0, H0, r, w, _, EX, fr, lk, f, fun d v w1 H1 l1 ok1 _ q1 => ll.nx r s w1 H1 (fr.go l1 ok1) (sb.trans l1.sub) q1⟩
/-- what is seen may be kept as a value, frozen -/
theorem See.keep {H0 : Hp} {w : Wd} {H : Hp} {d : D} {v : V} {w0 : Wd} (ok : Ok w H) (l : Le w0 H0 w H) (h : See G H0 w H d v) : ∃ w', Le w0 H0 w' H ∧ Ok w' H ∧ Sub w w' ∧ Rep G w' d v := by
  rcases h with h | ⟨a, vs, ds, rfl, rfl, m, h1, r⟩ | ⟨a, vs, ks, ds, rfl, rfl, m, h1, hl, r⟩
  · exact ⟨w, l, ok, .refl w, h⟩
  · refine ⟨w.frz H a, l.frz m.1 m.2.2, ok.frz m.2.1, .frz m.1, Rep.lst (.of (by rw [frz_at]; exact h1)) (r.mono (.frz m.1))⟩
  · refine ⟨w.frz H a, l.frz m.1 m.2.2, ok.frz m.2.1, .frz m.1, ?_⟩
    unfold Rep
    exact ⟨a, vs, rfl, .inl (by rw [frz_at]; exact h1), hl, r.mono (.frz m.1)⟩
def sRet (F : FE) : FS := fun A EX r => F r A.rt EX
/-- return: an own list, dict may be handed out -/
theorem cs_ret {F : FE} (he : PE X e (bD G E F)) : PS X (.Return (some e) pos) (sD G E (sRet F)) := (ps_ret he).weak fun B s H ⟨w0, H0, wk, r, w, A, EX, fr, sb, lk, ll, f⟩ =>
  ⟨w0, H0, r, w, _, EX, fr, lk, f, fun d v w1 H1 l1 ok1 s1 q1 => by
    obtain ⟨w2, l2, ok2, _, rp⟩ := s1.keep ok1 (fr.le.trans l1)
    exact ll.rt d v w2 H1 l2 ok2 rp q1⟩
def sSet (i : Nat) (F : FE) : FS := fun A EX r => F r (fun d => A.nx (r.set i (.val d))) EX
theorem cs_set {i : Nat} {x : Str} {F : FE} {pos' : Pos} (he : PE X e (tD G E F)) (hN : X.N.Nodup) (hi : X.N[i]? = some x := by rfl) (hx : Loc X.env.scope x := by first | exact Or.inl rfl | exact Or.inr rfl) (hs : swapsWith e (some (.Name x pos')) pos.line X.env = pure false := by rfl)
    (hf : X.fn x = true ∨ X.env.scope.names.lookup x = some .local := by first | exact .inl rfl | exact .inr rfl | assumption) : PS X (.Assign [.Name x pos'] e pos) (sD G E (sSet i F)) := (ps_set hN hi hx he hs hf).weak fun B s H ⟨w0, H0, wk, r, w, A, EX, fr, sb, lk, ll, f⟩ =>
  ⟨w0, H0, r, w, _, EX, fr, lk, f, fun d v w1 H1 l1 ok1 r1 q1 => ll.nx _ _ w1 H1 ((fr.go l1 ok1).setV r1) (sb.trans l1.sub) q1⟩
/-- a new list, the frame's own -/
def sSetOwn (i : Nat) (F : FA) : FS := fun A EX r => F r (fun ds => A.nx (r.set i (.own ds))) EX
theorem cs_setOwn {i : Nat} {x : Str} {F : FA} {pos' : Pos} (he : PE X e (fD G E F)) (hN : X.N.Nodup) (hi : X.N[i]? = some x := by rfl) (hx : Loc X.env.scope x := by first | exact Or.inl rfl | exact Or.inr rfl) (hs : swapsWith e (some (.Name x pos')) pos.line X.env = pure false := by rfl)
    (hf : X.fn x = true ∨ X.env.scope.names.lookup x = some .local := by first | exact .inl rfl | exact .inr rfl | assumption) : PS X (.Assign [.Name x pos'] e pos) (sD G E (sSetOwn i F)) := (ps_set hN hi hx he hs hf).weak fun B s H ⟨w0, H0, wk, r, w, A, EX, fr, sb, lk, ll, f⟩ =>
  ⟨w0, H0, r, w, _, EX, fr, lk, f, fun ds a vs w1 H1 l1 ok1 hn m h1 r1 q1 => ll.nx _ _ w1 H1 ((fr.go l1 ok1).setOwn (fun j y b e1 e2 e3 => fr.ownAt j y b e1 e2 e3) hn (SlotOk.own m h1 r1)) (sb.trans l1.sub) q1⟩
/-! ### targets -/
abbrev TGd := D → Env → (Env → Prop) → Prop
/-- a store that only puts values which stand in w -/
def Cm (G : Gm) (w0 : Wd) (H0 : Hp) (w : Wd) (r : Env) (s : L2.St) (r' : Env) (s' : L2.St) : Prop := ∀ w' H', Sub w w' → Fr G w0 H0 r s w' H' → Fr G w0 H0 r' s' w' H'
structure TgL (G : Gm) (vs : List Nat) (tg : TG) (g : TGd) : Prop where
  go : ∀ w0 H0 r s w H d v K Q, Fr G w0 H0 r s w H → Rep G w d v → g d r K → (∀ r' s', Fr G w0 H0 r' s' w H → Cm G w0 H0 w r s r' s' → wipe s' vs = wipe s vs → K r' → Q s' H) → tg v s H Q
def gVar (i : Nat) : TGd := fun d r K => K (r.set i (.val d))
theorem wipe_set {s : St} {i : Nat} {x : Option V} : ∀ {vs : List Nat}, i ∈ vs → wipe (s.set i x) vs = wipe s vs
  | [], h => by simp at h
  | v :: vs, h => by
    unfold wipe
    by_cases e : v = i
    · subst e
      by_cases h2 : v ∈ vs
      · rw [wipe_set h2]
      · refine List.ext_getElem? fun j => ?_
        by_cases z : v = j
        · subst z
          have hl : (wipe (s.set v x) vs).length = (wipe s vs).length := by rw [wipe_length, wipe_length]; simp
          by_cases hv : v < (wipe s vs).length
          · rw [List.getElem?_set_self hv, List.getElem?_set_self (hl ▸ hv)]
          · rw [List.getElem?_eq_none (by rw [List.length_set, hl]; exact Nat.le_of_not_lt hv), List.getElem?_eq_none (by rw [List.length_set]; exact Nat.le_of_not_lt hv)]
        · rw [List.getElem?_set_ne z, List.getElem?_set_ne z]
          by_cases hj : j ∈ vs
          · have wj : ∀ {t : St} {us : List Nat}, j ∈ us → t.length = s.length → (wipe t us)[j]? = if j < s.length then some none else none := fun {t us} m hl => by
              induction us with
              | nil => simp at m
              | cons u us ih =>
                unfold wipe
                by_cases q : u = j
                · subst q
                  by_cases hu : u < s.length
                  · rw [List.getElem?_set_self (by rw [wipe_length, hl]; exact hu), if_pos hu]
                  · rw [List.getElem?_eq_none (by rw [List.length_set, wipe_length, hl]; exact Nat.le_of_not_lt hu), if_neg hu]
                · rw [List.getElem?_set_ne q]
                  exact ih ((List.mem_cons.mp m).resolve_left fun z => q z.symm)
            rw [wj hj (by simp), wj hj rfl]
          · rw [wipe_out hj, wipe_out hj, List.getElem?_set_ne z]
    · have h2 : i ∈ vs := (List.mem_cons.mp h).resolve_left fun z => e z.symm
      rw [wipe_set h2]
theorem tg_var {i : Nat} {vs : List Nat} (h : i ∈ vs := by decide) : TgL G vs (gName i) (gVar i) where
  go := fun w0 H0 r s w H d v K Q fr rp k q => q _ _ (fr.setV rp) (fun w' H' sb fr' => fr'.setV (rp.mono sb)) (wipe_set h) k
/-- a, b, .. = a tuple -/
abbrev TGds := List D → Env → (Env → Prop) → Prop
structure TgsL (G : Gm) (vs : List Nat) (tg : TGs) (g : TGds) : Prop where
  go : ∀ w0 H0 r s w H ds us K Q, Fr G w0 H0 r s w H → Reps G w ds us → g ds r K → (∀ r' s', Fr G w0 H0 r' s' w H → Cm G w0 H0 w r s r' s' → wipe s' vs = wipe s vs → K r' → Q s' H) → tg us s H Q
/-- a, b = e1, e2, plain local names: both are reckoned, then both stored -/
def sPar (i j : Nat) (F : FA) : FS := fun A EX r => F r (fun ds => ∃ d d', ds = [d, d'] ∧ A.nx ((r.set i (.val d)).set j (.val d'))) EX
theorem cs_par {i j : Nat} {x y : Str} {a b : Expr} {F : FA} {px py pt : Pos} {kt k2 pt2} (ha : PA X [a, b] (taD G E F)) (hN : X.N.Nodup) (hc : X.calm = true := by rfl) (hi : X.N[i]? = some x := by rfl) (hj : X.N[j]? = some y := by rfl) (hij : i ≠ j := by decide)
    (hx : X.env.scope.names.lookup x = some .local := by rfl) (hy : X.env.scope.names.lookup y = some .local := by rfl) 
    (hw : swappedStores [.Tuple [.Name x px, .Name y py] kt pt] (.Tuple [a, b] k2 pt2) X.env = pure (some [x, y]) := by rfl)
    (hs : swapsWithSole [.Tuple [.Name x px, .Name y py] kt pt] (.Tuple [a, b] k2 pt2) pos.line X.env = pure false := by rfl) :
    PS X (.Assign [.Tuple [.Name x px, .Name y py] kt pt] (.Tuple [a, b] k2 pt2) pos) (sD G E (sPar i j F)) := (ps_par hc hN hi hj hij hx hy ha hw hs).weak fun B s H ⟨w0, H0, wk, r, w, A, EX, fr, sb, lk, ll, f⟩ =>
  ⟨w0, H0, r, w, _, EX, fr, lk, f, fun ds vs w1 H1 l1 ok1 r1 ⟨d, d', e, q1⟩ => by
    subst e
    obtain ⟨v, t, e1, r2, r3⟩ := r1.of_cons
    obtain ⟨v', t', e2, r4, r5⟩ := r3.of_cons
    have e3 := r5.of_nil
    subst e1
    subst e2
    subst e3
    exact ⟨v, v', rfl, ll.nx _ _ w1 H1 (((fr.go l1 ok1).setV r2).setV r4) (sb.trans l1.sub) q1⟩⟩

/-! ### what is walked -/
/-- at turn i the i-th of ds comes, whatever else has become frozen -/
structure SrcS (G : Gm) (J : It) (w1 : Wd) (ds : List D) : Prop where
  stop : ∀ w H, Ok w H → Sub w1 w → J.stop ds.length H
  go : ∀ i d w H, Ok w H → Sub w1 w → ds[i]? = some d → J.go i H ∧ ∀ x H', J.yld i H x H' → ∃ w', Le w H w' H' ∧ Ok w' H' ∧ Rep G w' d x
/-- .. while nothing is changed -/
structure SrcE (G : Gm) (J : It) (w1 : Wd) (H1 : Hp) (ds : List D) : Prop where
  stop : ∀ w H, Ok w H → Le w1 H1 w H → J.stop ds.length H
  go : ∀ i d w H, Ok w H → Le w1 H1 w H → ds[i]? = some d → J.go i H ∧ ∀ x H', J.yld i H x H' → ∃ w', Le w H w' H' ∧ Ok w' H' ∧ Rep G w' d x
theorem SrcS.toE {J : It} {w1 : Wd} {H1 : Hp} {ds : List D} (h : SrcS G J w1 ds) : SrcE G J w1 H1 ds := ⟨fun w H ok l => h.stop w H ok l.sub, fun i d w H ok l e => h.go i d w H ok l.sub e⟩
abbrev FI := Env → (List D → Prop) → XP → Prop
def iS (G : Gm) (E : XK) (S : FI) : TI := fun s H R => ∃ w0 H0 r w QD EX, Fr G w0 H0 r s w H ∧ LkE G E w0 H0 EX ∧ S r QD EX ∧ ∀ ds J w' H', Le w H w' H' → Ok w' H' → SrcS G J w' ds → QD ds → R J H'
def iE (G : Gm) (E : XK) (S : FI) : TI := fun s H R => ∃ w0 H0 r w QD EX, Fr G w0 H0 r s w H ∧ LkE G E w0 H0 EX ∧ S r QD EX ∧ ∀ ds J w' H', Le w H w' H' → Ok w' H' → SrcE G J w' H' ds → QD ds → R J H'
theorem _root_.L2.PI.weak {tg iter : Expr} {t t' : TI} (h : PI X tg iter t) (k : ∀ s H R, t' s H R → t s H R) : PI X tg iter t' := ⟨fun p s σ H R I q => h.run p s σ H R I (k σ H R q)⟩
theorem iE_of {tg iter : Expr} {S : FI} (h : PI X tg iter (iS G E S)) : PI X tg iter (iE G E S) := h.weak fun s H R ⟨w0, H0, r, w, QD, EX, fr, lk, f, k⟩ =>
  ⟨w0, H0, r, w, QD, EX, fr, lk, f, fun ds J w' H' l ok sr q => k ds J w' H' l ok sr.toE q⟩
def signs (z : Str) : List D := z.cps.toList.map fun c => .str ⟨#[c]⟩
def rangeD (lo hi : Int) : List D := (List.range (hi - lo).toNat).map fun i => .int (lo + ((i : Nat) : Int))
def fRng1 (A : FA) : FI := fun r Q EX => A r (fun ds => ∃ n, ds = [.int n] ∧ (-(2 ^ 62) ≤ n ∧ n < 2 ^ 62) ∧ Q (rangeD 0 n)) EX
theorem src_list {K : PySem.W.Frag} {a : Addr} {vs : List V} {ds : List D} {w1 : Wd} (h : LsT K w1.hd a vs) (r : Reps G w1 ds vs) : SrcS G (Itl K a) w1 ds where
  stop := fun w H ok sb => ⟨vs, (lsT_sub (fun b o e => ok.sub b o (sb.hd b o e)) h).sql, by rw [r.length]; exact Nat.le_refl _⟩
  go := fun i d w H ok sb e => by
    obtain ⟨v, e1, r1⟩ := r.getD e
    have sq : SqL K H a vs := (lsT_sub (fun b o e => ok.sub b o (sb.hd b o e)) h).sql
    refine ⟨⟨vs, v, sq, e1⟩, fun x H' ⟨eH, y⟩ => ?_⟩
    subst eH
    have q := y vs sq
    rw [e1] at q
    cases q
    exact ⟨w, .refl w _, ok, r1.mono sb⟩
theorem src_listE {K : PySem.W.Frag} {a : Addr} {vs : List V} {ds : List D} {w1 : Wd} {H1 : Hp} (nj : ¬ w1.jr a) (h : H1 a = some (.lst vs)) (r : Reps G w1 ds vs) : SrcE G (Itl K a) w1 H1 ds where
  stop := fun w H ok l => ⟨vs, .inl (.of (l.keep _ _ h nj)), by rw [r.length]; exact Nat.le_refl _⟩
  go := fun i d w H ok l e => by
    obtain ⟨v, e1, r1⟩ := r.getD e
    have sq : SqL K H a vs := .inl (.of (l.keep _ _ h nj))
    refine ⟨⟨vs, v, sq, e1⟩, fun x H' ⟨eH, y⟩ => ?_⟩
    subst eH
    have q := y vs sq
    rw [e1] at q
    cases q
    exact ⟨w, .refl w _, ok, r1.mono l.sub⟩
theorem src_tup {K : PySem.W.Frag} {a : Addr} {vs : List V} {ds : List D} {w1 : Wd} (h : SqT K w1.hd a vs) (r : Reps G w1 ds vs) : SrcS G (Itt K a) w1 ds where
  stop := fun w H ok sb => ⟨vs, sqT_sub (fun b o e => ok.sub b o (sb.hd b o e)) h, by rw [r.length]; exact Nat.le_refl _⟩
  go := fun i d w H ok sb e => by
    obtain ⟨v, e1, r1⟩ := r.getD e
    have sq : SqT K H a vs := sqT_sub (fun b o e => ok.sub b o (sb.hd b o e)) h
    refine ⟨⟨vs, v, sq, e1⟩, fun x H' ⟨eH, y⟩ => ?_⟩
    subst eH
    have q := y vs sq
    rw [e1] at q
    cases q
    exact ⟨w, .refl w _, ok, r1.mono sb⟩
theorem src_str {z : Str} {w1 : Wd} : SrcS G (Its z) w1 (signs z) where
  stop := fun w H ok sb => by show z.cps.size ≤ (signs z).length; unfold signs; simp
  go := fun i d w H ok sb e => by
    unfold signs at e
    rw [List.getElem?_map] at e
    cases q : z.cps.toList[i]? with
    | none => rw [q] at e; cases e
    | some c =>
      rw [q] at e
      cases e
      have hi : i < z.cps.size := by
        have := (List.getElem?_eq_some_iff.mp q).1
        simpa using this
      refine ⟨hi, fun x H' ⟨eH, c', y, ex⟩ => ?_⟩
      subst eH
      subst ex
      rw [← Array.getElem?_toList, q] at y
      cases y
      exact ⟨w, .refl w _, ok, Rep.str⟩
theorem src_rng {lo hi : Int} {w1 : Wd} : SrcS G (Itr lo (hi - lo).toNat) w1 (rangeD lo hi) where
  stop := fun w H ok sb => by show (hi - lo).toNat ≤ (rangeD lo hi).length; unfold rangeD; simp
  go := fun i d w H ok sb e => by
    unfold rangeD at e
    rw [List.getElem?_map] at e
    cases q : (List.range (hi - lo).toNat)[i]? with
    | none => rw [q] at e; cases e
    | some c =>
      rw [q] at e
      cases e
      obtain ⟨h1, h2⟩ := List.getElem?_eq_some_iff.mp q
      rw [List.getElem_range] at h2
      subst h2
      refine ⟨by show i < (hi - lo).toNat; simpa using h1, fun x H' ⟨eH, ex⟩ => ?_⟩
      subst eH
      subst ex
      exact ⟨w, .refl w _, ok, Rep.int⟩
end
end DL
/-! The data layer, part 6: for, while, comprehensions. -/
namespace DL
open PySem L2
section
variable {X : Cx} {G : Gm} {E : XK} {e : Expr} {st : Stmt} {rest : List Stmt} {pos : Pos} {tg l : Expr} {A : FE}
theorem cis_rng1 {a : Expr} {F : FA} {p pos : Pos} (hm : X.mg "range" = none) (ha : PA X [a] (taD G E F)) (hg : Gl X "range" := by rfl) (hs : starEach [a] X.env = [(false, eval a X.env)] := by rfl) : PI X tg (.Call (.Name "range" p) [a] [] pos) (iS G E (fRng1 F)) := (pi_range1 hg hm ha hs).weak fun s H R ⟨w0, H0, r, w, QD, EX, fr, lk, f, k⟩ =>
  ⟨w0, H0, r, w, _, EX, fr, lk, f, fun ds vs w1 H1 l1 ok1 r1 ⟨n, ed, ⟨b1, b2⟩, q⟩ => by
    subst ed
    have ev := Reps.ints (ns := [n]) r1
    subst ev
    refine ⟨n, rfl, b1, b2, k (rangeD 0 n) (Itr 0 n.toNat) w1 H1 l1 ok1 ?_ q⟩
    have := src_rng (G := G) (lo := 0) (hi := n) (w1 := w1)
    rwa [show (n - 0).toNat = n.toNat by omega] at this⟩
/-! ### for -/
def forD (g : TGd) (B : FS) : List D → DE → XP → Env → Prop
  | [], A, _, r => A.nx r
  | d :: ds, A, EX, r => g d r fun r1 => B { A with nx := fun r2 => forD g B ds A EX r2, ct := fun r2 => forD g B ds A EX r2, bk := A.nx } EX r1
def sFor (S : FI) (g : TGd) (B : FS) : FS := fun A EX r => S r (fun ds => forD g B ds A EX r) EX
theorem drop_get {α : Type} {ds : List α} {i : Nat} {d : α} (h : ds[i]? = some d) : ds.drop i = d :: ds.drop (i + 1) := by
  obtain ⟨h1, h2⟩ := List.getElem?_eq_some_iff.mp h
  rw [List.drop_eq_getElem_cons h1, h2]
theorem cs_for {iter : Expr} {body : List Stmt} {S : FI} {t : TG} {g : TGd} {vs : List Nat} {B : FS} (hp : PassesOwn (model X.prog X.w) X.A X.env X.xe) (hi : PI X tg iter (iS G E S)) (hg : PG X tg t) (hl : TgL G vs t g) (hb : PSs X body (sD G E B)) (hc : X.calm = true := by rfl)
    (hs : ∀ x, foldedSetIterable iter X.env x = pure x := by intro _; rfl) : PS X (.For tg iter body [] pos) (sD G E (sFor S g B)) := PS.weak (ps_for hp hc hi hg hb hs) fun C s H ⟨w0, H0, wk, r, w, A, EX, fr, sb, lk, ll, f⟩ =>
  ⟨w0, H0, r, w, _, EX, fr, lk, f, fun ds J w1 H1 l1 ok1 src q => by
    let Pv : Nat → L2.St → Hp → Prop := fun i s H => ∃ r w, Fr G w0 H0 r s w H ∧ Sub w1 w ∧ forD g B (ds.drop i) A EX r
    refine ⟨fun i m s H => m = ds.length - i ∧ i ≤ ds.length ∧ Pv i s H, ⟨ds.length, by simp, Nat.zero_le _, r, w1, fr.go l1 ok1, .refl w1, q⟩, ?_⟩
    rintro i m s2 H2 ⟨rfl, hi, r2, w2, fr2, sb2, q2⟩
    have sbk : ∀ {w3 : Wd}, Sub w1 w3 → Sub wk w3 := fun z => (sb.trans l1.sub).trans z
    by_cases hlt : i < ds.length
    · have e : ds[i]? = some ds[i] := by simp [hlt]
      obtain ⟨g1, g2⟩ := src.go i _ w2 H2 fr2.ok sb2 e
      refine .inr ⟨g1, Pv (i + 1), fun s' H' p' => ⟨ds.length - (i + 1), by omega, rfl, hlt, p'⟩, fun x H' y => ?_⟩
      obtain ⟨w3, l3, ok3, r3⟩ := g2 x H' y
      rw [drop_get e] at q2
      refine hl.go w0 H0 r2 s2 w3 H' _ x _ _ (fr2.go l3 ok3) r3 q2 fun r' s' fr' _ _ k' => ?_
      have sb3 : Sub w1 w3 := sb2.trans l3.sub
      exact ⟨w0, H0, w1, r', w3, { A with nx := fun r2 => forD g B (ds.drop (i + 1)) A EX r2, ct := fun r2 => forD g B (ds.drop (i + 1)) A EX r2, bk := A.nx }, EX, fr', sb3, lk, ⟨fun r4 s4 w4 H4 f4 sb4 k4 => ⟨r4, w4, f4, sb4, k4⟩, ll.rt, fun r4 s4 w4 H4 f4 sb4 k4 => ll.nx r4 s4 w4 H4 f4 (sbk sb4) k4, fun r4 s4 w4 H4 f4 sb4 k4 => ⟨r4, w4, f4, sb4, k4⟩, ll.rn⟩, k'⟩
    · have e : i = ds.length := by omega
      subst e
      rw [List.drop_length] at q2
      exact .inl ⟨src.stop w2 H2 fr2.ok sb2, ll.nx r2 s2 w2 H2 fr2 (sbk sb2) q2⟩⟩

/-! ### comprehensions -/
theorem wipe_get {s : L2.St} {j : Nat} : ∀ vs : List Nat, (L2.wipe s vs)[j]? = if j ∈ vs then (if j < s.length then some none else none) else s[j]?
  | [] => by simp [L2.wipe]
  | v :: vs => by
    have ih := wipe_get (s := s) (j := j) vs
    unfold L2.wipe
    by_cases q : v = j
    · subst q
      rw [if_pos List.mem_cons_self]
      by_cases hv : v < s.length
      · rw [List.getElem?_set_self (by rw [wipe_length]; exact hv), if_pos hv]
      · rw [List.getElem?_eq_none (by rw [List.length_set, wipe_length]; exact Nat.le_of_not_lt hv), if_neg hv]
    · rw [List.getElem?_set_ne q, ih]
      by_cases m : j ∈ vs
      · rw [if_pos m, if_pos (List.mem_cons_of_mem _ m)]
      · rw [if_neg m, if_neg (fun z => m ((List.mem_cons.mp z).resolve_left fun y => q y.symm))]
theorem wipe_idem {s : L2.St} {vs : List Nat} : L2.wipe (L2.wipe s vs) vs = L2.wipe s vs := by
  refine List.ext_getElem? fun j => ?_
  rw [wipe_get, wipe_get, wipe_length]
  by_cases m : j ∈ vs
  · rw [if_pos m, if_pos m]
  · rw [if_neg m, if_neg m]
def wipeD (r : Env) : List Nat → Env
  | [] => r
  | v :: vs => (wipeD r vs).set v .un
theorem Fr.wipe {w0 : Wd} {H0 : Hp} {r : Env} {s : L2.St} {w : Wd} {H : Hp} (fr : Fr G w0 H0 r s w H) : ∀ vs : List Nat, Fr G w0 H0 (wipeD r vs) (wipe s vs) w H
  | [] => fr
  | v :: vs => by
    have ih := Fr.wipe fr vs
    unfold wipeD L2.wipe
    refine ⟨ih.ok, ih.le, by simpa using ih.len, fun j y e => ?_, fun j k y u a e1 e2 o1 o2 q1 q2 => ?_⟩
    · by_cases z : v = j
      · subst z
        have hv : v < (wipeD r vs).length := by
          have q := (List.getElem?_eq_some_iff.mp e).1
          simpa using q
        rw [List.getElem?_set_self hv] at e
        cases e
        trivial
      · rw [List.getElem?_set_ne z] at e
        rw [List.getElem?_set_ne z]
        exact ih.slot j y e
    · have nn : ∀ {n : Nat} {u : Sl}, ((wipeD r vs).set v .un)[n]? = some u → u.isOwn = true → v ≠ n := fun {n u} en on z => by
        subst z
        have hv : v < (wipeD r vs).length := by
          have q := (List.getElem?_eq_some_iff.mp en).1
          simpa using q
        rw [List.getElem?_set_self hv] at en
        cases en
        cases on
      have n1 := nn e1 o1
      have n2 := nn e2 o2
      rw [List.getElem?_set_ne n1] at e1 q1
      rw [List.getElem?_set_ne n2] at e2 q2
      exact ih.dist j k y u a e1 e2 o1 o2 q1 q2
abbrev NoX : XP := fun _ => False
def fYes : FT := fun _ Q _ => Q true
theorem cts_nil {X : Cx} : PTs X [] (ttD G E fYes) := ⟨fun p s σ H Q I ⟨w0, H0, r, w, QD, EX, fr, lk, f, k⟩ => pts_nil.run p s σ H Q I (k true w H (.refl w H) fr.ok f)⟩
def lcD (g : TGd) (T : FT) (F : FE) (r : Env) : List D → List D → (List D → Prop) → Prop
  | [], acc, Q => Q acc
  | d :: ds, acc, Q => g d r fun r1 => T r1 (fun b => if b = true then F r1 (fun y => acc.length < sizeLine ∧ lcD g T F r ds (acc ++ [y]) Q) NoX else lcD g T F r ds acc Q) NoX
def fLc (S : FI) (vs : List Nat) (g : TGd) (T : FT) (F : FE) : FA := fun r Q EX => S r (fun ds => lcD g T F (wipeD r vs) ds [] Q) EX
/-- behind a part of a comprehension: the list so far stands -/
theorem acc_keep {w w' : Wd} {H H' : Hp} {p : Addr} {o : HO} (l : Le w H w' H') (h : H p = some o) (hn : w.hd p = none) (nj : ¬ w.jr p) : H' p = some o ∧ w'.hd p = none ∧ ¬ w'.jr p := by
  have ne : H p ≠ none := by rw [h]; exact fun z => by cases z
  refine ⟨l.keep _ _ h nj, ?_, fun j => nj (l.old p ne j)⟩
  cases e : w'.hd p with
  | none => rfl
  | some u => exact absurd hn (l.oldh p ne (by rw [e]; exact fun z => by cases z))
structure SrcX (G : Gm) (J : It) (P : Wd → Hp → Prop) (ds : List D) : Prop where
  stop : ∀ w H, Ok w H → P w H → J.stop ds.length H
  go : ∀ i d w H, Ok w H → P w H → ds[i]? = some d → J.go i H ∧ ∀ x H', J.yld i H x H' → ∃ w', Le w H w' H' ∧ Ok w' H' ∧ Rep G w' d x
/-- the list so far stands at Dd -/
structure Acc (G : Gm) (w1 : Wd) (H1 : Hp) (w2 : Wd) (Dd : Addr) (w : Wd) (H : Hp) (acc : List D) (us : List V) : Prop where
  le : Le w1 H1 w H
  sub : Sub w2 w
  ok : Ok w H
  at_ : H Dd = some (.lst us)
  hn : w.hd Dd = none
  nj : ¬ w.jr Dd
  rep : Reps G w acc us
theorem Acc.go {w1 w2 w w' : Wd} {H1 H H' : Hp} {Dd : Addr} {acc : List D} {us : List V} (a : Acc G w1 H1 w2 Dd w H acc us) (l : Le w H w' H') (ok : Ok w' H') : Acc G w1 H1 w2 Dd w' H' acc us := by
  obtain ⟨h1, h2, h3⟩ := acc_keep l a.at_ a.hn a.nj
  exact ⟨a.le.trans l, a.sub.trans l.sub, ok, h1, h2, h3, a.rep.mono l.sub⟩
theorem Acc.add {w1 w2 w : Wd} {H1 H : Hp} {Dd : Addr} {acc : List D} {us : List V} {d : D} {v : V} (a : Acc G w1 H1 w2 Dd w H acc us) (hD : H1 Dd = none) (r : Rep G w d v) : Acc G w1 H1 w2 Dd w (upd H Dd (.lst (us ++ [v]))) (acc ++ [d]) (us ++ [v]) :=
  ⟨a.le.put hD, a.sub, a.ok.put a.hn a.nj, upd_same, a.hn, a.nj, a.rep.append (Reps.cons r Reps.nil)⟩
theorem lcX {w0 : Wd} {H0 : Hp} {r : Env} {s : L2.St} {w1 w2 : Wd} {H1 H2 : Hp} {ds : List D} {J : It} {Dd : Addr} {vs : List Nat} {t : TG} {g : TGd} {T : FT} {F : FE} {Q : List D → Prop} {Qd : Hp → Prop} {acc0 : List D} {us0 : List V}
    (htb : w0.tb = G.tb)
    (frw : ∀ w H, Ok w H → Le w1 H1 w H → Sub w2 w → Fr G w0 H0 (wipeD r vs) (L2.wipe s vs) w H) (src : SrcX G J (fun w H => Le w1 H1 w H ∧ Sub w2 w) ds) (hl : TgL G vs t g) (hD : H1 Dd = none) (a0 : Acc G w1 H1 w2 Dd w2 H2 acc0 us0) (q : lcD g T F (wipeD r vs) ds acc0 Q)
    (k : ∀ acc us w H, Acc G w1 H1 w2 Dd w H acc us → Q acc → Qd H) :
    ∃ W : Nat → Nat → Hp → Prop, (∃ m, W 0 m H2) ∧ ∀ i m H, W i m H →
      (J.stop i H ∧ Qd H) ∨ (J.go i H ∧ ∃ Nx : Hp → Prop, (∀ H', Nx H' → ∃ m', m' < m ∧ W (i + 1) m' H') ∧ ∀ x H', J.yld i H x H' → t x (L2.wipe s vs) H' fun s2 H2 => L2.wipe s2 vs = L2.wipe s vs ∧ ttD G E0 T s2 H2 fun b H3 =>
        if b = true then tD G E0 F s2 H3 fun y H4 => ∃ acc, H4 Dd = some (.lst acc) ∧ acc.length < sizeLine ∧ Nx (upd H4 Dd (.lst (acc ++ [y]))) else Nx H3) := by
  let Pv : Nat → Hp → Prop := fun i H => ∃ w acc us, Acc G w1 H1 w2 Dd w H acc us ∧ lcD g T F (wipeD r vs) (ds.drop i) acc Q
  refine ⟨fun i m H => m = ds.length - i ∧ i ≤ ds.length ∧ Pv i H, ⟨ds.length, by simp, Nat.zero_le _, w2, acc0, us0, a0, q⟩, ?_⟩
  rintro i m H ⟨rfl, hi, w, acc, us, a, q2⟩
  by_cases hlt : i < ds.length
  · have e : ds[i]? = some ds[i] := by simp [hlt]
    obtain ⟨g1, g2⟩ := src.go i _ w H a.ok ⟨a.le, a.sub⟩ e
    refine .inr ⟨g1, Pv (i + 1), fun H' p' => ⟨ds.length - (i + 1), by omega, rfl, hlt, p'⟩, fun x H' y => ?_⟩
    obtain ⟨w3, l3, ok3, r3⟩ := g2 x H' y
    have a3 := a.go l3 ok3
    rw [drop_get e] at q2
    refine hl.go w0 H0 _ _ w3 H' _ x _ _ (frw w3 H' ok3 a3.le a3.sub) r3 q2 fun r' s' fr' _ ew k' => ⟨?_, ?_⟩
    · rw [ew, wipe_idem]
    · refine ⟨w0, H0, r', w3, _, NoX, fr', (LkE.none htb), k', fun b w4 H4 l4 ok4 q4 => ?_⟩
      have a4 := a3.go l4 ok4
      cases b with
      | true =>
        rw [if_pos rfl] at q4
        refine iteT ?_
        refine ⟨w0, H0, r', w4, _, NoX, fr'.go l4 ok4, (LkE.none htb), q4, fun d v w5 H5 l5 ok5 r5 ⟨hz, q5⟩ => ?_⟩
        have a5 := a4.go l5 ok5
        exact ⟨us, a5.at_, by rw [← a5.rep.length]; exact hz, w5, acc ++ [d], us ++ [v], a5.add hD r5, q5⟩
      | false =>
        rw [if_neg Bool.false_ne_true] at q4
        refine iteF ?_
        exact ⟨w4, acc, us, a4, q4⟩
  · have e : i = ds.length := by omega
    subst e
    rw [List.drop_length] at q2
    exact .inl ⟨src.stop w H a.ok ⟨a.le, a.sub⟩, k acc us w H a q2⟩
theorem Acc.start {w1 : Wd} {H1 : Hp} {Dd : Addr} (ok : Ok w1 H1) (hD : H1 Dd = none) : Acc G w1 H1 w1 Dd w1 (upd H1 Dd (.lst [])) [] [] :=
  ⟨Le.new hD, .refl w1, ok.new hD, upd_same, ok.none_hd hD, ok.none_jr hD, Reps.nil⟩
theorem lc_link {S : FI} {t : TG} {g : TGd} {T : FT} {F : FE} {vs : List Nat} (hl : TgL G vs t g) (s : L2.St) (H : Hp) (Q : VK) (h : fD G E (fLc S vs g T F) s H Q) : tLc (iE G E S) t (ttD G E0 T) (tD G E0 F) vs s H Q := by
  obtain ⟨w0, H0, r, w, QD, EX, fr, lk, f, k⟩ := h
  refine ⟨w0, H0, r, w, _, EX, fr, lk, f, fun ds J w1 H1 l1 ok1 src q Dd hD => ?_⟩
  refine lcX lk.2 (fun w H ok l _ => ((fr.go l1 ok1).go l ok).wipe vs) ⟨fun w H ok p => src.stop w H ok p.1, fun i d w H ok p => src.go i d w H ok p.1⟩ hl hD (Acc.start ok1 hD) q fun acc us w2 H2 a qa => ?_
  refine k acc Dd us w2 H2 (l1.trans a.le) a.ok (l1.none_of hD) ⟨a.hn, a.nj, ?_⟩ a.at_ a.rep qa
  cases z : H0 Dd with
  | none => rfl
  | some o => exact absurd hD ((fr.le.trans l1).dom Dd (by rw [z]; exact fun y => by cases y))
theorem cf_lc {elt iter : Expr} {ifs : List Expr} {scope : Scope} {own : List (Str × Nat)} {S : FI} {t : TG} {g : TGd} {T : FT} {F : FE} (hN : X.N.Nodup) (hi : PI X tg iter (iE G E S)) (ok : BlkOk X.N X.env.scope scope own)
    (hg : ∀ (s : Shared) (H : Hp) (C : Addr) (cl : List (Str × Addr)) (fp : List Addr), PG (X.blk s H scope (compEnvC scope cl C X.env) fp) tg t) (hl : TgL G (own.map (·.2)) t g)
    (ht : ∀ (s : Shared) (H : Hp) (C : Addr) (cl : List (Str × Addr)) (fp : List Addr), PTs (X.blk s H scope (compEnvC scope cl C X.env) fp) ifs (ttD G E0 T))
    (he : ∀ (s : Shared) (H : Hp) (C : Addr) (cl : List (Str × Addr)) (fp : List Addr), PE (X.blk s H scope (compEnvC scope cl C X.env) fp) elt (tD G E0 F)) (hc : X.calm = true := by rfl) (hs : ∀ x, foldedSetIterable iter X.env x = pure x := by intro _; rfl) :
    PE X (.ListComp elt [⟨tg, iter, ifs, 0⟩] scope pos) (fD G E (fLc S (own.map (·.2)) g T F)) := PE.weak (pe_lc hc hN hi ok hg ht he hs) (lc_link hl)

/-! ### y = [..], y a plain local -/
theorem cs_ofF {i : Nat} {F : FA} {te : TE} (h : PS X st (tAsg te (gName i))) (k0 : ∀ s H Q, fD G E F s H Q → te s H Q) : PS X st (sD G E (sSet i (fL F))) := h.weak fun B s H ⟨w0, H0, wk, r, w, A, EX, fr, sb, lk, ll, f⟩ =>
  k0 s H _ ⟨w0, H0, r, w, _, EX, fr, lk, f, fun ds a vs w1 H1 l1 ok1 hn m h1 r1 q1 => ll.nx _ _ (w1.frz H1 a) H1 (((fr.go (l1.frz m.1 hn) (ok1.frz m.2.1))).setV (d := .lst ds) (Rep.lst (.of (by rw [frz_at]; exact h1)) (r1.mono (.frz m.1)))) (sb.trans (l1.sub.trans (.frz m.1))) q1⟩
/-! ### two fors -/
def lc2D (g : TGd) (T : FT) (S1 : FI) (vs1 : List Nat) (g1 : TGd) (T1 : FT) (F : FE) (r : Env) : List D → List D → (List D → Prop) → Prop
  | [], acc, Q => Q acc
  | d :: ds, acc, Q => g d r fun r1 => T r1 (fun b => if b = true then S1 r1 (fun es => lcD g1 T1 F (wipeD r1 vs1) es acc fun acc' => lc2D g T S1 vs1 g1 T1 F r ds acc' Q) NoX else lc2D g T S1 vs1 g1 T1 F r ds acc Q) NoX
def fLc2 (S : FI) (vs : List Nat) (g : TGd) (T : FT) (S1 : FI) (vs1 : List Nat) (g1 : TGd) (T1 : FT) (F : FE) : FA := fun r Q EX => S r (fun ds => lc2D g T S1 vs1 g1 T1 F (wipeD r vs) ds [] Q) EX
theorem lc2_link {S S1 : FI} {t t1 : TG} {g g1 : TGd} {T T1 : FT} {F : FE} {vs vs1 : List Nat} (hl : TgL G vs t g) (hl1 : TgL G vs1 t1 g1) (s : L2.St) (H : Hp) (Q : VK) (h : fD G E (fLc2 S vs g T S1 vs1 g1 T1 F) s H Q) :
    tLc2 (iE G E S) t (ttD G E0 T) (iS G E0 S1) t1 (ttD G E0 T1) (tD G E0 F) vs vs1 s H Q := by
  obtain ⟨w0, H0, r, w, QD, EX, fr, lk, f, k⟩ := h
  refine ⟨w0, H0, r, w, _, EX, fr, lk, f, fun ds J w1 H1 l1 ok1 src q Dd hD => ?_⟩
  have frw : ∀ w H, Ok w H → Le w1 H1 w H → Fr G w0 H0 (wipeD r vs) (L2.wipe s vs) w H := fun w H ok l => ((fr.go l1 ok1).go l ok).wipe vs
  let Pv : Nat → Hp → Prop := fun i H => ∃ w acc us, Acc G w1 H1 w1 Dd w H acc us ∧ lc2D g T S1 vs1 g1 T1 F (wipeD r vs) (ds.drop i) acc QD
  refine ⟨fun i m H => m = ds.length - i ∧ i ≤ ds.length ∧ Pv i H, ⟨ds.length, by simp, Nat.zero_le _, w1, [], [], Acc.start ok1 hD, q⟩, ?_⟩
  rintro i m H ⟨rfl, hi, w, acc, us, a, q2⟩
  by_cases hlt : i < ds.length
  · have e : ds[i]? = some ds[i] := by simp [hlt]
    obtain ⟨x1, x2⟩ := src.go i _ w H a.ok a.le e
    refine .inr ⟨x1, Pv (i + 1), fun H' p' => ⟨ds.length - (i + 1), by omega, rfl, hlt, p'⟩, fun x H' y => ?_⟩
    obtain ⟨w3, l3, ok3, r3⟩ := x2 x H' y
    have a3 := a.go l3 ok3
    rw [drop_get e] at q2
    refine hl.go w0 H0 _ _ w3 H' _ x _ _ (frw w3 H' ok3 a3.le) r3 q2 fun r' s' fr' cm ew k' => ⟨?_, ?_⟩
    · rw [ew, wipe_idem]
    · refine ⟨w0, H0, r', w3, _, NoX, fr', (LkE.none lk.2), k', fun b w4 H4 l4 ok4 q4 => ?_⟩
      have a4 := a3.go l4 ok4
      cases b with
      | true =>
        rw [if_pos rfl] at q4
        refine iteT ?_
        refine ⟨w0, H0, r', w4, _, NoX, fr'.go l4 ok4, (LkE.none lk.2), q4, fun es J1 w5 H5 l5 ok5 src5 q5 => ?_⟩
        have a5 := a4.go l5 ok5
        have fr5 := (fr'.go l4 ok4).go l5 ok5
        have a5' : Acc G w1 H1 w5 Dd w5 H5 acc us := ⟨a5.le, .refl _, a5.ok, a5.at_, a5.hn, a5.nj, a5.rep⟩
        have sb35 : Sub w3 w5 := l4.sub.trans l5.sub
        exact lcX lk.2 (fun w H ok l sb => (cm w H (sb35.trans sb) (frw w H ok l)).wipe vs1) ⟨fun w H ok p => src5.stop w H ok p.2, fun i d w H ok p => src5.go i d w H ok p.2⟩ hl1 hD a5' q5
          fun acc2 us2 w6 H6 a6 q6 => ⟨w6, acc2, us2, ⟨a6.le, a6.le.sub, a6.ok, a6.at_, a6.hn, a6.nj, a6.rep⟩, q6⟩
      | false =>
        rw [if_neg Bool.false_ne_true] at q4
        refine iteF ?_
        exact ⟨w4, acc, us, a4, q4⟩
  · have e : i = ds.length := by omega
    subst e
    rw [List.drop_length] at q2
    exact .inl ⟨src.stop w H a.ok a.le, by
      refine k acc Dd us w H (l1.trans a.le) a.ok (l1.none_of hD) ⟨a.hn, a.nj, ?_⟩ a.at_ a.rep q2
      cases z : H0 Dd with
      | none => rfl
      | some o => exact absurd hD ((fr.le.trans l1).dom Dd (by rw [z]; exact fun y => by cases y))⟩
end
end DL
/-! The data layer, part 7: defs and their promises over data; calls; objects; the law's call. -/
namespace DL
open PySem L2 PyProof.Rows

/-! ### a def's promise, where no text of an object is under way -/
structure FnG (P : Program) (w : World) (K : PySem.W.Frag) (mg : Str → Option Value) (base : Heap) (k : Nat) (f : Addr) (fd : FuncData) (ps : List Str) (sp : Sp) : Prop where
  len : ∀ vs H Q E, sp vs H Q E → vs.length = ps.length
  run : ∀ (A : Around) (outer : List PySem.Env) (s : Shared) (H : Hp) (args : Args) (us : List Value) (vs : List V) (Q : VK) (E : XK), A.guards = some [] → Room k A → Env0 P w K mg base A outer s H → BindsTo s fd args (ps.zip us) → Vals vs us → sp vs H Q E →
    codeAny (model P w) A (.call (.ref f) args) (CR (L2.CX P w) outer P w H s Q E) s
theorem FnG.mono {P : Program} {w : World} {K : PySem.W.Frag} {mg : Str → Option Value} {base : Heap} {j k : Nat} {f : Addr} {fd : FuncData} {ps : List Str} {sp : Sp} (F : FnG P w K mg base j f fd ps sp) (h : j ≤ k) : FnG P w K mg base k f fd ps sp :=
  ⟨F.len, fun A outer s H args us vs Q E hg hr => F.run A outer s H args us vs Q E hg (hr.mono h)⟩
theorem FnG.imp {P : Program} {w : World} {K : PySem.W.Frag} {mg : Str → Option Value} {base : Heap} {k : Nat} {f : Addr} {fd : FuncData} {ps : List Str} {sp sp' : Sp} (F : FnG P w K mg base k f fd ps sp)
    (h : ∀ vs H Q E, sp' vs H Q E → sp vs H Q E) : FnG P w K mg base k f fd ps sp' :=
  ⟨fun vs H Q E q => F.len vs H Q E (h _ _ _ _ q), fun A outer s H args us vs Q E hg hr he hb hv hs => F.run A outer s H args us vs Q E hg hr he hb hv (h _ _ _ _ hs)⟩

section
variable {P : Program} {w : World} {K : PySem.W.Frag} {mg : Str → Option Value} {base : Heap} {k : Nat} {f : Addr} {N ps : List Str} {sp : Sp}
/-- a def of the text keeps its promise, by its body -/
theorem Fun.okG {x qual : Str} {st : Stmt} {fd : FuncData} (F : Fun K x qual st f fd) (S : FnScope N ps (defScope st)) (len : ∀ vs H Q E, sp vs H Q E → vs.length = ps.length)
    (body : ∀ (cdv : Value) (A : Around) (outer : List PySem.Env) (s : Shared) (H : Hp) (vs : List V) (Q : VK) (E : XK), A.guards = some [] → Room k (A.deeper (envOfC qual (defScope st) s.heap.objs.size f cdv)) → sp vs H Q E →
      ∃ t, PSs (cxOf (L2.CX P w) P w K mg base N qual (defScope st) f cdv A outer s H E) (defBody st) t ∧ t { nx := fun _ H' => Q .non H', rt := Q } (L2.start N vs) H) : FnG P w K mg base (k + 1) f fd ps sp := by
  obtain ⟨oc, od, kV, doc, pm, an, cdv, ct, osl, rfl, lk, hcd⟩ := F.ex
  refine ⟨len, fun A outer s H args us vs Q E hg hr e0 hb rv hsp => ?_⟩
  have nl := len _ _ _ _ hsp
  have inK : K.In s.heap := e0.mod.kin.keeps fun b o e => (e0.bs b o e).1
  have lim : s.heap.NoLimit := e0.mod.nolimit.keeps fun b o e => (e0.bs b o e).1
  have kinds : ∀ y ∈ ps.zip us, (defScope st).names.lookup y.1 = some .local ∨ ((defScope st).names.lookup y.1 = some .cell ∧ ((cellsFrom (s.heap.objs.size + 1) (defScope st).names []).lookup y.1).isSome = true) := by
    rintro ⟨n, v⟩ hy
    exact (S.par n (List.of_mem_zip hy).1).imp id fun q => ⟨q, PySem.W.cellsFrom_some _ _ _ (.inl q)⟩
  refine codeAny_call_function hr.depth (inK _ _ lk) rfl S.co S.gen rfl (PySem.W.codeRec_of inK hcd) (hb _ _ _ _ ?_)
  refine wpAny_newFunctionEnv_cells S.kind kinds fun env he s1 x1 => ?_
  subst he
  refine ⟨lim.keeps x1.toInCall.keep, codeAny_func ?_⟩
  obtain ⟨t, ht, hq⟩ := body cdv A outer s H vs Q E hg (hr.deeper _) hsp
  have I := inv_start (CX := L2.CX P w) (E := E) (qual := qual) (f := f) (cd := cdv) S hr.hd e0 nl rv x1
  refine wpAny_mono (ht.run [] s1 (L2.start N vs) H _ I hq) (fun fl s' hs => ?_) (fun e s' hs => hs)
  cases fl with
  | ret u =>
    obtain ⟨v, _, H', J, r, q⟩ := hs
    exact ⟨v, H', J.os, J.bare, J.base, J.hok, r, q⟩
  | next =>
    obtain ⟨_, H', J, q⟩ := hs
    exact ⟨V.non, H', J.os, J.bare, J.base, J.hok, rfl, q⟩
  | brk => exact (hs.elim fun _ z => z.elim fun _ y => (show False from y.2).elim)
  | cont => exact (hs.elim fun _ z => z.elim fun _ y => (show False from y.2).elim)
end

section
variable {X : Cx} {k : Nat} {f C : Addr} {fd : FuncData} {ps : List Str} {sp : Sp} {dvs : List V} {ds : List Value} {E : XK} {x m : Str} {p pos apos : Pos} {e o : Expr} {es : List Expr} {ta : TE} {t : TA}
abbrev PassX (X : Cx) (E : XK) : Prop := Passes (L2.CX X.prog X.w) X E
theorem run_g {pins : List (Addr × Obj)} {σ : L2.St} {H : Hp} {s : Shared} {Q : VK} {us : List Value} {vs : List V} (F : FnG X.prog X.w X.K X.mg X.base k f fd ps sp) (hg : X.A.guards = some []) (hr : Room k X.A) (hb : Binds X.K fd ps ds) (hd : Vals dvs ds) (hx : PassX X E)
    (I : Inv X pins σ H s) (r : Vals vs us) (h : sp (vs ++ dvs) H Q E) : wpAny (model X.prog X.w) X.A (call (.ref f) us) (EP X pins σ Q) X.xe s := by
  have both := r.append hd
  have nl : (us ++ ds).length = ps.length := both.length.symm.trans (F.len _ _ _ _ h)
  refine wpAny_call (codeAny_mono (F.run X.A X.stack s H ⟨us, []⟩ (us ++ ds) (vs ++ dvs) Q E hg hr I.env0 (hb s us I.kIn nl) both h) ?_)
  rintro (er | fl) s' hq
  · exact hx pins σ H s er s' I hq
  · cases fl <;> first
      | exact I.after hq
      | exact hq.elim
theorem pe_g (F : FnG X.prog X.w X.K X.mg X.base k f fd ps sp) (hgd : X.A.guards = some []) (hr : Room k X.A) (hg : Gl X x) (hm : X.mg x = some (.ref f)) (hk : PySem.W.keepIn X.K (.ref f) = true) (hb : Binds X.K fd ps ds) (hd : Vals dvs ds) (hx : PassX X E)
    (ha : PA X (e :: es) t) (hdb : (x == ("__debug__" : Str)) = false) (he : starEach (e :: es) X.env = (false, eval e X.env) :: starEach es X.env) (hpl : (backTo pos (starEach es X.env)).any (·.1) = false) :
    PE X (.Call (.Name x p) (e :: es) [] pos) (tCall sp dvs E t) := ⟨fun pins s σ H Q I h => by
  refine wpAny_Call_Name_kw (ld_glob I hg hm (PySem.W.callWith_K (h₀ := X.base) I.ok.mod.kin hk (thn (ha.run pos pins s σ H _ I h) ?_) he hpl) hdb)
  rintro us s1 ⟨vs, H1, I1, r, q⟩
  exact ⟨I1.kIn, run_g F hgd hr hb hd hx I1 r q⟩⟩
theorem guards_make {A : Around} {C : Addr} {us : List Value} {kw : List (Str × Value)} (h : A.guards = some []) : (A.under (.builtin "type.__call__" ⟨.ref C :: us, kw⟩)).guards = some [] := by
  first
    | exact h
    | (simp [Around.under, pushGuards, Code.guards, Code.isGuard, guardIds, h])
theorem run_gmake {pins : List (Addr × Obj)} {σ : L2.St} {H : Hp} {s : Shared} {Q : VK} {us : List Value} {vs : List V} (M : Mk X.K C f) (F : FnG X.prog X.w X.K X.mg X.base k f fd ps sp) (hgd : X.A.guards = some []) (hr : Room (k + 1) X.A) (hb : Binds X.K fd ps ds) (hd : Vals dvs ds)
    (hx : PassX X E) (I : Inv X pins σ H s) (r : Vals vs us)
    (h : ∀ x dx, H x = none → H dx = none → dx ≠ x → sp (.ref x :: (vs ++ dvs)) (upd (upd H dx (.own x)) x (.ins C dx [])) (fun v H2 => v = .non ∧ Q (.ref x) H2) E) :
    wpAny (model X.prog X.w) X.A (call (.ref C) us) (EP X pins σ Q) X.xe s := by
  have hq := h (s.heap.objs.size + 1) s.heap.objs.size (I.hok.fresh (Nat.le_succ _)) I.fresh (Nat.ne_of_lt (Nat.lt_succ_self _))
  have J := Inv.made (C := C) I
  have both : Vals (V.ref (s.heap.objs.size + 1) :: (vs ++ dvs)) (Value.ref (s.heap.objs.size + 1) :: (us ++ ds)) := .cons rfl (r.append hd)
  have nl : (Value.ref (s.heap.objs.size + 1) :: us ++ ds).length = ps.length := both.length.symm.trans (F.len _ _ _ _ hq)
  refine wpAny_call (make_map (f := f) I.kIn M.makes M.init (beq_iff_eq.mp M.fn) (codeAny_mono (F.run _ X.stack _ _ ⟨Value.ref (s.heap.objs.size + 1) :: us, []⟩ (Value.ref (s.heap.objs.size + 1) :: (us ++ ds)) _ _ E (guards_make hgd) (hr.make C us [])
    (J.env0.make C us []) (hb _ (Value.ref (s.heap.objs.size + 1) :: us) J.kIn nl) both hq) ?_))
  rintro (er | fl) s' hq'
  · exact hx pins σ _ _ er s' J hq'
  · cases fl with
    | ret u =>
      obtain ⟨v, H', I3, rv, ev, q3⟩ := J.after hq'
      subst ev
      exact ⟨rv, V.ref (s.heap.objs.size + 1), H', I3, rfl, q3⟩
    | next => exact hq'.elim
    | brk => exact hq'.elim
    | cont => exact hq'.elim
theorem pe_gmake (M : Mk X.K C f) (F : FnG X.prog X.w X.K X.mg X.base k f fd ps sp) (hgd : X.A.guards = some []) (hr : Room (k + 1) X.A) (hg : Gl X x) (hm : X.mg x = some (.ref C)) (hb : Binds X.K fd ps ds) (hd : Vals dvs ds) (hx : PassX X E)
    (ha : PA X (e :: es) t) (hdb : (x == ("__debug__" : Str)) = false) (he : starEach (e :: es) X.env = (false, eval e X.env) :: starEach es X.env) (hpl : (backTo pos (starEach es X.env)).any (·.1) = false) :
    PE X (.Call (.Name x p) (e :: es) [] pos) (tMake C sp dvs E t) := ⟨fun pins s σ H Q I h => by
  refine wpAny_Call_Name_kw (ld_glob I hg hm (PySem.W.callWith_K (h₀ := X.base) I.ok.mod.kin M.kp (thn (ha.run pos pins s σ H _ I h) ?_) he hpl) hdb)
  rintro us s1 ⟨vs, H1, I1, r, q⟩
  exact ⟨I1.kIn, run_gmake M F hgd hr hb hd hx I1 r q⟩⟩
theorem getprop_g {p g a dx : Addr} {fs : List (Str × V)} {pins : List (Addr × Obj)} {σ : L2.St} {H : Hp} {s : Shared} {Q : VK} {b : Bool} {E' : Value → Shared → Prop} {fx : Str} (I : Inv X pins σ H s) (ea : H a = some (.ins C dx fs)) (c : Cls X.K C) (hp : PropOf X.K C fx p g)
    (F : FnG X.prog X.w X.K X.mg X.base k g fd ps sp) (hgd : X.A.guards = some []) (hr : Room (k + 1) X.A) (hb : Binds X.K fd ps []) (hx : Passes (L2.CX X.prog X.w) X.nox E) (h : sp [.ref a] H Q E) :
    wpAny (model X.prog X.w) X.A (getAttr (.ref a) fx b) (EP X pins σ Q) E' s := by
  obtain ⟨mA, O, _⟩ := ins_get I.hok ea
  obtain ⟨od, J, _⟩ := O.look
  obtain ⟨rest, hrec⟩ := hp.rec_
  have I1 := I.tok (s.toks + 1)
  have nl : ([Value.ref a] ++ []).length = ps.length := F.len _ _ _ _ h
  have hc : (PySem.W.clsIn X.K C).isSome = true := by
    obtain ⟨cd, q, _⟩ := PySem.W.any_some c.hd
    rw [q]; rfl
  refine PySem.W.get_bind I.kIn J (PySem.W.plainGet_of (c.get fx)).1 (PySem.W.findObj_data hc hp.at_ hp.get hp.tak) (PySem.W.plainGet_of (c.get fx)).2 (wpAny_call (PySem.W.prop_get (s := { s with toks := s.toks + 1 }) I.kIn hrec ?_))
  refine codeAny_mono (F.run X.A.in1 X.stack { s with toks := s.toks + 1 } H ⟨[.ref a], []⟩ [.ref a] [.ref a] Q E hgd hr.in1 I1.env0.in1 (hb _ [.ref a] I1.kIn nl) (.cons rfl .nil) h) ?_
  rintro (er | fl) s' hq
  · exact (hx pins σ H { s with toks := s.toks + 1 } er s' (I1.wish _) hq).elim
  · cases fl with
    | ret u =>
      obtain ⟨v, H', I3, rv, q3⟩ := I1.after hq
      show wpAny _ _ (handedOut u) _ _ _
      rw [PySem.W.handedOut_of (handed_of rv)]
      exact wpAny_pure ⟨v, H', I3, rv, q3⟩
    | next => exact hq.elim
    | brk => exact hq.elim
    | cont => exact hq.elim
theorem pe_gprop {p g : Addr} {fx : Str} (he : PE X e ta) (c : Cls X.K C) (hp : PropOf X.K C fx p g) (F : FnG X.prog X.w X.K X.mg X.base k g fd ps sp) (hgd : X.A.guards = some []) (hr : Room (k + 1) X.A) (hb : Binds X.K fd ps []) (hx : Passes (L2.CX X.prog X.w) X.nox E)
    (hab : attributeBase e fx X.env (eval e X.env) = eval e X.env) : PE X (.Attribute e fx pos) (tProp C sp [] E ta) := ⟨fun pins s σ H Q I h => by
  refine attr_of hab (thn (he.run pins s σ H _ I h) ?_)
  rintro u s1 ⟨x, H1, I1, rx, a, dx, fs, ex, ea, q⟩
  subst ex
  cases (show u = Value.ref a from rx)
  exact getprop_g I1 ea c hp F hgd hr hb hx q⟩
end

/-! ### promises over data -/
abbrev DSp := List D → (D → Prop) → XP → Prop
variable {G : Gm}
def lift (G : Gm) (sp : DSp) : Sp := fun vs H Q E => ∃ w ds QD EX, Ok w H ∧ Reps G w ds vs ∧ sp ds QD EX ∧ (∀ d v w' H', Le w H w' H' → Ok w' H' → Rep G w' d v → QD d → Q v H') ∧ LkE G E w H EX
/-- an __init__: the new object's attributes -/
def liftI (G : Gm) (c : Nat) (sp : List D → (List D → Prop) → XP → Prop) : Sp := fun vs H Q E => ∃ w H1 x dx vr ds QD EX, vs = .ref x :: vr ∧ H1 x = none ∧ H1 dx = none ∧ dx ≠ x ∧ H = upd (upd H1 dx (.own x)) x (.ins (G.cls c) dx []) ∧ Ok w H1 ∧ Reps G w ds vr ∧ sp ds QD EX ∧
  (∀ es fs w' H' dy, Le w H1 w' H' → Ok w' H' → Mine H1 w' x → H' x = some (.ins (G.cls c) dy fs) → fs.map (·.1) = G.fld c → Reps G w' es (fs.map (·.2)) → QD es → Q .non H') ∧ LkE G E w H1 EX
section
variable {X : Cx} {E : XK} {k : Nat} {f C : Addr} {fd : FuncData} {ps : List Str} {x m : Str} {p pos apos : Pos} {e o : Expr} {es : List Expr} {A : FE} {B : FA} {sp : DSp}
def fCall (sp : DSp) (B : FA) : FE := fun r Q EX => B r (fun ds => sp ds Q EX) EX
theorem LkE.go {w0 w : Wd} {H0 H : Hp} {EX : XP} (l : Le w0 H0 w H) (h : LkE G E w0 H0 EX) : LkE G E w H EX := ⟨fun x od w' H' l' ok' a q => h.1 x od w' H' (l.trans l') ok' a q, l.sub.tb.trans h.2⟩
theorem ce_call (F : FnG X.prog X.w X.K X.mg X.base k f fd ps (lift G sp)) (hm : X.mg x = some (.ref f)) (hk : PySem.W.keepIn X.K (.ref f) = true) (hb : Binds X.K fd ps []) (hgd : X.A.guards = some []) (hr : Room k X.A) (hx : PassX X E)
    (ha : PA X (e :: es) (taD G E B)) (hg : Gl X x := by rfl) (hdb : (x == ("__debug__" : Str)) = false := by decide) (he : starEach (e :: es) X.env = (false, eval e X.env) :: starEach es X.env := by rfl) (hpl : (backTo pos (starEach es X.env)).any (·.1) = false := by rfl) :
    PE X (.Call (.Name x p) (e :: es) [] pos) (tD G E (fCall sp B)) := (pe_g F hgd hr hg hm hk hb .nil hx ha hdb he hpl).weak fun s H Q ⟨w0, H0, r, w, QD, EX, fr, lk, f, k⟩ =>
  ⟨w0, H0, r, w, _, EX, fr, lk, f, fun ds vs w1 H1 l1 ok1 r1 q1 => ⟨w1, ds, QD, EX, ok1, by rw [List.append_nil]; exact r1, q1, fun d v w2 H2 l2 ok2 r2 q2 => k d v w2 H2 (l1.trans l2) ok2 r2 q2, lk.go (fr.le.trans l1)⟩⟩
/-- o.f, a property of the class c that raises nothing -/
def fProp (c : Nat) (sp : DSp) (A : FE) : FE := fun r Q EX => A r (fun d => ∃ fs, d = .obj c fs ∧ sp [d] Q NoX) EX
theorem ce_prop {c : Nat} {p g : Addr} {fx : Str} (ho : PE X e (tD G E A)) (cl : Cls X.K (G.cls c)) (hp : PropOf X.K (G.cls c) fx p g) (F : FnG X.prog X.w X.K X.mg X.base k g fd ps (lift G sp)) (hb : Binds X.K fd ps []) (hgd : X.A.guards = some []) (hr : Room (k + 1) X.A)
    (hab : attributeBase e fx X.env (eval e X.env) = eval e X.env := by rfl) : PE X (.Attribute e fx pos) (tD G E (fProp c sp A)) := (pe_gprop (E := E0) ho cl hp F hgd hr hb passL hab).weak fun s H Q ⟨w0, H0, r, w, QD, EX, fr, lk, f, k⟩ =>
  ⟨w0, H0, r, w, _, EX, fr, lk, f, fun d v w1 H1 l1 ok1 r1 ⟨fs, ed, q1⟩ => by
    have r0 := r1
    rw [ed] at r0
    obtain ⟨a, dx, gs, ev, h1, _, _, htb⟩ := r0.obj_of
    subst ev
    exact ⟨a, dx, gs, rfl, ok1.sub _ _ h1, w1, [d], QD, NoX, ok1, Reps.cons r1 Reps.nil, q1, fun d v w3 H3 l3 ok3 r3 q3 => k d v w3 H3 (l1.trans l3) ok3 r3 q3, LkE.none htb⟩⟩
/-- C(..) -/
def fMake (c : Nat) (sp : List D → (List D → Prop) → XP → Prop) (B : FA) : FE := fun r Q EX => B r (fun ds => sp ds (fun es => Q (.obj c es)) EX) EX
theorem ce_make {c : Nat} {spI : List D → (List D → Prop) → XP → Prop} (M : Mk X.K (G.cls c) f) (F : FnG X.prog X.w X.K X.mg X.base k f fd ps (liftI G c spI)) (hm : X.mg x = some (.ref (G.cls c))) (hb : Binds X.K fd ps []) (hgd : X.A.guards = some []) (hr : Room (k + 1) X.A) (hx : PassX X E)
    (ha : PA X (e :: es) (taD G E B)) (hg : Gl X x := by rfl) (hdb : (x == ("__debug__" : Str)) = false := by decide) (he : starEach (e :: es) X.env = (false, eval e X.env) :: starEach es X.env := by rfl) (hpl : (backTo pos (starEach es X.env)).any (·.1) = false := by rfl) :
    PE X (.Call (.Name x p) (e :: es) [] pos) (tD G E (fMake c spI B)) := (pe_gmake M F hgd hr hg hm hb .nil hx ha hdb he hpl).weak fun s H Q ⟨w0, H0, r, w, QD, EX, fr, lk, f, k⟩ =>
  ⟨w0, H0, r, w, _, EX, fr, lk, f, fun ds vs w1 H1 l1 ok1 r1 q1 y dy ny ndy ne =>
    ⟨w1, H1, y, dy, vs, ds, _, EX, by rw [List.append_nil], ny, ndy, ne, rfl, ok1, r1, q1, fun es fs w2 H2 dz l2 ok2 mi h2 hf r2 q2 => ⟨rfl, by
      refine k (.obj c es) (.ref y) (w2.frz H2 y) H2 (l1.trans (l2.frz mi.1 ny)) (ok2.frz mi.2.1) ?_ q2
      unfold Rep
      exact ⟨y, dz, fs, rfl, by rw [frz_at]; exact h2, hf, r2.mono (.frz mi.1), (l2.sub.tb.trans l1.sub.tb).trans (fr.le.sub.tb.trans lk.2)⟩⟩, lk.go (fr.le.trans l1)⟩⟩
end

/-! ### a def's body -/
/-- the slots at the entry -/
def startD (N : List Str) (ds : List D) : Env := ds.map Sl.val ++ List.replicate (N.length - ds.length) Sl.un
theorem fr_start {w : Wd} {H : Hp} {N : List Str} {ds : List D} {vs : List V} (ok : Ok w H) (r : Reps G w ds vs) : Fr G w H (startD N ds) (L2.start N vs) w H where
  ok := ok
  le := .refl w H
  len := by unfold startD L2.start; simp [r.length]
  slot := fun i x e => by
    unfold startD at e
    unfold L2.start
    by_cases hi : i < ds.length
    · rw [List.getElem?_append_left (by simpa using hi), List.getElem?_map] at e
      rw [List.getElem?_append_left (by rw [List.length_map, ← r.length]; exact hi), List.getElem?_map]
      have hd : ds[i]? = some ds[i] := by simp [hi]
      rw [hd] at e
      cases e
      obtain ⟨v, e2, r2⟩ := r.getD hd
      rw [e2]
      exact ⟨v, rfl, r2⟩
    · rw [List.getElem?_append_right (by simpa using hi), List.getElem?_replicate] at e
      split at e
      · cases e; trivial
      · cases e
  dist := fun i j x y a e1 e2 o1 o2 _ _ => by
    have no : ∀ {n : Nat} {x : Sl}, (startD N ds)[n]? = some x → x.isOwn = false := fun {n x} e => by
      unfold startD at e
      by_cases hn : n < ds.length
      · rw [List.getElem?_append_left (by simpa using hn), List.getElem?_map] at e
        have hd : ds[n]? = some ds[n] := by simp [hn]
        rw [hd] at e
        cases e
        rfl
      · rw [List.getElem?_append_right (by simpa using hn), List.getElem?_replicate] at e
        split at e
        · cases e; rfl
        · cases e
    rw [no e1] at o1
    cases o1
section
variable {P : Program} {w : World} {mg : Str → Option Value} {base : Heap} {k : Nat} {f : Addr} {N ps : List Str}
theorem okD {x qual : Str} {st : Stmt} {fd : FuncData} {sp : DSp} {B : FS} (F : Fun G.K x qual st f fd) (S : FnScope N ps (defScope st)) (len : ∀ ds Q EX, sp ds Q EX → ds.length = ps.length)
    (body : ∀ (cdv : Value) (A : Around) (outer : List PySem.Env) (s : Shared) (H : Hp) (E : XK), A.guards = some [] → Room k (A.deeper (envOfC qual (defScope st) s.heap.objs.size f cdv)) →
      PSs (cxOf (L2.CX P w) P w G.K mg base N qual (defScope st) f cdv A outer s H E) (defBody st) (sD G E B))
    (pure : ∀ ds Q EX, sp ds Q EX → B { nx := fun _ => Q .non, rt := Q } EX (startD N ds)) : FnG P w G.K mg base (k + 1) f fd ps (lift G sp) := by
  refine Fun.okG F S (fun vs H Q E ⟨w, ds, QD, EX, _, r, h, _⟩ => by rw [← r.length]; exact len _ _ _ h) fun cdv A outer s H vs Q E hg hr ⟨w, ds, QD, EX, ok, r, h, k, lk⟩ => ⟨_, body cdv A outer s H E hg hr, ?_⟩
  exact ⟨w, H, w, startD N ds, w, { nx := fun _ => QD .non, rt := QD }, EX, fr_start ok r, .refl w, lk, ⟨fun r s w' H' fr _ q => k .non .non w' H' fr.le fr.ok Rep.non q, fun d v w' H' l ok' rp q => k d v w' H' l ok' rp q, fun _ _ _ _ _ _ q => q.elim, fun _ _ _ _ _ _ q => q.elim, fun _ _ _ _ _ _ _ _ _ _ q => q.elim⟩, pure ds QD EX h⟩
end
section
variable {X : Cx} {E : XK} {k : Nat} {f C : Addr} {fd : FuncData} {ps : List Str} {x : Str} {p pos : Pos} {e : Expr} {es : List Expr} {B : FA} {sp : List D → (List D → Prop) → XP → Prop}
end
end DL
/-! The data layer, part 8: calls of builtins. -/
namespace DL
open PySem L2 PyProof.Rows

/-! ### sorting, as plain law -/
section
variable {α : Type} (lt : α → α → Bool)
def ins1 (x : α) : List α → List α
  | [] => [x]
  | y :: l => if lt y x = true then y :: ins1 x l else x :: y :: l
def isort : List α → List α
  | [] => []
  | x :: l => ins1 lt x (isort l)
structure Ord : Prop where
  irr : ∀ x, lt x x = false
  asym : ∀ x y, lt x y = true → lt y x = false
  tr : ∀ x y z, lt y x = false → lt z y = false → lt z x = false
variable {lt}
theorem ins1_perm {x : α} : ∀ {l : List α}, (ins1 lt x l).Perm (x :: l)
  | [] => .refl _
  | y :: l => by
    unfold ins1
    split
    · exact (List.Perm.cons y ins1_perm).trans (List.Perm.swap x y l)
    · exact .refl _
theorem isort_perm : ∀ {l : List α}, (isort lt l).Perm l
  | [] => .refl _
  | x :: l => ins1_perm.trans (List.Perm.cons x isort_perm)
end
end DL
/-! The data layer, part 9: sorted, calls of builtins over data. -/
namespace DL
open PySem L2 PyProof.Rows

/-! ### sorted, by values -/
section
variable {X : Cx}
end
end DL
/-! The data layer, part 10: calls of builtins over data. -/
namespace DL
open PySem L2 PyProof.Rows
variable {G : Gm} {X : Cx} {E : XK}
abbrev CG := List D → (D → Prop) → Prop
/-- a builtin whose answer is a value -/
def CaL (G : Gm) (X : Cx) (f : Value) (g : CG) : Prop := ∃ r, CallR X f r ∧ ∀ H0 w H ds vs Q (QD : D → Prop), Ok w H → Sees G H0 w H ds vs → g ds QD →
  (∀ d z w' H', Le w H w' H' → Ok w' H' → Rep G w' d z → QD d → Q z H') → r vs H Q
/-- .. whose answer is a new list -/
def CaF (G : Gm) (X : Cx) (f : Value) (g : List D → (List D → Prop) → Prop) : Prop := ∃ r, CallR X f r ∧ ∀ H0 w H ds vs Q (QD : List D → Prop), Ok w H → Sees G H0 w H ds vs → g ds QD →
  (∀ es p us, H p = none → Reps G w es us → QD es → Q (.ref p) (upd H p (.lst us))) → r vs H Q
theorem Sees.one {H0 : Hp} {w : Wd} {H : Hp} {d : D} {vs : List V} (h : Sees G H0 w H [d] vs) : ∃ v, vs = [v] ∧ See G H0 w H d v := by
  cases h with
  | cons h t => cases t; exact ⟨_, rfl, h⟩
theorem Sees.two {H0 : Hp} {w : Wd} {H : Hp} {d d' : D} {vs : List V} (h : Sees G H0 w H [d, d'] vs) : ∃ v v', vs = [v, v'] ∧ See G H0 w H d v ∧ See G H0 w H d' v' := by
  cases h with
  | cons h t =>
    cases t with
    | cons h2 t2 => cases t2; exact ⟨_, _, rfl, h, h2⟩
def fCa (g : CG) (A : FA) : FE := fun r Q EX => A r (fun ds => g ds Q) EX
def fCaF (g : List D → (List D → Prop) → Prop) (A : FA) : FA := fun r Q EX => A r (fun ds => g ds Q) EX
section
variable {x : Str} {id T : String} {e : Expr} {es : List Expr} {p pos : Pos} {g : CG} {A : FA}
theorem ca_link {r : List V → Hp → VK → Prop} (k0 : ∀ H0 w H ds vs Q (QD : D → Prop), Ok w H → Sees G H0 w H ds vs → g ds QD → (∀ d z w' H', Le w H w' H' → Ok w' H' → Rep G w' d z → QD d → Q z H') → r vs H Q)
    (s : L2.St) (H : Hp) (Q : VK) (h : tD G E (fCa g A) s H Q) : tCB r (baD G E A) s H Q := by
  obtain ⟨w0, H0, r, w, QD, EX, fr, lk, f, k⟩ := h
  exact ⟨w0, H0, r, w, _, EX, fr, lk, f, fun ds vs w1 H1 l1 ok1 s1 q1 => k0 H0 w1 H1 ds vs Q QD ok1 s1 q1 fun d z w2 H2 l2 ok2 r2 q2 => k d z w2 H2 (l1.trans l2) ok2 r2 q2⟩
theorem ce_callB (hc : CaL G X (.builtin id) g) (hm : X.mg x = none) (ha : PA X (e :: es) (baD G E A)) (hg : Gl X x := by rfl) (hv : bootBuiltins x = some (.builtin id) := by decide +kernel) (hn : x ≠ "__name__" := by decide) (hdb : (x == ("__debug__" : Str)) = false := by decide)
    (he : starEach (e :: es) X.env = (false, eval e X.env) :: starEach es X.env := by rfl) (hpl : (backTo pos (starEach es X.env)).any (·.1) = false := by rfl) : PE X (.Call (.Name x p) (e :: es) [] pos) (tD G E (fCa g A)) := by
  obtain ⟨r, hr, k0⟩ := hc
  exact (pe_callB hr hg hm hv ha hn hdb he hpl).weak (ca_link k0)
theorem ce_callTy (hc : CaL G X (.type T) g) (hm : X.mg x = none) (ha : PA X (e :: es) (baD G E A)) (hg : Gl X x := by rfl) (hv : bootBuiltins x = some (.type T) := by decide +kernel) (hn : x ≠ "__name__" := by decide) (hdb : (x == ("__debug__" : Str)) = false := by decide)
    (he : starEach (e :: es) X.env = (false, eval e X.env) :: starEach es X.env := by rfl) (hpl : (backTo pos (starEach es X.env)).any (·.1) = false := by rfl) : PE X (.Call (.Name x p) (e :: es) [] pos) (tD G E (fCa g A)) := by
  obtain ⟨r, hr, k0⟩ := hc
  exact (pe_callTy hr hg hm hv ha hn hdb he hpl).weak (ca_link k0)
theorem caf_link {g : List D → (List D → Prop) → Prop} {r : List V → Hp → VK → Prop} (k0 : ∀ H0 w H ds vs Q (QD : List D → Prop), Ok w H → Sees G H0 w H ds vs → g ds QD → (∀ es p us, H p = none → Reps G w es us → QD es → Q (.ref p) (upd H p (.lst us))) → r vs H Q)
    (s : L2.St) (H : Hp) (Q : VK) (h : fD G E (fCaF g A) s H Q) : tCB r (baD G E A) s H Q := by
  obtain ⟨w0, H0, r, w, QD, EX, fr, lk, f, k⟩ := h
  exact ⟨w0, H0, r, w, _, EX, fr, lk, f, fun ds vs w1 H1 l1 ok1 s1 q1 => k0 H0 w1 H1 ds vs Q QD ok1 s1 q1 fun es p us hp r2 q2 =>
    k es p us w1 _ (l1.trans (Le.new hp)) (ok1.new hp) (l1.none_of hp) (Mine.new (w := w) (H := H) (fr.le.trans l1) ok1 hp) upd_same r2 q2⟩
theorem cf_callTy {g : List D → (List D → Prop) → Prop} (hc : CaF G X (.type T) g) (hm : X.mg x = none) (ha : PA X (e :: es) (baD G E A)) (hg : Gl X x := by rfl) (hv : bootBuiltins x = some (.type T) := by decide +kernel) (hn : x ≠ "__name__" := by decide) (hdb : (x == ("__debug__" : Str)) = false := by decide)
    (he : starEach (e :: es) X.env = (false, eval e X.env) :: starEach es X.env := by rfl) (hpl : (backTo pos (starEach es X.env)).any (·.1) = false := by rfl) : PE X (.Call (.Name x p) (e :: es) [] pos) (fD G E (fCaF g A)) := by
  obtain ⟨r, hr, k0⟩ := hc
  exact (pe_callTy hr hg hm hv ha hn hdb he hpl).weak (caf_link k0)
end

/-! ### the builtins -/
def lenD : CG := fun ds Q => match ds with
  | [.tup xs] => Q (.int xs.length)
  | [.lst xs] => Q (.int xs.length)
  | [.str z] => z.length ≤ sizeLine ∧ Q (.int z.length)
  | _ => False
theorem cal_len (hK : X.K = G.K := by rfl) : CaL G X (.builtin "len") lenD := by
  refine ⟨_, call_len, fun H0 w H ds vs Q QD ok sx g k => ?_⟩
  match ds, g with
  | [.tup xs], g =>
    obtain ⟨v, rfl, s1⟩ := sx.one
    obtain ⟨a, us, rfl, sq, r⟩ := s1.tup_of ok
    exact ⟨_, _, rfl, .inr ⟨us, hK ▸ sq, rfl⟩, k _ _ w H (.refl w H) ok Rep.int (by rw [← r.length]; exact g)⟩
  | [.lst xs], g =>
    obtain ⟨v, rfl, s1⟩ := sx.one
    obtain ⟨a, us, rfl, sq, r⟩ := s1.lst_of ok
    exact ⟨_, _, rfl, .inl ⟨us, hK ▸ sq.sql, rfl⟩, k _ _ w H (.refl w H) ok Rep.int (by rw [← r.length]; exact g)⟩
  | [.str z], g =>
    obtain ⟨v, rfl, s1⟩ := sx.one
    rw [s1.str_of]
    exact ⟨_, z.length, rfl, ⟨g.1, rfl⟩, k _ _ w H (.refl w H) ok Rep.int g.2⟩
def i1D (f : Int → D) : CG := fun ds Q => match ds with
  | [.int i] => Q (f i)
  | _ => False
def i2D (f : Int → Int → D) : CG := fun ds Q => match ds with
  | [.int i, .int j] => Q (f i j)
  | _ => False
theorem cal_i1 {f : Value} {u : Int → Int} (h : CallR X f (fun xs H Q => ∃ i, xs = [.int i] ∧ Q (.int (u i)) H)) : CaL G X f (i1D fun i => .int (u i)) := by
  refine ⟨_, h, fun H0 w H ds vs Q QD ok sx g k => ?_⟩
  match ds, g with
  | [.int i], g =>
    obtain ⟨v, rfl, s1⟩ := sx.one
    rw [s1.int_of]
    exact ⟨i, rfl, k _ _ w H (.refl w H) ok Rep.int g⟩
theorem cal_i2 {f : Value} {u : Int → Int → Int} (h : CallR X f (fun xs H Q => ∃ i j, xs = [.int i, .int j] ∧ Q (.int (u i j)) H)) : CaL G X f (i2D fun i j => .int (u i j)) := by
  refine ⟨_, h, fun H0 w H ds vs Q QD ok sx g k => ?_⟩
  match ds, g with
  | [.int i, .int j], g =>
    obtain ⟨v, v', rfl, s1, s2⟩ := sx.two
    rw [s1.int_of, s2.int_of]
    exact ⟨i, j, rfl, k _ _ w H (.refl w H) ok Rep.int g⟩
theorem cal_abs : CaL G X (.builtin "abs") (i1D fun i => .int (if i < 0 then -i else i)) := cal_i1 call_abs
theorem cal_max2 (hc : X.calm = true := by rfl) : CaL G X (.builtin "max") (i2D fun i j => .int (if j > i then j else i)) := cal_i2 (call_max2 hc)
theorem cal_min2 (hc : X.calm = true := by rfl) : CaL G X (.builtin "min") (i2D fun i j => .int (if j < i then j else i)) := cal_i2 (call_min2 hc)
def intC : CG := fun ds Q => match ds with
  | [.int i] => Q (.int i)
  | [.bl b] => Q (.int (if b then 1 else 0))
  | _ => False
def strC : CG := fun ds Q => match ds with
  | [.int i] => i.natAbs.log2 < 1920 ∧ Q (.str (toString i))
  | [.str z] => Q (.str z)
  | _ => False
theorem cal_str : CaL G X (.type "str") strC := by
  refine ⟨_, call_str_int.or SkE.call_str_str, fun H0 w H ds vs Q QD ok sx g k => ?_⟩
  match ds, g with
  | [.int i], g =>
    obtain ⟨v, rfl, s1⟩ := sx.one
    rw [s1.int_of]
    exact .inl ⟨i, rfl, g.1, k _ _ w H (.refl w H) ok Rep.str g.2⟩
  | [.str z], g =>
    obtain ⟨v, rfl, s1⟩ := sx.one
    rw [s1.str_of]
    exact .inr ⟨z, rfl, k _ _ w H (.refl w H) ok Rep.str g⟩
def tupC : CG := fun ds Q => match ds with
  | [.lst xs] => Q (.tup xs)
  | [.tup xs] => Q (.tup xs)
  | _ => False
theorem cal_tuple (hK : X.K = G.K := by rfl) : CaL G X (.type "tuple") tupC := by
  refine ⟨_, call_tupleF, fun H0 w H ds vs Q QD ok sx g k => ?_⟩
  match ds, g with
  | [.lst xs], g =>
    obtain ⟨v, rfl, s1⟩ := sx.one
    obtain ⟨a, us, rfl, sq, r⟩ := s1.lst_of ok
    refine ⟨a, us, rfl, .inl ⟨hK ▸ sq.sql, fun l o hl hd => ?_⟩⟩
    obtain ⟨w2, l2, ok2, r2⟩ := newTup (p := l) ok hl hd r
    exact k _ _ w2 _ l2 ok2 r2 g
  | [.tup xs], g =>
    obtain ⟨v, rfl, s1⟩ := sx.one
    have rp := s1.tup_rep
    obtain ⟨a, us, rfl, sq, r⟩ := s1.tup_of ok
    exact ⟨a, us, rfl, .inr ⟨hK ▸ sq, k _ _ w H (.refl w H) ok rp g⟩⟩
def blsOf : List D → Option (List Bool)
  | [] => some []
  | .bl b :: ds => (blsOf ds).map (b :: ·)
  | _ => none
def strsOf : List D → Option (List Str)
  | [] => some []
  | .str b :: ds => (strsOf ds).map (b :: ·)
  | _ => none
theorem blsOf_eq : ∀ {ds : List D} {bs : List Bool}, blsOf ds = some bs → ds = bs.map D.bl
  | [], bs, h => by cases h; rfl
  | d :: ds, bs, h => by
    cases d <;> first | (unfold blsOf at h; cases h; done) | skip
    unfold blsOf at h
    cases e : blsOf ds with
    | none => rw [e] at h; cases h
    | some l => rw [e] at h; cases h; rw [blsOf_eq e]; rfl
theorem strsOf_eq : ∀ {ds : List D} {bs : List Str}, strsOf ds = some bs → ds = bs.map D.str
  | [], bs, h => by cases h; rfl
  | d :: ds, bs, h => by
    cases d <;> first | (unfold strsOf at h; cases h; done) | skip
    unfold strsOf at h
    cases e : strsOf ds with
    | none => rw [e] at h; cases h
    | some l => rw [e] at h; cases h; rw [strsOf_eq e]; rfl
def blsD (f : List Bool → D) : CG := fun ds Q => match ds with
  | [.lst xs] => match blsOf xs with
    | some bs => Q (f bs)
    | none => False
  | _ => False
theorem cal_bls {f : Value} {u : List Bool → Bool} (h : CallR X f (fun vs H Q => ∃ (a : Addr) (bs : List Bool), vs = [V.ref a] ∧ SqL X.K H a (bs.map V.bl) ∧ Q (.bl (u bs)) H)) (hK : X.K = G.K) : CaL G X f (blsD fun bs => .bl (u bs)) := by
  refine ⟨_, h, fun H0 w H ds vs Q QD ok sx g k => ?_⟩
  match ds, g with
  | [.lst xs], g =>
    obtain ⟨v, rfl, s1⟩ := sx.one
    obtain ⟨a, us, rfl, sq, r⟩ := s1.lst_of ok
    cases e : blsOf xs with
    | none => simp only [blsD, e] at g
    | some bs =>
      simp only [blsD, e] at g
      rw [blsOf_eq e] at r
      rw [r.bls] at sq
      exact ⟨a, bs, rfl, hK ▸ sq.sql, k _ _ w H (.refl w H) ok Rep.bl g⟩
theorem cal_all (hc : X.calm = true := by rfl) (hK : X.K = G.K := by rfl) : CaL G X (.builtin "all") (blsD fun bs => .bl (bs.all id)) := cal_bls (cr_all hc) hK
/-- the greatest, the least of a list of ints -/
def maxI : List Int → Int
  | [] => 0
  | [x] => x
  | x :: l => if x < maxI l then maxI l else x
/-! ### repr -/
theorem repr_any {A : Around} {P : Program} {w : World} {E : Value → Shared → Prop} {s : Shared} {v : Value} {d : PyData} {as : List Addr} {Q : Value → Shared → Prop} (r : Reads s.heap v d as) (hs : d.showable = true) (hd : d.hasDict = false) (hg : A.guards = some []) (hu : A.units + (d.depth + 1) < cLine) (hz : d.shown.length ≤ sizeLine)
    (h : ∀ h' u tk, (∀ b o, s.heap.get? b = some o → h'.get? b = some o) → Q (.str d.shown u) { s with heap := h', toks := tk }) : wpAny (model P w) A (call (.builtin "repr") [v]) Q E s := by
  by_cases hv : ∃ a, v = .ref a
  · obtain ⟨a, rfl⟩ := hv
    exact repr_of_reads' r hs (PyData.noDict_hsm hd) hg hu (fun _ _ e => e) h hz
  · cases r with
    | none => exact PySem.P.repr_of_none (h _ _ _ fun _ _ e => e)
    | bool b => exact PySem.P.repr_of_bool (h _ _ _ fun _ _ e => e)
    | int i t => exact PySem.P.repr_of_int (by simpa [PyData.showable] using hs) (h _ _ _ fun _ _ e => e)
    | str x t => exact PySem.P.repr_of_str (h _ _ _ fun _ _ e => e)
    | _ => exact absurd ⟨_, rfl⟩ hv
end DL
/-! The data layer, part 11: repr, isinstance, sorted, list, fields, methods of lists and texts. -/
namespace DL
open PySem L2 PyProof.Rows
variable {G : Gm} {X : Cx} {E : XK}
mutual
theorem pd_noDict : ∀ d : D, plain d = true → (pd d).hasDict = false
  | .non, _ => by simp [pd, PyData.hasDict]
  | .bl _, _ => by simp [pd, PyData.hasDict]
  | .int _, _ => by simp [pd, PyData.hasDict]
  | .str _, _ => by simp [pd, PyData.hasDict]
  | .tup ds, h => by unfold plain at h; simp [pd, PyData.hasDict, pds_noDict ds h]
  | .lst ds, h => by unfold plain at h; simp [pd, PyData.hasDict, pds_noDict ds h]
  | .dic _ _, h => by unfold plain at h; cases h
  | .obj _ _, h => by unfold plain at h; cases h
  | .exc _ _, h => by unfold plain at h; cases h
  | .jar, h => by unfold plain at h; cases h
theorem pds_noDict : ∀ ds : List D, plains ds = true → PyData.hasDictAll (pds ds) = false
  | [], _ => by simp [pds, PyData.hasDictAll]
  | d :: ds, h => by
    unfold plains at h
    rw [Bool.and_eq_true] at h
    simp [pds, PyData.hasDictAll, pd_noDict d h.1, pds_noDict ds h.2]
end
/-- what may be shown -/
def shownOK (d : D) : Prop := plain d = true ∧ (pd d).showable = true ∧ (pd d).depth ≤ 60 ∧ (pd d).shown.length ≤ sizeLine
def reprD : CG := fun ds Q => match ds with
  | [d] => shownOK d ∧ Q (.str (pd d).shown)
  | _ => False
theorem call_reprD (hg : X.A.guards = some []) (hu : X.A.units + 64 < cLine) : CallR X (.builtin "repr") (fun xs H Q => ∃ x d, xs = [x] ∧ Dp X.K H x d ∧ d.showable = true ∧ d.hasDict = false ∧ d.depth ≤ 60 ∧ d.shown.length ≤ sizeLine ∧ Q (.str d.shown) H) := by
  intro pins s σ H xs us Q I r h
  obtain ⟨x, d, rfl, hd, h1, h2, h3, h4, q⟩ := h
  obtain ⟨u, rfl, rx⟩ := vals1 r
  obtain ⟨as, rd⟩ := Dp.reads I d x u hd rx
  exact repr_any rd h1 h2 hg (by omega) h4 fun h' u tk hk => ⟨.str _, H, I.kept hk, ⟨_, rfl⟩, q⟩
theorem cal_repr (hg : X.A.guards = some []) (hu : X.A.units + 64 < cLine) (hK : X.K = G.K := by rfl) : CaL G X (.builtin "repr") reprD := by
  refine ⟨_, call_reprD hg hu, fun H0 w H ds vs Q QD ok sx g k => ?_⟩
  match ds, g with
  | [d], g =>
    obtain ⟨v, rfl, s1⟩ := sx.one
    obtain ⟨⟨p, a, b, c⟩, q⟩ := g
    exact ⟨v, pd d, rfl, hK ▸ s1.dp ok p, a, pd_noDict d p, b, c, k _ _ w H (.refl w H) ok Rep.str q⟩

/-! ### isinstance -/
inductive Tag where
  | non | bl | int | str | tup | lst | dic | obj (c : Nat) | exc (c : Nat)
def tagD : D → Option Tag
  | .non => some .non | .bl _ => some .bl | .int _ => some .int | .str _ => some .str | .tup _ => some .tup | .lst _ => some .lst
  | .dic _ _ => some .dic | .obj c _ => some (.obj c) | .exc c _ => some (.exc c) | .jar => none
def tagV (G : Gm) : Tag → Value
  | .non => .type "NoneType" | .bl => .type "bool" | .int => .type "int" | .str => .type "str" | .tup => .type "tuple" | .lst => .type "list" | .dic => .type "dict"
  | .obj c => .ref (G.cls c)
  | .exc c => .ref (G.cls c)
/-- facts of an own class -/
structure ClsG (K : PySem.W.Frag) (C : Addr) : Prop where
  cl : Cls K C
  ca : PySem.W.findIn K (.ref C) "__class__" = some (some (.builtin "object.__class__"))
  cg : PySem.W.specialIn K (.builtin "object.__class__") "__get__" = some (some (.builtin "getset_descriptor.__get__"))
  ct : PySem.W.takesIn K (.builtin "object.__class__") = some true
  cm : PySem.W.mroIn K C (.type "object") = some true
def isiD (tbl : Tag → Option Bool) (A : FE) : FE := fun r Q EX => A r (fun d => match tagD d with
  | some t => match tbl t with
    | some b => Q (.bl b)
    | none => False
  | none => False) EX
/-- facts of an own class of exceptions -/
structure ExF (K : PySem.W.Frag) (C : Addr) : Prop where
  cl : (PySem.W.clsIn K C).isSome = true
  ga : PySem.W.findIn K (.ref C) "__getattribute__" = some (some (.builtin "BaseException.__getattribute__"))
  gt : PySem.W.findIn K (.ref C) "__getattr__" = some none
  sb : PySem.W.subIn K (.ref C) (.type "BaseException") = some true
  hd : PySem.W.hasDictIn K C = true
  ca : PySem.W.findIn K (.ref C) "__class__" = some (some (.builtin "object.__class__"))
  cg : PySem.W.specialIn K (.builtin "object.__class__") "__get__" = some (some (.builtin "getset_descriptor.__get__"))
  ct : PySem.W.takesIn K (.builtin "object.__class__") = some true
  cm : PySem.W.mroIn K C (.type "object") = some true
/-- what isinstance may be asked of -/
def KtV (K : PySem.W.Frag) (H : Hp) (v : V) (t : Value) : Prop := TyX K H v t ∨ ∃ a o C od, v = .ref a ∧ t = .ref C ∧ H a = some o ∧ XcAt o C od a ∧ (od = none ∨ ∃ dx fs, od = some dx ∧ H dx = some (.xd fs)) ∧ ExF K C
theorem exc_at {X : Cx} {pins : List (Addr × Obj)} {σ : L2.St} {H : Hp} {s : Shared} {a C : Addr} {o : HO} {od : Option Addr} (I : Inv X pins σ H s) (ho : H a = some o) (hx : XcAt o C od a) (hd : od = none ∨ ∃ dx fs, od = some dx ∧ H dx = some (.xd fs)) :
    ∃ (oe : Obj) (ob : Option Obj), PySem.W.InstAt s.heap a oe C ob ∧ ∀ dx fs, od = some dx → H dx = some (.xd fs) → ∃ (oD : Obj) (mA : Str → Option Value), ob = some oD ∧ s.heap.Ns1 dx mA ∧ s.heap.get? dx = some oD ∧ ∀ f, RelO (fs.lookup f) (mA f) := by
  obtain ⟨oe, vs, h1, h2, h3, h4⟩ := hx X.prog X.w H s.heap (I.hok a o ho)
  have nc : PySem.W.notCls oe = true := by
    unfold PySem.W.notCls
    rw [h4] <;> rfl
  rcases hd with rfl | ⟨dx, fs, rfl, hdx⟩
  · exact ⟨oe, none, ⟨h1, h2, nc, by rw [h3]; trivial⟩, fun dx fs z => by cases z⟩
  · obtain ⟨mA, hns, hr⟩ := (show ObjOk X.prog X.w H s.heap dx (.xd fs) from I.hok dx _ hdx)
    obtain ⟨oD, es, ep, hoD, hq⟩ := id hns
    refine ⟨oe, some oD, ⟨h1, h2, nc, by rw [h3]; exact hoD⟩, fun dx' fs' z hz => ?_⟩
    cases z
    rw [hdx] at hz
    cases hz
    exact ⟨oD, mA, rfl, hns, hoD, hr⟩
theorem kit_ofE {X : Cx} {pins : List (Addr × Obj)} {σ : L2.St} {H : Hp} {s : Shared} {x : V} {u t : Value} (I : Inv X pins σ H s) (rx : RelV x u) (ty : KtV X.K H x t) : ∃ P : Heap → Prop, PySem.W.KitX X.K u t P ∧ P s.heap ∧ u ≠ .builtin "__main__.__loader__#opaque" := by
  rcases ty with ty | ⟨a, o, C, od, rfl, rfl, ho, hx, hd, F⟩
  · exact kit_of I rx ty
  · cases (show u = Value.ref a from rx)
    obtain ⟨oe, ob, J, _⟩ := exc_at I ho hx hd
    exact ⟨_, PySem.W.kitx_exc F.cl F.ga F.gt F.sb F.ca F.cg F.ct F.cm, J, fun z => nomatch z⟩
/-- isinstance(x, c), x an exception, too -/
def rIsiE (K : PySem.W.Frag) : List V → Hp → VK → Prop := fun xs H Q => ∃ (x c : V) (t u : Value) (b : Bool), xs = [x, c] ∧ ClsV c u ∧ KtV K H x t ∧ PySem.W.kitOne K t u = some b ∧ Q (.bl b) H
theorem call_isiE {X : Cx} : CallR X (.builtin "isinstance") (rIsiE X.K) := by
  intro pins s σ H xs us Q I r ⟨x, c, t, u, b, ex, k, ty, e, q⟩
  subst ex
  obtain ⟨u1, u2, rfl, r1, r2⟩ := vals2 r
  obtain ⟨P, Z, p, hx⟩ := kit_ofE I r1 ty
  rw [k.eq r2]
  exact PySem.W.kia_one Z I.kIn p e hx fun tk => ⟨.bl b, H, I.tok tk, rfl, q⟩
theorem tyx_rep {w : Wd} {H : Hp} {d : D} {v : V} {t : Tag} (ok : Ok w H) (hc : ∀ c, t = .obj c → ClsG G.K (G.cls c)) (hx : ∀ c, t = .exc c → ExF G.K (G.cls c)) (ht : tagD d = some t) (h : Rep G w d v) : KtV G.K H v (tagV G t) := by
  cases d <;> cases ht
  · rw [h.non_of]; exact .inl (.base .non)
  · rw [h.bl_of]; exact .inl (.base (.bl _))
  · rw [h.int_of]; exact .inl (.base (.int _))
  · rw [h.str_of]; exact .inl (.base (.str _))
  · obtain ⟨a, vs, rfl, sq, _⟩ := h.tup_of
    rcases sqT_sub ok.sub sq.sqt with (e | ⟨o, e⟩) | ⟨o, its, n, e, c, _⟩
    · exact .inl (.base (.tup e))
    · exact .inl (.fTuple e)
    · exact .inl (.kTuple e c)
  · obtain ⟨a, vs, rfl, sq, _⟩ := h.lst_of
    rcases lsT_sub ok.sub sq with (e | ⟨o, e⟩) | ⟨its, n, e, _⟩
    · exact .inl (.base (.lst e))
    · exact .inl (.base (.frz e))
    · exact .inl (.kList e rfl)
  · obtain ⟨a, vs, rfl, sq, _⟩ := h.dic_of
    rcases sq with e | ⟨es, n, e, _⟩
    · exact .inl (.base (.dK (ok.sub _ _ e)))
    · exact .inl (.kDict e rfl)
  · obtain ⟨a, dx, fs, rfl, e, _⟩ := h.obj_of
    have c := hc _ rfl
    exact .inl (.base (.ins (ok.sub _ _ e) c.cl c.ca c.cg c.ct c.cm))
  · obtain ⟨a, o, od, vs, rfl, ho, hxa, _, hd⟩ := h.exc_of
    exact .inr ⟨a, o, _, od, rfl, rfl, ok.sub _ _ ho, hxa, hd.imp And.left fun ⟨dx, nm, u, e1, _, _, e4⟩ => ⟨dx, _, e1, ok.sub _ _ e4⟩, hx _ rfl⟩
theorem tyx_see {H0 : Hp} {w : Wd} {H : Hp} {d : D} {v : V} {t : Tag} (ok : Ok w H) (hc : ∀ c, t = .obj c → ClsG G.K (G.cls c)) (hx : ∀ c, t = .exc c → ExF G.K (G.cls c)) (ht : tagD d = some t) (h : See G H0 w H d v) : KtV G.K H v (tagV G t) := by
  rcases h with h | ⟨a, vs, ds, e1, e2, m, h1, r⟩ | ⟨a, vs, ks, ds, e1, e2, m, h1, hl, r⟩
  · exact tyx_rep ok hc hx ht h
  · subst e1; subst e2; cases ht; exact .inl (.base (.lst h1))
  · subst e1; subst e2; cases ht; exact .inl (.base (.dK h1))
theorem ce_isi {tbl : Tag → Option Bool} {o ce : Expr} {A : FE} {c : V} {u : Value} {p pos : Pos} (ho : PE X o (bD G E A)) (hce : PE X ce (tC c)) (hm : X.mg "isinstance" = none) (k : ClsV c u) (hc : ∀ c b, tbl (.obj c) = some b → ClsG G.K (G.cls c)) (ht : ∀ t b, tbl t = some b → PySem.W.kitOne X.K (tagV G t) u = some b)
    (hx : ∀ c b, tbl (.exc c) = some b → ExF G.K (G.cls c) := by first | assumption | (intro c b h; cases h; done))
    (hg : Gl X "isinstance" := by rfl) (hK : X.K = G.K := by rfl) (he : starEach [o, ce] X.env = (false, eval o X.env) :: starEach [ce] X.env := by rfl) (he2 : starEach [ce] X.env = (false, eval ce X.env) :: starEach [] X.env := by rfl) (hpl : (backTo pos (starEach [ce] X.env)).any (·.1) = false := by rfl) :
    PE X (.Call (.Name "isinstance" p) [o, ce] [] pos) (tD G E (isiD tbl A)) := PE.weak (pe_callB call_isiE hg hm (by decide +kernel) (pa_cons ho (pa_cons hce pa_nil he2) he) (by decide) (by decide) he hpl) fun s H Q ⟨w0, H0, r, w, QD, EX, fr, lk, f, k2⟩ =>
  ⟨w0, H0, r, w, _, EX, fr, lk, f, fun d v w1 H1 l1 ok1 s1 q1 => by
    show ∃ x c t u b, [v, _] = [x, c] ∧ ClsV c u ∧ KtV X.K H1 x t ∧ PySem.W.kitOne X.K t u = some b ∧ Q (.bl b) H1
    cases e1 : tagD d with
    | none => simp only [e1] at q1
    | some t =>
      simp only [e1] at q1
      cases e2 : tbl t with
      | none => simp only [e2] at q1
      | some b =>
        simp only [e2] at q1
        exact ⟨v, c, _, u, b, rfl, k, hK ▸ tyx_see ok1 (fun c hc' => hc c b (hc' ▸ e2)) (fun c hc' => hx c b (hc' ▸ e2)) e1 s1, ht t b e2, k2 _ _ w1 H1 l1 ok1 Rep.bl q1⟩⟩

def listC : List D → (List D → Prop) → Prop := fun ds Q => match ds with
  | [.lst xs] => Q xs
  | [.tup xs] => Q xs
  | _ => False
theorem caf_list (hK : X.K = G.K := by rfl) : CaF G X (.type "list") listC := by
  refine ⟨_, call_list_of, fun H0 w H ds vs Q QD ok sx g k => ?_⟩
  match ds, g with
  | [.lst xs], g =>
    obtain ⟨v, rfl, s1⟩ := sx.one
    obtain ⟨a, us, rfl, sq, r⟩ := s1.lst_of ok
    exact ⟨a, us, rfl, .inl (hK ▸ sq.sql), fun l hl => k xs l us hl r g⟩
  | [.tup xs], g =>
    obtain ⟨v, rfl, s1⟩ := sx.one
    obtain ⟨a, us, rfl, sq, r⟩ := s1.tup_of ok
    exact ⟨a, us, rfl, .inr (hK ▸ sq), fun l hl => k xs l us hl r g⟩
end DL
/-! The data layer, part 12: the law's call. -/
namespace DL
open PySem L2 PyProof.Rows

end DL
/-! The data layer, part 13: attributes, own lists, jars, methods. -/
namespace DL
open PySem L2 PyProof.Rows
variable {G : Gm} {X : Cx} {E : XK}

/-! ### o.f -/
def ixOf (names : List Str) (f : Str) : Option Nat := names.findIdx? (· == f)
theorem lookup_ix {f : Str} : ∀ {gs : List (Str × V)} {i : Nat}, ixOf (gs.map (·.1)) f = some i → gs.lookup f = (gs.map (·.2))[i]?
  | [], i, h => by simp [ixOf] at h
  | (g, v) :: gs, i, h => by
    unfold ixOf at h
    rw [List.map_cons, List.findIdx?_cons] at h
    by_cases e : g = f
    · subst e
      simp at h
      subst h
      simp
    · have e1 : (g == f) = false := beq_eq_false_iff_ne.mpr e
      have e2 : (f == g) = false := beq_eq_false_iff_ne.mpr fun z => e z.symm
      simp only [e1] at h
      cases q : ixOf (gs.map (·.1)) f with
      | none =>
        unfold ixOf at q
        rw [q] at h
        cases h
      | some j =>
        have ih := lookup_ix q
        unfold ixOf at q
        rw [q] at h
        cases h
        rw [List.lookup_cons, e2, ih]
        simp
def fFld (c i : Nat) (A : FE) : FE := fun r Q EX => A r (fun d => match d with
  | .obj c' fs => if c' = c then (match fs[i]? with
    | some d => Q d
    | none => False) else False
  | _ => False) EX
theorem ce_fld {e : Expr} {f : Str} {pos : Pos} {A : FE} {c i : Nat} (he : PE X e (tD G E A)) (cl : Cls X.K (G.cls c)) (na : NoAttr X.K (G.cls c) f) (hi : ixOf (G.fld c) f = some i) (hb : attributeBase e f X.env (eval e X.env) = eval e X.env := by rfl) :
    PE X (.Attribute e f pos) (tD G E (fFld c i A)) := (pe_fld he hb).weak fun s H Q ⟨w0, H0, r, w, QD, EX, fr, lk, f0, k⟩ =>
  ⟨w0, H0, r, w, _, EX, fr, lk, f0, fun d v w1 H1 l1 ok1 r1 q1 => by
    cases d <;> try exact q1.elim
    rename_i c' fs
    by_cases hc : c' = c
    · subst hc
      simp only [if_pos] at q1
      obtain ⟨a, dx, gs, ev, h1, h2, h3, _⟩ := r1.obj_of
      subst ev
      cases e1 : fs[i]? with
      | none => rw [e1] at q1; exact q1.elim
      | some d =>
        rw [e1] at q1
        obtain ⟨u, e2, r2⟩ := h3.getD e1
        refine ⟨a, G.cls c', dx, gs, u, rfl, ok1.sub _ _ h1, cl, na, ?_, k d u w1 H1 l1 ok1 r2 q1⟩
        rw [lookup_ix (i := i) (by rw [h2]; exact hi), e2]
    · simp only [if_neg hc] at q1⟩

/-! ### self.f = e in an __init__ -/
def sFldI (i c : Nat) (fl : List Str) (f : Str) (A : FE) : FS := fun B EX r => A r (fun d => match r[i]? with
  | some (.slf x c' ds) => if c' = c ∧ fl[ds.length]? = some f then B.nx (r.set i (.slf x c (ds ++ [d]))) else False
  | _ => False) EX
theorem putF_new {f : Str} {v : V} : ∀ {fs : List (Str × V)}, f ∉ fs.map (·.1) → putF f v fs = fs ++ [(f, v)]
  | [], _ => rfl
  | (g, x) :: fs, h => by
    rw [List.map_cons, List.mem_cons, not_or] at h
    unfold putF
    rw [if_neg fun e => h.1 e.symm, putF_new h.2]
    rfl
theorem cs_fldI {i c : Nat} {fl : List Str} {x f : Str} {e : Expr} {p p2 pos : Pos} {A : FE} (he : PE X e (tD G E A)) (cl : Cls X.K (G.cls c)) (na : NoAttr X.K (G.cls c) f) (hfl : G.fld c = fl) (nd : fl.Nodup) (hN : X.N[i]? = some x := by rfl) (hv : Vis X.env.scope x := by first | exact Or.inl rfl | exact Or.inr (Or.inl rfl) | exact Or.inr (Or.inr rfl))
    (hs : swapsWith e (some (.Attribute (.Name x p) f p2)) pos.line X.env = pure false := by rfl) (hz : fl.length < 1000 := by decide) (hd : (x == ("__debug__" : Str)) = false := by decide) (hcd : (x == ("__classdict__" : Str)) = false := by decide) :
    PS X (.Assign [.Attribute (.Name x p) f p2] e pos) (sD G E (sFldI i c fl f A)) := (ps_fld (pe_var hN hv hd hcd) he hs).weak fun B s H ⟨w0, H0, wk, r, w, A', EX, fr, sb, lk, ll, f0⟩ =>
  ⟨w0, H0, r, w, _, EX, fr, lk, f0, fun d v w1 H1 l1 ok1 r1 q1 => by
    have fr1 := fr.go l1 ok1
    cases e1 : r[i]? with
    | none => rw [e1] at q1; exact q1.elim
    | some sl =>
      rw [e1] at q1
      cases sl <;> try exact q1.elim
      rename_i x' c' ds
      by_cases hc : c' = c ∧ fl[ds.length]? = some f
      · simp only [if_pos hc] at q1
        obtain ⟨hc, hn⟩ := hc
        subst hc
        obtain ⟨a, dx, fs, e2, m, h1, ⟨l, hl⟩, hz', rp, ax⟩ := fr1.slot i _ e1
        have e3 : ds.length = (fs.map (·.1)).length := by rw [rp.length, List.length_map, List.length_map]
        have e4 : ∃ l', l = f :: l' := by
          rw [hfl] at hl
          rw [hl, List.getElem?_append_right (by omega), e3, Nat.sub_self] at hn
          cases l with
          | nil => simp at hn
          | cons g l' => simp at hn; exact ⟨l', by rw [hn]⟩
        obtain ⟨l', e5⟩ := e4
        subst e5
        have nin : f ∉ fs.map (·.1) := fun hm => by
          rw [hfl] at hl
          rw [hl] at nd
          exact (List.nodup_append.mp nd).2.2 f hm f List.mem_cons_self rfl
        have hlen : fs.length + 1 + l'.length = fl.length := by
          rw [hfl] at hl
          rw [hl]; simp; omega
        refine ⟨_, e2, a, G.cls c', dx, fs, rfl, h1, cl, na, hz', ?_⟩
        rw [putF_new nin]
        have fr2 := fr1.chg (y := .slf x' c' (ds ++ [d])) (o := .ins (G.cls c') dx (fs ++ [(f, v)])) e1 rfl e2 m
          ⟨a, dx, fs ++ [(f, v)], rfl, m, upd_same, ⟨l', by rw [hl]; simp⟩, by simp; omega, by simpa using rp.append (Reps.cons r1 Reps.nil), ax⟩
        exact ll.nx _ _ w1 _ fr2 (sb.trans l1.sub) q1
      · simp only [if_neg hc] at q1⟩
/-- the slots at the entry of an __init__ -/
def startI (N : List Str) (x : Addr) (c : Nat) (ds : List D) : Env := .slf x c [] :: (ds.map Sl.val ++ List.replicate (N.length - (ds.length + 1)) Sl.un)
/-- behind an __init__: all attributes are set -/
def endI (fl : List Str) (x : Addr) (c : Nat) (Q : D → Prop) (r : List Sl) : Prop := match r with
  | Sl.slf y c' es :: _ => y = x ∧ c' = c ∧ es.length = fl.length ∧ Q (.tup es)
  | _ => False
theorem okI {P : Program} {w : World} {mg : Str → Option Value} {base : Heap} {k : Nat} {f : Addr} {N ps : List Str} {x qual : Str} {st : Stmt} {fd : FuncData} {sp : DSp} {B : FS} {c : Nat} (F : Fun G.K x qual st f fd) (S : FnScope N ps (defScope st)) (len : ∀ ds Q EX, sp ds Q EX → ds.length + 1 = ps.length)
    (body : ∀ (cdv : Value) (A : Around) (outer : List PySem.Env) (s : Shared) (H : Hp) (E : XK), A.guards = some [] → Room k (A.deeper (envOfC qual (defScope st) s.heap.objs.size f cdv)) →
      PSs (cxOf (L2.CX P w) P w G.K mg base N qual (defScope st) f cdv A outer s H E) (defBody st) (sD G E B))
    (pure : ∀ ds Q EX x, sp ds Q EX → B (DE.mk (endI (G.fld c) x c Q) (fun _ => False) (fun _ => False) (fun _ => False) (fun _ => False)) EX (startI N x c ds)) : FnG P w G.K mg base (k + 1) f fd ps (liftI G c fun ds Q EX => sp ds (fun d => match d with
        | .tup es => Q es
        | _ => False) EX) := by
  refine Fun.okG F S (fun vs H Q E ⟨w, H1, x, dx, vr, ds, QD, EX, e, _, _, _, _, _, r, h, _⟩ => by rw [e, List.length_cons, ← r.length]; exact len _ _ _ h) fun cdv A outer s H vs Q E hg hr ⟨w, H1, x, dx, vr, ds, QD, EX, ev, nx, ndx, ne, eH, ok, r, h, k, lk⟩ => ⟨_, body cdv A outer s H E hg hr, ?_⟩
  subst ev
  have l1 : Le w H1 w H := by
    rw [eH]
    exact (Le.new ndx).trans (Le.new (by rw [upd_ne fun e => ne e.symm]; exact nx))
  have ok1 : Ok w H := by
    rw [eH]
    exact (ok.new ndx).new (by rw [upd_ne fun e => ne e.symm]; exact nx)
  have mx : Mine H1 w x := ⟨ok.none_hd nx, ok.none_jr nx, nx⟩
  have fr : Fr G w H1 (startI N x c ds) (L2.start N (.ref x :: vr)) w H := by
    have base := fr_start (N := N.drop 1) ok1 r
    refine ⟨ok1, l1, ?_, fun i y e => ?_, fun i j y z a e1 e2 o1 o2 _ _ => ?_⟩
    · unfold startI L2.start
      simp [r.length]
    · cases i with
      | zero =>
        unfold startI at e
        simp at e
        subst e
        unfold L2.start
        exact ⟨x, dx, [], by simp, mx, by rw [eH, upd_same], ⟨G.fld c, by simp⟩, by simp, Reps.nil, rfl⟩
      | succ i =>
        have e' : (startD (N.drop 1) ds)[i]? = some y := by
          unfold startI at e
          unfold startD
          simpa [Nat.sub_sub, Nat.add_comm] using e
        have := base.slot i y e'
        have e2 : (L2.start N (.ref x :: vr))[i + 1]? = (L2.start (N.drop 1) vr)[i]? := by
          unfold L2.start
          simp [Nat.sub_sub, Nat.add_comm]
        rw [e2]
        have noO : y.isOwn = false := by
          unfold startD at e'
          by_cases hn : i < ds.length
          · rw [List.getElem?_append_left (by simpa using hn), List.getElem?_map] at e'
            have hd : ds[i]? = some ds[i] := by simp [hn]
            rw [hd] at e'
            cases e'
            rfl
          · rw [List.getElem?_append_right (by simpa using hn), List.getElem?_replicate] at e'
            split at e'
            · cases e'; rfl
            · cases e'
        cases y with
        | un => trivial
        | val d => exact this
        | own _ => cases noO
        | ownd _ _ => cases noO
        | slf _ _ _ => cases noO
    · have zero : ∀ {n : Nat} {u : Sl}, (startI N x c ds)[n]? = some u → u.isOwn = true → n = 0 := fun {n u} en on => by
        cases n with
        | zero => rfl
        | succ n =>
          exfalso
          unfold startI at en
          rw [List.getElem?_cons_succ] at en
          by_cases hn : n < ds.length
          · rw [List.getElem?_append_left (by simpa using hn), List.getElem?_map] at en
            have hd : ds[n]? = some ds[n] := by simp [hn]
            rw [hd] at en
            cases en
            cases on
          · rw [List.getElem?_append_right (by simpa using hn), List.getElem?_replicate] at en
            split at en
            · cases en; cases on
            · cases en
      rw [zero e1 o1, zero e2 o2]
  refine ⟨w, H1, w, startI N x c ds, w, _, EX, fr, .refl w, lk, ?_, pure ds _ EX x h⟩
  refine ⟨fun r s w' H' fr5 _ q => ?_, fun d v w' H' l ok' rp q => q.elim, fun _ _ _ _ _ _ q => q.elim, fun _ _ _ _ _ _ q => q.elim, fun _ _ _ _ _ _ _ _ _ _ q => q.elim⟩
  match r, q, fr5 with
  | Sl.slf x' c' es :: rr, q, fr6 =>
    obtain ⟨rfl, rfl, hl, hq⟩ := q
    obtain ⟨a, dy, fs, e2, m, h1, ⟨l, hl2⟩, hz', rp, rfl⟩ := fr6.slot 0 _ rfl
    have el : l = [] := by
      have h3 := congrArg List.length hl2
      rw [List.length_append, List.length_map, ← hl, rp.length, List.length_map] at h3
      exact List.eq_nil_of_length_eq_zero (by omega)
    subst el
    rw [List.append_nil] at hl2
    exact k es fs w' H' dy fr6.le fr6.ok m h1 hl2.symm rp hq
end DL
/-! The data layer, part 14: own lists changed, jars, methods of texts and lists, a list taken apart. -/
namespace DL
open PySem L2 PyProof.Rows
variable {G : Gm} {X : Cx} {E : XK}

/-! ### x.append(e) -/
def sAppC (i : Nat) (A : FE) : FS := fun B EX r => match r[i]? with
  | some (.own ds) => ds.length < sizeLine ∧ A r (fun d => B.nx (r.set i (.own (ds ++ [d])))) EX
  | _ => False
theorem cs_app {i : Nat} {x : Str} {e : Expr} {p apos cpos pos : Pos} {A : FE} (he : PE X e (tD G E A)) (hN : X.N[i]? = some x := by rfl) (hv : Vis X.env.scope x := by first | exact Or.inl rfl | exact Or.inr (Or.inl rfl) | exact Or.inr (Or.inr rfl))
    (hs : starEach [e] X.env = (false, eval e X.env) :: starEach [] X.env := by rfl) (hplain : (backTo cpos (starEach [] X.env)).any (·.1) = false := by rfl)
    (hfew : ((backTo cpos (starEach [e] X.env)).all (fun x => !x.1) && (backToKw cpos (keywordEach [] X.env)).all (fun x => x.1.isSome)
      && decide ([e].length + ([] : List Keyword).length + (if ([] : List Keyword).isEmpty then 0 else 1) < 30)) = true := by rfl)
    (hbase : attributeBase (.Name x p) "append" X.env (eval (.Name x p) X.env) = eval (.Name x p) X.env := by rfl) (hline : (apos.endLine == cpos.line) = true := by rfl) (hd : (x == ("__debug__" : Str)) = false := by decide) (hcd : (x == ("__classdict__" : Str)) = false := by decide)
    (hsw : swapsWith (.Call (.Attribute (.Name x p) "append" apos) [e] [] cpos) none pos.line X.env = pure false := by rfl) :
    PS X (.Expr (.Call (.Attribute (.Name x p) "append" apos) [e] [] cpos) pos) (sD G E (sAppC i A)) :=
  PS.weak (ps_expr (pe_bm PySem.F.plainAttrs_list PySem.F.slot_list_append PySem.F.type_list_append mt_append (pe_var hN hv hd hcd) (pa_cons he pa_nil hs) hbase hfew hline hs hplain) hsw) fun B s H ⟨w0, H0, wk, r, w, A', EX, fr, sb, lk, ll, f0⟩ => by
  unfold sAppC at f0
  cases e1 : r[i]? with
  | none => rw [e1] at f0; exact f0.elim
  | some sl =>
    rw [e1] at f0
    cases sl <;> try exact f0.elim
    rename_i ds
    obtain ⟨hz, f0⟩ := f0
    obtain ⟨a, vs, q, m, h1, rp⟩ := fr.slot i _ e1
    refine ⟨_, q, ⟨.inl ⟨rfl, vs, .inl (.of h1)⟩, w0, H0, r, w, _, EX, fr, lk, f0, fun d v w1 H1 l1 ok1 r1 q1 => ?_⟩⟩
    have fr1 := fr.go l1 ok1
    obtain ⟨a', vs', q', m', h1', rp'⟩ := fr1.slot i _ e1
    rw [q] at q'
    cases q'
    refine ⟨a, vs', v, rfl, rfl, h1', by rw [← rp'.length]; exact hz, ?_⟩
    have fr2 := fr1.chg (y := .own (ds ++ [d])) (o := .lst (vs' ++ [v])) e1 rfl q m' (SlotOk.own m' upd_same (rp'.append (Reps.cons r1 Reps.nil)))
    exact ll.nx _ _ w1 _ fr2 (sb.trans l1.sub) q1

/-! ### jars -/
def fJar (A : FE) : FE := fun r Q EX => A r (fun d => match d with
  | .jar => ∀ n : Int, Q (.int n)
  | _ => False) EX
theorem ce_jar {a : Expr} {n : Int} {ip pos : Pos} {A : FE} {kk} (ha : PE X a (tD G E A)) (hn : n = 0 ∨ n = 1 ∨ n = 2) (hs : PlainIx (.Constant (.int n) kk ip) := by exact fun _ _ => rfl) : PE X (.Subscript a (.Constant (.int n) kk ip) pos) (tD G E (fJar A)) :=
  (pe_ix ix_list ha pe_int hs).weak fun s H Q ⟨w0, H0, r, w, QD, EX, fr, lk, f0, k⟩ => ⟨w0, H0, r, w, _, EX, fr, lk, f0, fun d v w1 H1 l1 ok1 r1 q1 => by
    cases d <;> try exact q1.elim
    obtain ⟨a, rfl, j⟩ := r1.jar_of
    obtain ⟨_, x, y, z, h⟩ := ok1.jar a j
    have fin : ∀ (v : Int), atI [V.int x, .int y, .int z] n = some (.int v) → ∃ p vs i u, V.ref a = .ref p ∧ V.int n = .int i ∧ SqL X.K H1 p vs ∧ atI vs i = some u ∧ Q u H1 := fun v e =>
      ⟨a, _, n, _, rfl, rfl, .inl (.of h), e, k _ _ w1 H1 l1 ok1 Rep.int (q1 v)⟩
    rcases hn with rfl | rfl | rfl
    · exact fin x rfl
    · exact fin y rfl
    · exact fin z rfl⟩
theorem Fr.jar {w0 : Wd} {H0 : Hp} {r : Env} {s : L2.St} {w : Wd} {H : Hp} {a : Addr} {o : HO} (f : Fr G w0 H0 r s w H) (j : w.ja a) (ho : ∃ d t c : Int, o = .lst [.int d, .int t, .int c]) : Fr G w0 H0 r s w (upd H a o) where
  ok := by
    have jr := (f.ok.jar a j).1
    obtain ⟨hn, _⟩ := f.ok.jn a jr
    refine ⟨fun b u e => ?_, fun b jb => ?_, fun b jb => ?_, fun q m => ?_⟩
    · rw [upd_ne (ne_of_none e hn)]; exact f.ok.sub b u e
    · obtain ⟨e, z⟩ := f.ok.jn b jb
      refine ⟨e, ?_⟩
      by_cases q : b = a
      · subst q; rw [upd_same]; exact fun y => by cases y
      · rw [upd_ne q]; exact z
    · obtain ⟨e, d, t, c, z⟩ := f.ok.jar b jb
      by_cases q : b = a
      · subst q
        obtain ⟨d, t, c, eo⟩ := ho
        exact ⟨e, d, t, c, by rw [upd_same, eo]⟩
      · exact ⟨e, d, t, c, by rw [upd_ne q]; exact z⟩
    · obtain ⟨e, t⟩ := f.ok.tab q m
      refine ⟨e, t.go (upd_ne fun y => ?_) fun _ _ z => z⟩
      obtain ⟨ps, z, _⟩ := t
      obtain ⟨_, _, _, _, z2⟩ := f.ok.jar a j
      rw [y, z2] at z; cases z
  le := by
    refine ⟨f.le.sub, fun b u e nj => ?_, f.le.old, f.le.oldh, fun b e => ?_⟩
    · by_cases q : b = a
      · subst q
        exact absurd (f.le.old b (by rw [e]; exact fun z => by cases z) (f.ok.jar b j).1) nj
      · rw [upd_ne q]; exact f.le.keep b u e nj
    · by_cases q : b = a
      · subst q; rw [upd_same]; exact fun z => by cases z
      · rw [upd_ne q]; exact f.le.dom b e
  len := f.len
  slot := fun i x e => by
    have h := f.slot i x e
    have ne : ∀ b, Mine H0 w b → b ≠ a := fun b m e => m.2.1 (by rw [e]; exact (f.ok.jar a j).1)
    cases x with
    | un => trivial
    | val d => exact h
    | own ds => obtain ⟨b, vs, e2, m, h1, r1⟩ := h; exact ⟨b, vs, e2, m, by rw [upd_ne (ne b m)]; exact h1, r1⟩
    | ownd ks ds => obtain ⟨b, vs, e2, m, h1, r1⟩ := h; exact ⟨b, vs, e2, m, by rw [upd_ne (ne b m)]; exact h1, r1⟩
    | slf x c ds => obtain ⟨b, dx, fs, e2, m, h1, r1⟩ := h; exact ⟨b, dx, fs, e2, m, by rw [upd_ne (ne b m)]; exact h1, r1⟩
  dist := f.dist
def sJar (i : Nat) (A : FE) : FS := fun B EX r => A r (fun d => match d with
  | .int _ => (match r[i]? with
    | some (.val .jar) => B.nx r
    | _ => False)
  | _ => False) EX
theorem cs_jar {i : Nat} {x : Str} {e : Expr} {n : Int} {p ip spos pos : Pos} {kk} {A : FE} (he : PE X e (tD G E A)) (hn : n = 0 ∨ n = 1 ∨ n = 2) (hN : X.N[i]? = some x := by rfl) (hv : Vis X.env.scope x := by first | exact Or.inl rfl | exact Or.inr (Or.inl rfl) | exact Or.inr (Or.inr rfl))
    (hd : (x == ("__debug__" : Str)) = false := by decide) (hcd : (x == ("__classdict__" : Str)) = false := by decide)
    (ha : ∀ v, assign (.Subscript (.Name x p) (.Constant (.int n) kk ip) spos) X.env v = (do
      let ov ← holding [v] (eval (.Name x p) X.env)
      let iv ← holding [v, ov] (eval (.Constant (.int n) kk ip) X.env)
      standAt spos
      holding [v, ov, iv] (setItem ov iv v)
      release [v, ov, iv] []) := by intro _; rfl)
    (hs : swapsWithSole [.Subscript (.Name x p) (.Constant (.int n) kk ip) spos] e pos.line X.env = pure false := by rfl) (hw : swappedStores [.Subscript (.Name x p) (.Constant (.int n) kk ip) spos] e X.env = pure none := by rfl)
    (h1 : (assignEach [.Subscript (.Name x p) (.Constant (.int n) kk ip) spos] X.env).map (·.2) = [assign (.Subscript (.Name x p) (.Constant (.int n) kk ip) spos) X.env] := by rfl) :
    PS X (.Assign [.Subscript (.Name x p) (.Constant (.int n) kk ip) spos] e pos) (sD G E (sJar i A)) :=
  (ps_asg he (pg_sub (pe_var hN hv hd hcd) pe_int set_list ha) hs hw h1).weak fun B s H ⟨w0, H0, wk, r, w, A', EX, fr, sb, lk, ll, f0⟩ => ⟨w0, H0, r, w, _, EX, fr, lk, f0, fun d v w1 H1 l1 ok1 r1 q1 => by
    cases d <;> try exact q1.elim
    rename_i m
    dsimp only at q1
    have fr1 := fr.go l1 ok1
    cases e1 : r[i]? with
    | none => rw [e1] at q1; exact q1.elim
    | some sl =>
      rw [e1] at q1
      cases sl <;> try exact q1.elim
      rename_i d
      cases d <;> try exact q1.elim
      obtain ⟨u, e2, ru⟩ := fr1.slot i _ e1
      obtain ⟨a, rfl, j⟩ := ru.jar_of
      obtain ⟨_, x0, y0, z0, h⟩ := ok1.jar a j
      have ev := r1.int_of
      subst ev
      have fin : ∀ jn, ixN 3 n = some jn → (∃ d t c : Int, (HO.lst ([V.int x0, .int y0, .int z0].set jn (.int m))) = .lst [.int d, .int t, .int c]) → _ := fun jn e3 e4 =>
        (⟨.ref a, e2, ⟨a, [V.int x0, .int y0, .int z0], n, jn, rfl, rfl, h, e3, ll.nx _ _ w1 _ (fr1.jar j e4) (sb.trans l1.sub) q1⟩⟩ : gSub (tVar i) (tC (.int n)) rSetL (.int m) s H1 fun s' H' => B.nx s' H')
      rcases hn with rfl | rfl | rfl
      · exact fin 0 rfl ⟨_, _, _, rfl⟩
      · exact fin 1 rfl ⟨_, _, _, rfl⟩
      · exact fin 2 rfl ⟨_, _, _, rfl⟩⟩
/-- return [d, s, c]: a new jar -/
def sRetJar (F : FA) : FS := fun A EX r => F r (fun ds => match ds with
  | [.int _, .int _, .int _] => A.rt .jar
  | _ => False) EX
theorem cs_retJar {e : Expr} {pos : Pos} {F : FA} (he : PE X e (fD G E F)) : PS X (.Return (some e) pos) (sD G E (sRetJar F)) := (ps_ret he).weak fun B s H ⟨w0, H0, wk, r, w, A, EX, fr, sb, lk, ll, f⟩ =>
  ⟨w0, H0, r, w, _, EX, fr, lk, f, fun ds a vs w1 H1 l1 ok1 hn m h1 r1 q1 => by
    match ds, q1 with
    | [.int x, .int y, .int z], q1 =>
      have ev := Reps.ints (ns := [x, y, z]) r1
      subst ev
      have l := fr.le.trans l1
      refine ll.rt .jar _ ⟨w1.hd, fun b => b = a ∨ w1.jr b, fun b => b = a ∨ w1.ja b, w1.tb⟩ H1 ⟨⟨l.sub.hd, fun b j => .inr (l.sub.jr b j), fun b j => .inr (l.sub.ja b j), l.sub.tb⟩, l.keep, fun b h j => ?_, l.oldh, l.dom⟩ ⟨ok1.sub, fun b j => ?_, fun b j => ?_, fun q m => ?_⟩ ?_ q1
      · rcases j with rfl | j
        · exact absurd m.2.2 h
        · exact l.old b h j
      · rcases j with rfl | j
        · exact ⟨m.1, by rw [h1]; exact fun z => by cases z⟩
        · exact ok1.jn b j
      · rcases j with rfl | j
        · exact ⟨.inl rfl, x, y, z, h1⟩
        · obtain ⟨e, r⟩ := ok1.jar b j
          exact ⟨.inr e, r⟩
      · obtain ⟨e, t⟩ := ok1.tab q m
        exact ⟨.inr e, t.go rfl fun _ _ z => z⟩
      · unfold Rep
        exact ⟨a, rfl, .inl rfl⟩⟩

/-! ### methods of texts, lists -/
def fStr1 (g : Str → D → (D → Prop) → Prop) (A B : FE) : FE := fun r Q EX => A r (fun x => match x with
  | .str a => B r (fun y => g a y Q) EX
  | _ => False) EX
def StL (G : Gm) (X : Cx) (id : String) (g : Str → D → (D → Prop) → Prop) : Prop := ∃ r, MtR X id r ∧ ∀ H0 w H a y v Q (QD : D → Prop), Ok w H → See G H0 w H y v → g a y QD → (∀ d z w' H', Le w H w' H' → Ok w' H' → Rep G w' d z → QD d → Q z H') → r (.str a) [v] H Q
theorem ce_str1 {id : String} {name : Str} {o e : Expr} {apos pos : Pos} {A B : FE} {g : Str → D → (D → Prop) → Prop} (slot : PySem.Slot "str" name id) (ty : typeOf (.builtin id) = pure (.type "method_descriptor")) (hg : StL G X id g) (ho : PE X o (bD G E A)) (he : PE X e (bD G E B))
    (hs : starEach [e] X.env = [(false, eval e X.env)] := by rfl) (hbase : attributeBase o name X.env (eval o X.env) = eval o X.env := by rfl) (hline : (apos.endLine == pos.line) = true := by rfl) : PE X (.Call (.Attribute o name apos) [e] [] pos) (tD G E (fStr1 g A B)) := by
  obtain ⟨rr, hr, k0⟩ := hg
  refine (pe_m1 slot ty hr ho he hs hbase hline).weak fun s H Q ⟨w0, H0, r, w, QD, EX, fr, lk, f, k⟩ => ?_
  refine ⟨w0, H0, r, w, _, EX, fr, lk, f, fun x v w1 H1 l1 ok1 s1 q1 => ?_⟩
  cases x <;> try exact q1.elim
  rename_i a
  cases s1.str_of
  exact ⟨⟨a, rfl⟩, w0, H0, r, w1, _, EX, fr.go l1 ok1, lk, q1, fun y u w2 H2 l2 ok2 s2 q2 => k0 H0 w2 H2 a y u Q QD ok2 s2 q2 fun d z w3 H3 l3 ok3 r3 q3 => k d z w3 H3 ((l1.trans l2).trans l3) ok3 r3 q3⟩
def joinD (a : Str) (y : D) (Q : D → Prop) : Prop := match y with
  | .lst ds => (match strsOf ds with
    | some ys => (ys.map (·.length)).sum + ys.length * a.length ≤ 16777216 ∧ Q (.str (Txt.join a ys))
    | none => False)
  | .tup ds => (match strsOf ds with
    | some ys => (ys.map (·.length)).sum + ys.length * a.length ≤ 16777216 ∧ Q (.str (Txt.join a ys))
    | none => False)
  | _ => False
theorem stl_join (hK : X.K = G.K := by rfl) : StL G X "str.join" joinD := by
  refine ⟨_, mt_join, fun H0 w H a y v Q QD ok s g k => ?_⟩
  cases y <;> try exact g.elim
  · rename_i ds
    obtain ⟨p, vs, rfl, sq, r⟩ := s.tup_of ok
    unfold joinD at g
    dsimp only at g
    cases e : strsOf ds with
    | none => rw [e] at g; exact g.elim
    | some ys =>
      rw [e] at g
      rw [strsOf_eq e] at r
      rw [r.strs] at sq
      exact ⟨a, p, ys, rfl, rfl, .inr (hK ▸ sq), g.1, k _ _ w H (.refl w H) ok Rep.str g.2⟩
  · rename_i ds
    obtain ⟨p, vs, rfl, sq, r⟩ := s.lst_of ok
    unfold joinD at g
    dsimp only at g
    cases e : strsOf ds with
    | none => rw [e] at g; exact g.elim
    | some ys =>
      rw [e] at g
      rw [strsOf_eq e] at r
      rw [r.strs] at sq
      exact ⟨a, p, ys, rfl, rfl, .inl (hK ▸ sq.sql), g.1, k _ _ w H (.refl w H) ok Rep.str g.2⟩
theorem ce_join {o e : Expr} {apos pos : Pos} {A B : FE} (ho : PE X o (bD G E A)) (he : PE X e (bD G E B)) (hK : X.K = G.K := by rfl) (hs : starEach [e] X.env = [(false, eval e X.env)] := by rfl)
    (hbase : attributeBase o "join" X.env (eval o X.env) = eval o X.env := by rfl) (hline : (apos.endLine == pos.line) = true := by rfl) : PE X (.Call (.Attribute o "join" apos) [e] [] pos) (tD G E (fStr1 joinD A B)) := ce_str1 PySem.F.slot_str_join PySem.F.type_str_join (stl_join hK) ho he hs hbase hline
end DL
/-! What the readings compute: a run over data, part 1. -/
namespace DL
open PySem L2 PyProof.Rows

inductive R (α : Type) where
  | ok (a : α)
  | ex (x : XD)
  | no
def R.hold {α : Type} : R α → (α → Prop) → XP → Prop
  | .ok a, Q, _ => Q a
  | .ex x, _, EX => EX x
  | .no, _, _ => False
def R.bind {α β : Type} : R α → (α → R β) → R β
  | .ok a, f => f a
  | .ex x, _ => .ex x
  | .no, _ => .no
theorem hold_bind {α β : Type} {m : R α} {f : α → R β} {Q : β → Prop} {EX : XP} (h : (m.bind f).hold Q EX) : m.hold (fun a => (f a).hold Q EX) EX := by
  cases m <;> exact h
theorem R.hold.imp {α : Type} {m : R α} {Q Q' : α → Prop} {EX : XP} (h : m.hold Q EX) (k : ∀ a, Q a → Q' a) : m.hold Q' EX := by
  cases m with
  | ok a => exact k a h
  | ex x => exact h
  | no => exact h
def R.ofO {α : Type} : Option α → R α
  | some a => .ok a
  | none => .no
theorem hold_ofO {α : Type} {o : Option α} {Q : α → Prop} {EX : XP} (h : (R.ofO o).hold Q EX) : ∃ a, o = some a ∧ Q a := by
  cases o with
  | none => exact h.elim
  | some a => exact ⟨a, rfl, h⟩
/-! ### values made plain ahead of their use (no law is changed by it: it is how the kernel reckons) -/
section
variable {β : Type}
def frcN : List Nat → (List Nat → β) → β
  | [], k => k []
  | x :: xs, k => frcN xs fun ys => k (x :: ys)
theorem frcN_eq : ∀ (l : List Nat) (k : List Nat → β), frcN l k = k l
  | [], k => rfl
  | x :: xs, k => by unfold frcN; rw [frcN_eq xs]
def frcS : Str → (Str → β) → β
  | ⟨⟨l⟩⟩, k => frcN l fun l' => k ⟨⟨l'⟩⟩
theorem frcS_eq : ∀ (l : Str) (k : Str → β), frcS l k = k l
  | ⟨⟨l⟩⟩, k => by show (frcN l fun l' => k ⟨⟨l'⟩⟩) = _; rw [frcN_eq]
mutual
def frc : D → (D → β) → β
  | .non, k => k .non
  | .bl true, k => k (.bl true)
  | .bl false, k => k (.bl false)
  | .int (.ofNat n), k => k (.int (.ofNat n))
  | .int (.negSucc n), k => k (.int (.negSucc n))
  | .str s, k => frcS s fun t => k (.str t)
  | .tup ds, k => frcs ds fun es => k (.tup es)
  | .lst ds, k => frcs ds fun es => k (.lst es)
  | .dic ks ds, k => frcs ds fun es => k (.dic ks es)
  | .obj c ds, k => frcs ds fun es => k (.obj c es)
  | .exc c ds, k => frcs ds fun es => k (.exc c es)
  | .jar, k => k .jar
def frcs : List D → (List D → β) → β
  | [], k => k []
  | d :: ds, k => frc d fun e => frcs ds fun es => k (e :: es)
end
mutual
theorem frc_eq : ∀ (d : D) (k : D → β), frc d k = k d
  | .non, k => by unfold frc; rfl
  | .bl true, k => by unfold frc; rfl
  | .bl false, k => by unfold frc; rfl
  | .int (.ofNat n), k => by unfold frc; rfl
  | .int (.negSucc n), k => by unfold frc; rfl
  | .str s, k => by unfold frc; rw [frcS_eq]
  | .tup ds, k => by unfold frc; rw [frcs_eq]
  | .lst ds, k => by unfold frc; rw [frcs_eq]
  | .dic ks ds, k => by unfold frc; rw [frcs_eq]
  | .obj c ds, k => by unfold frc; rw [frcs_eq]
  | .exc c ds, k => by unfold frc; rw [frcs_eq]
  | .jar, k => by unfold frc; rfl
theorem frcs_eq : ∀ (d : List D) (k : List D → β), frcs d k = k d
  | [], k => by unfold frcs; rfl
  | d :: ds, k => by unfold frcs; rw [frc_eq, frcs_eq]
end
end
/-- order of code points, quick -/
def ltN : List Nat → List Nat → Bool
  | [], [] => false
  | [], _ :: _ => true
  | _ :: _, [] => false
  | a :: r, b :: t => match Nat.blt a b with
    | true => true
    | false => match Nat.beq a b with
      | true => ltN r t
      | false => false
theorem ltN_eq : ∀ a b : List Nat, ltN a b = decide (a < b)
  | [], [] => by simp [ltN]
  | [], _ :: _ => by simp [ltN]
  | _ :: _, [] => by simp [ltN]
  | a :: r, b :: t => by
    have ih := ltN_eq r t
    unfold ltN
    have e : decide (a :: r < b :: t) = (decide (a < b) || (decide (a = b) && decide (r < t))) := by
      rw [Bool.eq_iff_iff]
      simp [List.cons_lt_cons_iff]
    rw [e, ← ih]
    have h1 : Nat.blt a b = decide (a < b) := by
      rw [Bool.eq_iff_iff]; simp [Nat.blt_eq]
    have h2 : Nat.beq a b = decide (a = b) := by
      rw [Bool.eq_iff_iff]; simp
    rw [h1, h2]
    cases decide (a < b) <;> cases decide (a = b) <;> rfl
def ltF (i j : Str) : Bool := ltN i.cps.toList j.cps.toList
theorem ltF_eq : ltF = ltS := by
  funext i j
  exact ltN_eq _ _
/-- a place, quick -/
def atF {α : Type} (xs : List α) : Int → Option α
  | .ofNat n => xs[n]?
  | .negSucc n => if n < xs.length then xs[xs.length - 1 - n]? else none
theorem atF_eq {α : Type} (xs : List α) (i : Int) : atF xs i = atI xs i := by
  cases i with
  | ofNat n =>
    show xs[n]? = (ixN xs.length ((n : Nat) : Int)).bind fun j => xs[j]?
    unfold ixN
    rw [if_pos (Int.natCast_nonneg n)]
    by_cases h : n < xs.length
    · rw [if_pos (by omega)]
      simp
    · rw [if_neg (by omega), List.getElem?_eq_none (by omega)]
      rfl
  | negSucc n =>
    show (if n < xs.length then xs[xs.length - 1 - n]? else none) = (ixN xs.length (Int.negSucc n)).bind fun j => xs[j]?
    unfold ixN
    have e : (Int.negSucc n : Int) = -((n : Int) + 1) := by omega
    have neg : ¬ (0 ≤ Int.negSucc n) := by omega
    by_cases h : n < xs.length
    · rw [if_pos h, if_neg neg, if_pos (by omega)]
      show xs[xs.length - 1 - n]? = xs[(Int.negSucc n + (xs.length : Int)).toNat]?
      congr 1
      omega
    · rw [if_neg h, if_neg neg, if_neg (by omega)]
      rfl

/-- the same envs, the object that is being made at x -/
def adr (x : Addr) : Sl → Sl
  | .slf _ c ds => .slf x c ds
  | y => y
def Sim (x : Addr) (r r' : Env) : Prop := r' = r.map (adr x)
section
variable {x : Addr} {r r' : Env}
theorem Sim.at (h : Sim x r r') (i : Nat) : r'[i]? = (r[i]?).map (adr x) := by
  rw [show r' = r.map (adr x) from h, List.getElem?_map]
theorem Sim.set (h : Sim x r r') (i : Nat) (y : Sl) (hy : adr x y = y := by rfl) : Sim x (r.set i y) (r'.set i y) := by
  unfold Sim
  rw [List.map_set, hy, show r' = r.map (adr x) from h]
theorem Sim.val (h : Sim x r r') {i : Nat} {d : D} (e : r[i]? = some (.val d)) : r'[i]? = some (.val d) := by rw [h.at i, e]; rfl
theorem Sim.own (h : Sim x r r') {i : Nat} {ds : List D} (e : r[i]? = some (.own ds)) : r'[i]? = some (.own ds) := by rw [h.at i, e]; rfl
theorem Sim.ownd (h : Sim x r r') {i : Nat} {ks : List Key} {ds : List D} (e : r[i]? = some (.ownd ks ds)) : r'[i]? = some (.ownd ks ds) := by rw [h.at i, e]; rfl
theorem Sim.slf (h : Sim x r r') {i : Nat} {y : Addr} {c : Nat} {ds : List D} (e : r[i]? = some (.slf y c ds)) : r'[i]? = some (.slf x c ds) := by rw [h.at i, e]; rfl
theorem Sim.setSlf (h : Sim x r r') (i : Nat) (y : Addr) (c : Nat) (ds : List D) : Sim x (r.set i (.slf y c ds)) (r'.set i (.slf x c ds)) := by
  unfold Sim
  rw [List.map_set, show r' = r.map (adr x) from h]
  rfl
theorem Sim.wipe (h : Sim x r r') : ∀ vs : List Nat, Sim x (wipeD r vs) (wipeD r' vs)
  | [] => h
  | v :: vs => (Sim.wipe h vs).set v .un
theorem map_adr_vals {ds : List D} {n : Nat} : (ds.map Sl.val ++ List.replicate n Sl.un).map (adr x) = ds.map Sl.val ++ List.replicate n Sl.un := by
  rw [List.map_append, List.map_map, List.map_replicate]
  rfl
theorem Sim.startD {N : List Str} {ds : List D} : Sim x (startD N ds) (startD N ds) := by
  unfold Sim DL.startD
  rw [map_adr_vals]
theorem Sim.startI {N : List Str} {c : Nat} {ds : List D} {y : Addr} : Sim x (startI N y c ds) (startI N x c ds) := by
  unfold Sim DL.startI
  rw [List.map_cons, map_adr_vals]
  rfl
end
def CF {α : Type} (F : Env → (α → Prop) → XP → Prop) (c : Env → R α) : Prop := ∀ {x : Addr} r r' Q EX, Sim x r r' → (c r).hold Q EX → F r' Q EX

/-! ### names, constants -/
def xVar (i : Nat) (r : Env) : R D := match r[i]? with
  | some (.val d) => .ok d
  | _ => .no
def xSee (i : Nat) (r : Env) : R D := match r[i]? with
  | some (.val d) => .ok d
  | some (.own ds) => .ok (.lst ds)
  | some (.ownd ks ds) => .ok (.dic ks ds)
  | _ => .no
def xC (d : D) (_ : Env) : R D := .ok d
theorem f_var {i : Nat} : CF (fVar i) (xVar i) := fun r r' Q EX s h => by
  unfold xVar at h
  unfold fVar
  cases e : r[i]? with
  | none => rw [e] at h; exact h.elim
  | some x =>
    rw [e] at h
    cases x <;> try exact h.elim
    rw [s.val e]
    exact h
theorem f_see {i : Nat} : CF (fSee i) (xSee i) := fun r r' Q EX s h => by
  unfold xSee at h
  unfold fSee
  cases e : r[i]? with
  | none => rw [e] at h; exact h.elim
  | some x =>
    rw [e] at h
    cases x <;> try exact h.elim
    · rw [s.val e]; exact h
    · rw [s.own e]; exact h
    · rw [s.ownd e]; exact h
theorem f_c {d : D} : CF (fC d) (xC d) := fun r r' Q EX s h => h

/-! ### operators -/
def gd (p : Prop) [Decidable p] (a : D) : Option D := if p then some a else none
theorem gd_some {p : Prop} [Decidable p] {a d : D} (h : gd p a = some d) : p ∧ a = d := by
  unfold gd at h
  by_cases q : p
  · rw [if_pos q] at h; exact ⟨q, Option.some.inj h⟩
  · rw [if_neg q] at h; cases h
abbrev O2 := D → D → Option D
def CG2 (g : G2) (c : O2) : Prop := ∀ x y d Q, c x y = some d → Q d → g x y Q
def x2 (c : O2) (a b : Env → R D) (r : Env) : R D := (a r).bind fun x => (b r).bind fun y => R.ofO (c x y)
theorem f_2 {g : G2} {c : O2} {A B : FE} {a b : Env → R D} (hg : CG2 g c) (ha : CF A a) (hb : CF B b) : CF (f2 g A B) (x2 c a b) := fun r r' Q EX s h =>
  ha r r' _ EX s ((hold_bind h).imp fun x h1 => hb r r' _ EX s ((hold_bind h1).imp fun y h2 => by
    obtain ⟨d, e, q⟩ := hold_ofO h2
    exact hg x y d Q e q))
def addX : O2
  | .int i, .int j => some (.int (i + j))
  | .str i, .str j => gd (i.length + j.length ≤ sizeLine) (.str (i ++ j))
  | .tup a, .tup b => gd (a.length + b.length ≤ sizeLine) (.tup (a ++ b))
  | .lst a, .lst b => gd (a.length + b.length ≤ sizeLine) (.lst (a ++ b))
  | _, _ => none
theorem g_add : CG2 addD addX := fun x y d Q e q => by
  cases x <;> cases y <;> first | (cases e; done) | skip
  · cases e; exact q
  all_goals
    obtain ⟨h, rfl⟩ := gd_some e
    exact ⟨h, q⟩
def intX (C : Int → Int → Prop) [∀ i j, Decidable (C i j)] (f : Int → Int → D) : O2
  | .int i, .int j => gd (C i j) (f i j)
  | _, _ => none
theorem g_int {C : Int → Int → Prop} [∀ i j, Decidable (C i j)] {f : Int → Int → D} : CG2 (intD C f) (intX C f) := fun x y d Q e q => by
  cases x <;> cases y <;> first | (cases e; done) | skip
  obtain ⟨h, rfl⟩ := gd_some e
  exact ⟨h, q⟩
instance decMul (i j : Int) : Decidable (CMul i j) := by unfold CMul; exact inferInstance
instance decDivN (i j : Int) : Decidable (CDivN i j) := by unfold CDivN; exact inferInstance
instance decPow (i j : Int) : Decidable (CPow i j) := by unfold CPow; exact inferInstance
abbrev powX : O2 := intX CPow fun i j => .int (i ^ j.toNat)
theorem g_pow : CG2 powD powX := g_int
def ordX (p : Int → Int → Bool) (q : Str → Str → Bool) : O2
  | .int i, .int j => some (.bl (p i j))
  | .str i, .str j => some (.bl (q i j))
  | _, _ => none
theorem g_ord {p : Int → Int → Bool} {q : Str → Str → Bool} : CG2 (ordD p q) (ordX p q) := fun x y d Q e h => by
  cases x <;> cases y <;> first | (cases e; done) | (cases e; exact h)
abbrev leX : O2 := ordX (fun i j => decide (i ≤ j)) fun i j => !ltF j i
abbrev gtX : O2 := ordX (fun i j => decide (j < i)) fun i j => ltF j i
theorem g_le : CG2 leD leX := by
  unfold leX
  rw [ltF_eq]
  exact g_ord
theorem g_gt : CG2 gtD gtX := by
  unfold gtX
  rw [ltF_eq]
  exact g_ord
def shpB (d : D) : Bool := plain d && SeqAt.shaped (pd d)
theorem shpB_iff {d : D} (h : shpB d = true) : shp d := by
  unfold shpB at h
  rw [Bool.and_eq_true] at h
  exact h
def eqX : O2 := fun x y => match bothS x y with
  | some b => some (.bl b)
  | none => gd ((shpB x && shpB y) = true) (.bl (eqb x y))
def neX : O2 := fun x y => match bothS x y with
  | some b => some (.bl (!b))
  | none => gd ((shpB x && shpB y) = true) (.bl (!eqb x y))
theorem g_eq : CG2 eqD eqX := fun x y d Q e q => by
  unfold eqX at e
  unfold eqD
  cases z : bothS x y with
  | some b => rw [z] at e; cases e; exact q
  | none =>
    rw [z] at e
    obtain ⟨h, rfl⟩ := gd_some e
    rw [Bool.and_eq_true] at h
    exact ⟨shpB_iff h.1, shpB_iff h.2, q⟩
theorem g_ne : CG2 neD neX := fun x y d Q e q => by
  unfold neX at e
  unfold neD
  cases z : bothS x y with
  | some b => rw [z] at e; cases e; exact q
  | none =>
    rw [z] at e
    obtain ⟨h, rfl⟩ := gd_some e
    rw [Bool.and_eq_true] at h
    exact ⟨shpB_iff h.1, shpB_iff h.2, q⟩
def inX (neg : Bool) : O2 := fun x y => match y with
  | .tup ds => gd ((flatD x && ds.all flatD) = true) (.bl (neg != ds.any fun z => eqb z x))
  | .lst ds => gd ((shpB x && shpB (.lst ds)) = true) (.bl (neg != ds.any fun z => eqb z x))
  | .str z => match x with
    | .str c => match c.cps.toList with
      | [n] => some (.bl (neg != decide (n ∈ z.cps.toList)))
      | _ => none
    | _ => none
  | .dic ks _ => match x with
    | .str c => some (.bl (neg != ks.any fun k => decide (k = Sum.inr c)))
    | .int c => some (.bl (neg != ks.any fun k => decide (k = Sum.inl c)))
    | _ => none
  | _ => none
theorem str_one {c : Str} {n : Nat} (h : c.cps.toList = [n]) : c = ⟨#[n]⟩ := by
  cases c with
  | mk a =>
    have : a = #[n] := Array.toList_inj.mp h
    rw [this]
theorem g_in {neg : Bool} : CG2 (inD neg) (inX neg) := fun x y d Q e q => by
  cases y <;> first | (cases e; done) | skip
  · rename_i z
    cases x <;> first | (cases e; done) | skip
    rename_i c
    unfold inX at e
    dsimp only at e
    match h : c.cps.toList, e with
    | [n], e => cases e; exact ⟨n, str_one h, q⟩
  · obtain ⟨h, rfl⟩ := gd_some e
    rw [Bool.and_eq_true] at h
    exact ⟨h.1, h.2, q⟩
  · obtain ⟨h, rfl⟩ := gd_some e
    rw [Bool.and_eq_true] at h
    exact ⟨shpB_iff h.1, shpB_iff h.2, q⟩
  · cases x <;> first | (cases e; done) | (cases e; exact q)
def ixX : O2 := fun x y => match x, y with
  | .tup ds, .int i => atF ds i
  | .lst ds, .int i => atF ds i
  | .str z, .int i => (atF z.cps.toList i).bind fun c => if Nat.ble z.length 16777216 = true then some (.str ⟨#[c]⟩) else none
  | .dic ks ds, y => (keyD y).bind fun k => dget ks ds k
  | _, _ => none
theorem g_ix : CG2 ixD ixX := fun x y d Q e q => by
  cases x <;> first | (cases e; done) | (cases y <;> (cases e; done)) | skip
  · rename_i z
    cases y <;> first | (cases e; done) | skip
    rename_i i
    obtain ⟨c, h1, h2⟩ := Option.bind_eq_some_iff.mp (show (atF z.cps.toList i).bind (fun c => if Nat.ble z.length 16777216 = true then some (D.str ⟨#[c]⟩) else none) = some d from e)
    by_cases hz : Nat.ble z.length 16777216 = true
    · rw [if_pos hz] at h2
      cases h2
      rw [atF_eq] at h1
      exact ⟨i, c, rfl, by rw [sizeLine_eq]; exact Nat.le_of_ble_eq_true hz, h1, q⟩
    · rw [if_neg hz] at h2; cases h2
  · cases y <;> first | (cases e; done) | skip
    exact ⟨_, d, rfl, by rw [← atF_eq]; exact e, q⟩
  · cases y <;> first | (cases e; done) | skip
    exact ⟨_, d, rfl, by rw [← atF_eq]; exact e, q⟩
  · rename_i ks ds
    obtain ⟨k, h1, h2⟩ := Option.bind_eq_some_iff.mp (show (keyD y).bind (fun k => dget ks ds k) = some d from e)
    exact ⟨k, d, h1, h2, q⟩
end DL
/-! What the readings compute: a run over data, part 2. -/
namespace DL
open PySem L2 PyProof.Rows

/-! ### tests, chains, and or not if -/
def xTb (a : Env → R D) (r : Env) : R Bool := (a r).bind fun d => match d with
  | .bl b => .ok b
  | _ => .no
theorem f_tb {A : FE} {a : Env → R D} (ha : CF A a) : CF (fTb A) (xTb a) := fun r r' Q EX s h => ha r r' _ EX s ((hold_bind h).imp fun d h1 => by
  cases d <;> first | exact h1.elim | exact ⟨_, rfl, h1⟩)
def xChain (c c' : O2) (a b e : Env → R D) (r : Env) : R D := (a r).bind fun x => (b r).bind fun y => match c x y with
  | some (.bl true) => (e r).bind fun u => R.ofO (c' y u)
  | some (.bl false) => .ok (.bl false)
  | _ => .no
theorem f_chain {g g' : G2} {c c' : O2} {A B C : FE} {a b e : Env → R D} (hg : CG2 g c) (hg' : CG2 g' c') (ha : CF A a) (hb : CF B b) (he : CF C e) : CF (fChain g g' A B C) (xChain c c' a b e) := fun r r' Q EX s h =>
  ha r r' _ EX s ((hold_bind h).imp fun x h1 => hb r r' _ EX s ((hold_bind h1).imp fun y h2 => by
    cases z : c x y with
    | none => rw [z] at h2; exact h2.elim
    | some d =>
      rw [z] at h2
      cases d <;> try exact h2.elim
      rename_i v
      refine hg x y _ _ z ⟨v, rfl, ?_⟩
      cases v with
      | false => rw [if_neg Bool.false_ne_true]; exact h2
      | true =>
        rw [if_pos rfl]
        exact he r r' _ EX s ((hold_bind h2).imp fun u h3 => by
          obtain ⟨d, e2, q⟩ := hold_ofO h3
          exact hg' y u d Q e2 q)))
def xAndT (a b : Env → R Bool) (r : Env) : R Bool := (a r).bind fun v => if v = true then b r else .ok false
def xOrT (a b : Env → R Bool) (r : Env) : R Bool := (a r).bind fun v => if v = true then .ok true else b r
def xNotT (a : Env → R Bool) (r : Env) : R Bool := (a r).bind fun v => .ok (!v)
theorem f_andT {A B : FT} {a b : Env → R Bool} (ha : CF A a) (hb : CF B b) : CF (fAndT A B) (xAndT a b) := fun r r' Q EX s h => ha r r' _ EX s ((hold_bind h).imp fun v h1 => by
  cases v with
  | true => rw [if_pos rfl] at h1 ⊢; exact hb r r' Q EX s h1
  | false => rw [if_neg Bool.false_ne_true] at h1 ⊢; exact h1)
theorem f_orT {A B : FT} {a b : Env → R Bool} (ha : CF A a) (hb : CF B b) : CF (fOrT A B) (xOrT a b) := fun r r' Q EX s h => ha r r' _ EX s ((hold_bind h).imp fun v h1 => by
  cases v with
  | true => rw [if_pos rfl] at h1 ⊢; exact h1
  | false => rw [if_neg Bool.false_ne_true] at h1 ⊢; exact hb r r' Q EX s h1)
theorem f_notT {A : FT} {a : Env → R Bool} (ha : CF A a) : CF (fNotT A) (xNotT a) := fun r r' Q EX s h => ha r r' _ EX s ((hold_bind h).imp fun v h1 => h1)
def xAnd (a b : Env → R D) (r : Env) : R D := (a r).bind fun d => match d with
  | .bl v => if v = true then b r else .ok (.bl false)
  | _ => .no
def xNot (a : Env → R D) (r : Env) : R D := (a r).bind fun d => match d with
  | .bl v => .ok (.bl (!v))
  | _ => .no
def xIf (t : Env → R Bool) (a b : Env → R D) (r : Env) : R D := (t r).bind fun v => if v = true then a r else b r
theorem f_and {A B : FE} {a b : Env → R D} (ha : CF A a) (hb : CF B b) : CF (fAnd A B) (xAnd a b) := fun r r' Q EX s h => ha r r' _ EX s ((hold_bind h).imp fun d h1 => by
  cases d <;> try exact h1.elim
  rename_i v
  refine ⟨v, rfl, ?_⟩
  cases v with
  | true => exact hb r r' Q EX s h1
  | false => exact h1)
theorem f_not {A : FE} {a : Env → R D} (ha : CF A a) : CF (fNot A) (xNot a) := fun r r' Q EX s h => ha r r' _ EX s ((hold_bind h).imp fun d h1 => by
  cases d <;> try exact h1.elim
  exact ⟨_, rfl, h1⟩)
theorem f_if {T : FT} {A B : FE} {t : Env → R Bool} {a b : Env → R D} (ht : CF T t) (ha : CF A a) (hb : CF B b) : CF (fIf T A B) (xIf t a b) := fun r r' Q EX s h => ht r r' _ EX s ((hold_bind h).imp fun v h1 => by
  cases v with
  | true => rw [if_pos rfl] at h1 ⊢; exact ha r r' Q EX s h1
  | false => rw [if_neg Bool.false_ne_true] at h1 ⊢; exact hb r r' Q EX s h1)

/-! ### argument lists, displays, calls -/
def xNil (_ : Env) : R (List D) := .ok []
def xCons (a : Env → R D) (b : Env → R (List D)) (r : Env) : R (List D) := (a r).bind fun d => (b r).bind fun ds => .ok (d :: ds)
def xTup (a : Env → R (List D)) (r : Env) : R D := (a r).bind fun ds => if ds.length ≤ sizeLine then .ok (.tup ds) else .no
def xLst (a : Env → R (List D)) (r : Env) : R (List D) := (a r).bind fun ds => if ds.length ≤ sizeLine then .ok ds else .no
def xL (a : Env → R (List D)) (r : Env) : R D := (a r).bind fun ds => .ok (.lst ds)
theorem f_nil : CF fNil xNil := fun r r' Q EX s h => h
theorem f_cons {A : FE} {B : FA} {a : Env → R D} {b : Env → R (List D)} (ha : CF A a) (hb : CF B b) : CF (fCons A B) (xCons a b) := fun r r' Q EX s h =>
  ha r r' _ EX s ((hold_bind h).imp fun d h1 => hb r r' _ EX s ((hold_bind h1).imp fun ds h2 => h2))
theorem f_tup {A : FA} {a : Env → R (List D)} (ha : CF A a) : CF (fTup A) (xTup a) := fun r r' Q EX s h => ha r r' _ EX s ((hold_bind h).imp fun ds h1 => by
  by_cases z : ds.length ≤ sizeLine
  · rw [if_pos z] at h1; exact ⟨z, h1⟩
  · rw [if_neg z] at h1; exact h1.elim)
theorem f_lst {A : FA} {a : Env → R (List D)} (ha : CF A a) : CF (fLst A) (xLst a) := fun r r' Q EX s h => ha r r' _ EX s ((hold_bind h).imp fun ds h1 => by
  by_cases z : ds.length ≤ sizeLine
  · rw [if_pos z] at h1; exact ⟨z, h1⟩
  · rw [if_neg z] at h1; exact h1.elim)
theorem f_L {A : FA} {a : Env → R (List D)} (ha : CF A a) : CF (fL A) (xL a) := fun r r' Q EX s h => ha r r' _ EX s (hold_bind h)
def CCG {α : Type} (g : List D → (α → Prop) → Prop) (c : List D → Option α) : Prop := ∀ ds d Q, c ds = some d → Q d → g ds Q
def xCa {α : Type} (c : List D → Option α) (a : Env → R (List D)) (r : Env) : R α := (a r).bind fun ds => R.ofO (c ds)
theorem f_ca {g : CG} {c : List D → Option D} {A : FA} {a : Env → R (List D)} (hg : CCG g c) (ha : CF A a) : CF (fCa g A) (xCa c a) := fun r r' Q EX s h => ha r r' _ EX s ((hold_bind h).imp fun ds h1 => by
  obtain ⟨d, e, q⟩ := hold_ofO h1
  exact hg ds d Q e q)
def lenX : List D → Option D
  | [.tup xs] => some (.int xs.length)
  | [.lst xs] => some (.int xs.length)
  | [.str z] => gd (z.length ≤ sizeLine) (.int z.length)
  | _ => none
theorem g_len : CCG lenD lenX := fun ds d Q e q => by
  match ds, e with
  | [.tup xs], e => cases e; exact q
  | [.lst xs], e => cases e; exact q
  | [.str z], e => obtain ⟨h, rfl⟩ := gd_some e; exact ⟨h, q⟩
def strCX : List D → Option D
  | [.int i] => gd (i.natAbs.log2 < 1920) (.str (toString i))
  | [.str z] => some (.str z)
  | _ => none
theorem g_strC : CCG strC strCX := fun ds d Q e q => by
  match ds, e with
  | [.int i], e => obtain ⟨h, rfl⟩ := gd_some e; exact ⟨h, q⟩
  | [.str i], e => cases e; exact q
def tupCX : List D → Option D
  | [.lst xs] => some (.tup xs)
  | [.tup xs] => some (.tup xs)
  | _ => none
theorem g_tupC : CCG tupC tupCX := fun ds d Q e q => by
  match ds, e with
  | [.lst xs], e => cases e; exact q
  | [.tup xs], e => cases e; exact q
def blsX (f : List Bool → D) : List D → Option D
  | [.lst xs] => (blsOf xs).map f
  | _ => none
theorem g_bls {f : List Bool → D} : CCG (blsD f) (blsX f) := fun ds d Q e q => by
  match ds, e with
  | [.lst xs], e =>
    obtain ⟨bs, h1, h2⟩ := Option.map_eq_some_iff.mp (show (blsOf xs).map f = some d from e)
    subst h2
    show (match blsOf xs with
      | some bs => Q (f bs)
      | none => False)
    rw [h1]; exact q
def isiX (tbl : Tag → Option Bool) (a : Env → R D) (r : Env) : R D := (a r).bind fun d => match tagD d with
  | some t => (match tbl t with
    | some b => .ok (.bl b)
    | none => .no)
  | none => .no
theorem f_isi {tbl : Tag → Option Bool} {A : FE} {a : Env → R D} (ha : CF A a) : CF (isiD tbl A) (isiX tbl a) := fun r r' Q EX s h => ha r r' _ EX s ((hold_bind h).imp fun d h1 => by
  cases e1 : tagD d with
  | none => rw [e1] at h1; exact h1.elim
  | some t =>
    simp only [e1] at h1 ⊢
    cases e2 : tbl t with
    | none => rw [e2] at h1; exact h1.elim
    | some b => rw [e2] at h1; exact h1)
def xFld (c i : Nat) (a : Env → R D) (r : Env) : R D := (a r).bind fun d => match d with
  | .obj c' fs => if c' = c then R.ofO fs[i]? else .no
  | _ => .no
theorem f_fld {c i : Nat} {A : FE} {a : Env → R D} (ha : CF A a) : CF (fFld c i A) (xFld c i a) := fun r r' Q EX s h => ha r r' _ EX s ((hold_bind h).imp fun d h1 => by
  cases d <;> try exact h1.elim
  rename_i c' fs
  dsimp only at h1 ⊢
  by_cases z : c' = c
  · rw [if_pos z] at h1 ⊢
    obtain ⟨d, e, q⟩ := hold_ofO h1
    rw [e]; exact q
  · rw [if_neg z] at h1; exact h1.elim)
def xStr1 (c : Str → D → Option D) (a b : Env → R D) (r : Env) : R D := (a r).bind fun x => match x with
  | .str z => (b r).bind fun y => R.ofO (c z y)
  | _ => .no
theorem f_str1 {g : Str → D → (D → Prop) → Prop} {c : Str → D → Option D} {A B : FE} {a b : Env → R D} (hg : ∀ z y d Q, c z y = some d → Q d → g z y Q) (ha : CF A a) (hb : CF B b) : CF (fStr1 g A B) (xStr1 c a b) := fun r r' Q EX s h => ha r r' _ EX s ((hold_bind h).imp fun x h1 => by
  cases x <;> try exact h1.elim
  exact hb r r' _ EX s ((hold_bind h1).imp fun y h2 => by
    obtain ⟨d, e, q⟩ := hold_ofO h2
    exact hg _ y d Q e q))
def joinX (a : Str) : D → Option D
  | .lst ds => (strsOf ds).bind fun ys => gd ((ys.map (·.length)).sum + ys.length * a.length ≤ 16777216) (.str (Txt.join a ys))
  | .tup ds => (strsOf ds).bind fun ys => gd ((ys.map (·.length)).sum + ys.length * a.length ≤ 16777216) (.str (Txt.join a ys))
  | _ => none
theorem g_join (z : Str) (y : D) (d : D) (Q : D → Prop) (e : joinX z y = some d) (q : Q d) : joinD z y Q := by
  cases y <;> first | (cases e; done) | skip
  all_goals
    rename_i ds
    obtain ⟨ys, h1, h2⟩ := Option.bind_eq_some_iff.mp (show (strsOf ds).bind (fun ys => gd ((ys.map (·.length)).sum + ys.length * z.length ≤ 16777216) (.str (Txt.join z ys))) = some d from e)
    obtain ⟨h, rfl⟩ := gd_some h2
    unfold joinD
    dsimp only
    rw [h1]
    exact ⟨h, q⟩

/-! ### repr -/
def shownB (d : D) : Bool := plain d && (pd d).showable && decide ((pd d).depth ≤ 60) && decide ((pd d).shown.length ≤ sizeLine)
def reprX : List D → Option D
  | [d] => gd (shownB d = true) (.str (pd d).shown)
  | _ => none
theorem g_repr : CCG reprD reprX := fun ds d Q e q => by
  match ds, e with
  | [x], e =>
    obtain ⟨h, rfl⟩ := gd_some e
    unfold shownB at h
    rw [Bool.and_eq_true, Bool.and_eq_true, Bool.and_eq_true, decide_eq_true_iff, decide_eq_true_iff] at h
    exact ⟨⟨h.1.1.1, h.1.1.2, h.1.2, h.2⟩, q⟩

/-! ### targets -/
def CT (g : TGd) (c : D → Env → Option Env) : Prop := ∀ {x : Addr} d r r' r1 K, Sim x r r' → c d r = some r1 → (∀ r2, Sim x r1 r2 → K r2) → g d r' K
def yVar (i : Nat) (d : D) (r : Env) : Option Env := some (r.set i (.val d))
theorem t_var {i : Nat} : CT (gVar i) (yVar i) := fun d r r' r1 K s e k => by
  cases e
  exact k _ (s.set i _)
def iRng1 (a : Env → R (List D)) (r : Env) : R (List D) := (a r).bind fun ds => match ds with
  | [.int n] => if -(2 ^ 62) ≤ n ∧ n < 2 ^ 62 then .ok (rangeD 0 n) else .no
  | _ => .no
theorem f_rng1 {A : FA} {a : Env → R (List D)} (ha : CF A a) : CF (fRng1 A) (iRng1 a) := fun r r' Q EX s h => ha r r' _ EX s ((hold_bind h).imp fun ds h1 => by
  match ds, h1 with
  | [.int n], h1 =>
    dsimp only at h1
    by_cases z : -(2 ^ 62) ≤ n ∧ n < 2 ^ 62
    · rw [if_pos z] at h1; exact ⟨n, rfl, z, h1⟩
    · rw [if_neg z] at h1; exact h1.elim)
/-! ### comprehensions -/
def xYes (_ : Env) : R Bool := .ok true
theorem f_yes : CF fYes xYes := fun r r' Q EX s h => h
/-- an answer without an exception -/
def R.cut {α : Type} : R α → R α
  | .ok a => .ok a
  | _ => .no
theorem hold_cut {α : Type} {m : R α} {Q : α → Prop} {EX : XP} (h : m.cut.hold Q EX) : m.hold Q NoX := by
  cases m <;> exact h
/-- the list so far, turned round, its length -/
def lcG (g : D → Env → Option Env) (t : Env → R Bool) (f : Env → R D) (r : Env) : List D → Nat → List D → R (Nat × List D)
  | [], n, acc => .ok (n, acc)
  | d :: ds, n, acc => match g d r with
    | none => .no
    | some r1 => (t r1).cut.bind fun b => if b = true then (f r1).cut.bind fun y => if Nat.blt n 16777216 = true then frc y fun y' => lcG g t f r ds (n + 1) (y' :: acc) else .no else lcG g t f r ds n acc
def xLc (s : Env → R (List D)) (vs : List Nat) (g : D → Env → Option Env) (t : Env → R Bool) (f : Env → R D) (r : Env) : R (List D) := (s r).bind fun ds => (lcG g t f (wipeD r vs) ds 0 []).bind fun p => .ok p.2.reverse
theorem lc_run {g : TGd} {T : FT} {F : FE} {cg : D → Env → Option Env} {t : Env → R Bool} {f : Env → R D} (hg : CT g cg) (ht : CF T t) (hf : CF F f) {x : Addr} {r r' : Env} (s : Sim x r r') {EX : XP} : ∀ (ds : List D) (n : Nat) (acc : List D) (Q : List D → Prop), n = acc.length →
    (lcG cg t f r ds n acc).hold (fun p => p.1 = p.2.length → Q p.2.reverse) EX → lcD g T F r' ds acc.reverse Q
  | [], n, acc, Q, hn, h => h hn
  | d :: ds, n, acc, Q, hn, h => by
    unfold lcG at h
    unfold lcD
    cases e : cg d r with
    | none => rw [e] at h; exact h.elim
    | some r1 =>
      rw [e] at h
      dsimp only at h
      refine hg d r r' r1 _ s e fun r2 s2 => ht r1 r2 _ NoX s2 (R.hold.imp (hold_cut (hold_bind h)) fun b h1 => ?_)
      cases b with
      | true =>
        rw [if_pos rfl] at h1 ⊢
        refine hf r1 r2 _ NoX s2 (R.hold.imp (hold_cut (hold_bind h1)) fun y h2 => ?_)
        by_cases z : Nat.blt n 16777216 = true
        · rw [if_pos z, frc_eq] at h2
          have hz : n < 16777216 := by simpa [Nat.blt_eq] using z
          refine ⟨by rw [List.length_reverse, sizeLine_eq, ← hn]; exact hz, ?_⟩
          have ih := lc_run hg ht hf s ds (n + 1) (y :: acc) Q (by rw [hn]; rfl) h2
          rwa [List.reverse_cons] at ih
        · rw [if_neg z] at h2; exact h2.elim
      | false =>
        rw [if_neg Bool.false_ne_true] at h1 ⊢
        exact lc_run hg ht hf s ds n acc Q hn h1
theorem f_lc {S : FI} {vs : List Nat} {g : TGd} {T : FT} {F : FE} {cs : Env → R (List D)} {cg : D → Env → Option Env} {t : Env → R Bool} {f : Env → R D} (hs : CF S cs) (hg : CT g cg) (ht : CF T t) (hf : CF F f) : CF (fLc S vs g T F) (xLc cs vs cg t f) := fun r r' Q EX s h =>
  hs r r' _ EX s ((hold_bind h).imp fun ds h1 => lc_run hg ht hf (s.wipe vs) ds 0 [] Q rfl ((hold_bind h1).imp fun p h2 _ => h2))
def lc2G (g : D → Env → Option Env) (t : Env → R Bool) (s1 : Env → R (List D)) (vs1 : List Nat) (g1 : D → Env → Option Env) (t1 : Env → R Bool) (f : Env → R D) (r : Env) : List D → Nat → List D → R (Nat × List D)
  | [], n, acc => .ok (n, acc)
  | d :: ds, n, acc => match g d r with
    | none => .no
    | some r1 => (t r1).cut.bind fun b => if b = true then (s1 r1).cut.bind fun es => (lcG g1 t1 f (wipeD r1 vs1) es n acc).cut.bind fun p => lc2G g t s1 vs1 g1 t1 f r ds p.1 p.2 else lc2G g t s1 vs1 g1 t1 f r ds n acc
def xLc2 (s : Env → R (List D)) (vs : List Nat) (g : D → Env → Option Env) (t : Env → R Bool) (s1 : Env → R (List D)) (vs1 : List Nat) (g1 : D → Env → Option Env) (t1 : Env → R Bool) (f : Env → R D) (r : Env) : R (List D) := (s r).bind fun ds => (lc2G g t s1 vs1 g1 t1 f (wipeD r vs) ds 0 []).bind fun p => .ok p.2.reverse
theorem lc2_run {g g1 : TGd} {T T1 : FT} {S1 : FI} {F : FE} {cg cg1 : D → Env → Option Env} {t t1 : Env → R Bool} {cs1 : Env → R (List D)} {f : Env → R D} {vs1 : List Nat} (hg : CT g cg) (ht : CF T t) (hs1 : CF S1 cs1) (hg1 : CT g1 cg1) (ht1 : CF T1 t1) (hf : CF F f) {x : Addr} {r r' : Env} (s : Sim x r r') {EX : XP} :
    ∀ (ds : List D) (n : Nat) (acc : List D) (Q : List D → Prop), n = acc.length → (lc2G cg t cs1 vs1 cg1 t1 f r ds n acc).hold (fun p => p.1 = p.2.length → Q p.2.reverse) EX → lc2D g T S1 vs1 g1 T1 F r' ds acc.reverse Q
  | [], n, acc, Q, hn, h => h hn
  | d :: ds, n, acc, Q, hn, h => by
    unfold lc2G at h
    unfold lc2D
    cases e : cg d r with
    | none => rw [e] at h; exact h.elim
    | some r1 =>
      rw [e] at h
      dsimp only at h
      refine hg d r r' r1 _ s e fun r2 s2 => ht r1 r2 _ NoX s2 (R.hold.imp (hold_cut (hold_bind h)) fun b h1 => ?_)
      cases b with
      | true =>
        rw [if_pos rfl] at h1 ⊢
        refine hs1 r1 r2 _ NoX s2 (R.hold.imp (hold_cut (hold_bind h1)) fun es h2 => ?_)
        refine lc_run hg1 ht1 hf (s2.wipe vs1) es n acc _ hn (R.hold.imp (hold_cut (hold_bind h2)) fun p h3 hp => ?_)
        exact lc2_run hg ht hs1 hg1 ht1 hf s ds p.1 p.2 Q hp h3
      | false =>
        rw [if_neg Bool.false_ne_true] at h1 ⊢
        exact lc2_run hg ht hs1 hg1 ht1 hf s ds n acc Q hn h1
theorem f_lc2 {S S1 : FI} {vs vs1 : List Nat} {g g1 : TGd} {T T1 : FT} {F : FE} {cs cs1 : Env → R (List D)} {cg cg1 : D → Env → Option Env} {t t1 : Env → R Bool} {f : Env → R D} (hs : CF S cs) (hg : CT g cg) (ht : CF T t) (hs1 : CF S1 cs1) (hg1 : CT g1 cg1) (ht1 : CF T1 t1) (hf : CF F f) :
    CF (fLc2 S vs g T S1 vs1 g1 T1 F) (xLc2 cs vs cg t cs1 vs1 cg1 t1 f) := fun r r' Q EX s h =>
  hs r r' _ EX s ((hold_bind h).imp fun ds h1 => lc2_run hg ht hs1 hg1 ht1 hf (s.wipe vs) ds 0 [] Q rfl ((hold_bind h1).imp fun p h2 _ => h2))
end DL
/-! What the readings compute: a run over data, part 3: statements, defs. -/
namespace DL
open PySem L2 PyProof.Rows

inductive RS where
  | nx (r : Env)
  | rt (d : D)
  | bk (r : Env)
  | ct (r : Env)
  | rn (ds : List D)
  | ex (x : XD)
  | no
def RS.hold (x : Addr) : RS → DE → XP → Prop
  | .nx r, A, _ => ∀ s, Sim x r s → A.nx s
  | .rt d, A, _ => A.rt d
  | .bk r, A, _ => ∀ s, Sim x r s → A.bk s
  | .ct r, A, _ => ∀ s, Sim x r s → A.ct s
  | .rn ds, A, _ => A.rn ds
  | .ex x, _, EX => EX x
  | .no, _, _ => False
def R.st {α : Type} (m : R α) (f : α → RS) : RS := match m with
  | .ok a => f a
  | .ex x => .ex x
  | .no => .no
theorem hold_st {α : Type} {m : R α} {f : α → RS} {x : Addr} {A : DE} {EX : XP} (h : (m.st f).hold x A EX) : m.hold (fun a => (f a).hold x A EX) EX := by
  cases m <;> exact h
def CS (F : FS) (c : Env → RS) : Prop := ∀ {x : Addr} r r' A EX, Sim x r r' → (c r).hold x A EX → F A EX r'
def yNext (r : Env) : RS := .nx r
theorem s_next : CS sNext yNext := fun r r' A EX s h => h r' s
def ySeq (a b : Env → RS) (r : Env) : RS := match a r with
  | .nx r1 => b r1
  | x => x
theorem s_seq {F F' : FS} {a b : Env → RS} (ha : CS F a) (hb : CS F' b) : CS (sSeq F F') (ySeq a b) := fun r r' A EX s h => by
  refine ha r r' _ EX s ?_
  unfold ySeq at h
  cases e : a r with
  | nx r1 => rw [e] at h; exact fun r2 s2 => hb r1 r2 A EX s2 h
  | rt d => rw [e] at h; exact h
  | bk r1 => rw [e] at h; exact h
  | ct r1 => rw [e] at h; exact h
  | rn d => rw [e] at h; exact h
  | ex x => rw [e] at h; exact h
  | no => rw [e] at h; exact h
def yIf (t : Env → R Bool) (a b : Env → RS) (r : Env) : RS := (t r).st fun v => if v = true then a r else b r
theorem s_if {T : FT} {F F' : FS} {t : Env → R Bool} {a b : Env → RS} (ht : CF T t) (ha : CS F a) (hb : CS F' b) : CS (sIf T F F') (yIf t a b) := fun r r' A EX s h => ht r r' _ EX s ((hold_st h).imp fun v h1 => by
  cases v with
  | true => rw [if_pos rfl] at h1 ⊢; exact ha r r' A EX s h1
  | false => rw [if_neg Bool.false_ne_true] at h1 ⊢; exact hb r r' A EX s h1)
def yExpr (a : Env → R D) (r : Env) : RS := (a r).st fun _ => .nx r
theorem s_expr {F : FE} {a : Env → R D} (ha : CF F a) : CS (sExpr F) (yExpr a) := fun r r' A EX s h => ha r r' _ EX s ((hold_st h).imp fun d h1 => h1 r' s)
def yRet (a : Env → R D) (r : Env) : RS := (a r).st fun d => .rt d
theorem s_ret {F : FE} {a : Env → R D} (ha : CF F a) : CS (sRet F) (yRet a) := fun r r' A EX s h => ha r r' _ EX s ((hold_st h).imp fun d h1 => h1)
def ySet (i : Nat) (a : Env → R D) (r : Env) : RS := (a r).st fun d => frc d fun d => .nx (r.set i (.val d))
theorem s_set {i : Nat} {F : FE} {a : Env → R D} (ha : CF F a) : CS (sSet i F) (ySet i a) := fun r r' A EX s h => ha r r' _ EX s ((hold_st h).imp fun d h1 => by
  rw [frc_eq] at h1
  exact h1 _ (s.set i _))
def ySetOwn (i : Nat) (a : Env → R (List D)) (r : Env) : RS := (a r).st fun d => frcs d fun d => .nx (r.set i (.own d))
theorem s_setOwn {i : Nat} {F : FA} {a : Env → R (List D)} (ha : CF F a) : CS (sSetOwn i F) (ySetOwn i a) := fun r r' A EX s h => ha r r' _ EX s ((hold_st h).imp fun d h1 => by
  rw [frcs_eq] at h1
  exact h1 _ (s.set i _))
/-- put together, the spine made plain -/
def frcp {β : Type} : List D → List D → (List D → β) → β
  | [], b, k => k b
  | x :: xs, b, k => frcp xs b fun ys => k (x :: ys)
theorem frcp_eq {β : Type} : ∀ (a b : List D) (k : List D → β), frcp a b k = k (a ++ b)
  | [], b, k => rfl
  | x :: xs, b, k => by unfold frcp; rw [frcp_eq xs]; rfl
def yApp (i : Nat) (a : Env → R D) (r : Env) : RS := match r[i]? with
  | some (.own ds) => if Nat.blt ds.length 16777216 = true then (a r).st fun d => frc d fun d => frcp ds [d] fun es => .nx (r.set i (.own es)) else .no
  | _ => .no
theorem s_app {i : Nat} {F : FE} {a : Env → R D} (ha : CF F a) : CS (sAppC i F) (yApp i a) := fun r r' A EX s h => by
  unfold yApp at h
  unfold sAppC
  cases e : r[i]? with
  | none => rw [e] at h; exact h.elim
  | some x =>
    rw [e] at h
    cases x <;> try exact h.elim
    rename_i ds
    rw [s.own e]
    dsimp only at h ⊢
    by_cases z : Nat.blt ds.length 16777216 = true
    · rw [if_pos z] at h
      have hz : ds.length < 16777216 := by simpa [Nat.blt_eq] using z
      exact ⟨by rw [sizeLine_eq]; exact hz, ha r r' _ EX s ((hold_st h).imp fun d h1 => by
        rw [frc_eq, frcp_eq] at h1
        exact h1 _ (s.set i _))⟩
    · rw [if_neg z] at h; exact h.elim
def yPar (i j : Nat) (a : Env → R (List D)) (r : Env) : RS := (a r).st fun ds => match ds with
  | [d, d'] => frc d fun d => frc d' fun d' => .nx ((r.set i (.val d)).set j (.val d'))
  | _ => .no
theorem s_par {i j : Nat} {F : FA} {a : Env → R (List D)} (ha : CF F a) : CS (sPar i j F) (yPar i j a) := fun r r' A EX s h => ha r r' _ EX s ((hold_st h).imp fun ds h1 => by
  match ds, h1 with
  | [d, d'], h1 =>
    dsimp only at h1
    rw [frc_eq, frc_eq] at h1
    exact ⟨d, d', rfl, h1 _ ((s.set i _).set j _)⟩)
def forG (g : D → Env → Option Env) (b : Env → RS) : List D → Env → RS
  | [], r => .nx r
  | d :: ds, r => match g d r with
    | none => .no
    | some r1 => match b r1 with
      | .nx r2 => forG g b ds r2
      | .ct r2 => forG g b ds r2
      | .bk r2 => .nx r2
      | x => x
def yFor (s : Env → R (List D)) (g : D → Env → Option Env) (b : Env → RS) (r : Env) : RS := (s r).st fun ds => forG g b ds r
theorem for_run {g : TGd} {B : FS} {cg : D → Env → Option Env} {b : Env → RS} (hg : CT g cg) (hb : CS B b) {x : Addr} {A : DE} {EX : XP} : ∀ (ds : List D) (r r' : Env), Sim x r r' → (forG cg b ds r).hold x A EX → forD g B ds A EX r'
  | [], r, r', s, h => h r' s
  | d :: ds, r, r', s, h => by
    unfold forG at h
    unfold forD
    cases e : cg d r with
    | none => rw [e] at h; exact h.elim
    | some r1 =>
      rw [e] at h
      dsimp only at h
      refine hg d r r' r1 _ s e fun r2 s2 => hb r1 r2 _ EX s2 ?_
      cases e2 : b r1 with
      | nx r3 => rw [e2] at h; exact fun r4 s4 => for_run hg hb ds r3 r4 s4 h
      | ct r3 => rw [e2] at h; exact fun r4 s4 => for_run hg hb ds r3 r4 s4 h
      | bk r3 => rw [e2] at h; exact h
      | rt d => rw [e2] at h; exact h
      | rn d => rw [e2] at h; exact h
      | ex x => rw [e2] at h; exact h
      | no => rw [e2] at h; exact h
theorem s_for {S : FI} {g : TGd} {B : FS} {cs : Env → R (List D)} {cg : D → Env → Option Env} {b : Env → RS} (hs : CF S cs) (hg : CT g cg) (hb : CS B b) : CS (sFor S g B) (yFor cs cg b) := fun r r' A EX s h =>
  hs r r' _ EX s ((hold_st h).imp fun ds h1 => for_run hg hb ds r r' s h1)
def yFldI (i c : Nat) (fl : List Str) (f : Str) (a : Env → R D) (r : Env) : RS := (a r).st fun d => match r[i]? with
  | some (.slf x c' ds) => if c' = c ∧ fl[ds.length]? = some f then .nx (r.set i (.slf x c (ds ++ [d]))) else .no
  | _ => .no
theorem s_fldI {i c : Nat} {fl : List Str} {f : Str} {F : FE} {a : Env → R D} (ha : CF F a) : CS (sFldI i c fl f F) (yFldI i c fl f a) := fun r r' A EX s h => ha r r' _ EX s ((hold_st h).imp fun d h1 => by
  cases e : r[i]? with
  | none => rw [e] at h1; exact h1.elim
  | some x =>
    rw [e] at h1
    cases x <;> try exact h1.elim
    rename_i y c' ds
    have e' := s.slf e
    rw [e']
    dsimp only at h1 ⊢
    by_cases z : c' = c ∧ fl[ds.length]? = some f
    · rw [if_pos z] at h1 ⊢; exact h1 _ (s.setSlf i _ _ _)
    · rw [if_neg z] at h1; exact h1.elim)

/-! ### defs -/
def spOf (c : List D → R D) : DSp := fun ds Q EX => (c ds).hold Q EX
def cfOf (N : List Str) (n : Nat) (b : Env → RS) (ds : List D) : R D := if ds.length = n then (match b (startD N ds) with
  | .nx _ => .ok .non
  | .rt d => .ok d
  | .ex x => .ex x
  | _ => .no) else .no
theorem spOf_len {N : List Str} {n : Nat} {b : Env → RS} {ds : List D} {Q : D → Prop} {EX : XP} (h : spOf (cfOf N n b) ds Q EX) : ds.length = n := by
  unfold spOf cfOf at h
  by_cases z : ds.length = n
  · exact z
  · rw [if_neg z] at h; exact h.elim
theorem spOf_pure {N : List Str} {n : Nat} {B : FS} {b : Env → RS} (hb : CS B b) {ds : List D} {Q : D → Prop} {EX : XP} (h : spOf (cfOf N n b) ds Q EX) : B { nx := fun _ => Q .non, rt := Q } EX (startD N ds) := by
  have hl := spOf_len h
  unfold spOf cfOf at h
  rw [if_pos hl] at h
  refine hb (x := 0) _ _ _ EX Sim.startD ?_
  cases e : b (startD N ds) with
  | nx r => rw [e] at h; exact fun _ _ => h
  | rt d => rw [e] at h; exact h
  | rn d => rw [e] at h; exact h.elim
  | ex x => rw [e] at h; exact h
  | bk r => rw [e] at h; exact h.elim
  | ct r => rw [e] at h; exact h.elim
  | no => rw [e] at h; exact h.elim
def cfI (N : List Str) (n m c : Nat) (b : Env → RS) (ds : List D) : R D := if ds.length = n then (match b (startI N 0 c ds) with
  | .nx (.slf _ c' es :: _) => if c' = c ∧ es.length = m then .ok (.tup es) else .no
  | .ex x => .ex x
  | _ => .no) else .no
theorem spI_len {N : List Str} {n m c : Nat} {b : Env → RS} {ds : List D} {Q : D → Prop} {EX : XP} (h : spOf (cfI N n m c b) ds Q EX) : ds.length = n := by
  unfold spOf cfI at h
  by_cases z : ds.length = n
  · exact z
  · rw [if_neg z] at h; exact h.elim
theorem spI_pure {G : Gm} {N : List Str} {n m c : Nat} {B : FS} {b : Env → RS} (hb : CS B b) (hm : (G.fld c).length = m) {ds : List D} {Q : D → Prop} {EX : XP} {x : Addr} (h : spOf (cfI N n m c b) ds Q EX) :
    B (DE.mk (endI (G.fld c) x c Q) (fun _ => False) (fun _ => False) (fun _ => False) (fun _ => False)) EX (startI N x c ds) := by
  have hl := spI_len h
  unfold spOf cfI at h
  rw [if_pos hl] at h
  refine hb (x := x) (startI N 0 c ds) _ _ EX Sim.startI ?_
  cases e : b (startI N 0 c ds) with
  | nx r =>
    rw [e] at h
    intro s2 s
    match r, h, s with
    | .slf y c' es :: rr, h, s =>
      dsimp only at h
      by_cases z : c' = c ∧ es.length = m
      · rw [if_pos z] at h
        rw [show s2 = (Sl.slf y c' es :: rr).map (adr x) from s]
        exact ⟨rfl, z.1, by rw [hm]; exact z.2, h⟩
      · rw [if_neg z] at h; exact h.elim
  | rn d => rw [e] at h; exact h.elim
  | ex x => rw [e] at h; exact h
  | rt d => rw [e] at h; exact h.elim
  | bk r => rw [e] at h; exact h.elim
  | ct r => rw [e] at h; exact h.elim
  | no => rw [e] at h; exact h.elim
/-- a call's exceptions and answer -/
def xCall (c : List D → R D) (a : Env → R (List D)) (r : Env) : R D := (a r).bind fun ds => frcs ds c
theorem f_call {c : List D → R D} {A : FA} {a : Env → R (List D)} (ha : CF A a) : CF (fCall (spOf c) A) (xCall c a) := fun r r' Q EX s h => ha r r' _ EX s ((hold_bind h).imp fun ds h1 => by
  rw [frcs_eq] at h1
  exact h1)
def xProp (k : Nat) (c : List D → R D) (a : Env → R D) (r : Env) : R D := (a r).bind fun d => match d with
  | .obj k' fs => if k' = k then (c [.obj k' fs]).cut else .no
  | _ => .no
theorem f_prop {k : Nat} {c : List D → R D} {A : FE} {a : Env → R D} (ha : CF A a) : CF (fProp k (spOf c) A) (xProp k c a) := fun r r' Q EX s h => ha r r' _ EX s ((hold_bind h).imp fun d h1 => by
  cases d <;> try exact h1.elim
  rename_i k' fs
  dsimp only at h1
  by_cases z : k' = k
  · subst z
    rw [if_pos rfl] at h1
    exact ⟨fs, rfl, hold_cut h1⟩
  · rw [if_neg z] at h1; exact h1.elim)
/-- what the construction of an object asks of its __init__ -/
def spIn (c : List D → R D) : List D → (List D → Prop) → XP → Prop := fun ds Q EX => (c ds).hold (fun d => match d with
  | .tup es => Q es
  | _ => False) EX
def xMake (k : Nat) (c : List D → R D) (a : Env → R (List D)) (r : Env) : R D := (a r).bind fun ds => (frcs ds c).bind fun d => match d with
  | .tup es => .ok (.obj k es)
  | _ => .no
theorem f_make {k : Nat} {c : List D → R D} {A : FA} {a : Env → R (List D)} (ha : CF A a) : CF (fMake k (spIn c) A) (xMake k c a) := fun r r' Q EX s h => ha r r' _ EX s ((hold_bind h).imp fun ds h1 => by
  rw [frcs_eq] at h1
  refine (hold_bind h1).imp fun d h2 => ?_
  cases d <;> first | exact h2.elim | exact h2)
end DL
/-! The data layer, part 15: comprehensions as statements, globals, small words. -/
namespace DL
open PySem L2 PyProof.Rows
section
variable {X : Cx} {G : Gm} {E : XK} {pos : Pos} {tg : Expr}
section
variable {elt tg1 iter iter1 : Expr} {ifs ifs1 : List Expr} {scope : Scope} {own : List (Str × Nat)} {vs1 : List Nat} {S S1 : FI} {t t1 : TG} {g g1 : TGd} {T T1 : FT} {F : FE}
theorem cs_setLc2 {i : Nat} {y : Str} {py spos : Pos} (hN : X.N.Nodup) (hi : PI X tg iter (iE G E S)) (ok : BlkOk X.N X.env.scope scope own)
    (hg : ∀ (s : Shared) (H : Hp) (C : Addr) (cl : List (Str × Addr)) (fp : List Addr), PG (X.blk s H scope (compEnvC scope cl C X.env) fp) tg t) (hl : TgL G (own.map (·.2)) t g)
    (ht : ∀ (s : Shared) (H : Hp) (C : Addr) (cl : List (Str × Addr)) (fp : List Addr), PTs (X.blk s H scope (compEnvC scope cl C X.env) fp) ifs (ttD G E0 T))
    (hi1 : ∀ (s : Shared) (H : Hp) (C : Addr) (cl : List (Str × Addr)) (fp : List Addr), PI (X.blk s H scope (compEnvC scope cl C X.env) fp) tg1 iter1 (iS G E0 S1))
    (hg1 : ∀ (s : Shared) (H : Hp) (C : Addr) (cl : List (Str × Addr)) (fp : List Addr), PG (X.blk s H scope (compEnvC scope cl C X.env) fp) tg1 t1) (hl1 : TgL G vs1 t1 g1)
    (ht1 : ∀ (s : Shared) (H : Hp) (C : Addr) (cl : List (Str × Addr)) (fp : List Addr), PTs (X.blk s H scope (compEnvC scope cl C X.env) fp) ifs1 (ttD G E0 T1))
    (he : ∀ (s : Shared) (H : Hp) (C : Addr) (cl : List (Str × Addr)) (fp : List Addr), PE (X.blk s H scope (compEnvC scope cl C X.env) fp) elt (tD G E0 F))
    (hsw : swapsWith (.ListComp elt [⟨tg, iter, ifs, 0⟩, ⟨tg1, iter1, ifs1, 0⟩] scope pos) (some (.Name y py)) spos.line X.env = pure true := by exact sw_true rfl rfl rfl (by decide +kernel))
    (hy : X.N[i]? = some y := by rfl) (hyl : X.env.scope.names.lookup y = some .local := by rfl) (hv : ∀ i ∈ vs1, i ∈ own.map (·.2) := by decide) (hc : X.calm = true := by rfl) (hs : ∀ x, foldedSetIterable iter X.env x = pure x := by intro _; rfl) (hs1 : ∀ env x, foldedSetIterable iter1 env x = pure x := by intro _ _; rfl) :
    PS X (.Assign [.Name y py] (.ListComp elt [⟨tg, iter, ifs, 0⟩, ⟨tg1, iter1, ifs1, 0⟩] scope pos) spos) (sD G E (sSet i (fL (fLc2 S (own.map (·.2)) g T S1 vs1 g1 T1 F)))) :=
  cs_ofF (ps_setLc2 hc hN hy hyl hsw hi ok hv hg ht hi1 hg1 ht1 he hs hs1) (lc2_link hl hl1)
end
/-- a module's value -/
theorem ce_gval {x : Str} {v : V} {d : D} {u : Value} {pos : Pos} (hm : X.mg x = some u) (r : RelV v u) (rp : ∀ w, Rep G w d v) (hg : Gl X x := by rfl) (hd : (x == ("__debug__" : Str)) = false := by decide) : PE X (.Name x pos) (tD G E (fC d)) := ce_const (pe_glob hg hm r hd) rp
end
section
variable {X : Cx} {G : Gm} {E : XK} {pos : Pos} {i j : Nat} {x y : Str} {a b : Expr} {px py pt : Pos} {kt k2 pt2}
end
theorem rep_dic {G : Gm} {w : Wd} {a : Addr} {ks : List Key} {ds : List D} {vs : List V} (h : KDic G.K G.pw a (ks.zip vs)) (hl : ks.length = vs.length) (r : Reps G w ds vs) : Rep G w (.dic ks ds) (.ref a) := by
  unfold Rep
  exact ⟨a, vs, rfl, .inr h, hl, r⟩
theorem hu64 {k : Nat} {A : Around} (hr : Room k A) : A.units + 64 < cLine := by have := hr.un; omega
theorem hu65 {k : Nat} {A : Around} (hr : Room k A) : A.units + 65 < cLine := by have := hr.un; omega
theorem hu1 {k : Nat} {A : Around} (hr : Room k A) : A.units + 1 < cLine := by have := hr.un; omega
end DL
namespace DL
open PySem L2
/-- BlkOk, by a look -/
def blkB (N : List Str) (sc scope : Scope) (own : List (Str × Nat)) : Bool :=
  (match scope.kind with | .function => true | _ => false) && scope.names.all (fun y => match scope.names.lookup y.1 with | some k => decide (k = y.2) | none => false) && own.all (fun p => match N[p.2]? with | some n => decide (n = p.1) | none => false) &&
  scope.names.all (fun y => !(decide (y.2 = .free)) || (match sc.names.lookup y.1 with | some k => decide (k = .cell) || decide (k = .free) | none => false)) &&
  scope.names.all (fun y => !(decide (y.2 = .local) || decide (y.2 = .cell)) || (own.map (·.1)).contains y.1 || !(N.contains y.1))
theorem blk_mk {N : List Str} {sc scope : Scope} {own : List (Str × Nat)} (h : blkB N sc scope own = true) : BlkOk N sc scope own := by
  unfold blkB at h
  simp only [Bool.and_eq_true, List.all_eq_true] at h
  obtain ⟨⟨⟨⟨h1, h2⟩, h3⟩, h4⟩, h5⟩ := h
  refine ⟨?_, fun y hy => ?_, fun p hp => ?_, fun y hy hf => ?_, fun y hy hl => ?_⟩
  · cases e : scope.kind <;> rw [e] at h1 <;> first | rfl | cases h1
  · have q := h2 y hy
    cases e : scope.names.lookup y.1 with
    | none => rw [e] at q; cases q
    | some k => rw [e] at q; rw [of_decide_eq_true q]
  · have q := h3 p hp
    cases e : N[p.2]? with
    | none => rw [e] at q; cases q
    | some k => rw [e] at q; rw [of_decide_eq_true q]
  · have q := h4 y hy
    rw [hf] at q
    cases e : sc.names.lookup y.1 with
    | none => rw [e] at q; cases q
    | some k =>
      rw [e] at q
      have q' : (decide (k = .cell) || decide (k = .free)) = true := by simpa using q
      rw [Bool.or_eq_true] at q'
      exact q'.imp (fun z => by rw [of_decide_eq_true z]) fun z => by rw [of_decide_eq_true z]
  · have q := h5 y hy
    have z : (decide (y.2 = .local) || decide (y.2 = .cell)) = true := by
      rw [Bool.or_eq_true]
      exact hl.imp (fun e => decide_eq_true e) fun e => decide_eq_true e
    rw [z] at q
    simp only [Bool.not_true, Bool.false_or, Bool.or_eq_true] at q
    rcases q with q | q
    · exact .inl (List.contains_iff_mem.mp q)
    · refine .inr fun m => ?_
      rw [List.contains_iff_mem.mpr m] at q
      cases q
end DL
/-! Plain words for the laws: how long a text of data is, reprs compared, loops, places. -/
namespace DL
open PySem L2 PyProof.Rows
mutual
/-- no shorter than the text of d -/
def wt : D → Nat
  | .non => 4
  | .bl _ => 5
  | .int i => i.natAbs.log2 + 2
  | .str s => 10 * s.length + 2
  | .tup ds => wts ds + 3
  | .lst ds => wts ds + 3
  | _ => 0
def wts : List D → Nat
  | [] => 0
  | d :: ds => wt d + 2 + wts ds
end
mutual
/-- plain, of that depth at most, its ints not too long, its signs signs -/
def okd : Nat → D → Bool
  | _, .non => true
  | _, .bl _ => true
  | _, .int i => decide (i.natAbs.log2 < 1920)
  | _, .str s => s.cps.toList.all fun c => decide (c < 16 ^ 8)
  | n + 1, .tup ds => okds n ds
  | n + 1, .lst ds => okds n ds
  | _, _ => false
def okds : Nat → List D → Bool
  | _, [] => true
  | n, d :: ds => okd n d && okds n ds
end
mutual
theorem okd_plain : ∀ (n : Nat) (d : D), okd n d = true → plain d = true
  | _, .non, _ => rfl
  | _, .bl _, _ => rfl
  | _, .int _, _ => rfl
  | _, .str _, _ => rfl
  | 0, .tup _, h => by unfold okd at h; cases h
  | 0, .lst _, h => by unfold okd at h; cases h
  | n + 1, .tup ds, h => by unfold okd at h; unfold plain; exact okds_plain n ds h
  | n + 1, .lst ds, h => by unfold okd at h; unfold plain; exact okds_plain n ds h
  | _, .dic _ _, h => by unfold okd at h; cases h
  | _, .obj _ _, h => by unfold okd at h; cases h
  | _, .exc _ _, h => by unfold okd at h; cases h
  | _, .jar, h => by unfold okd at h; cases h
theorem okds_plain : ∀ (n : Nat) (ds : List D), okds n ds = true → plains ds = true
  | _, [], _ => rfl
  | n, d :: ds, h => by
    unfold okds at h
    rw [Bool.and_eq_true] at h
    unfold plains
    rw [okd_plain n d h.1, okds_plain n ds h.2]; rfl
end
mutual
theorem okd_showable : ∀ (n : Nat) (d : D), okd n d = true → (pd d).showable = true ∧ (pd d).depth ≤ n
  | _, .non, _ => ⟨by simp [pd, PyData.showable], by simp [pd, PyData.depth]⟩
  | _, .bl _, _ => ⟨by simp [pd, PyData.showable], by simp [pd, PyData.depth]⟩
  | _, .int i, h => ⟨by simpa [pd, PyData.showable, okd] using h, by simp [pd, PyData.depth]⟩
  | _, .str _, _ => ⟨by simp [pd, PyData.showable], by simp [pd, PyData.depth]⟩
  | 0, .tup _, h => by unfold okd at h; cases h
  | 0, .lst _, h => by unfold okd at h; cases h
  | n + 1, .tup ds, h => by
    unfold okd at h
    have := okds_showable n ds h
    exact ⟨by simp [pd, PyData.showable, this.1], by simp [pd, PyData.depth]; exact this.2⟩
  | n + 1, .lst ds, h => by
    unfold okd at h
    have := okds_showable n ds h
    exact ⟨by simp [pd, PyData.showable, this.1], by simp [pd, PyData.depth]; exact this.2⟩
  | _, .dic _ _, h => by unfold okd at h; cases h
  | _, .obj _ _, h => by unfold okd at h; cases h
  | _, .exc _ _, h => by unfold okd at h; cases h
  | _, .jar, h => by unfold okd at h; cases h
theorem okds_showable : ∀ (n : Nat) (ds : List D), okds n ds = true → PyData.showableAll (pds ds) = true ∧ PyData.depthAll (pds ds) ≤ n
  | _, [], _ => ⟨by simp [pds, PyData.showableAll], by simp [pds, PyData.depthAll]⟩
  | n, d :: ds, h => by
    unfold okds at h
    rw [Bool.and_eq_true] at h
    have a := okd_showable n d h.1
    have b := okds_showable n ds h.2
    exact ⟨by simp [pds, PyData.showableAll, a.1, b.1], by simp only [pds, PyData.depthAll]; exact Nat.max_le.mpr ⟨a.2, b.2⟩⟩
end
mutual
theorem shown_wt : ∀ (n : Nat) (d : D), okd n d = true → (pd d).shown.length ≤ wt d
  | _, .non, _ => by simp only [pd, PyData.shown, wt]; decide
  | _, .bl b, _ => by cases b <;> (simp only [pd, PyData.shown, wt]; decide)
  | _, .int i, h => by
    simp only [pd, PyData.shown, wt]
    rw [PySem.ofString_length]
    exact int_text_length_le (a := i) (k := i.natAbs.log2 + 1) (by omega) (by omega)
  | _, .str s, h => by
    simp only [pd, PyData.shown, wt]
    refine StrLaws.reprText_len s fun c hc => ?_
    unfold okd at h
    exact of_decide_eq_true (List.all_eq_true.mp h c hc)
  | 0, .tup _, h => by unfold okd at h; cases h
  | 0, .lst _, h => by unfold okd at h; cases h
  | n + 1, .tup ds, h => by
    unfold okd at h
    have h1 := showns_wt n ds h
    have h2 := tupleText_len_le (PyData.shownAll (pds ds))
    simp only [pd, PyData.shown, wt]
    omega
  | n + 1, .lst ds, h => by
    unfold okd at h
    have h1 := showns_wt n ds h
    have h2 := listText_len_le (PyData.shownAll (pds ds))
    simp only [pd, PyData.shown, wt]
    omega
  | _, .dic _ _, h => by unfold okd at h; cases h
  | _, .obj _ _, h => by unfold okd at h; cases h
  | _, .exc _ _, h => by unfold okd at h; cases h
  | _, .jar, h => by unfold okd at h; cases h
theorem showns_wt : ∀ (n : Nat) (ds : List D), okds n ds = true → ((PyData.shownAll (pds ds)).map (·.length)).sum + 2 * (PyData.shownAll (pds ds)).length ≤ wts ds
  | _, [], _ => by simp [pds, PyData.shownAll]
  | n, d :: ds, h => by
    unfold okds at h
    rw [Bool.and_eq_true] at h
    have a := shown_wt n d h.1
    have b := showns_wt n ds h.2
    simp only [pds, PyData.shownAll, List.map_cons, List.sum_cons, List.length_cons, wts]
    omega
end
theorem shownOK_of {d : D} (h : okd 60 d = true) (hw : wt d ≤ sizeLine) : shownOK d :=
  ⟨okd_plain _ d h, (okd_showable _ d h).1, (okd_showable _ d h).2, Nat.le_trans (shown_wt _ d h) hw⟩
mutual
def eqDB : D → D → Bool
  | .non, .non => true
  | .bl a, .bl b => a == b
  | .int a, .int b => decide (a = b)
  | .str a, .str b => decide (a.cps.toList = b.cps.toList)
  | .tup a, .tup b => eqDBs a b
  | .lst a, .lst b => eqDBs a b
  | _, _ => false
def eqDBs : List D → List D → Bool
  | [], [] => true
  | a :: as, b :: bs => eqDB a b && eqDBs as bs
  | _, _ => false
end
mutual
theorem eqDB_eq : ∀ (a b : D), eqDB a b = true → a = b
  | .non, b, h => by cases b <;> first | rfl | (unfold eqDB at h; cases h)
  | .bl x, b, h => by cases b <;> first | (unfold eqDB at h; cases h; done) | (unfold eqDB at h; exact congrArg D.bl (by simpa using h))
  | .int x, b, h => by cases b <;> first | (unfold eqDB at h; cases h; done) | (unfold eqDB at h; exact congrArg D.int (of_decide_eq_true h))
  | .str x, b, h => by
    cases b <;> first | (unfold eqDB at h; cases h; done) | skip
    rename_i y
    unfold eqDB at h
    have e := of_decide_eq_true h
    cases x; cases y
    exact congrArg (fun z => D.str ⟨z⟩) (Array.toList_inj.mp e)
  | .tup x, b, h => by
    cases b <;> first | (unfold eqDB at h; cases h; done) | skip
    unfold eqDB at h
    exact congrArg D.tup (eqDBs_eq _ _ h)
  | .lst x, b, h => by
    cases b <;> first | (unfold eqDB at h; cases h; done) | skip
    unfold eqDB at h
    exact congrArg D.lst (eqDBs_eq _ _ h)
  | .dic _ _, b, h => by cases b <;> (unfold eqDB at h; cases h)
  | .obj _ _, b, h => by cases b <;> (unfold eqDB at h; cases h)
  | .exc _ _, b, h => by cases b <;> (unfold eqDB at h; cases h)
  | .jar, b, h => by cases b <;> (unfold eqDB at h; cases h)
theorem eqDBs_eq : ∀ (a b : List D), eqDBs a b = true → a = b
  | [], b, h => by cases b <;> first | rfl | (unfold eqDBs at h; cases h)
  | x :: xs, b, h => by
    cases b <;> first | (unfold eqDBs at h; cases h; done) | skip
    unfold eqDBs at h
    rw [Bool.and_eq_true] at h
    rw [eqDB_eq _ _ h.1, eqDBs_eq _ _ h.2]
end
theorem bothS_refl (z : Str) : bothS (.str z) (.str z) = some true := by
  unfold bothS
  simp
theorem CF.use {F : FE} {c : List Sl → R D} (h : CF F c) {r : List Sl} {d : D} (hr : r.map (adr 0) = r) (e : c r = .ok d) {Q : D → Prop} {EX : XP} (q : Q d) : F r Q EX := h (x := 0) r r Q EX hr.symm (by rw [e]; exact q)
theorem CS.use {F : FS} {c : List Sl → RS} (h : CS F c) {r r1 : List Sl} (hr : r.map (adr 0) = r) (e : c r = .nx r1) (hr1 : r1.map (adr 0) = r1) {A : DE} {EX : XP} (k : A.nx r1) : F A EX r := h (x := 0) r r A EX hr.symm (by
  rw [e]
  intro s hs
  rw [show s = r1.map (adr 0) from hs, hr1]
  exact k)
theorem atI_nat {α : Type} {xs : List α} {i : Nat} (h : i < xs.length) : atI xs (i : Int) = some xs[i] := by
  have e : ixN xs.length (i : Int) = some i := by
    unfold ixN
    rw [if_pos (by omega), if_pos (by omega)]
    simp
  unfold atI
  rw [e]
  simp [h]
theorem fmod_lt (n : Int) {m : Int} (h : 0 < m) : 0 ≤ n.fmod m ∧ n.fmod m < m := ⟨Int.fmod_nonneg_of_pos n h, Int.fmod_lt_of_pos n h⟩
theorem rangeD_int {lo hi : Int} {d : D} (h : d ∈ rangeD lo hi) : ∃ k : Int, d = .int k ∧ lo ≤ k ∧ k < hi := by
  unfold rangeD at h
  obtain ⟨i, hi', rfl⟩ := List.mem_map.mp h
  have := List.mem_range.mp hi'
  exact ⟨_, rfl, by omega, by omega⟩
theorem rangeD_len {lo hi : Int} : (rangeD lo hi).length = (hi - lo).toNat := by
  unfold rangeD
  rw [List.length_map, List.length_range]
end DL
/-! The data layer, part 17: what an own class answers to len, in, str, ==. -/
namespace DL
open PySem L2 PyProof.Rows
section
variable {G : Gm} {X : Cx} {E : XK} {k : Nat} {f C : Addr} {fd : FuncData} {ps : List Str} {sp : Sp}
/-- a def that lets nothing out is run at an Around -/
theorem run_at {A' : Around} {pins : List (Addr × Obj)} {σ : L2.St} {H : Hp} {s : Shared} {Q : VK} {us : List Value} {vs : List V} {E' : Value → Shared → Prop} (F : FnG X.prog X.w X.K X.mg X.base k f fd ps sp) (hg : A'.guards = some []) (hr : Room k A') (e0 : Env0 X.prog X.w X.K X.mg X.base A' X.stack s H)
    (hb : Binds X.K fd ps []) (I : Inv X pins σ H s) (r : Vals vs us) (h : sp vs H Q E0) : wpAny (model X.prog X.w) A' (call (.ref f) us) (EP X pins σ Q) E' s := by
  have nl : (us ++ []).length = ps.length := by
    rw [List.append_nil]
    exact r.length.symm.trans (F.len _ _ _ _ h)
  have hbs := hb s us I.kIn nl
  rw [List.append_nil] at hbs
  refine wpAny_call (codeAny_mono (F.run A' X.stack s H ⟨us, []⟩ us vs Q E0 hg hr e0 hbs r h) ?_)
  rintro (er | fl) s' hq
  · obtain ⟨_, _, _, _, _, _, _, _, _, _, _, _, z⟩ := hq
    exact z.elim
  · cases fl with
    | ret u =>
      obtain ⟨v, H', I3, rv, q3⟩ := I.after hq
      exact ⟨v, H', I3, rv, q3⟩
    | next => exact hq.elim
    | brk => exact hq.elim
    | cont => exact hq.elim
/-- str(o) -/
theorem cr_strO (F : FnG X.prog X.w X.K X.mg X.base k f fd ps sp) (hg : X.A.guards = some []) (hr : Room (k + 2) X.A) (hb : Binds X.K fd ps []) (hs : PySem.W.findIn X.K (.ref C) "__str__" = some (some (.ref f))) (hf : PySem.W.isFn X.K (.ref f) = true) :
    CallR X (.type "str") (fun xs H Q => ∃ a dx fs, xs = [.ref a] ∧ H a = some (.ins C dx fs) ∧ sp [.ref a] H (fun v H' => ∃ z : Str, v = .str z ∧ Q (.str z) H') E0) := by
  intro pins s σ H xs us Q I r h
  obtain ⟨a, dx, fs, rfl, ea, h⟩ := h
  obtain ⟨u, rfl, rx⟩ := vals1 r
  cases (show u = Value.ref a from rx)
  obtain ⟨mA, O, _⟩ := ins_get I.hok ea
  obtain ⟨od, J, _⟩ := O.look
  have hu : X.A.in1.in1.units < cLine := by
    have := hr.un
    show X.A.units + 1 + 1 < cLine
    omega
  refine PySem.W.kso_call hu I.kIn J hs hf ?_
  refine wpAny_mono (run_at F hg hr.in1.in1 I.env0.in1.in1 hb I (vs := [.ref a]) (us := [.ref a]) (.cons rfl .nil) h) ?_ fun _ _ y => y
  rintro u s' ⟨v, H', I', rv, z, ev, q⟩
  subst ev
  obtain ⟨t, rfl⟩ := (show ∃ t, u = Value.str z t from rv)
  exact ⟨.str z, H', I', ⟨_, rfl⟩, q⟩
end

/-! ### the same over data -/
section
variable {G : Gm} {X : Cx} {k : Nat} {f : Addr} {fd : FuncData} {ps : List Str} {sp : DSp}
def strO (c : Nat) (sp : DSp) : CG := fun ds Q => match ds with
  | [.obj c' fs] => c' = c ∧ sp [.obj c' fs] (fun d => match d with
    | .str n => Q (.str n)
    | _ => False) NoX
  | _ => False
theorem See.obj_rep {H0 : Hp} {w : Wd} {H : Hp} {c : Nat} {fs : List D} {v : V} (h : See G H0 w H (.obj c fs) v) : Rep G w (.obj c fs) v := h.rep (fun _ z => nomatch z) (fun _ _ z => nomatch z)
theorem cal_strO {c : Nat} (F : FnG X.prog X.w X.K X.mg X.base k f fd ps (lift G sp)) (hb : Binds X.K fd ps []) (hg : X.A.guards = some []) (hr : Room (k + 2) X.A) (hs : PySem.W.findIn X.K (.ref (G.cls c)) "__str__" = some (some (.ref f))) (hf : PySem.W.isFn X.K (.ref f) = true) :
    CaL G X (.type "str") (strO c sp) := by
  refine ⟨_, cr_strO F hg hr hb hs hf, fun H0 w H ds vs Q QD ok sx g k => ?_⟩
  match ds, g with
  | [.obj c' fs], g =>
    obtain ⟨hc, g2⟩ := g
    subst hc
    obtain ⟨v, rfl, s1⟩ := sx.one
    have rp := s1.obj_rep
    obtain ⟨a, dx, gs, rfl, e, _, _, htb⟩ := rp.obj_of
    refine ⟨a, dx, gs, rfl, ok.sub _ _ e, w, [.obj c' fs], _, NoX, ok, Reps.cons rp Reps.nil, g2, fun d v w' H' l ok' r q => ?_, LkE.none htb⟩
    cases d <;> try exact q.elim
    rename_i n
    exact ⟨n, r.str_of, k _ _ w' H' l ok' Rep.str q⟩
end

def strOX (c : Nat) (m : List D → R D) : List D → Option D
  | [.obj c' fs] => if c' = c then (match m [.obj c' fs] with
    | .ok (.str n) => some (.str n)
    | _ => none) else none
  | _ => none
theorem g_strO {c : Nat} {m : List D → R D} : CCG (strO c (spOf m)) (strOX c m) := fun ds d Q e q => by
  match ds, e with
  | [.obj c' fs], e =>
    unfold strOX at e
    dsimp only at e
    by_cases h : c' = c
    · rw [if_pos h] at e
      refine ⟨h, ?_⟩
      unfold spOf
      match z : m [.obj c' fs], e with
      | .ok (.str n), e => cases e; exact q
    · rw [if_neg h] at e; cases e
end DL
/-! The data layer, part 18: index, pop. -/
namespace DL
open PySem L2 PyProof.Rows
variable {G : Gm} {X : Cx} {E : XK}

end DL
/-! The data layer, part 19: calls with keywords and defaults. -/
namespace DL
open PySem L2 PyProof.Rows

/-- where a parameter's value comes from: a place, a keyword, a default -/
inductive Src where
  | p (i : Nat) | k (i : Nat) | d (i : Nat)
def pick {α : Type} (sel : List Src) (us ws ds : List α) : List α := sel.filterMap fun x => match x with
  | .p i => us[i]?
  | .k i => ws[i]?
  | .d i => ds[i]?
theorem pick_cons {α : Type} (x : Src) (sel : List Src) (us ws ds : List α) : pick (x :: sel) us ws ds = (match x with
  | .p i => us[i]?
  | .k i => ws[i]?
  | .d i => ds[i]?).toList ++ pick sel us ws ds := by
  unfold pick
  rw [List.filterMap_cons]
  cases x <;> (dsimp only; split <;> rename_i h <;> rw [h] <;> rfl)
theorem vals_get {i : Nat} : ∀ {vs : List V} {us : List Value}, Vals vs us → Vals (vs[i]?).toList (us[i]?).toList := fun {vs us} h => by
  induction h generalizing i with
  | nil => simp; exact .nil
  | cons r t ih =>
    cases i with
    | zero => exact .cons r .nil
    | succ i => simpa using ih (i := i)
theorem vals_pick {vs zs dvs : List V} {us ws its : List Value} (h1 : Vals vs us) (h2 : Vals zs ws) (h3 : Vals dvs its) : ∀ sel : List Src, Vals (pick sel vs zs dvs) (pick sel us ws its)
  | [] => .nil
  | x :: sel => by
    rw [pick_cons, pick_cons]
    refine Vals.append ?_ (vals_pick h1 h2 h3 sel)
    cases x with
    | p i => exact vals_get h1
    | k i => exact vals_get h2
    | d i => exact vals_get h3
theorem reps_get {G : Gm} {w : Wd} {i : Nat} {ds : List D} {vs : List V} (h : Reps G w ds vs) : Reps G w (ds[i]?).toList (vs[i]?).toList := by
  cases e : ds[i]? with
  | none =>
    have hl : vs[i]? = none := by
      rw [List.getElem?_eq_none_iff] at e ⊢
      rw [← h.length]; exact e
    rw [hl]; exact Reps.nil
  | some d =>
    obtain ⟨v, e2, r⟩ := h.getD e
    rw [e2]
    exact Reps.cons r Reps.nil
theorem reps_pick {G : Gm} {w : Wd} {ds es dd : List D} {vs zs dvs : List V} (h1 : Reps G w ds vs) (h2 : Reps G w es zs) (h3 : Reps G w dd dvs) : ∀ sel : List Src, Reps G w (pick sel ds es dd) (pick sel vs zs dvs)
  | [] => Reps.nil
  | x :: sel => by
    rw [pick_cons, pick_cons]
    refine Reps.append ?_ (reps_pick h1 h2 h3 sel)
    cases x with
    | p i => exact reps_get h1
    | k i => exact reps_get h2
    | d i => exact reps_get h3
/-- how a call binds: n values, keywords ks, defaults dd -/
def BdK (K : PySem.W.Frag) (fd : FuncData) (ps : List Str) (n : Nat) (ks : List Str) (sel : List Src) (dd : List D) : Prop :=
  ∃ (its : List Value) (dvs : List V), Vals dvs its ∧ (∀ (G : Gm), G.K = K → ∀ w : Wd, Reps G w dd dvs) ∧ ∀ (s : Shared) (us ws : List Value), K.In s.heap → us.length = n → ws.length = ks.length → BindsTo s fd ⟨us, ks.zip ws⟩ (ps.zip (pick sel us ws its))

/-! ### the written arguments -/
structure CW (X : Cx) (es : List Expr) (kws : List Keyword) (ks : List Str) (t : L2.St → Hp → (List V → List V → Hp → Prop) → Prop) : Prop where
  run : ∀ (pos : Pos) (pins : List (Addr × Obj)) (s : Shared) (σ : L2.St) (H : Hp) (f : Value) (first : List Value) (Qv : Value → Shared → Prop) (R : List V → List V → Hp → Prop), PySem.W.keepIn X.K f = true → Inv X pins σ H s → t σ H R →
    (∀ us ws vs zs s' H', Inv X pins σ H' s' → Vals vs us → Vals zs ws → R vs zs H' → wpAny (model X.prog X.w) X.A (call f (first ++ us) (ks.zip ws)) Qv X.xe s') →
    wpAny (model X.prog X.w) X.A (callWith pos f first (backTo pos (starEach es X.env)) (backToKw pos (keywordEach kws X.env))) Qv X.xe s
section
variable {X : Cx} {e : Expr} {es : List Expr} {kws : List Keyword} {ks : List Str} {t tk : TA}
theorem cw_kw0 (hk : PK X kws tk) (hall : ∀ pos, (backToKw pos (keywordEach kws X.env)).all (·.1.isSome) = true := by intro _; rfl) (hks : ∀ pos, (backToKw pos (keywordEach kws X.env)).filterMap (·.1) = ks := by intro _; rfl)
    (hpl : ∀ pos, ((backTo pos (starEach [] X.env)).any (·.1) || (backToKw pos (keywordEach kws X.env)).any (·.1.isNone)) = false := by intro _; rfl) :
    CW X [] kws ks (fun σ H R => tk σ H fun zs H2 => R [] zs H2) := ⟨fun pos pins s σ H f first Qv R hf I h k => by
  refine PySem.W.callWith_KW0 (h₀ := X.base) I.ok.mod.kin hf (hall pos) ?_ (hpl pos)
  refine thn (hk.run pos pins s σ H _ I h) fun ws s2 ⟨zs, H2, I2, rz, q2⟩ => ⟨I2.kIn, ?_⟩
  rw [hks pos]
  exact k [] ws [] zs s2 H2 I2 .nil rz q2⟩
end

/-! ### over data -/
abbrev FK := Env → (List D → List D → Prop) → XP → Prop
def tkD (G : Gm) (E : XK) (F : FK) : L2.St → Hp → (List V → List V → Hp → Prop) → Prop := fun s H R => ∃ w0 H0 r w QD EX, Fr G w0 H0 r s w H ∧ LkE G E w0 H0 EX ∧ F r QD EX ∧ ∀ ds es vs zs w' H', Le w H w' H' → Ok w' H' → Reps G w' ds vs → Reps G w' es zs → QD ds es → R vs zs H'
def fKw (A B : FA) : FK := fun r Q EX => A r (fun ds => B r (fun es => Q ds es) EX) EX
section
variable {X : Cx} {G : Gm} {E : XK} {k n : Nat} {f C : Addr} {fd : FuncData} {ps ks : List Str} {sel : List Src} {dd : List D} {x m : Str} {p pos apos kpos : Pos} {e o : Expr} {es : List Expr} {kws : List Keyword} {A : FE} {B B2 : FA} {F : FK} {sp : DSp} {nm : Option Str}
theorem _root_.L2.PK.weak {t t' : TA} (h : PK X kws t) (k : ∀ s H Q, t' s H Q → t s H Q) : PK X kws t' := ⟨fun ps p s σ H Q I q => h.run ps p s σ H Q I (k σ H Q q)⟩
theorem ck_nil : PK X [] (taD G E fNil) := PK.weak pk_nil fun s H Q ⟨w0, H0, r, w, QD, EX, fr, lk, f, k⟩ => k [] [] w H (.refl w H) fr.ok Reps.nil f
theorem ck_cons (ha : PE X e (tD G E A)) (hr : PK X kws (taD G E B)) : PK X (⟨nm, e, kpos⟩ :: kws) (taD G E (fCons A B)) := (pk_cons ha hr).weak fun s H Q ⟨w0, H0, r, w, QD, EX, fr, lk, f, k⟩ =>
  ⟨w0, H0, r, w, _, EX, fr, lk, f, fun d v w1 H1 l1 ok1 r1 q1 => ⟨w0, H0, r, w1, _, EX, fr.go l1 ok1, lk, q1, fun ds vs w2 H2 l2 ok2 r2 q2 => k (d :: ds) (v :: vs) w2 H2 (l1.trans l2) ok2 (Reps.cons (r1.mono l2.sub) r2) q2⟩⟩
theorem _root_.DL.CW.weak {t t' : L2.St → Hp → (List V → List V → Hp → Prop) → Prop} (h : CW X es kws ks t) (k : ∀ s H R, t' s H R → t s H R) : CW X es kws ks t' := ⟨fun pos pins s σ H f first Qv R hf I q => h.run pos pins s σ H f first Qv R hf I (k σ H R q)⟩
theorem ck_kw0 (hk : PK X kws (taD G E B2)) (hall : ∀ pos, (backToKw pos (keywordEach kws X.env)).all (·.1.isSome) = true := by intro _; rfl) (hks : ∀ pos, (backToKw pos (keywordEach kws X.env)).filterMap (·.1) = ks := by intro _; rfl)
    (hpl : ∀ pos, ((backTo pos (starEach [] X.env)).any (·.1) || (backToKw pos (keywordEach kws X.env)).any (·.1.isNone)) = false := by intro _; rfl) :
    CW X [] kws ks (tkD G E (fKw fNil B2)) := (cw_kw0 hk hall hks hpl).weak fun s H R ⟨w0, H0, r, w, QD, EX, fr, lk, f, k⟩ =>
  ⟨w0, H0, r, w, _, EX, fr, lk, f, fun es zs w2 H2 l2 ok2 r2 q2 => k [] es [] zs w2 H2 l2 ok2 Reps.nil r2 q2⟩
end
end DL
/-! The data layer, part 20: how calls bind; defs with defaults; objects made with keywords; what they compute. -/
namespace DL
open PySem L2 PyProof.Rows
section
variable {K : PySem.W.Frag} {x qual : Str} {st : Stmt} {f : Addr} {fd : FuncData} {ps : List Str}
/-- no defaults -/
theorem bdk_of (F : Fun K x qual st f fd) (n : Nat) (ks : List Str) (sel : List Src)
    (h : ∀ (kV doc pm : Value) (an : Option Addr) (cdv ct : Value) (us ws : List Value), us.length = n → ws.length = ks.length → bindArgs (PySem.W.fnOf x qual (defArgs st) (defBody st) (defScope st) .none kV doc pm an cdv ct) ⟨us, ks.zip ws⟩ = pure (ps.zip (pick sel us ws []))) : BdK K fd ps n ks sel [] := by
  obtain ⟨oc, od, kV, doc, pm, an, cdv, ct, osl, rfl, lk, hcd⟩ := F.ex
  exact ⟨[], [], .nil, fun _ _ _ => Reps.nil, fun s us ws _ h1 h2 => .of_eq (h kV doc pm an cdv ct us ws h1 h2)⟩
end
section
variable {P : Program} {w : World} {K : PySem.W.Frag} {mg : Str → Option Value} {base : Heap} {k : Nat} {f : Addr} {N ps : List Str} {sp : Sp}
theorem FunD.okG {x qual : Str} {params : Arguments} {bd : List Stmt} {scope : Scope} {dvs : List V} {kws : List (Str × V)} {fd : FuncData} (F : FunD K x qual params bd scope dvs kws f fd) (S : FnScope N ps scope) (len : ∀ vs H Q E, sp vs H Q E → vs.length = ps.length)
    (body : ∀ (cdv : Value) (A : Around) (outer : List PySem.Env) (s : Shared) (H : Hp) (vs : List V) (Q : VK) (E : XK), A.guards = some [] → Room k (A.deeper (envOfC qual scope s.heap.objs.size f cdv)) → sp vs H Q E →
      ∃ t, PSs (cxOf (L2.CX P w) P w K mg base N qual scope f cdv A outer s H E) bd t ∧ t { nx := fun _ H' => Q .non H', rt := Q } (L2.start N vs) H) : FnG P w K mg base (k + 1) f fd ps sp := by
  obtain ⟨oc, od, dV, kV, doc, pm, an, cdv, ct, osl, rfl, lk, hcd, _, _⟩ := F.ex
  refine ⟨len, fun A outer s H args us vs Q E hg hr e0 hb rv hsp => ?_⟩
  have nl := len _ _ _ _ hsp
  have inK : K.In s.heap := e0.mod.kin.keeps fun b o e => (e0.bs b o e).1
  have lim : s.heap.NoLimit := e0.mod.nolimit.keeps fun b o e => (e0.bs b o e).1
  have kinds : ∀ y ∈ ps.zip us, scope.names.lookup y.1 = some .local ∨ (scope.names.lookup y.1 = some .cell ∧ ((cellsFrom (s.heap.objs.size + 1) scope.names []).lookup y.1).isSome = true) := by
    rintro ⟨n, v⟩ hy
    exact (S.par n (List.of_mem_zip hy).1).imp id fun q => ⟨q, PySem.W.cellsFrom_some _ _ _ (.inl q)⟩
  refine codeAny_call_function hr.depth (inK _ _ lk) rfl S.co S.gen rfl (PySem.W.codeRec_of inK hcd) (hb _ _ _ _ ?_)
  refine wpAny_newFunctionEnv_cells S.kind kinds fun env he s1 x1 => ?_
  subst he
  refine ⟨lim.keeps x1.toInCall.keep, codeAny_func ?_⟩
  obtain ⟨t, ht, hq⟩ := body cdv A outer s H vs Q E hg (hr.deeper _) hsp
  have I := inv_start (CX := L2.CX P w) (E := E) (qual := qual) (f := f) (cd := cdv) S hr.hd e0 nl rv x1
  refine wpAny_mono (ht.run [] s1 (L2.start N vs) H _ I hq) (fun fl s' hs => ?_) (fun e s' hs => hs)
  cases fl with
  | ret u =>
    obtain ⟨v, _, H', J, r, q⟩ := hs
    exact ⟨v, H', J.os, J.bare, J.base, J.hok, r, q⟩
  | next =>
    obtain ⟨_, H', J, q⟩ := hs
    exact ⟨V.non, H', J.os, J.bare, J.base, J.hok, rfl, q⟩
  | brk => exact (hs.elim fun _ z => z.elim fun _ y => (show False from y.2).elim)
  | cont => exact (hs.elim fun _ z => z.elim fun _ y => (show False from y.2).elim)
end
/-! ### C(.., k = ..) -/
def shiftS : Src → Src
  | .p i => .p (i + 1)
  | x => x
def selI (sel : List Src) : List Src := .p 0 :: sel.map shiftS
theorem pick_selI {α : Type} (sel : List Src) (a : α) (us ws its : List α) : pick (selI sel) (a :: us) ws its = a :: pick sel us ws its := by
  unfold selI
  rw [pick_cons]
  show a :: pick (sel.map shiftS) (a :: us) ws its = a :: pick sel us ws its
  congr 1
  induction sel with
  | nil => rfl
  | cons x sel ih =>
    rw [List.map_cons, pick_cons, pick_cons, ih]
    cases x <;> simp [shiftS]
section
variable {X : Cx} {G : Gm} {E : XK} {k n : Nat} {f C : Addr} {fd : FuncData} {ps ks : List Str} {sel : List Src} {dd : List D} {x : Str} {p pos : Pos} {es : List Expr} {kws : List Keyword} {F : FK}
theorem run_gmakeK {sp : Sp} {pins : List (Addr × Obj)} {σ : L2.St} {H : Hp} {s : Shared} {Q : VK} {us ws args : List Value} {vs : List V} (M : Mk X.K C f) (F : FnG X.prog X.w X.K X.mg X.base k f fd ps sp) (hgd : X.A.guards = some []) (hr : Room (k + 1) X.A)
    (hb : ∀ (s' : Shared) (a : Value), X.K.In s'.heap → BindsTo s' fd ⟨a :: us, ks.zip ws⟩ (ps.zip (a :: args))) (hx : PassX X E) (I : Inv X pins σ H s) (r : Vals vs args)
    (h : ∀ x dx, H x = none → H dx = none → dx ≠ x → sp (.ref x :: vs) (upd (upd H dx (.own x)) x (.ins C dx [])) (fun v H2 => v = .non ∧ Q (.ref x) H2) E) :
    wpAny (model X.prog X.w) X.A (call (.ref C) us (ks.zip ws)) (EP X pins σ Q) X.xe s := by
  have hq := h (s.heap.objs.size + 1) s.heap.objs.size (I.hok.fresh (Nat.le_succ _)) I.fresh (Nat.ne_of_lt (Nat.lt_succ_self _))
  have J := Inv.made (C := C) I
  have both : Vals (V.ref (s.heap.objs.size + 1) :: vs) (Value.ref (s.heap.objs.size + 1) :: args) := .cons rfl r
  refine wpAny_call (make_map (f := f) I.kIn M.makes M.init (beq_iff_eq.mp M.fn) (codeAny_mono (F.run _ X.stack _ _ ⟨Value.ref (s.heap.objs.size + 1) :: us, ks.zip ws⟩ (Value.ref (s.heap.objs.size + 1) :: args) _ _ E (guards_make hgd) (hr.make C us (ks.zip ws))
    (J.env0.make C us (ks.zip ws)) (hb _ _ J.kIn) both hq) ?_))
  rintro (er | fl) s' hq'
  · exact hx pins σ _ _ er s' J hq'
  · cases fl with
    | ret u =>
      obtain ⟨v, H', I3, rv, ev, q3⟩ := J.after hq'
      subst ev
      exact ⟨rv, V.ref (s.heap.objs.size + 1), H', I3, rfl, q3⟩
    | next => exact hq'.elim
    | brk => exact hq'.elim
    | cont => exact hq'.elim
def fMakeK (c n m : Nat) (sel : List Src) (dd : List D) (sp : List D → (List D → Prop) → XP → Prop) (F : FK) : FE := fun r Q EX => F r (fun ds es => ds.length + 1 = n ∧ es.length = m ∧ sp (pick sel ds es dd) (fun gs => Q (.obj c gs)) EX) EX
theorem ce_makeK {c : Nat} {spI : List D → (List D → Prop) → XP → Prop} (M : Mk X.K (G.cls c) f) (Fn : FnG X.prog X.w X.K X.mg X.base k f fd ps (liftI G c spI)) (hm : X.mg x = some (.ref (G.cls c))) (hb : BdK X.K fd ps n ks (selI sel) dd) (hgd : X.A.guards = some []) (hr : Room (k + 1) X.A) (hx : PassX X E)
    (hc : CW X es kws ks (tkD G E F)) (hg : Gl X x := by rfl) (hdb : (x == ("__debug__" : Str)) = false := by decide) (hKG : G.K = X.K := by rfl) : PE X (.Call (.Name x p) es kws pos) (tD G E (fMakeK c n ks.length sel dd spI F)) := ⟨fun pins s σ H Q I h => by
  obtain ⟨w0, H0, r, w, QD, EX, fr, lk, f0, kk⟩ := h
  obtain ⟨its, dvs, rd, rD, bd⟩ := hb
  refine wpAny_Call_Name_kw (ld_glob I hg hm ?_ hdb)
  refine hc.run pos pins s σ H (.ref (G.cls c)) [] _ _ M.kp I ⟨w0, H0, r, w, _, EX, fr, lk, f0, fun ds es vs zs w1 H1 l1 ok1 r1 r2 q1 => (⟨w1, ds, es, l1, ok1, r1, r2, q1⟩ : ∃ w1 ds es, Le w H w1 H1 ∧ Ok w1 H1 ∧ Reps G w1 ds vs ∧ Reps G w1 es zs ∧ ds.length + 1 = n ∧ es.length = ks.length ∧ spI (pick sel ds es dd) (fun gs => QD (.obj c gs)) EX)⟩ ?_
  rintro us ws vs zs s' H' I' rv rz ⟨w1, ds, es, l1, ok1, r1, r2, hn, hm', q⟩
  refine run_gmakeK (us := us) (args := pick sel us ws its) M Fn hgd hr (fun s2 a hin => ?_) hx I' (vals_pick rv rz rd sel) fun y dy ny ndy ne => ?_
  · have := bd s2 (a :: us) ws hin (by rw [List.length_cons, ← rv.length, ← r1.length]; exact hn) (by rw [← rz.length, ← r2.length]; exact hm')
    rw [pick_selI] at this
    exact this
  · exact ⟨w1, H', y, dy, pick sel vs zs dvs, pick sel ds es dd, _, EX, rfl, ny, ndy, ne, rfl, ok1, reps_pick r1 r2 (rD G hKG w1) sel, q, fun es fs w2 H2 dz l2 ok2 mi h2 hf r3 q2 => ⟨rfl, by
      refine kk (.obj c es) (.ref y) (w2.frz H2 y) H2 (l1.trans (l2.frz mi.1 ny)) (ok2.frz mi.2.1) ?_ q2
      unfold Rep
      exact ⟨y, dz, fs, rfl, by rw [frz_at]; exact h2, hf, r3.mono (.frz mi.1), (l2.sub.tb.trans l1.sub.tb).trans (fr.le.sub.tb.trans lk.2)⟩⟩, lk.go (fr.le.trans l1)⟩⟩
end
/-! ### what they compute -/
def xKw (a b : List Sl → R (List D)) (r : List Sl) : R (List D × List D) := (a r).bind fun ds => (b r).bind fun es => .ok (ds, es)
def CK (F : FK) (c : List Sl → R (List D × List D)) : Prop := ∀ {x : Addr} r r' Q EX, Sim x r r' → (c r).hold (fun p => Q p.1 p.2) EX → F r' Q EX
theorem f_kw {A B : FA} {a b : List Sl → R (List D)} (ha : CF A a) (hb : CF B b) : CK (fKw A B) (xKw a b) := fun r r' Q EX s h =>
  ha r r' _ EX s ((hold_bind h).imp fun ds h1 => hb r r' _ EX s ((hold_bind h1).imp fun es h2 => h2))
def xMakeK (k n m : Nat) (sel : List Src) (dd : List D) (c : List D → R D) (b : List Sl → R (List D × List D)) (r : List Sl) : R D := (b r).bind fun p => if p.1.length + 1 = n ∧ p.2.length = m then (frcs (pick sel p.1 p.2 dd) c).bind fun d => (match d with
  | .tup es => .ok (.obj k es)
  | _ => .no) else .no
theorem f_makeK {k n m : Nat} {sel : List Src} {dd : List D} {c : List D → R D} {F : FK} {b : List Sl → R (List D × List D)} (hb : CK F b) : CF (fMakeK k n m sel dd (spIn c) F) (xMakeK k n m sel dd c b) := fun r r' Q EX s h => hb r r' _ EX s ((hold_bind h).imp fun p h2 => by
  by_cases z2 : p.1.length + 1 = n ∧ p.2.length = m
  · rw [if_pos z2, frcs_eq] at h2
    refine ⟨z2.1, z2.2, ?_⟩
    refine (hold_bind h2).imp fun d h3 => ?_
    cases d <;> first | exact h3.elim | exact h3
  · rw [if_neg z2] at h2; exact h2.elim)
end DL
namespace DL
open PySem L2
/-- a def of the text with its promise, and how it stands -/
def DefU (P : Program) (w : World) (G : Gm) (mg : Str → Option Value) (base : Heap) (k : Nat) (f : Addr) (ps : List Str) (U : FuncData → Prop) (sp : Sp) : Prop := ∃ fd, FnG P w G.K mg base k f fd ps sp ∧ U fd
end DL
/-! The data layer, part 21: own lists: by +, moved, walked. -/
namespace DL
open PySem L2 PyProof.Rows
section
variable {X : Cx} {G : Gm} {E : XK} {a b e : Expr} {pos : Pos} {A B : FE}
/-- a + b of lists, as a new list -/
def fAddN (A B : FE) : FA := fun r Q EX => A r (fun x => B r (fun y => match x, y with
  | .lst xs, .lst ys => xs.length + ys.length ≤ sizeLine ∧ Q (xs ++ ys)
  | _, _ => False) EX) EX
theorem cf_add (ha : PE X a (bD G E A)) (hb : PE X b (bD G E B)) (hK : X.K = G.K := by rfl) : PE X (.BinOp a .Add b pos) (fD G E (fAddN A B)) := (pe_op op_catR ha hb).weak fun s H Q ⟨w0, H0, r, w, QD, EX, fr, lk, f, k⟩ => by
  refine ⟨w0, H0, r, w, _, EX, fr, lk, f, fun x v w1 H1 l1 ok1 s1 q1 => ?_⟩
  refine ⟨w0, H0, r, w1, _, EX, fr.go l1 ok1, lk, q1, fun y u w2 H2 l2 ok2 s2 q2 => ?_⟩
  cases x <;> try exact q2.elim
  cases y <;> try exact q2.elim
  rename_i xs ys
  obtain ⟨hz, q2⟩ := q2
  obtain ⟨p, vs, rfl, t1, r1⟩ := (s1.go l2).lst_of ok2
  obtain ⟨q, us, rfl, t2, r2⟩ := s2.lst_of ok2
  refine ⟨p, q, vs, us, rfl, rfl, hK ▸ t1, hK ▸ t2, by rw [← r1.length, ← r2.length]; exact hz, fun n hn => ?_⟩
  exact k _ n _ w2 _ ((l1.trans l2).trans (Le.new hn)) (ok2.new hn) ((l1.trans l2).none_of hn) (Mine.new (w := w) (H := H) (fr.le.trans (l1.trans l2)) ok2 hn) upd_same (r1.append r2) q2
def xAddN (a b : List Sl → R D) (r : List Sl) : R (List D) := (a r).bind fun x => (b r).bind fun y => match x, y with
  | .lst xs, .lst ys => if Nat.ble (xs.length + ys.length) 16777216 = true then .ok (xs ++ ys) else .no
  | _, _ => .no
theorem f_addN {a b : List Sl → R D} (ha : CF A a) (hb : CF B b) : CF (fAddN A B) (xAddN a b) := fun r r' Q EX s h => ha r r' _ EX s ((hold_bind h).imp fun x h1 => hb r r' _ EX s ((hold_bind h1).imp fun y h2 => by
  cases x <;> try exact h2.elim
  cases y <;> try exact h2.elim
  rename_i xs ys
  dsimp only at h2 ⊢
  by_cases z : Nat.ble (xs.length + ys.length) 16777216 = true
  · rw [if_pos z] at h2
    exact ⟨by rw [sizeLine_eq]; exact Nat.le_of_ble_eq_true z, h2⟩
  · rw [if_neg z] at h2; exact h2.elim))
theorem Fr.un {w0 : Wd} {H0 : Hp} {r : Env} {s : L2.St} {w : Wd} {H : Hp} (f : Fr G w0 H0 r s w H) (j : Nat) : Fr G w0 H0 (r.set j .un) s w H where
  ok := f.ok
  le := f.le
  len := by rw [List.length_set]; exact f.len
  slot := fun i x e => by
    by_cases z : j = i
    · subst z
      have hj : j < r.length := by
        have q := (List.getElem?_eq_some_iff.mp e).1
        simpa using q
      rw [List.getElem?_set_self hj] at e
      cases e
      trivial
    · rw [List.getElem?_set_ne z] at e
      exact f.slot i x e
  dist := fun i k x y a e1 e2 o1 o2 q1 q2 => by
    have nn : ∀ {n : Nat} {u : Sl}, (r.set j .un)[n]? = some u → u.isOwn = true → r[n]? = some u := fun {n u} en on => by
      by_cases z : j = n
      · subst z
        have hj : j < r.length := by
          have q := (List.getElem?_eq_some_iff.mp en).1
          simpa using q
        rw [List.getElem?_set_self hj] at en
        cases en
        cases on
      · rw [List.getElem?_set_ne z] at en; exact en
    exact f.dist i k x y a (nn e1 o1) (nn e2 o2) o1 o2 q1 q2
end
end DL
/-! The data layer, part 22: {k: v, ..}, a new dict as a value. -/
namespace DL
open PySem L2 PyProof.Rows
section
variable {X : Cx} {G : Gm} {E : XK} {a b e : Expr} {pos : Pos} {A B : FE}
def fPs : List (FE × FE) → Env → (List D → List D → Prop) → XP → Prop
  | [], _, Q, _ => Q [] []
  | (A, B) :: ps, r, Q, EX => A r (fun k => B r (fun d => fPs ps r (fun ks ds => Q (k :: ks) (d :: ds)) EX) EX) EX
def trsD (G : Gm) (E : XK) (ps : List (FE × FE)) : List (TE × TE) := ps.map fun p => (tD G E p.1, tD G E p.2)
theorem ps_walk {w0 : Wd} {H0 : Hp} {r : Env} {s : L2.St} {EX : XP} (lk : LkE G E w0 H0 EX) : ∀ (ps : List (FE × FE)) {w : Wd} {H : Hp} {QD : List D → List D → Prop} {Q : List (V × V) → Hp → Prop}, Fr G w0 H0 r s w H → fPs ps r QD EX →
    (∀ ks ds us vs w' H', Le w H w' H' → Ok w' H' → Reps G w' ks us → Reps G w' ds vs → us.length = vs.length → QD ks ds → Q (us.zip vs) H') → tPairs (trsD G E ps) s H Q
  | [], w, H, QD, Q, fr, f, k => k [] [] [] [] w H (.refl w H) fr.ok Reps.nil Reps.nil rfl f
  | (A, B) :: ps, w, H, QD, Q, fr, f, k => by
    refine ⟨w0, H0, r, w, _, EX, fr, lk, f, fun x v w1 H1 l1 ok1 r1 q1 => ?_⟩
    refine ⟨w0, H0, r, w1, _, EX, fr.go l1 ok1, lk, q1, fun y u w2 H2 l2 ok2 r2 q2 => ?_⟩
    refine ps_walk lk ps ((fr.go l1 ok1).go l2 ok2) q2 fun ks ds us vs w3 H3 l3 ok3 r3 r4 el q3 => ?_
    exact k _ _ (v :: us) (u :: vs) w3 H3 ((l1.trans l2).trans l3) ok3 (Reps.cons (r1.mono (l2.sub.trans l3.sub)) r3) (Reps.cons (r2.mono l3.sub) r4) (by rw [List.length_cons, List.length_cons, el]) q3
def kD : Key → D
  | .inl n => .int n
  | .inr s => .str s
theorem reps_keys {w : Wd} : ∀ {ks : List Key} {us : List V}, Reps G w (ks.map kD) us → us = ks.map kV
  | [], us, h => h.of_nil
  | k :: ks, us, h => by
    obtain ⟨v, r, e, h1, h2⟩ := Reps.of_cons h
    subst e
    rw [List.map_cons, reps_keys h2]
    cases k with
    | inl n => rw [h1.int_of]; rfl
    | inr s => rw [h1.str_of]; rfl
theorem merge_new : ∀ (more acc : List (Key × V)), ((acc ++ more).map (·.1)).Nodup → mergeK acc more = acc ++ more
  | [], acc, _ => by rw [List.append_nil]; rfl
  | p :: more, acc, h => by
    have hn : valV acc p.1 = none := by
      unfold valV
      rw [Option.map_eq_none_iff, List.find?_eq_none]
      intro q hq hc
      rw [List.map_append, List.map_cons, List.nodup_append] at h
      exact h.2.2 _ (List.mem_map_of_mem hq) _ List.mem_cons_self (by simpa using hc)
    show mergeK (putK acc p.1 p.2) more = _
    rw [putK_new _ hn, merge_new more _ (by rw [List.append_assoc]; exact h), List.append_assoc]
    rfl
/-- {k: v, ..}: keys apart, no more than fifteen -/
def fDic (ks : List Key) (ps : List (FE × FE)) : FE := fun r Q EX => fPs ps r (fun kd ds => kd = ks.map kD ∧ Q (.dic ks ds)) EX
theorem ce_dic {keys : List (Option Expr)} {values : List Expr} (ks : List Key) {ps : List (FE × FE)} (h : PPs X pos keys values (trsD G E ps)) (hd : ks.Nodup := by decide) (h15 : ks.length ≤ 15 := by decide) (hall : keys.all (·.isSome) = true := by rfl) (hl : keys.length = values.length := by rfl)
    (h0 : keys ≠ [] := by simp) (h16 : keys.length ≤ 15 := by decide) : PE X (.Dict keys values pos) (tD G E (fDic ks ps)) := (pe_disp h hall hl h0 h16).weak fun s H Q ⟨w0, H0, r, w, QD, EX, fr, lk, f, k⟩ => by
  intro p hp
  have fr1 := fr.go (Le.new (w := w) (o := .dK []) hp) (fr.ok.new hp)
  refine ps_walk lk ps fr1 f fun kd ds us vs w1 H1 l1 ok1 r1 r2 el ⟨ek, q⟩ => ?_
  subst ek
  have eu := reps_keys r1
  have hlv : ks.length = vs.length := by rw [← el, eu, List.length_map]
  have m0 : Mine H0 w p := ⟨fr.ok.none_hd hp, fr.ok.none_jr hp, fr.le.none_of hp⟩
  have hat : H1 p = some (.dK []) := l1.keep p _ upd_same m0.2.1
  have m1 : Mine H0 w1 p := m0.le upd_same l1
  refine ⟨hat, ks.zip vs, ?_, ?_, ?_⟩
  · rw [eu]
    rw [List.zip_map_left]
    rfl
  · rw [List.length_zip]; omega
  · have em : mergeK [] (ks.zip vs) = ks.zip vs := by
      rw [merge_new _ _ (by rw [List.nil_append, List.map_fst_zip (by omega)]; exact hd)]
      rfl
    rw [em]
    have l2 := (((Le.new (w := w) (o := .dK []) hp).trans l1).put (o := .dK (ks.zip vs)) hp).frz m1.1 hp
    refine k _ _ _ _ l2 ((ok1.put m1.1 m1.2.1).frz m1.2.1) ?_ q
    unfold Rep
    exact ⟨p, vs, rfl, .inl (by rw [frz_at, upd_same]), hlv, r2.mono (.frz m1.1)⟩
def xPs : List ((DL.Env → R D) × (DL.Env → R D)) → DL.Env → (List D → List D → R D) → R D
  | [], _, q => q [] []
  | (a, b) :: ps, r, q => (a r).bind fun k => (b r).bind fun d => xPs ps r fun ks ds => q (k :: ks) (d :: ds)
def eqK : List D → List Key → Bool
  | [], [] => true
  | .int n :: ds, .inl m :: ks => decide (n = m) && eqK ds ks
  | .str n :: ds, .inr m :: ks => decide (n = m) && eqK ds ks
  | _, _ => false
theorem eqK_of : ∀ {ds : List D} {ks : List Key}, eqK ds ks = true → ds = ks.map kD
  | [], [], _ => rfl
  | d :: ds, [], h => by cases d <;> cases h
  | [], k :: ks, h => by cases k <;> cases h
  | d :: ds, k :: ks, h => by
    cases d <;> cases k <;> try (unfold eqK at h; cases h)
    all_goals
      unfold eqK at h
      rw [Bool.and_eq_true, decide_eq_true_iff] at h
      obtain ⟨h1, h2⟩ := h
      subst h1
      rw [eqK_of h2]
      rfl
def xDic (ks : List Key) (ps : List ((DL.Env → R D) × (DL.Env → R D))) (r : DL.Env) : R D := xPs ps r fun kd ds => if eqK kd ks = true then .ok (.dic ks ds) else .no
inductive CPs : List (FE × FE) → List ((DL.Env → R D) × (DL.Env → R D)) → Prop where
  | nil : CPs [] []
  | cons {A B : FE} {a b : DL.Env → R D} {ps qs} (ha : CF A a) (hb : CF B b) (h : CPs ps qs) : CPs ((A, B) :: ps) ((a, b) :: qs)
theorem xPs_run {x : Addr} {ps qs} (h : CPs ps qs) : ∀ {r r' : DL.Env} {q : List D → List D → R D} {Q : D → Prop} {F : List D → List D → Prop} {EX : XP}, Sim x r r' → (xPs qs r q).hold Q EX → (∀ ks ds, (q ks ds).hold Q EX → F ks ds) → fPs ps r' F EX := by
  induction h with
  | nil => intro r r' q Q F EX s h k; exact k _ _ h
  | cons ha hb _ ih =>
    intro r r' q Q F EX s h k
    exact ha r r' _ EX s ((hold_bind h).imp fun x h1 => hb r r' _ EX s ((hold_bind h1).imp fun y h2 => ih s h2 fun ks ds h3 => k _ _ h3))
theorem f_dic {ks : List Key} {ps qs} (h : CPs ps qs) : CF (fDic ks ps) (xDic ks qs) := fun r r' Q EX s h0 => xPs_run h s h0 fun kd ds h1 => by
  by_cases z : eqK kd ks = true
  · rw [if_pos z] at h1; exact ⟨eqK_of z, h1⟩
  · rw [if_neg z] at h1; exact h1.elim
end
end DL
/-! The data layer, part 23: -x. -/
namespace DL
open PySem L2 PyProof.Rows
section
variable {X : Cx} {G : Gm} {E : XK} {a b e : Expr} {pos : Pos} {A B : FE}
def fNeg (A : FE) : FE := fun r Q EX => A r (fun d => match d with
  | .int n => Q (.int (-n))
  | _ => False) EX
theorem ce_neg (ha : PE X a (tD G E A)) : PE X (.UnaryOp .USub a pos) (tD G E (fNeg A)) := (pe_un un_neg ha).weak fun s H Q ⟨w0, H0, r, w, QD, EX, fr, lk, f, k⟩ =>
  ⟨w0, H0, r, w, _, EX, fr, lk, f, fun x v w1 H1 l1 ok1 rp q1 => by
    cases x <;> try exact q1.elim
    rw [rp.int_of]
    exact ⟨_, rfl, k _ _ w1 H1 l1 ok1 Rep.int q1⟩⟩
def xNeg (a : DL.Env → R D) (r : DL.Env) : R D := (a r).bind fun d => match d with
  | .int n => .ok (.int (-n))
  | _ => .no
theorem f_neg {a : DL.Env → R D} (ha : CF A a) : CF (fNeg A) (xNeg a) := fun r r' Q EX s h => ha r r' _ EX s ((hold_bind h).imp fun d h1 => by
  cases d <;> first | exact h1.elim | exact h1)
end
end DL
/-! The data layer, part 24: a, b = e, [..] where a name is a cell: the tuple is made and taken apart. -/
namespace DL
open PySem L2 PyProof.Rows
section
variable {X : Cx} {G : Gm} {E : XK} {pos : Pos} {i j : Nat} {x y : Str} {a b : Expr} {px py pt : Pos} {kt k2 pt2}
end
end DL
/-! A walk over a list, a tuple or a text, whichever it is. -/
namespace DL
open PySem L2 PyProof.Rows
/-- what is walked of a list, a tuple, a text -/
def seqD : D → Option (List D)
  | .lst ds => some ds
  | .tup ds => some ds
  | .str z => some (signs z)
  | _ => none
def fItA (A : FE) : FI := fun r Q EX => A r (fun d => ∃ ds, seqD d = some ds ∧ Q ds) EX
section
variable {X : Cx} {G : Gm} {E : XK} {tg l : Expr} {A : FE}
def iAnyT (K : PySem.W.Frag) (tl : TE) : TI := fun σ H R => tl σ H fun x H1 =>
  (∃ a, x = .ref a ∧ (∃ xs, SqL K H1 a xs) ∧ R (Itl K a) H1) ∨ (∃ a, x = .ref a ∧ (∃ xs, SqT K H1 a xs) ∧ R (Itt K a) H1) ∨ (∃ z, x = .str z ∧ R (Its z) H1)
theorem pi_anyT {tl : TE} (hl : PE X l tl) : PI X tg l (iAnyT X.K tl) := by
  refine ⟨fun pins s σ H R I h => ?_⟩
  refine thn (hl.run pins s σ H _ I h) fun v s1 ⟨x, H1, I1, r1, q1⟩ => ?_
  rcases q1 with ⟨a, e, ⟨xs, hq⟩, q⟩ | ⟨a, e, ⟨xs, hq⟩, q⟩ | ⟨z, e, q⟩
  · subst e
    cases r1
    obtain ⟨its, rv, p, hz⟩ := I1.list hq
    refine wpAny_pyIter_list p.isList ?_
    refine ⟨s1.heap.objs.size, [s1.heap.objs.size], _, _, H1, rfl, I1.kept (t' := s1.toks) fun b o e => Heap.get?_push_of_some _ e, turn_list a _, ⟨_, Heap.get?_push_size _ rfl, rfl, rfl⟩, fun b hb => ?_, q⟩
    have e : b = s1.heap.objs.size := by simpa using hb
    subst e
    exact I1.fpOk (Nat.le_refl _) (I1.hok.fresh (Nat.le_refl _))
  · subst e
    cases r1
    obtain ⟨its, rv, p, hz⟩ := I1.tuple hq
    refine wpAny_pyIter_tuple (show s1.heap.IsTuple a its.toArray from p) ?_
    refine ⟨s1.heap.objs.size, [s1.heap.objs.size], _, _, H1, rfl, I1.kept (t' := s1.toks) fun b o e => Heap.get?_push_of_some _ e, turn_tuple a _, ⟨_, Heap.get?_push_size _ rfl, rfl, rfl⟩, fun b hb => ?_, q⟩
    have e : b = s1.heap.objs.size := by simpa using hb
    subst e
    exact I1.fpOk (Nat.le_refl _) (I1.hok.fresh (Nat.le_refl _))
  · subst e
    obtain ⟨t, rfl⟩ := r1
    cases ha : z.cps.all (· < 128)
    · exact wpAny_pyIter_wide ha (pi_one (tk := s1.toks) I1 _ (turn_str _ z t "str_iterator" (.inr rfl)) ⟨_, Heap.get?_push_size _ rfl, rfl, rfl⟩ q)
    · exact wpAny_pyIter_ascii ha (pi_one (tk := s1.toks) I1 _ (turn_str _ z t "str_ascii_iterator" (.inl rfl)) ⟨_, Heap.get?_push_size _ rfl, rfl, rfl⟩ q)
theorem cis_any (h : PE X l (tD G E A)) (hK : X.K = G.K := by rfl) : PI X tg l (iS G E (fItA A)) := (pi_anyT h).weak fun s H R ⟨w0, H0, r, w, QD, EX, fr, lk, f, k⟩ =>
  ⟨w0, H0, r, w, _, EX, fr, lk, f, fun d v w1 H1 l1 ok1 r1 ⟨ds, ed, q⟩ => by
    cases d <;> first | (cases ed; done) | skip
    · rename_i z zz
      cases ed
      exact .inr (.inr ⟨z, r1.str_of, k (signs z) _ w1 H1 l1 ok1 src_str q⟩)
    · cases ed
      obtain ⟨a, vs, ev, h1, r2⟩ := r1.tup_of
      exact .inr (.inl ⟨a, ev, ⟨vs, hK ▸ sqT_sub ok1.sub h1.sqt⟩, k _ _ w1 H1 l1 ok1 (src_tup (hK ▸ h1.sqt) r2) q⟩)
    · cases ed
      obtain ⟨a, vs, ev, h1, r2⟩ := r1.lst_of
      exact .inl ⟨a, ev, ⟨vs, hK ▸ (lsT_sub ok1.sub h1).sql⟩, k _ _ w1 H1 l1 ok1 (src_list (hK ▸ h1) r2) q⟩⟩
theorem cie_any (h : PE X l (bD G E A)) (hK : X.K = G.K := by rfl) : PI X tg l (iE G E (fItA A)) := (pi_anyT h).weak fun s H R ⟨w0, H0, r, w, QD, EX, fr, lk, f, k⟩ =>
  ⟨w0, H0, r, w, _, EX, fr, lk, f, fun d v w1 H1 l1 ok1 r1 ⟨ds, ed, q⟩ => by
    cases d <;> first | (cases ed; done) | skip
    · rename_i z zz
      cases ed
      rcases r1 with r1 | ⟨_, _, _, _, e2, _⟩ | ⟨_, _, _, _, _, e2, _⟩
      · exact .inr (.inr ⟨z, r1.str_of, k (signs z) _ w1 H1 l1 ok1 src_str.toE q⟩)
      · cases e2
      · cases e2
    · cases ed
      rcases r1 with r1 | ⟨_, _, _, _, e2, _⟩ | ⟨_, _, _, _, _, e2, _⟩
      · obtain ⟨a, vs, ev, h1, r2⟩ := r1.tup_of
        exact .inr (.inl ⟨a, ev, ⟨vs, hK ▸ sqT_sub ok1.sub h1.sqt⟩, k _ _ w1 H1 l1 ok1 (src_tup (hK ▸ h1.sqt) r2).toE q⟩)
      · cases e2
      · cases e2
    · cases ed
      rcases r1 with r1 | ⟨a, vs, es, ev, e2, m, h1, r2⟩ | ⟨_, _, _, _, _, e2, _⟩
      · obtain ⟨a, vs, ev, h1, r2⟩ := r1.lst_of
        exact .inl ⟨a, ev, ⟨vs, hK ▸ (lsT_sub ok1.sub h1).sql⟩, k _ _ w1 H1 l1 ok1 (src_list (hK ▸ h1) r2).toE q⟩
      · cases e2
        exact .inl ⟨a, ev, ⟨vs, .inl (.of h1)⟩, k _ _ w1 H1 l1 ok1 (src_listE m.2.1 h1 r2) q⟩
      · cases e2⟩
end
def iA (a : Env → R D) (r : Env) : R (List D) := (a r).bind fun d => match seqD d with
  | some ds => .ok ds
  | none => .no
theorem f_itA {A : FE} {a : Env → R D} (ha : CF A a) : CF (fItA A) (iA a) := fun r r' Q EX s h => ha r r' _ EX s ((hold_bind h).imp fun d h1 => by
  cases e : seqD d with
  | none => rw [e] at h1; exact h1.elim
  | some ds => rw [e] at h1; exact ⟨ds, rfl, h1⟩)
end DL
/-! list * int. -/
namespace DL
open PySem L2 PyProof.Rows
variable {G : Gm} {X : Cx}
theorem vals_rep {xs : List V} {its : List Value} (r : Vals xs its) : ∀ n : Nat, Vals (List.replicate n xs).flatten (List.replicate n its).flatten
  | 0 => .nil
  | n + 1 => by
    rw [List.replicate_succ, List.replicate_succ, List.flatten_cons, List.flatten_cons]
    exact Vals.append r (vals_rep r n)
theorem op_mulL : OpR X (binaryOp .Mult) (fun x y H Q => ∃ l xs n, x = V.ref l ∧ y = V.int n ∧ LsT X.K H l xs ∧ 0 ≤ n ∧ n ≤ 16777216 ∧ xs.length * n.toNat ≤ 16777216 ∧ ∀ p, H p = none → Q (.ref p) (upd H p (.lst (List.replicate n.toNat xs).flatten))) := by
  intro pins s σ H x y v u Q I rx ry h
  obtain ⟨l, xs, n, rfl, rfl, hs, h0, h1, hz, q⟩ := h
  obtain rfl : v = Value.ref l := rx
  obtain ⟨k, rfl⟩ := ry
  obtain ⟨its, m, rv, ho⟩ := hs.at I
  have hsl := sizeLine_eq
  have hl : its.length = xs.length := rv.length.symm
  have hz' : its.toArray.size * n.toNat ≤ 16777216 := by rw [List.size_toArray, hl]; exact hz
  refine wpAny_binaryOp_repeat_ref (T := "list") (U := "int") (by decide) ⟨_, ho, rfl⟩ (fun s' => typeIs_int s' n k) noFill_list_mul F.fills_int_mul F.slot_int_rmul repeat_list F.slot_int_index.lookup
    (call_meets F.slot_int_rmul (typeIs_int s n k) F.entry_int_rmul (F.args_int_rmul_2 _ _) (int___rmul___int_list n k l its.toArray m)
      ⟨ho, rfl, ⟨_, ho, rfl⟩, call_meets F.slot_list_mul ⟨_, ho, rfl⟩ F.entry_list_mul (F.args_list_mul_2 _ _)
        (AutoListH.list___mul___list_int_3 l its.toArray m n k (by simp [Builtin.List.listFitsIndex]; omega) (by omega) (by simp only [Builtin.List.listTooLong, decide_eq_true_eq]; omega))
        ⟨ho, ?_⟩⟩)
  rw [listMul_foldl_if]
  refine ⟨V.ref s.heap.objs.size, upd H s.heap.objs.size (.lst (List.replicate n.toNat xs).flatten), I.lnew (t' := s.toks) (vals_rep rv n.toNat) ?_, rfl, q _ I.fresh⟩
  rw [List.length_flatten, List.map_replicate, List.sum_replicate_nat, Nat.mul_comm, sizeLine_eq]
  exact hz
theorem tuple_mul1 (l : Addr) (items : Array Value) (n : Nat) (dd : Option Addr) (sl : Array (Option Value)) (u : Tok) :
    Meets (Builtin.«tuple.__mul__» ⟨[.ref l, .int 1 u], []⟩) (fun _ R s => s.heap.get? l = some { cls := .type "tuple", dict := dd, data := .seq items n, slots := sl } ∧ R (.ok (.ret (Value.ref l))) s) :=
  .of_wp fun prog w A R s h => by
    obtain ⟨hp, g, d, tk, os⟩ := s
    obtain ⟨hl, h⟩ := h
    have f1 := AutoSeq1.idx_int
    have c0 : (decide ((1 : Int) < -(2 ^ 63)) || decide ((1 : Int) ≥ 2 ^ 63)) = false := by decide
    have c1 : (items.isEmpty || (1 : Int) == 1) = true := by simp
    wp_walk using wpAny_loadPart' hl
    repeat (first
      | (refine wpAny_ite_false (decide_eq_false (by rw [c0]; exact Bool.false_ne_true)) ?_; wp_walk using wpAny_loadPart' hl)
      | (refine wpAny_ite_true (decide_eq_true c1) ?_; wp_walk using wpAny_loadPart' hl))
    exact ⟨_, rfl, h⟩
def rRepA (K : PySem.W.Frag) : R2 := fun x y H Q => ∃ l k xs, x = .ref l ∧ y = .int k ∧ SqT K H l xs ∧ ((k = 1 ∧ Q (.ref l) H) ∨ (xs ≠ [] ∧ 2 ≤ k ∧ k ≤ 1000 ∧ xs.length ≤ 1000 ∧ NewT H (List.replicate k.toNat xs).flatten Q))
theorem op_repA : OpR X (binaryOp .Mult) (rRepA X.K) := by
  intro pins s σ H x y v u Q I rx ry h
  obtain ⟨l, k, xs, rfl, rfl, hT, h⟩ := h
  cases rx
  obtain ⟨t, rfl⟩ := ry
  obtain ⟨its, r, ⟨⟨cls, dd, data, sl⟩, ho, hc, n, hd⟩, hs⟩ := I.tuple hT
  simp only at hc hd
  subst hc hd
  rcases h with ⟨rfl, q⟩ | ⟨hne, h1, h2, hz, q⟩
  · exact wpAny_binaryOp_repeat_ref (T := "tuple") (U := "int") (by decide) ⟨_, ho, rfl⟩ (fun s' => typeIs_int s' 1 t) noFill_tuple_mul F.fills_int_mul F.slot_int_rmul repeat_tuple F.slot_int_index.lookup
      (call_meets F.slot_int_rmul (typeIs_int s 1 t) F.entry_int_rmul (F.args_int_rmul_2 _ _) (int_rmul_tuple 1 t l its.toArray n dd sl)
        ⟨ho, rfl, ⟨_, ho, rfl⟩, call_meets F.slot_tuple_mul ⟨_, ho, rfl⟩ F.entry_tuple_mul (F.args_tuple_mul_2 _ _) (tuple_mul1 l its.toArray n dd sl t) ⟨ho, ⟨.ref l, H, I, rfl, q⟩⟩⟩)
  have hle : its.length = xs.length := r.length.symm
  have hn : its ≠ [] := fun e => hne (by
    rw [e] at hle
    exact List.eq_nil_of_length_eq_zero hle.symm)
  have hi : its.toArray.isEmpty = false := by
    cases its with
    | nil => exact absurd rfl hn
    | cons a b => rfl
  have hsz0 : its.toArray.size = xs.length := by rw [List.size_toArray, hle]
  have hm : ((its.toArray.size : Nat) : Int) * k ≤ 1000000 := by
    rw [hsz0]
    have a1 : ((xs.length : Nat) : Int) * k ≤ 1000 * k := Int.mul_le_mul_of_nonneg_right (by omega) (by omega)
    omega
  have flen : (List.replicate k.toNat its).flatten.length ≤ sizeLine := by
    rw [PyProof.Rows.lm_len_rep_flat, hle, sizeLine_eq]
    have a1 : k.toNat * xs.length ≤ 1000 * 1000 := Nat.mul_le_mul (by omega) hz
    omega
  have c0 : (decide (k < -(2 ^ 63)) || decide (k ≥ 2 ^ 63)) = false := by
    rw [decide_eq_false (by omega), decide_eq_false (by omega)] <;> rfl
  have c1 : (its.toArray.isEmpty || k == 1) = false := by
    rw [hi, Bool.false_or]
    exact beq_eq_false_iff_ne.mpr (by omega)
  have c2 : (decide (k ≤ 0) || its.toArray.isEmpty) = false := by
    rw [hi, Bool.or_false]
    exact decide_eq_false (by omega)
  have c4 : Builtin.Tuple.tupleTooMany (((its.toArray.size : Nat) : Int) * k) = false := by
    unfold Builtin.Tuple.tupleTooMany
    rw [sizeLine_eq]
    exact decide_eq_false (by omega)
  refine wpAny_binaryOp_repeat_ref (T := "tuple") (U := "int") (by decide) ⟨_, ho, rfl⟩ (fun s' => typeIs_int s' k t) noFill_tuple_mul F.fills_int_mul F.slot_int_rmul repeat_tuple F.slot_int_index.lookup
    (call_meets F.slot_int_rmul (typeIs_int s k t) F.entry_int_rmul (F.args_int_rmul_2 _ _) (int_rmul_tuple k t l its.toArray n dd sl)
      ⟨ho, rfl, ⟨_, ho, rfl⟩, call_meets F.slot_tuple_mul ⟨_, ho, rfl⟩ F.entry_tuple_mul (F.args_tuple_mul_2 _ _) (tuple_mulW l its.toArray n dd sl k t c0 c1 c2 (by omega) c4 (by rw [size_rep, List.size_toArray]; exact flen)) ⟨ho, ?_⟩⟩)
  rw [size_rep]
  refine laidT I (vals_rep r k.toNat) ?_ q
  rw [PyProof.Rows.lm_len_rep_flat, sizeLine_eq]
  have a1 : k.toNat * xs.length ≤ 1000 * 1000 := Nat.mul_le_mul (by omega) hz
  omega
def mulAD : G2 := fun x y Q => match x, y with
  | .int i, .int j => CMul i j ∧ Q (.int (i * j))
  | .lst a, .int n => (0 ≤ n ∧ n ≤ 16777216 ∧ a.length * n.toNat ≤ 16777216) ∧ Q (.lst (List.replicate n.toNat a).flatten)
  | .tup a, .int n => (a ≠ [] ∧ 1 ≤ n ∧ n ≤ 1000 ∧ a.length ≤ 1000) ∧ Q (.tup (List.replicate n.toNat a).flatten)
  | _, _ => False
theorem Reps.repl {w : Wd} {ds : List D} {vs : List V} (r : Reps G w ds vs) : ∀ n : Nat, Reps G w (List.replicate n ds).flatten (List.replicate n vs).flatten
  | 0 => Reps.nil
  | n + 1 => by
    rw [List.replicate_succ, List.replicate_succ, List.flatten_cons, List.flatten_cons]
    exact r.append (Reps.repl r n)
theorem opl_mulA (hK : X.K = G.K := by rfl) : OpL G X (binaryOp .Mult) mulAD := by
  refine ⟨_, op_mul.or (op_mulL.or op_repA), fun H0 w H x y v u Q QD ok sx sy g k => ?_⟩
  cases x with
  | int i => cases y with
    | int j => exact .inl ⟨i, j, sx.int_of, sy.int_of, g.1, k _ _ w H (.refl w H) ok Rep.int g.2⟩
    | _ => exact g.elim
  | lst a => cases y with
    | int n =>
      obtain ⟨p, vs, rfl, s1, r1⟩ := sx.lst_of ok
      refine .inr (.inl ⟨p, vs, n, rfl, sy.int_of, hK ▸ s1, g.1.1, g.1.2.1, by rw [← r1.length]; exact g.1.2.2, fun p hp => ?_⟩)
      obtain ⟨w2, l2, ok2, rp⟩ := newLst (p := p) ok hp (r1.repl n.toNat)
      exact k _ _ w2 _ l2 ok2 rp g.2
    | _ => exact g.elim
  | tup a => cases y with
    | int n =>
      obtain ⟨p, vs, rfl, s1, r1⟩ := sx.tup_of ok
      refine .inr (.inr ⟨p, n, vs, rfl, sy.int_of, hK ▸ s1, ?_⟩)
      by_cases h1 : n = 1
      · subst h1
        refine .inl ⟨rfl, k _ _ w H (.refl w H) ok sx.tup_rep ?_⟩
        have := g.2
        simpa using this
      · refine .inr ⟨fun e => ?_, by have := g.1.2.1; omega, g.1.2.2.1, by rw [← r1.length]; exact g.1.2.2.2, fun p o hp hd => ?_⟩
        · subst e
          exact g.1.1 (List.length_eq_zero_iff.mp r1.length)
        · obtain ⟨w2, l2, ok2, rp⟩ := newTup (p := p) ok hp hd (r1.repl n.toNat)
          exact k _ _ w2 _ l2 ok2 rp g.2
    | _ => exact g.elim
  | _ => exact g.elim
def mulAX : O2
  | .int i, .int j => gd (CMul i j) (.int (i * j))
  | .lst a, .int n => gd (0 ≤ n ∧ n ≤ 16777216 ∧ a.length * n.toNat ≤ 16777216) (.lst (List.replicate n.toNat a).flatten)
  | .tup a, .int n => gd ((!a.isEmpty) = true ∧ 1 ≤ n ∧ n ≤ 1000 ∧ a.length ≤ 1000) (.tup (List.replicate n.toNat a).flatten)
  | _, _ => none
theorem g_mulA : CG2 mulAD mulAX := fun x y d Q e q => by
  cases x <;> cases y <;> first | (cases e; done) | skip
  · obtain ⟨h, rfl⟩ := gd_some e
    exact ⟨h, q⟩
  · obtain ⟨h, rfl⟩ := gd_some e
    exact ⟨⟨fun e => by subst e; exact absurd h.1 (by decide), h.2⟩, q⟩
  · obtain ⟨h, rfl⟩ := gd_some e
    exact ⟨h, q⟩
end DL
/-! isinstance of an own class: what the text's top must have written. -/
namespace DL
open PySem L2 PyProof.Rows
end DL
/-! xs[::-1] of a tuple or a list. -/
namespace HTR
open PySem PySem.Spec PyProof.Rows L2 HT
section
variable {prog : Program} {w : World} {A : Around} {E : Value → Shared → Prop} {s : Shared}
end
end HTR
namespace DL
open PySem L2 PyProof.Rows
variable {G : Gm} {X : Cx} {E : XK}
end DL
/-! Own dicts: {}, {k: v}, d[k] = v; x = xs.pop(). -/
namespace DL
open PySem L2 PyProof.Rows
def putA {α : Type} (ks : List Key) (ds : List α) (k : Key) (d : α) : List α := if (ks.any fun x => decide (x = k)) = true then (ks.zip ds).map fun p => if p.1 = k then d else p.2 else ds ++ [d]
section
variable {G : Gm}
theorem Reps.zipMap {w : Wd} {k : Key} {d : D} {v : V} (r : Rep G w d v) : ∀ {ks : List Key} {ds : List D} {vs : List V}, Reps G w ds vs → Reps G w ((ks.zip ds).map fun p => if p.1 = k then d else p.2) ((ks.zip vs).map fun p => if p.1 = k then v else p.2)
  | [], ds, vs, h => Reps.nil
  | x :: ks, [], vs, h => by rw [h.of_nil]; exact Reps.nil
  | x :: ks, e :: ds, vs, h => by
    obtain ⟨u, t, rfl, h1, h2⟩ := h.of_cons
    simp only [List.zip_cons_cons, List.map_cons]
    refine Reps.cons ?_ (Reps.zipMap r h2)
    split
    · exact r
    · exact h1
theorem Reps.put {w : Wd} {k : Key} {d : D} {v : V} (r : Rep G w d v) {ks : List Key} {ds : List D} {vs : List V} (h : Reps G w ds vs) : Reps G w (putA ks ds k d) (putA ks vs k v) := by
  unfold putA
  split
  · exact Reps.zipMap r h
  · exact h.append (Reps.cons r Reps.nil)
end
section
variable {X : Cx} {G : Gm} {E : XK} {pos : Pos} {e : Expr}
end
section
variable {X : Cx} {G : Gm} {E : XK} {pos : Pos} {e : Expr}
theorem SlotOk.ownd {H0 : Hp} {w : Wd} {H : Hp} {ks : List Key} {ds : List D} {a : Addr} {vs : List V} (m : Mine H0 w a) (h : H a = some (.dK (ks.zip vs))) (hl : ks.length = vs.length) (r : Reps G w ds vs) : SlotOk G H0 w H (.ownd ks ds) (some (some (.ref a))) := ⟨a, vs, rfl, m, h, hl, r⟩
end
end DL
/-! xs.insert(i, e) of an own list. -/
namespace DL
open PySem L2 PyProof.Rows
section
variable {X : Cx} {G : Gm} {E : XK}
end
end DL
/-! in, not in of a tuple whose items are data of any depth. -/
namespace DL
open PySem L2 PyProof.Rows
section
variable {X : Cx} {G : Gm}
end
/-! ### a, b = e, {..} where a name is a cell -/
section
variable {X : Cx} {G : Gm} {E : XK} {pos : Pos} {i j : Nat} {x y : Str} {a b : Expr} {px py pt : Pos} {kt k2 pt2}
end
end DL
/-! != of own objects (their class has __eq__, no __ne__). -/
namespace OwnNe
open PySem PySem.Spec PySem.W PyProof.Rows
section
variable {prog : Program} {w : World} {A : Around} {E : Value → Shared → Prop} {s : Shared} {K : Frag} {x C L f : Addr} {h₀ : Heap} {m : Str → Option Value} {ox : Obj} {od : Option Obj} {name : Str} {b tb : Value}
end
end OwnNe
namespace DL
open PySem L2 PyProof.Rows
section
variable {X : Cx} {G : Gm} {E : XK} {k : Nat} {f C : Addr} {fd : FuncData} {ps : List Str} {sp : Sp}
end
section
variable {G : Gm} {X : Cx} {k : Nat} {f : Addr} {fd : FuncData} {ps : List Str} {sp : DSp}
end
end DL
/-! set(xs) and sorted(set(xs)), xs a list of texts. -/
namespace SetStr
open PySem PySem.Spec PyProof.Rows L2
open PySem.W (Frag)
def kS (e : Int × Value) : Str := match e.2 with
  | .str k _ => k
  | _ => Str.empty
def GS (P : Program) (w : World) (e : Int × Value) : Prop := ∃ k tk, e.2 = Value.str k tk ∧ e.1 = (strKind P w).hash k
/-- a set whose members are the texts of L, laid out so that it can be walked -/
def SSt (P : Program) (w : World) (h : Heap) (a : Addr) (L : List Str) (n : Nat) : Prop :=
  ∃ o es ep t, h.get? a = some o ∧ o.ExactSet ∧ o.data = .set es ep t ∧ (∀ e ∈ es.toList, GS P w e) ∧ (es.toList.map kS).Nodup ∧ (∀ k, k ∈ L ↔ k ∈ es.toList.map kS) ∧
    es.size < scanBound ∧ t.fits es.size = true ∧ es.size = n ∧ Ris t.place.toList ∧ (w.params.followText "set-order" = true ∨ t.led = true)
section
variable {P : Program} {w : World} {A : Around} {E : Value → Shared → Prop} {s : Shared} {a : Addr} {L : List Str} {n : Nat}
theorem SSt.keep {h h' : Heap} (R : SSt P w h a L n) (k : ∀ o, h.get? a = some o → h'.get? a = some o) : SSt P w h' a L n := by
  obtain ⟨o, es, ep, t, ho, r⟩ := R
  exact ⟨o, es, ep, t, k o ho, r⟩
end
end SetStr
/-! set(xs), xs a list of texts: the call. -/
namespace SetStr
open PySem PySem.Spec PyProof.Rows L2
section
variable {P : Program} {w : World} {A : Around} {R : Result → Shared → Prop} {I : Addr} {fp wr : List Addr} {G : Array GenState → Array GenState → Prop} {n : Nat} {Pv : Nat → Value → Prop} {St : Nat → Shared → Prop}
end
section
variable {P : Program} {w : World} {A : Around} {E : Value → Shared → Prop} {s : Shared}
open SS in
end
end SetStr
/-! sorted(s), s a set of texts. -/
namespace SetStr
open PySem PySem.Spec PyProof.Rows L2
section
variable {P : Program} {w : World} {A : Around} {E : Value → Shared → Prop} {s : Shared} {a : Addr} {L : List Str} {n : Nat}
end
end SetStr
/-! sorted(set(xs)) over data: the texts of xs, each once, in their order. -/
namespace DL
open PySem PySem.Spec L2 PyProof.Rows
section
variable {X : Cx}
end
section
variable {X : Cx} {G : Gm} {E : XK} {e : Expr} {A : FE} {p p2 pos pos2 : Pos}
end
end DL
/-! An __init__ with defaults. -/
namespace DL
open PySem L2 PyProof.Rows
section
variable {G : Gm}
end
end DL
/-! dict([(text, value), ..]), a new dict as a value; the texts are told once each. -/
namespace DL
open PySem L2 PyProof.Rows
variable {G : Gm} {X : Cx} {E : XK}
end DL
/-! The attribute of an exception that is a value. -/
namespace DL
open PySem L2 PyProof.Rows
/-- e.nm, e an exception that is tracked -/
def tXat (K : PySem.W.Frag) (nm : Str) (te : TE) : TE := fun σ H Q => te σ H fun x H1 => ∃ (a : Addr) (o : HO) (C dx : Addr) (u : V), x = .ref a ∧ H1 a = some o ∧ XcAt o C (some dx) a ∧ H1 dx = some (.xd [(nm, u)]) ∧ ExF K C ∧ PySem.W.findIn K (.ref C) nm = some none ∧ Q u H1
theorem pe_xat {X : Cx} {nm : Str} {e : Expr} {te : TE} {pos : Pos} (he : PE X e te) (hab : attributeBase e nm X.env (eval e X.env) = eval e X.env) : PE X (.Attribute e nm pos) (tXat X.K nm te) := by
  refine ⟨fun pins s σ H Q I h => attr_of hab (thn (he.run pins s σ H _ I h) fun v s1 hh => ?_)⟩
  obtain ⟨x, H1, I1, rx, a, o, C, dx, u, ex, ho, hx, hdx, F, hno, q⟩ := hh
  subst ex
  cases (show v = Value.ref a from rx)
  obtain ⟨oe, ob, J, hd⟩ := exc_at I1 ho hx (.inr ⟨dx, _, rfl, hdx⟩)
  obtain ⟨oD, mA, rfl, hns, hoD, hr⟩ := hd dx _ rfl hdx
  obtain ⟨oD2, hoD2, hl⟩ := lookIn_ns hns
  rw [hoD] at hoD2
  cases hoD2
  have l1 : List.lookup nm [(nm, u)] = some u := by rw [List.lookup_cons, beq_self_eq_true]
  have r1 : RelO (some u) (mA nm) := by rw [← l1]; exact hr nm
  obtain ⟨w, hw, rw1⟩ := RelO.some_of r1
  exact HandSPX.exc_get I1.kIn J F.ga F.gt F.sb (PySem.W.findObj_own F.hd hno rfl (by rw [hl, hw])) (handed_of rw1) ⟨u, H1, I1.tok _, rw1, q⟩
section
variable {X : Cx} {G : Gm} {E : XK} {e : Expr} {A : FE} {nm : Str} {pos : Pos}
/-- e.nm over data: e is of a class of the table -/
def fXat (tbl : Nat → Bool) (A : FE) : FE := fun r Q EX => A r (fun d => match d with
  | .exc c [x] => tbl c = true ∧ Q x
  | _ => False) EX
theorem ce_xat {tbl : Nat → Bool} (ho : PE X e (tD G E A)) (hf : ∀ c, tbl c = true → G.fld c = [nm] ∧ ExF X.K (G.cls c) ∧ PySem.W.findIn X.K (.ref (G.cls c)) nm = some none) (hab : attributeBase e nm X.env (eval e X.env) = eval e X.env := by rfl) :
    PE X (.Attribute e nm pos) (tD G E (fXat tbl A)) := (pe_xat ho hab).weak fun s H Q ⟨w0, H0, r, w, QD, EX, fr, lk, f, k⟩ =>
  ⟨w0, H0, r, w, _, EX, fr, lk, f, fun d v w1 H1 l1 ok1 r1 q1 => by
    match d, q1, r1 with
    | .exc c [x], q1, r1 =>
      obtain ⟨ht, q1⟩ := q1
      obtain ⟨hfl, F, hno⟩ := hf c ht
      obtain ⟨a, o, od, vs, rfl, ho, hxa, rx, hd⟩ := r1.exc_of
      obtain ⟨v, vr, rfl, rx, rn⟩ := rx.of_cons
      rw [rn.of_nil] at hd
      rcases hd with ⟨_, z⟩ | ⟨dx, nm', u, e1, e2, e3, e4⟩
      · cases z
      · cases e1
        cases e2
        rw [hfl] at e3
        cases e3
        exact ⟨a, o, _, dx, v, rfl, ok1.sub _ _ ho, hxa, ok1.sub _ _ e4, F, hno, k x v w1 H1 l1 ok1 rx q1⟩⟩
def xXat (tbl : Nat → Bool) (a : Env → R D) (r : Env) : R D := (a r).bind fun d => match d with
  | .exc c [x] => if tbl c = true then .ok x else .no
  | _ => .no
theorem f_xat {tbl : Nat → Bool} {a : Env → R D} (ha : CF A a) : CF (fXat tbl A) (xXat tbl a) := fun r r' Q EX s h => ha r r' _ EX s ((hold_bind h).imp fun d h1 => by
  match d, h1 with
  | .exc c [x], h1 =>
    by_cases z : tbl c = true
    · have h2 : (if tbl c = true then R.ok x else R.no).hold Q EX := h1
      rw [if_pos z] at h2
      exact ⟨z, h2⟩
    · have h2 : (if tbl c = true then R.ok x else R.no).hold Q EX := h1
      rw [if_neg z] at h2
      exact h2.elim)
end
end DL
/-! Own exceptions that keep one value: made, raised. -/
namespace ExL
open PySem PySem.W PySem.Calls PyProof.Rows PySem.HandSPX
/-- an exception of the class at C, not filled -/
abbrev emptyX (C t : Addr) : Obj := { cls := .ref C, data := .fields #[.ref t, .none, .none, .none, .bool false, .none] }
theorem one_fits (v : Value) : [v].length ≤ sizeLine := by rw [sizeLine_eq]; exact (by decide : 1 ≤ 16777216)
section
open Builtin Builtin.ObjectAttr
variable {prog : Program} {w : World} {A : Around} {R : Result → Shared → Prop} {hp : Heap} {g : Array GenState} {d : Drawn} {t : Nat} {os : OsState} {K : Frag} {B : String} {bmB : List Value}
/-- self.name = v where the exception has no dict yet -/
theorem store_first {name : Str} {tk : Tok} {v : Value} {x C t0 : Addr} {cd : ClassData} (SF : StoreFacts B bmB "object.__setattr__" "object") (X : K.In hp) (hx : hp.get? x = some (emptyX C t0)) (hcd : clsIn K C = some cd) (hov : excOver K C bmB = true) (hh : cd.hasDict = true) (ha : takerIn K C name = some none)
    (hq : ∀ h' tk' dx, (∀ b o, b ≠ x → hp.get? b = some o → h'.get? b = some o) → hp.objs.size ≤ dx → dx ≠ x → h'.get? x = some { emptyX C t0 with dict := some dx } → h'.Ns1 dx (fun y => if y = name then some v else none) → R (.ok (.ret .none)) ⟨h', g, d, tk', os⟩) :
    codeAny (model prog w) A (.call (.builtin "object.__setattr__") ⟨[.ref x, .str name tk, v], []⟩) R ⟨hp, g, d, t, os⟩ := by
  have J : InstAt hp x (emptyX C t0) C none := ⟨hx, rfl, rfl, trivial⟩
  have Lc : Looks (model prog w) hp (classData C) cd := looks_clsIn X hcd
  have xn : x ≠ hp.objs.size := Nat.ne_of_lt (Heap.lt_size hx)
  refine osa_openX (s := ⟨hp, g, d, t, os⟩) SF X J hov ha fun b => ?_
  obtain ⟨nm, bs, mro, ns, qn, hd, sn, sb, ab, col, del⟩ := cd
  cases (show hd = true from hh)
  show wpAny _ _ (storeInOwnDict (.ref x) (.ref C) (.str name tk) name v b) _ _ _
  unfold storeInOwnDict ownDictForStores
  repeat (first | with_reducible refine store_in_new ?_ ?_ | with_reducible refine wpAny_loadPart_at hx ?_ | with_reducible refine Lc.at ?_ | wp_step)
  · exact ⟨_, #[], _, (Heap.get?_update_ne _ _ _ _ xn.symm).trans (Heap.get?_push_at rfl rfl), rfl, fun e he => absurd he (by simp), fun _ => rfl⟩
  · intro h' tk' hn' hs
    have x1 : (hp.push { cls := .type "dict", data := .dict #[] }).get? x = some (emptyX C t0) := Heap.get?_push_of_some _ hx
    refine hq h' tk' hp.objs.size (fun b o hb ho => (hs.2 b (Nat.ne_of_lt (Heap.lt_size ho))).trans ((Heap.get?_update_ne _ _ _ _ hb).trans (Heap.get?_push_of_some _ ho))) (Nat.le_refl _) xn.symm ((hs.2 x xn).trans (Heap.get?_update_self _ x1 rfl)) hn'
end
/-- what is made -/
structure Made1 (nm : Str) (h h' : Heap) (e C d : Addr) (v : Value) : Prop where
  keep : ∀ b o, h.get? b = some o → h'.get? b = some o
  new : h.objs.size ≤ e
  obj : ∃ oe vs, h'.get? e = some oe ∧ oe.cls = .ref C ∧ oe.dict = some d ∧ oe.data = .fields vs ∧ vs[1]? = some .none
  dbig : h.objs.size ≤ d
  dne : d ≠ e
  ns : h'.Ns1 d (fun y => if y = nm then some v else none)
/-! ### given -/
def argsG (p1 p2 : Pos) : Arguments := { posonlyargs := [], args := [{ arg := "self", annotation := none, pos := p1 }, { arg := "given", annotation := none, pos := p2 }], vararg := none, kwonlyargs := [], kw_defaults := [], kwarg := none, defaults := [] }
def bodyG (q1 q2 q3 q4 : Pos) : List Stmt := [.Assign [.Attribute (.Name "self" q1) "given" q2] (.Name "given" q3) q4]
def scopeG : Scope := { kind := .function, names := [(PySem.Str.ofString "self", .local), (PySem.Str.ofString "given", .local)], isGenerator := false, isCoroutine := false, more := [] }
/-- what the written part says of such a class x at C, over the base B, and of its __init__ at f -/
structure ClG (K : Frag) (mg : Str → Option Value) (x : Str) (C f : Addr) (bmB : List Value) (newId : String) : Prop where
  gl : mg x = some (.ref C)
  cls : ∃ nm q N bs bm sn sub ab col dd k0 k1 k2 k3 k5, K.lookup C = some (excClassObj nm q C N bs bm true sn sub ab col dd k0 k1 k2 k3 k5 newId) ∧ excTail bmB bm = true
  sa : findIn K (.ref C) "__setattr__" = some (some (.builtin "object.__setattr__"))
  tk : takerIn K C "given" = some none
  it : findIn K (.ref C) "__init__" = some (some (.ref f))
  ty : typeIn K (.ref f) = some (.type "function")
  kp : keepIn K (.ref C) = true
  sb : subIn K (.ref C) (.type "BaseException") = some true
  tc : typeIn K (.ref C) = some (.type "type")
  fn : ∃ (q : Str) (oc : Value) (od : Option Addr) (doc pm : Value) (an : Option Addr) (cdv ct : Value) (osl : Array (Option Value)) (p1 p2 q1 q2 q3 q4 : Pos), K.lookup f = some ⟨oc, od, .func (fnOf "__init__" q (argsG p1 p2) (bodyG q1 q2 q3 q4) scopeG .none .none doc pm an cdv ct), osl⟩ ∧ codeIn K cdv q = true
section
variable {prog : Program} {w : World} {A : Around} {R : Result → Shared → Prop} {s : Shared} {K : Frag} {mg : Str → Option Value} {x : Str} {C f : Addr} {B newId initId : String} {bmB : List Value}
theorem runs_initG (SF : StoreFacts B bmB "object.__setattr__" "object") (T : ClG K mg x C f bmB newId) {e t0 : Addr} {v : Value} (X : K.In s.heap) (lim : s.heap.NoLimit) (he : s.heap.get? e = some (emptyX C t0)) (room : A.depth < recursionLimit)
    (hq : ∀ h' tk dx, (∀ b o, b ≠ e → s.heap.get? b = some o → h'.get? b = some o) → h'.get? e = some { emptyX C t0 with dict := some dx } → s.heap.objs.size ≤ dx → dx ≠ e → h'.Ns1 dx (fun y => if y = "given" then some v else none) → R (.ok (.ret .none)) { s with heap := h', toks := tk }) :
    codeAny (model prog w) A (.call (.ref f) ⟨[.ref e, v], []⟩) R s := by
  obtain ⟨qq, oc, od, doc, pm, an, cdv, ct, osl, p1, p2, q1, q2, q3, q4, ho, hcd⟩ := T.fn
  obtain ⟨nm, q, N, bs, bm, sn, sub, ab, col, dd, k0, k1, k2, k3, k5, hC, hbm⟩ := T.cls
  have hcl : clsIn K C = some { name := nm, bases := bs, mro := .ref C :: bm, ns := N, qualname := q, hasDict := true, slotNames := sn, subclasses := sub, abstract := ab, collection := col, hasDel := false } := by unfold clsIn; rw [hC] <;> rfl
  have hov : excOver K C bmB = true := by
    unfold excOver
    rw [hcl]
    show (C == C && excTail bmB bm) = true
    rw [hbm, beq_self_eq_true]; rfl
  refine Att.call_fn (binds := [("self", .ref e), ("given", v)]) X lim ho hcd room (BindsTo.of_eq (by first | rfl | with_unfolding_all rfl)) (by first | rfl | decide | with_unfolding_all rfl) (fun s1 IC => ?_) rfl rfl rfl
  obtain ⟨h1, t1, rfl⟩ := IC.toInCall.same
  have kp : ∀ b o, s.heap.get? b = some o → h1.get? b = some o := IC.toInCall.keep
  have hn := IC.toInCall.ns
  have he1 := kp _ _ he
  have big : s.heap.objs.size < h1.objs.size := hn.lt
  have ld : ∀ {y : Str} {u : Value} {pos : Pos} {Q : Value → Shared → Prop} {A' : Around} {E : Value → Shared → Prop} {m : Str → Option Value}, h1.Ns s.heap.objs.size m → m y = some u → (envOfC qq scopeG s.heap.objs.size f cdv).kindOf y = some .local → (y == ("__debug__" : Str)) = false → Q u ⟨h1, s.gens, s.drawn, t1, s.os⟩ → wpAny (model prog w) A' (eval (.Name y pos) (envOfC qq scopeG s.heap.objs.size f cdv)) Q E ⟨h1, s.gens, s.drawn, t1, s.os⟩ := fun a1 a2 a3 a4 a5 => wpAny_Name (wpAny_loadName_local rfl a3 a1 a2 a5) a4
  show wpAny _ _ (execs _ _) _ _ _
  refine wpAny_execs_cons (plainObj_wpAny_Assign_Attribute ?_)
  refine ld (y := "given") hn (by first | rfl | with_unfolding_all rfl | kernel_rfl) (by first | rfl | with_unfolding_all rfl | kernel_rfl) (by decide) ?_
  refine ld (y := "self") (u := .ref e) hn (by first | rfl | with_unfolding_all rfl | kernel_rfl) (by first | rfl | with_unfolding_all rfl | kernel_rfl) (by decide) ?_
  refine set_plain (X.keeps kp) (ox := emptyX C t0) (od := none) ⟨he1, rfl, rfl, trivial⟩ T.sa ?_
  refine store_first SF (X.keeps kp) he1 hcl hov rfl T.tk fun h3 tk3 dx k3 dn dne hx3 hn3 => ?_
  show wpAny _ _ (execs _ _) _ _ _
  exact wpAny_execs_nil (hq h3 tk3 dx (fun b o hb z => k3 b o hb (kp b o z)) hx3 (Nat.le_of_lt (Nat.lt_of_lt_of_le big dn)) dne hn3)
theorem makesG (SF : StoreFacts B bmB "object.__setattr__" "object") (FB : ExcBaseFacts B newId initId bmB) (T : ClG K mg x C f bmB newId) {v : Value} (X : K.In s.heap) (lim : s.heap.NoLimit) (room : A.depth + 1 < recursionLimit)
    (hq : ∀ h' tk e d, Made1 "given" s.heap h' e C d v → R (.ok (.ret (.ref e))) { s with heap := h', toks := tk }) : codeAny (model prog w) A (.call (.ref C) ⟨[v], []⟩) R s := by
  obtain ⟨nm, q, N, bs, bm, sn, sub, ab, col, dd, k0, k1, k2, k3, k5, hC, hbm⟩ := T.cls
  obtain ⟨hp, g, dr, tk, os⟩ := s
  have kp : ∀ b o, hp.get? b = some o → ((hp.push (kdv_tup [v])).push (emptyX C hp.objs.size)).get? b = some o := fun b o z => Heap.get?_push_of_some _ (Heap.get?_push_of_some _ z)
  have at_ : ((hp.push (kdv_tup [v])).push (emptyX C hp.objs.size)).get? (hp.objs.size + 1) = some (emptyX C hp.objs.size) := by heap_get
  refine call_own FB (fun Y => excTail_contains Y bm hbm) (X _ _ hC) (looks_findIn X T.it) (fun self => bind_fn X self T.ty) (one_fits v) ?_
  refine runs_initG (s := ⟨(hp.push (kdv_tup [v])).push (emptyX C hp.objs.size), g, dr, tk, os⟩) SF T (X.keeps kp) (lim.keeps kp) at_ room fun h' tk' dx k' hx dn dne hns => ?_
  have old : ∀ b o, hp.get? b = some o → h'.get? b = some o := fun b o z => k' b o (Nat.ne_of_lt (Nat.lt_succ_of_lt (Heap.lt_size z))) (kp b o z)
  have big : hp.objs.size + 1 + 1 ≤ dx := by
    have z := dn
    first
      | exact z
      | (rw [Heap.size_push, Heap.size_push] at z; exact z)
  exact ⟨rfl, hq h' tk' (hp.objs.size + 1) dx ⟨old, Nat.le_succ _, ⟨_, _, hx, rfl, rfl, rfl, rfl⟩, by show hp.objs.size ≤ dx; omega, dne, hns⟩⟩
end
/-! ### index -/
def argsI (p1 p2 : Pos) : Arguments := { posonlyargs := [], args := [{ arg := "self", annotation := none, pos := p1 }, { arg := "index", annotation := none, pos := p2 }], vararg := none, kwonlyargs := [], kw_defaults := [], kwarg := none, defaults := [] }
def bodyI (q1 q2 q3 q4 : Pos) : List Stmt := [.Assign [.Attribute (.Name "self" q1) "index" q2] (.Name "index" q3) q4]
def scopeI : Scope := { kind := .function, names := [(PySem.Str.ofString "self", .local), (PySem.Str.ofString "index", .local)], isGenerator := false, isCoroutine := false, more := [] }
/-- what the written part says of such a class x at C, over the base B, and of its __init__ at f -/
structure ClI (K : Frag) (mg : Str → Option Value) (x : Str) (C f : Addr) (bmB : List Value) (newId : String) : Prop where
  gl : mg x = some (.ref C)
  cls : ∃ nm q N bs bm sn sub ab col dd k0 k1 k2 k3 k5, K.lookup C = some (excClassObj nm q C N bs bm true sn sub ab col dd k0 k1 k2 k3 k5 newId) ∧ excTail bmB bm = true
  sa : findIn K (.ref C) "__setattr__" = some (some (.builtin "object.__setattr__"))
  tk : takerIn K C "index" = some none
  it : findIn K (.ref C) "__init__" = some (some (.ref f))
  ty : typeIn K (.ref f) = some (.type "function")
  kp : keepIn K (.ref C) = true
  sb : subIn K (.ref C) (.type "BaseException") = some true
  tc : typeIn K (.ref C) = some (.type "type")
  fn : ∃ (q : Str) (oc : Value) (od : Option Addr) (doc pm : Value) (an : Option Addr) (cdv ct : Value) (osl : Array (Option Value)) (p1 p2 q1 q2 q3 q4 : Pos), K.lookup f = some ⟨oc, od, .func (fnOf "__init__" q (argsI p1 p2) (bodyI q1 q2 q3 q4) scopeI .none .none doc pm an cdv ct), osl⟩ ∧ codeIn K cdv q = true
section
variable {prog : Program} {w : World} {A : Around} {R : Result → Shared → Prop} {s : Shared} {K : Frag} {mg : Str → Option Value} {x : Str} {C f : Addr} {B newId initId : String} {bmB : List Value}
theorem runs_initI (SF : StoreFacts B bmB "object.__setattr__" "object") (T : ClI K mg x C f bmB newId) {e t0 : Addr} {v : Value} (X : K.In s.heap) (lim : s.heap.NoLimit) (he : s.heap.get? e = some (emptyX C t0)) (room : A.depth < recursionLimit)
    (hq : ∀ h' tk dx, (∀ b o, b ≠ e → s.heap.get? b = some o → h'.get? b = some o) → h'.get? e = some { emptyX C t0 with dict := some dx } → s.heap.objs.size ≤ dx → dx ≠ e → h'.Ns1 dx (fun y => if y = "index" then some v else none) → R (.ok (.ret .none)) { s with heap := h', toks := tk }) :
    codeAny (model prog w) A (.call (.ref f) ⟨[.ref e, v], []⟩) R s := by
  obtain ⟨qq, oc, od, doc, pm, an, cdv, ct, osl, p1, p2, q1, q2, q3, q4, ho, hcd⟩ := T.fn
  obtain ⟨nm, q, N, bs, bm, sn, sub, ab, col, dd, k0, k1, k2, k3, k5, hC, hbm⟩ := T.cls
  have hcl : clsIn K C = some { name := nm, bases := bs, mro := .ref C :: bm, ns := N, qualname := q, hasDict := true, slotNames := sn, subclasses := sub, abstract := ab, collection := col, hasDel := false } := by unfold clsIn; rw [hC] <;> rfl
  have hov : excOver K C bmB = true := by
    unfold excOver
    rw [hcl]
    show (C == C && excTail bmB bm) = true
    rw [hbm, beq_self_eq_true]; rfl
  refine Att.call_fn (binds := [("self", .ref e), ("index", v)]) X lim ho hcd room (BindsTo.of_eq (by first | rfl | with_unfolding_all rfl)) (by first | rfl | decide | with_unfolding_all rfl) (fun s1 IC => ?_) rfl rfl rfl
  obtain ⟨h1, t1, rfl⟩ := IC.toInCall.same
  have kp : ∀ b o, s.heap.get? b = some o → h1.get? b = some o := IC.toInCall.keep
  have hn := IC.toInCall.ns
  have he1 := kp _ _ he
  have big : s.heap.objs.size < h1.objs.size := hn.lt
  have ld : ∀ {y : Str} {u : Value} {pos : Pos} {Q : Value → Shared → Prop} {A' : Around} {E : Value → Shared → Prop} {m : Str → Option Value}, h1.Ns s.heap.objs.size m → m y = some u → (envOfC qq scopeI s.heap.objs.size f cdv).kindOf y = some .local → (y == ("__debug__" : Str)) = false → Q u ⟨h1, s.gens, s.drawn, t1, s.os⟩ → wpAny (model prog w) A' (eval (.Name y pos) (envOfC qq scopeI s.heap.objs.size f cdv)) Q E ⟨h1, s.gens, s.drawn, t1, s.os⟩ := fun a1 a2 a3 a4 a5 => wpAny_Name (wpAny_loadName_local rfl a3 a1 a2 a5) a4
  show wpAny _ _ (execs _ _) _ _ _
  refine wpAny_execs_cons (plainObj_wpAny_Assign_Attribute ?_)
  refine ld (y := "index") hn (by first | rfl | with_unfolding_all rfl | kernel_rfl) (by first | rfl | with_unfolding_all rfl | kernel_rfl) (by decide) ?_
  refine ld (y := "self") (u := .ref e) hn (by first | rfl | with_unfolding_all rfl | kernel_rfl) (by first | rfl | with_unfolding_all rfl | kernel_rfl) (by decide) ?_
  refine set_plain (X.keeps kp) (ox := emptyX C t0) (od := none) ⟨he1, rfl, rfl, trivial⟩ T.sa ?_
  refine store_first SF (X.keeps kp) he1 hcl hov rfl T.tk fun h3 tk3 dx k3 dn dne hx3 hn3 => ?_
  show wpAny _ _ (execs _ _) _ _ _
  exact wpAny_execs_nil (hq h3 tk3 dx (fun b o hb z => k3 b o hb (kp b o z)) hx3 (Nat.le_of_lt (Nat.lt_of_lt_of_le big dn)) dne hn3)
theorem makesI (SF : StoreFacts B bmB "object.__setattr__" "object") (FB : ExcBaseFacts B newId initId bmB) (T : ClI K mg x C f bmB newId) {v : Value} (X : K.In s.heap) (lim : s.heap.NoLimit) (room : A.depth + 1 < recursionLimit)
    (hq : ∀ h' tk e d, Made1 "index" s.heap h' e C d v → R (.ok (.ret (.ref e))) { s with heap := h', toks := tk }) : codeAny (model prog w) A (.call (.ref C) ⟨[v], []⟩) R s := by
  obtain ⟨nm, q, N, bs, bm, sn, sub, ab, col, dd, k0, k1, k2, k3, k5, hC, hbm⟩ := T.cls
  obtain ⟨hp, g, dr, tk, os⟩ := s
  have kp : ∀ b o, hp.get? b = some o → ((hp.push (kdv_tup [v])).push (emptyX C hp.objs.size)).get? b = some o := fun b o z => Heap.get?_push_of_some _ (Heap.get?_push_of_some _ z)
  have at_ : ((hp.push (kdv_tup [v])).push (emptyX C hp.objs.size)).get? (hp.objs.size + 1) = some (emptyX C hp.objs.size) := by heap_get
  refine call_own FB (fun Y => excTail_contains Y bm hbm) (X _ _ hC) (looks_findIn X T.it) (fun self => bind_fn X self T.ty) (one_fits v) ?_
  refine runs_initI (s := ⟨(hp.push (kdv_tup [v])).push (emptyX C hp.objs.size), g, dr, tk, os⟩) SF T (X.keeps kp) (lim.keeps kp) at_ room fun h' tk' dx k' hx dn dne hns => ?_
  have old : ∀ b o, hp.get? b = some o → h'.get? b = some o := fun b o z => k' b o (Nat.ne_of_lt (Nat.lt_succ_of_lt (Heap.lt_size z))) (kp b o z)
  have big : hp.objs.size + 1 + 1 ≤ dx := by
    have z := dn
    first
      | exact z
      | (rw [Heap.size_push, Heap.size_push] at z; exact z)
  exact ⟨rfl, hq h' tk' (hp.objs.size + 1) dx ⟨old, Nat.le_succ _, ⟨_, _, hx, rfl, rfl, rfl, rfl⟩, by show hp.objs.size ≤ dx; omega, dne, hns⟩⟩
end
end ExL
namespace ExL
open PySem PySem.Spec PyProof.Rows L2
theorem rel_one {nm : Str} {v : V} {u : Value} (r : RelV v u) (f : Str) : RelO (List.lookup f [(nm, v)]) (if f = nm then some u else none) := by
  by_cases e : f = nm
  · rw [if_pos e, e, show List.lookup nm [(nm, v)] = some v by rw [List.lookup_cons, beq_self_eq_true]]
    exact r
  · have q : (f == nm) = false := by simpa using e
    rw [if_neg e, show List.lookup f [(nm, v)] = none by rw [List.lookup_cons, q]; rfl]
    trivial
/-- X(e), to be raised: its own dict d is new -/
def tMk1 (C : Addr) (nm : Str) (ta : TA) : L2.St → Hp → XK → Prop := fun σ H Q => ta σ H fun vs H1 => ∃ v, vs = [v] ∧ ∀ d, H1 d = none → Q (.ref C) (some d) (upd H1 d (.xd [(nm, v)]))
section
variable {X : Cx} {C f : Addr} {x : Str} {B newId initId : String} {bmB : List Value}
theorem pmkG {a : Expr} {ta : TA} {p pos : Pos} {k : Nat} (SF : StoreFacts B bmB "object.__setattr__" "object") (FB : ExcBaseFacts B newId initId bmB) (T : ClG X.K X.mg x C f bmB newId) (hr : Room k X.A) (ha : PA X [a] ta) (hg : Gl X x := by rfl) (hdb : (x == ("__debug__" : Str)) = false := by decide)
    (he : starEach (a :: []) X.env = (false, eval a X.env) :: starEach [] X.env := by rfl) (hpl : (backTo pos (starEach [] X.env)).any (·.1) = false := by rfl) : PMk X (.Call (.Name x p) [a] [] pos) (tMk1 C "given" ta) := by
  intro pins s σ H Q I h
  refine wpAny_Call_Name_kw (ld_glob I hg T.gl ?_ hdb)
  refine PySem.W.callWith_K (h₀ := X.base) I.ok.mod.kin T.kp (thn (ha.run pos pins s σ H _ I h) fun us s1 hh => ?_) he hpl
  obtain ⟨vs, H1, I1, r1, v, rfl, q1⟩ := hh
  refine ⟨I1.kIn, ?_⟩
  obtain ⟨u, rfl, ru⟩ := vals1 r1
  show wpAny _ _ (call (.ref C) [u]) _ _ _
  have lim := I1.nolimit
  obtain ⟨hp, g, dr, tk, os⟩ := s1
  refine wpAny_call (makesG SF FB T I1.kIn lim (by have := hr.dp; omega) fun h' tk' e d M => ?_)
  show MkP X pins σ Q (.ref e) ⟨h', g, dr, tk', os⟩
  obtain ⟨oe, fv, hoe, hc, hd, hdat, h1⟩ := M.obj
  obtain ⟨G', g1, g2⟩ := restrict h' fun b => decide (b ≠ e)
  have gk : ∀ b, b ≠ e → G'.get? b = h'.get? b := fun b hb => g1 b (decide_eq_true hb)
  have ge : G'.get? e = none := g2 e (by simp)
  have old : ∀ b o, hp.get? b = some o → G'.get? b = some o := fun b o z => (gk b (Nat.ne_of_lt (Nat.lt_of_lt_of_le (Heap.lt_size z) M.new))).trans (M.keep b o z)
  have ob : ObjOk X.prog X.w (upd H1 d (.xd [(("given" : Str), v)])) G' d (.xd [(("given" : Str), v)]) := ⟨_, M.ns.at (fun o z => (gk d M.dne).trans z), fun y => rel_one ru y⟩
  have J : Inv X pins σ (upd H1 d (.xd [(("given" : Str), v)])) ⟨G', g, dr, tk', os⟩ := I1.laid (t' := tk') old M.dbig ob
  refine ⟨e, oe, fv, ⟨G', g, dr, tk', os⟩, _, .ref C, some d, rfl, J, fun b o z => ?_, ge, hoe, ⟨hc, hd⟩, hdat, h1, ?_, rfl, I1.bare, raises_own T.sb T.tc, q1 d (I1.hok.fresh M.dbig)⟩
  · by_cases hb : b = e
    · have z' : G'.get? b = some o := z
      rw [hb, ge] at z'; cases z'
    · exact (gk b hb).symm.trans z
  · rw [upd_ne (Ne.symm M.dne)]
    exact I1.hok.fresh M.new
end
section
variable {X : Cx} {C f : Addr} {x : Str} {B newId initId : String} {bmB : List Value}
theorem pmkI {a : Expr} {ta : TA} {p pos : Pos} {k : Nat} (SF : StoreFacts B bmB "object.__setattr__" "object") (FB : ExcBaseFacts B newId initId bmB) (T : ClI X.K X.mg x C f bmB newId) (hr : Room k X.A) (ha : PA X [a] ta) (hg : Gl X x := by rfl) (hdb : (x == ("__debug__" : Str)) = false := by decide)
    (he : starEach (a :: []) X.env = (false, eval a X.env) :: starEach [] X.env := by rfl) (hpl : (backTo pos (starEach [] X.env)).any (·.1) = false := by rfl) : PMk X (.Call (.Name x p) [a] [] pos) (tMk1 C "index" ta) := by
  intro pins s σ H Q I h
  refine wpAny_Call_Name_kw (ld_glob I hg T.gl ?_ hdb)
  refine PySem.W.callWith_K (h₀ := X.base) I.ok.mod.kin T.kp (thn (ha.run pos pins s σ H _ I h) fun us s1 hh => ?_) he hpl
  obtain ⟨vs, H1, I1, r1, v, rfl, q1⟩ := hh
  refine ⟨I1.kIn, ?_⟩
  obtain ⟨u, rfl, ru⟩ := vals1 r1
  show wpAny _ _ (call (.ref C) [u]) _ _ _
  have lim := I1.nolimit
  obtain ⟨hp, g, dr, tk, os⟩ := s1
  refine wpAny_call (makesI SF FB T I1.kIn lim (by have := hr.dp; omega) fun h' tk' e d M => ?_)
  show MkP X pins σ Q (.ref e) ⟨h', g, dr, tk', os⟩
  obtain ⟨oe, fv, hoe, hc, hd, hdat, h1⟩ := M.obj
  obtain ⟨G', g1, g2⟩ := restrict h' fun b => decide (b ≠ e)
  have gk : ∀ b, b ≠ e → G'.get? b = h'.get? b := fun b hb => g1 b (decide_eq_true hb)
  have ge : G'.get? e = none := g2 e (by simp)
  have old : ∀ b o, hp.get? b = some o → G'.get? b = some o := fun b o z => (gk b (Nat.ne_of_lt (Nat.lt_of_lt_of_le (Heap.lt_size z) M.new))).trans (M.keep b o z)
  have ob : ObjOk X.prog X.w (upd H1 d (.xd [(("index" : Str), v)])) G' d (.xd [(("index" : Str), v)]) := ⟨_, M.ns.at (fun o z => (gk d M.dne).trans z), fun y => rel_one ru y⟩
  have J : Inv X pins σ (upd H1 d (.xd [(("index" : Str), v)])) ⟨G', g, dr, tk', os⟩ := I1.laid (t' := tk') old M.dbig ob
  refine ⟨e, oe, fv, ⟨G', g, dr, tk', os⟩, _, .ref C, some d, rfl, J, fun b o z => ?_, ge, hoe, ⟨hc, hd⟩, hdat, h1, ?_, rfl, I1.bare, raises_own T.sb T.tc, q1 d (I1.hok.fresh M.dbig)⟩
  · by_cases hb : b = e
    · have z' : G'.get? b = some o := z
      rw [hb, ge] at z'; cases z'
    · exact (gk b hb).symm.trans z
  · rw [upd_ne (Ne.symm M.dne)]
    exact I1.hok.fresh M.new
end
end ExL
/-! raise over data; the state of an except suite, its exception tracked. -/
namespace DL
open PySem L2 PyProof.Rows
section
variable {X : Cx} {G : Gm} {E : XK} {e : Expr} {pos : Pos}
/-- raise of an own exception that keeps one value -/
def sRaise (c : Nat) (A : FA) : FS := fun _ EX r => A r (fun ds => ∃ d, ds = [d] ∧ EX ⟨c, some d⟩) EX
theorem cs_raise {c : Nat} {nm : Str} {A : FA} (tk : Takes X (fun cls d _ H => E cls d H)) (he : PMk X e (ExL.tMk1 (G.cls c) nm (taD G E A))) (hf : G.fld c = [nm]) (hc : X.calm = true := by rfl) :
    PS X (.Raise (some e) none pos) (sD G E (sRaise c A)) := (ps_raise hc tk he).weak fun B s H ⟨w0, H0, wk, r, w, Ad, EX, fr, sb, lk, ll, f⟩ =>
  ⟨w0, H0, r, w, _, EX, fr, lk, f, fun ds vs w1 H1 l1 ok1 rs q1 => by
    obtain ⟨d, rfl, q⟩ := q1
    obtain ⟨v, vr, rfl, rv, rn⟩ := rs.of_cons
    rw [rn.of_nil]
    refine ⟨v, rfl, fun dx hdx => ?_⟩
    have l2 := (fr.le.trans l1).trans (Le.new (o := .xd [(nm, v)]) hdx)
    have n0 : H0 dx = none := by
      cases z : H0 dx with
      | none => rfl
      | some o => exact absurd hdx ((fr.le.trans l1).dom dx (by rw [z]; exact fun y => by cases y))
    have ok2 := ok1.new (o := .xd [(nm, v)]) hdx
    have hn := ok1.none_hd hdx
    exact lk.1 ⟨c, some d⟩ (some dx) (w1.frz (upd H1 dx (.xd [(nm, v)])) dx) _ (l2.frz hn n0) (ok2.frz (ok1.none_jr hdx)) ⟨dx, nm, v, rfl, hf, by rw [frz_at, upd_same], rv.mono (.frz hn)⟩ q⟩
end
/-! ### an exception, tracked -/
def XO (cls : Value) (od : Option Addr) (a : Addr) : HO := .ext fun h => ∃ (oe : Obj) (vs : Array Value), h.get? a = some oe ∧ oe.cls = cls ∧ oe.dict = od ∧ oe.data = .fields vs
theorem XO.at {C : Addr} {od : Option Addr} {a : Addr} : XcAt (XO (.ref C) od a) C od a := fun P w H h x => x.1
theorem XO.ok {P : Program} {w : World} {H : Hp} {h : Heap} {cls : Value} {od : Option Addr} {a : Addr} {oe : Obj} {vs : Array Value} (ha : h.get? a = some oe) (hz : Zc cls od oe) (hd : oe.data = .fields vs) : ObjOk P w H h a (XO cls od a) :=
  ⟨⟨oe, vs, ha, hz.1, hz.2, hd⟩, ⟨oe, ha⟩, fun h1 h2 ⟨o, u, e, r⟩ k => ⟨o, u, k o e, r⟩⟩
section
variable {X : Cx} {pins : List (Addr × Obj)} {σ : L2.St} {H : Hp} {s : Shared}
/-- an except suite: what is caught stands at a, and is tracked -/
theorem inv_caught {a : Addr} {oe : Obj} {vs : Array Value} {cls : Value} {od : Option Addr} (I : Inv X pins σ H s) (ha : s.heap.get? a = some oe) (hz : Zc cls od oe) (hd : oe.data = .fields vs) (na : H a = none)
    (hnew : X.s_0.heap.get? a = none) (nL : a ≠ X.env.locals) (hp : ∀ p ∈ X.pn ++ pins, p.1 ≠ a) : Inv (X.suite a (X.pn ++ pins)) [] σ (upd H a (XO cls od a)) s := by
  have keep : ∀ {b o}, X.s_0.heap.get? b = some o → b ≠ a := fun {b o} e z => by
    rw [z, hnew] at e; cases e
  have un := I.base
  refine ⟨I.ok.suite _ _, I.os, I.bare, ⟨un.keep, un.slot, fun b o e n x => ?_, un.there, fun b xs e => ?_, fun b o u e => ?_, fun b ps e => ?_⟩, I.loc, I.cell, ?_, fun x c e => ?_, fun p hm => ?_, fun b u e => ?_, I.len⟩
  · rw [upd_ne (keep e)]; exact un.free b o e n x
  · have q := un.tups b xs e
    rw [upd_ne (ne_of_none q na)]; exact q
  · have q := un.frzs b o u e
    rw [upd_ne (ne_of_none q na)]; exact q
  · obtain ⟨more, q⟩ := un.tbls b ps e
    exact ⟨more, by rw [upd_ne (ne_of_none q na)]; exact q⟩
  · rw [upd_ne (Ne.symm nL)]; exact I.free
  · have ne : c ≠ a := fun z => by
      obtain ⟨v, o, ho, hdc⟩ := I.cell x c e
      rw [z, ha] at ho; cases ho
      rw [hd] at hdc; cases hdc
    rw [upd_ne ne]; exact I.freeC x c e
  · have hm' : p ∈ X.pn ++ pins := by rw [List.append_nil] at hm; exact hm
    obtain ⟨p1, p2, p3, p4, p5⟩ := I.pin p hm'
    exact ⟨p1, by rw [upd_ne (hp p hm')]; exact p2, p3, p4, p5⟩
  · by_cases hb : b = a
    · subst hb; rw [upd_same] at e; cases e
      exact XO.ok ha hz hd
    · rw [upd_ne hb] at e
      exact (I.hok b u e).stay (fun c v _ q => q) (fun c q => by rw [upd_ne (ne_of_none q na)]; exact q) fun c xs q => by rw [upd_ne (ne_of_none q na)]; exact q
theorem inv_back {a : Addr} {pn' : List (Addr × Obj)} (I : Inv (X.suite a (X.pn ++ pins)) pn' σ H s) (ok : X.Ok) : Inv X pins σ H s :=
  ⟨ok, I.os, I.bare, I.base, I.loc, I.cell, I.free, I.freeC, fun p hm => I.pin p (List.mem_append_left _ hm), I.hok, I.len⟩
end
end DL
/-! try .. except over data: what is caught is tracked in the suite. -/
namespace DL
open PySem L2 PyProof.Rows
/-! ### the tests of the clauses -/
/-- the test ty says ex of an exception's class -/
def TstOk (X : Cx) (ty : Expr) (ex : Value → Option Bool) : Prop := ∀ (a : Addr) (pn ps : List (Addr × Obj)) (σ : L2.St) (H : Hp) (s : Shared) (oe : Obj) (b : Bool) (R : Bool → Shared → Prop) (E1 : Value → Shared → Prop),
  Inv (X.suite a pn) ps σ H s → s.heap.get? a = some oe → ex oe.cls = some b → (∀ h1, (∀ c o, s.heap.get? c = some o → h1.get? c = some o) → R b { s with heap := h1 }) →
    wpAny (model X.prog X.w) (X.A.mark (some (.ref a))) (eval ty X.env) (fun c s1 => wpAny (model X.prog X.w) (X.A.mark (some (.ref a))) (excMatches (.ref a) c) R E1 s1) E1 s
theorem ld_cls {X : Cx} {x : Str} {c : Value} {a : Addr} {pn ps : List (Addr × Obj)} {σ : L2.St} {H : Hp} {s : Shared} {p : Pos} {Q E1 : Value → Shared → Prop} (hc : Names X x c) (I : Inv (X.suite a pn) ps σ H s) (q : Q c s) :
    wpAny (model X.prog X.w) (X.A.mark (some (.ref a))) (eval (.Name x p) X.env) Q E1 s := by
  obtain ⟨g, db, m | ⟨m, v, nn⟩⟩ := hc
  · exact ld_glob (X := X.suite a pn) I g m q db
  · exact ld_blt (X := X.suite a pn) I g m v q nn db
theorem ty_at {M : Model} {h : Heap} {a : Addr} {oe : Obj} (ha : h.get? a = some oe) : PySem.W.Looks M h (typeOf (.ref a)) oe.cls := fun A Q E s k q => wpAny_typeOf_ref (k _ _ ha) q
section
variable {X : Cx} {p p1 p2 p3 : Pos} {x x1 x2 x3 : Str} {c c1 c2 c3 : Value} {kk : Nat}
theorem tst_name (hc : Names X x c) : TstOk X (.Name x p) (fun cls => PySem.W.exmOne X.K cls c) := fun a pn ps σ H s oe b R E1 I ha hx k =>
  ld_cls hc I ((PySem.W.exm_one (M := model X.prog X.w) I.kIn (ty_at ha) hx).here (k s.heap fun _ _ z => z))
theorem tst_tup3 (h1 : Names X x1 c1) (h2 : Names X x2 c2) (h3 : Names X x3 c3) : TstOk X (.Tuple [.Name x1 p1, .Name x2 p2, .Name x3 p3] kk p) (fun cls => PySem.W.exmAny X.K cls [c1, c2, c3]) := fun a pn ps σ H s oe b R E1 I ha hx k => by
  refine Tuple_ (spliced_more (ld_cls h1 I (spliced_more (ld_cls h2 I (spliced_more (ld_cls h3 I (spliced_none ?_)))))))
  refine wpAny_newObj_type ?_ (by show 3 ≤ sizeLine; rw [sizeLine_eq]; omega)
  have kp : ∀ d o, s.heap.get? d = some o → (s.heap.push { cls := .type "tuple", dict := none, data := .seq [c1, c2, c3].toArray }).get? d = some o := fun d o z => Heap.get?_push_of_some _ z
  exact (PySem.W.exm_tup3 (M := model X.prog X.w) (I.kIn.keeps kp) (ty_at (kp _ _ ha)) (Heap.get?_push_size _ rfl) hx).here (k _ kp)
end
/-! ### the clauses -/
structure Clz where
  ex : Value → Option Bool
  io : Option Nat
  ts : TS
def endZ (D : Ends) : Option Nat → Ends
  | none => D
  | some i => { nx := fun t H => D.nx (t.set i none) H, rt := D.rt, bk := fun t H => D.bk (t.set i none) H, ct := fun t H => D.ct (t.set i none) H }
def putZ (t : L2.St) (a : Addr) : Option Nat → L2.St
  | none => t
  | some i => t.set i (some (.ref a))
def wZ (D : Ends) : List Clz → WX
  | [] => fun _ _ _ _ => False
  | c :: r => fun cls d t H => ∃ b, c.ex cls = some b ∧ (b = true → ∀ a, H a = none → c.ts (endZ D c.io) (putZ t a c.io) (upd H a (XO cls d a))) ∧ (b = false → wZ D r cls d t H)
inductive ClsOk (X : Cx) : List ExceptHandler → List Clz → Prop
  | nil : ClsOk X [] []
  | bare {ty : Expr} {ex : Value → Option Bool} {u : Stmt} {su : List Stmt} {q : Pos} {hd : List ExceptHandler} {l : List Clz} {ts : TS} (ht : TstOk X ty ex) (hu : ∀ a pn, PSs (X.suite a pn) (u :: su) ts) (r : ClsOk X hd l) :
      ClsOk X (.ExceptHandler (some ty) none (u :: su) q :: hd) (⟨ex, none, ts⟩ :: l)
  | named {ty : Expr} {ex : Value → Option Bool} {u : Stmt} {su : List Stmt} {q : Pos} {hd : List ExceptHandler} {l : List Clz} {ts : TS} {i : Nat} {n : Str} (hi : X.N[i]? = some n) (hk : X.env.kindOf n = some .local) (ht : TstOk X ty ex)
      (hu : ∀ a pn, PSs (X.suite a pn) (u :: su) ts) (r : ClsOk X hd l) : ClsOk X (.ExceptHandler (some ty) (some n) (u :: su) q :: hd) (⟨ex, some i, ts⟩ :: l)
theorem fly_more {B h h1 : Heap} {l : List PySem.Env} {a : Addr} {Z : Obj → Prop} (f : HandSPX.FlyingZ B l a Z h) (k : ∀ c o, h.get? c = some o → h1.get? c = some o) : HandSPX.FlyingZ B l a Z h1 := by
  obtain ⟨f1, f2, f3, oe, vs, T, oT, ts, e1, e2, e3, e4, e5, e6, e7, e8⟩ := f
  exact ⟨fun c o z => k c o (f1 c o z), f2, f3.of_keeps fun c o z _ => ⟨o, k c o z, rfl⟩, oe, vs, T, oT, ts, k _ _ e1, e2, e3, e4, e5, e6, k _ _ e7, e8⟩
section
variable {X : Cx} {body : List Stmt} {h₀ : ExceptHandler} {hds : List ExceptHandler} {l : List Clz} {pos : Pos} {tb : XK → TS}
/-- what the clauses wish of an exception of the body, whatever the names hold by then -/
def eZ (X : Cx) (D : Ends) (l : List Clz) : XK := fun cls d H => ∀ t : L2.St, t.length = X.N.length → wZ D l cls d t H
theorem ps_tryZ (hs : X.stack = X.env :: X.outer) (hf : X.env.frame = some X.env.locals) (hN : X.N.Nodup) (hex : X.ex = [])
    (hb : ∀ (E : XK) (pn : List (Addr × Obj)) (xe : Value → Shared → Prop), Takes (X.tr pn xe) (fun cls d _ H => E cls d H) → PassesOwn (model X.prog X.w) X.A X.env xe → PSs (X.tr pn xe) body (tb E))
    (hc : ClsOk X (h₀ :: hds) l) : PS X (.Try body (h₀ :: hds) [] [] pos) (fun D t H => tb (eZ X D l) D t H) := ⟨fun pins s σ H D I w => by
  have ok := I.ok
  have fr0 : X.A.frames = some (X.env :: X.outer) := ok.frames.trans (congrArg some hs)
  have caught : ∀ (u : Value) (s1 : Shared), XE (X.tr (X.pn ++ pins) fun e s1 => wpAny (model X.prog X.w) X.A (noteFrame e X.env) (fun _ s2 => wpAny (model X.prog X.w) X.A (setFlight e none) (fun _ s3 => wpAny (model X.prog X.w) X.A (handleBy e X.env (h₀ :: hds)) (SP X pins D) X.xe s3) X.xe s2) X.xe s1) (fun cls d _ H => eZ X D l cls d H) u s1 →
      wpAny (model X.prog X.w) X.A (noteFrame u X.env) (fun _ s2 => wpAny (model X.prog X.w) X.A (setFlight u none) (fun _ s3 => wpAny (model X.prog X.w) X.A (handleBy u X.env (h₀ :: hds)) (SP X pins D) X.xe s3) X.xe s2) X.xe s1 := by
    rintro u s1 ⟨a, B, sI, pq, t, H1, cls, d, rfl, JJ, gr, upS, sky, na, os1, ab, wish⟩
    have J : Inv X pins t H1 sI := JJ.ofTry ok
    rw [show (X.tr (X.pn ++ pins) _).stack = X.env :: X.outer from hs] at sky
    refine L2.Sky.land Zc.steady fr0 hf sky fun g3 fly up3 => ?_
    have offF : a ∉ frs (X.env :: X.outer) := fun hm => by
      obtain ⟨oe, vs, x1, x2, x3⟩ := fly.there
      obtain ⟨_, o2, y1, y2⟩ := fly.2.2.1.mem hm
      rw [x1] at y1; cases y1
      exact y2 _ x3
    have offL : a ≠ X.env.locals := fun z => offF (List.mem_filterMap.mpr ⟨X.env, List.mem_cons_self, by rw [hf, z]⟩)
    have notB : ∀ {c : Addr} {o : Obj}, sI.heap.get? c = some o → c ≠ a := fun {c o} z y => by
      subst y
      have q := gr c o z (by rw [show (X.tr (X.pn ++ pins) _).stack = X.env :: X.outer from hs]; exact offF)
      rw [fly.2.1] at q; cases q
    have fresh : X.s_0.heap.get? a = none := by
      cases z : X.s_0.heap.get? a with
      | none => rfl
      | some o =>
        obtain ⟨o1, y⟩ := J.base.there a o z (by rw [hex]; exact fun m => by cases m)
        exact absurd rfl (notB y)
    have apart : ∀ p ∈ X.pn ++ pins, p.1 ≠ a := fun p hm => notB (J.pin p hm).1
    have lands : ∀ {g : Heap}, HandSPX.FlyingZ B (X.env :: X.outer) a (Zc cls d) g → sI.heap.UpToSlots g → ∃ oe, g.get? a = some oe ∧ oe.cls = cls ∧ Inv (X.suite a (X.pn ++ pins)) [] t (upd H1 a (XO cls d a)) { s1 with heap := g } := fun {g} f u => by
      obtain ⟨oe, vs, x1, x2, x3⟩ := f.there
      exact ⟨oe, x1, x2.1, inv_caught (J.landed (s' := { s1 with heap := g }) gr f.1 u os1 ab) x1 x2 x3 na fresh offL apart⟩
    have all : ∀ {hs1 : List ExceptHandler} {l1 : List Clz}, ClsOk X hs1 l1 → ∀ g : Heap, HandSPX.FlyingZ B (X.env :: X.outer) a (Zc cls d) g → sI.heap.UpToSlots g → wZ D l1 cls d t H1 →
        wpAny (model X.prog X.w) X.A (handleBy (.ref a) X.env hs1) (SP X pins D) X.xe { s1 with heap := g } := by
      intro hs1 l1 hk
      induction hk with
      | nil => exact fun g f u z => z.elim
      | @bare ty ex u su q hd l2 ts ht hu r ih =>
        rintro g f up ⟨b, tb1, yes, no⟩
        obtain ⟨oe, x1, x2, S⟩ := lands f up
        refine wpAny_handleBy_cons (codeAny_handlers_test ?_) (fun z => by cases z)
        refine ht a _ [] _ _ _ oe b _ _ S x1 (by rw [x2]; exact tb1) fun g4 k4 => ?_
        have f4 := fly_more f k4
        have up4 := up.trans (Heap.UpToSlots.of_keeps k4)
        cases b with
        | false => exact ih g4 f4 up4 (no rfl)
        | true =>
          refine codeAny_handlers_suite (HandSPX.lands_againZ f4 fun g5 f5 up5 => ?_)
          obtain ⟨oe5, x5, x6, S5⟩ := lands f5 (up4.trans up5)
          refine wpAny_mono ((hu a _).run [] _ t _ _ S5 (yes rfl a na)) (fun fl s6 z => ?_) (fun _ _ z => z.elim)
          cases fl with
          | ret v => obtain ⟨v6, t6, H6, S6, rv, z⟩ := z; exact ⟨v6, t6, H6, inv_back S6 ok, rv, z⟩
          | next => obtain ⟨t6, H6, S6, z⟩ := z; exact ⟨t6, H6, inv_back S6 ok, z⟩
          | brk => obtain ⟨t6, H6, S6, z⟩ := z; exact ⟨t6, H6, inv_back S6 ok, z⟩
          | cont => obtain ⟨t6, H6, S6, z⟩ := z; exact ⟨t6, H6, inv_back S6 ok, z⟩
      | @named ty ex u su q hd l2 ts i n hi hkl ht hu r ih =>
        rintro g f up ⟨b, tb1, yes, no⟩
        obtain ⟨oe, x1, x2, S⟩ := lands f up
        refine wpAny_handleBy_cons (codeAny_handlers_test ?_) (fun z => by cases z)
        refine ht a _ [] _ _ _ oe b _ _ S x1 (by rw [x2]; exact tb1) fun g4 k4 => ?_
        have f4 := fly_more f k4
        have up4 := up.trans (Heap.UpToSlots.of_keeps k4)
        cases b with
        | false => exact ih g4 f4 up4 (no rfl)
        | true =>
          refine codeAny_handlers_suite_as (HandSPX.lands_againZ f4 fun g5 f5 up5 => ?_)
          obtain ⟨oe5, x5, x6, S5⟩ := lands f5 (up4.trans up5)
          refine store_ok (X := X.suite a (X.pn ++ pins)) (v := .ref a) S5 hN hi (.inl hkl) rfl (fun s5 S6 => ?_) (.inr hkl)
          have gone : ∀ {t6 : L2.St} {H6 : Hp} {s6 : Shared} {Q : Shared → Prop}, Inv (X.suite a (X.pn ++ pins)) [] t6 H6 s6 → (∀ s7, Inv X pins (t6.set i none) H6 s7 → Q s7) →
              wpAny (model X.prog X.w) X.A (do bindName X.env n .none; unbindBehindTheSuite X.env n q) (fun _ s7 => Q s7) X.xe s6 := fun {t6 H6 s6 Q} S6 hq => gone_ok (inv_back S6 ok) hN hi hkl hq
          refine wpAny_mono ((hu a _).run [] s5 _ _ _ S6 (yes rfl a na)) (fun fl s6 z => ?_) (fun _ _ z => z.elim)
          cases fl with
          | ret v => obtain ⟨v6, t6, H6, S7, rv, z⟩ := z; exact gone S7 fun s7 J7 => ⟨v6, _, H6, J7, rv, z⟩
          | next => obtain ⟨t6, H6, S7, z⟩ := z; exact gone S7 fun s7 J7 => ⟨_, H6, J7, z⟩
          | brk => obtain ⟨t6, H6, S7, z⟩ := z; exact gone S7 fun s7 J7 => ⟨_, H6, J7, z⟩
          | cont => obtain ⟨t6, H6, S7, z⟩ := z; exact gone S7 fun s7 J7 => ⟨_, H6, J7, z⟩
    exact all hc g3 fly (upS.trans up3) (wish t J.len)
  refine wpAny_Try_except (wpAny_mono ((hb (eZ X D l) (X.pn ++ pins) _ (fun u s1 x => caught u s1 x) PassesOwn.looking).run [] s σ H D (I.toTry _) w) (fun f s1 z => ?_) (fun e s1 z => z))
  cases f with
  | next => obtain ⟨t1, H1, J, z⟩ := z; exact wpAny_execs_nil ⟨t1, H1, J.ofTry ok, z⟩
  | brk => obtain ⟨t1, H1, J, z⟩ := z; exact ⟨t1, H1, J.ofTry ok, z⟩
  | cont => obtain ⟨t1, H1, J, z⟩ := z; exact ⟨t1, H1, J.ofTry ok, z⟩
  | ret v => obtain ⟨v1, t1, H1, J, rv, z⟩ := z; exact ⟨v1, t1, H1, J.ofTry ok, rv, z⟩⟩
end
end DL
/-! try .. except over data: clauses that return. -/
namespace DL
open PySem L2 PyProof.Rows
/-- a clause: which classes it takes, the slot of its name, its suite -/
structure Hdl where
  ex : Nat → Option Bool
  io : Option Nat
  S : FS
def putE (r : Env) (x : XD) : Option Nat → Env
  | none => r
  | some i => r.set i (.val (.exc x.c x.d.toList))
def endE (A : DE) : DE := { nx := fun _ => False, rt := A.rt, rn := A.rn }
def hdl (n : Nat) : List Hdl → DE → XD → Prop
  | [], _, _ => False
  | h :: t, A, x => ∃ b, h.ex x.c = some b ∧ if b = true then h.S (endE A) NoX (putE (List.replicate n .un) x h.io) else hdl n t A x
def sTry (n : Nat) (B : FS) (l : List Hdl) : FS := fun A EX r => B A (hdl n l A) r
abbrev NoE : XK := fun _ _ _ => False
inductive HdsD (X : Cx) (G : Gm) : List ExceptHandler → List Hdl → Prop
  | nil : HdsD X G [] []
  | bare {ty : Expr} {ex : Nat → Option Bool} {ev : Value → Option Bool} {u : Stmt} {su : List Stmt} {q : Pos} {hd : List ExceptHandler} {l : List Hdl} {S : FS} (hx : ∀ c b, ex c = some b → ev (.ref (G.cls c)) = some b) (ht : TstOk X ty ev)
      (hu : ∀ a pn, PSs (X.suite a pn) (u :: su) (sD G NoE S)) (r : HdsD X G hd l) : HdsD X G (.ExceptHandler (some ty) none (u :: su) q :: hd) (⟨ex, none, S⟩ :: l)
  | named {ty : Expr} {ex : Nat → Option Bool} {ev : Value → Option Bool} {u : Stmt} {su : List Stmt} {q : Pos} {hd : List ExceptHandler} {l : List Hdl} {S : FS} {i : Nat} {n : Str} (hi : X.N[i]? = some n) (hk : X.env.kindOf n = some .local)
      (hx : ∀ c b, ex c = some b → ev (.ref (G.cls c)) = some b) (ht : TstOk X ty ev) (hu : ∀ a pn, PSs (X.suite a pn) (u :: su) (sD G NoE S)) (r : HdsD X G hd l) : HdsD X G (.ExceptHandler (some ty) (some n) (u :: su) q :: hd) (⟨ex, some i, S⟩ :: l)
inductive Zs (G : Gm) : List Hdl → List Clz → Prop
  | nil : Zs G [] []
  | cons {h : Hdl} {z : Clz} {l : List Hdl} {k : List Clz} (hx : ∀ c b, h.ex c = some b → z.ex (.ref (G.cls c)) = some b) (hi : z.io = h.io) (ht : z.ts = sD G NoE h.S) (r : Zs G l k) : Zs G (h :: l) (z :: k)
theorem HdsD.zs {X : Cx} {G : Gm} {hs : List ExceptHandler} {l : List Hdl} (h : HdsD X G hs l) : ∃ k, ClsOk X hs k ∧ Zs G l k := by
  induction h with
  | nil => exact ⟨[], .nil, .nil⟩
  | bare hx ht hu r ih =>
    obtain ⟨k, h1, h2⟩ := ih
    exact ⟨_ :: k, .bare ht hu h1, .cons hx rfl rfl h2⟩
  | named hi hk hx ht hu r ih =>
    obtain ⟨k, h1, h2⟩ := ih
    exact ⟨_ :: k, .named hi hk ht hu h1, .cons hx rfl rfl h2⟩
section
variable {G : Gm} {w0 w1 wk : Wd} {H0 H1 : Hp} {n : Nat} {A : DE} {D : Ends}
theorem fr_un {w : Wd} {H : Hp} {t : L2.St} (ok : Ok w H) (le : Le w0 H0 w H) (ht : t.length = n) : Fr G w0 H0 (List.replicate n .un) t w H where
  ok := ok
  le := le
  len := by rw [List.length_replicate, ht]
  slot := fun i x e => by
    have q := List.getElem?_eq_some_iff.mp e
    obtain ⟨h, q⟩ := q
    rw [List.getElem_replicate] at q
    subst q
    trivial
  dist := fun i j x y a e1 e2 o1 _ _ _ => by
    obtain ⟨h, q⟩ := List.getElem?_eq_some_iff.mp e1
    rw [List.getElem_replicate] at q
    subst q
    cases o1
theorem wZ_of (ll : Lk G w0 H0 wk A D) {x : XD} {od : Option Addr} (le : Le w0 H0 w1 H1) (ok : Ok w1 H1) (ex : ExAt G w1 H1 x od) (htb : w0.tb = G.tb) {t : L2.St} (ht : t.length = n) {l : List Hdl} {k : List Clz} (zs : Zs G l k) (h : hdl n l A x) : wZ D k (.ref (G.cls x.c)) od t H1 := by
  induction zs with
  | nil => exact h
  | @cons h1 z l2 k2 hx hi hts r ih =>
    obtain ⟨b, e, q⟩ := h
    refine ⟨b, hx _ _ e, fun hb a na => ?_, fun hb => ih (by rw [hb, if_neg Bool.false_ne_true] at q; exact q)⟩
    rw [hb, if_pos rfl] at q
    rw [hts, hi]
    have n0 : H0 a = none := by
      cases y : H0 a with
      | none => rfl
      | some o => exact absurd na (le.dom a (by rw [y]; exact fun y => by cases y))
    have hn := ok.none_hd na
    have ok2 : Ok (w1.frz (upd H1 a (XO (.ref (G.cls x.c)) od a)) a) (upd H1 a (XO (.ref (G.cls x.c)) od a)) := (ok.new na).frz (ok.none_jr na)
    have le2 := ((le.trans (Le.new (o := XO (.ref (G.cls x.c)) od a) na)).frz hn n0)
    have base : Fr G w0 H0 (List.replicate n .un) t _ _ := fr_un (G := G) ok2 le2 ht
    have rp : Rep G (w1.frz (upd H1 a (XO (.ref (G.cls x.c)) od a)) a) (.exc x.c x.d.toList) (.ref a) := by
      have at_ : (w1.frz (upd H1 a (XO (.ref (G.cls x.c)) od a)) a).hd a = some (XO (.ref (G.cls x.c)) od a) := by rw [frz_at, upd_same]
      unfold Rep
      unfold ExAt at ex
      obtain ⟨c, dd⟩ := x
      cases dd with
      | none =>
        have ex : od = none := ex
        subst ex
        exact ⟨a, _, none, [], rfl, at_, XO.at, Reps.nil, .inl ⟨rfl, rfl⟩⟩
      | some d =>
        obtain ⟨dx, nm, v, rfl, hf, hd, rv⟩ := ex
        exact ⟨a, _, some dx, [v], rfl, at_, XO.at, Reps.cons (rv.mono (.frz hn)) Reps.nil, .inr ⟨dx, nm, v, rfl, rfl, hf, by rw [frz_ne (ne_of_none hd hn)]; exact hd⟩⟩
    have lks : ∀ io, Lk G w0 H0 (w1.frz (upd H1 a (XO (.ref (G.cls x.c)) od a)) a) (endE A) (endZ D io) := fun io => by
      have rt : (endZ D io).rt = D.rt := by cases io <;> rfl
      refine ⟨fun r s w H _ _ z => (show False from z).elim, fun d v w H l o rv z => ?_, fun r s w H _ _ z => (show False from z).elim, fun r s w H _ _ z => (show False from z).elim, fun ds a vs w H l o m e rv z => ?_⟩
      · rw [rt]; exact ll.rt d v w H l o rv z
      · rw [rt]; exact ll.rn ds a vs w H l o m e rv z
    cases hio : h1.io with
    | none =>
      rw [hio] at q
      exact ⟨w0, H0, _, _, _, _, NoX, base, .refl _, LkE.none htb, lks none, q⟩
    | some i =>
      rw [hio] at q
      exact ⟨w0, H0, _, _, _, _, NoX, base.setV rp, .refl _, LkE.none htb, lks (some i), q⟩
end
section
variable {X : Cx} {G : Gm} {E : XK} {body : List Stmt} {h₀ : ExceptHandler} {hds : List ExceptHandler} {l : List Hdl} {pos : Pos} {B : FS} {n : Nat}
theorem cs_try (hn : X.N.length = n) (hs : X.stack = X.env :: X.outer) (hf : X.env.frame = some X.env.locals) (hN : X.N.Nodup) (hex : X.ex = [])
    (hb : ∀ (E : XK) (pn : List (Addr × Obj)) (xe : Value → Shared → Prop), Takes (X.tr pn xe) (fun cls d _ H => E cls d H) → PassesOwn (model X.prog X.w) X.A X.env xe → PSs (X.tr pn xe) body (sD G E B))
    (hh : HdsD X G (h₀ :: hds) l) : PS X (.Try body (h₀ :: hds) [] [] pos) (sD G E (sTry n B l)) := by
  obtain ⟨k, h1, h2⟩ := hh.zs
  refine (ps_tryZ (tb := fun E => sD G E B) hs hf hN hex hb h1).weak fun D s H ⟨w0, H0, wk, r, w, A, EX, fr, sb, lk, ll, f⟩ => ?_
  exact ⟨w0, H0, wk, r, w, A, _, fr, sb, ⟨fun x od w1 H1 le ok ex q t ht => wZ_of ll le ok ex lk.2 (ht.trans hn) h2 q, lk.2⟩, ll, f⟩
end
/-! ### runs -/
def yRaise (c : Nat) (a : Env → R (List D)) (r : Env) : RS := (a r).st fun ds => match ds with
  | [d] => .ex ⟨c, some d⟩
  | _ => .no
theorem s_raise {c : Nat} {A : FA} {a : Env → R (List D)} (ha : CF A a) : CS (sRaise c A) (yRaise c a) := fun r r' Ad EX s h => ha r r' _ EX s ((hold_st h).imp fun ds h1 => by
  match ds, h1 with
  | [d], h1 => exact ⟨d, rfl, h1⟩)
structure HdY where
  ex : Nat → Option Bool
  io : Option Nat
  s : Env → RS
def RS.fin : RS → RS
  | .rt d => .rt d
  | .rn ds => .rn ds
  | _ => .no
def yHdl (n : Nat) : List HdY → XD → RS
  | [], _ => .no
  | h :: t, x => match h.ex x.c with
    | some true => (h.s (putE (List.replicate n .un) x h.io)).fin
    | some false => yHdl n t x
    | none => .no
def yTry (n : Nat) (b : Env → RS) (l : List HdY) (r : Env) : RS := match b r with
  | .ex x => yHdl n l x
  | y => y
inductive HdsY : List Hdl → List HdY → Prop
  | nil : HdsY [] []
  | cons {ex : Nat → Option Bool} {io : Option Nat} {S : FS} {s : Env → RS} {l : List Hdl} {k : List HdY} (h : CS S s) (r : HdsY l k) : HdsY (⟨ex, io, S⟩ :: l) (⟨ex, io, s⟩ :: k)
theorem sim_put {x : Addr} {n : Nat} {xd : XD} : ∀ io, Sim x (putE (List.replicate n .un) xd io) (putE (List.replicate n .un) xd io)
  | none => by
    show _ = List.map _ _
    unfold putE
    rw [List.map_replicate]; rfl
  | some i => by
    have h : Sim x (List.replicate n Sl.un) (List.replicate n .un) := by
      show _ = List.map _ _
      rw [List.map_replicate]; rfl
    exact h.set i _
theorem hdl_of {n : Nat} {A : DE} {x : XD} {y : Addr} {EX : XP} {l : List Hdl} {k : List HdY} (h : HdsY l k) (q : (yHdl n k x).hold y A EX) : hdl n l A x := by
  induction h with
  | nil => exact q
  | @cons ex io S s l2 k2 hs r ih =>
    unfold yHdl at q
    cases e : ex x.c with
    | none => rw [show (HdY.mk ex io s).ex x.c = none from e] at q; exact q.elim
    | some b =>
      rw [show (HdY.mk ex io s).ex x.c = some b from e] at q
      cases b with
      | false => exact ⟨false, e, by rw [if_neg Bool.false_ne_true]; exact ih q⟩
      | true =>
        refine ⟨true, e, ?_⟩
        rw [if_pos rfl]
        refine hs (x := y) _ _ _ _ (sim_put io) ?_
        have q' : RS.hold y (RS.fin (s (putE (List.replicate n .un) x io))) A EX := q
        cases z : s (putE (List.replicate n .un) x io) with
        | rt d => rw [z] at q'; exact q'
        | rn d => rw [z] at q'; exact q'
        | nx d => rw [z] at q'; exact q'.elim
        | bk d => rw [z] at q'; exact q'.elim
        | ct d => rw [z] at q'; exact q'.elim
        | ex d => rw [z] at q'; exact q'.elim
        | no => rw [z] at q'; exact q'.elim
theorem s_try {n : Nat} {B : FS} {b : Env → RS} {l : List Hdl} {k : List HdY} (hb : CS B b) (h : HdsY l k) : CS (sTry n B l) (yTry n b k) := fun {x} r r' A EX s q => by
  refine hb (x := x) r r' A (hdl n l A) s ?_
  unfold yTry at q
  cases e : b r with
  | ex xd => rw [e] at q; exact hdl_of h q
  | nx d => rw [e] at q; exact q
  | rt d => rw [e] at q; exact q
  | bk d => rw [e] at q; exact q
  | ct d => rw [e] at q; exact q
  | rn d => rw [e] at q; exact q
  | no => rw [e] at q; exact q
end DL
/-! Defs that may be called within an except suite. -/
namespace DL
open PySem L2 PyProof.Rows
/-- room, whatever is handled -/
structure RmW (k : Nat) (A : Around) : Prop where
  dp : A.depth + 3 * k + 5 < recursionLimit
  un : A.units + 16 * k + 200 < cLine
theorem RmW.of {k : Nat} {A : Around} (r : Room k A) : RmW k A := ⟨r.dp, r.un⟩
theorem RmW.mono {j k : Nat} {A : Around} (r : RmW k A) (h : j ≤ k) : RmW j A := ⟨by have := r.dp; omega, by have := r.un; omega⟩
theorem RmW.deeper {k : Nat} {A : Around} (r : RmW (k + 1) A) (env : PySem.Env) : RmW k (A.deeper env) :=
  ⟨by have := r.dp; show A.depth + 1 + 3 * k + 5 < recursionLimit; omega, by have := r.un; show A.units + 3 + 16 * k + 200 < cLine; omega⟩
theorem RmW.depth {k : Nat} {A : Around} (r : RmW k A) : A.depth < recursionLimit := by have := r.dp; omega
theorem RmW.mark {k : Nat} {A : Around} {v : Option Value} (r : RmW k A) : RmW k (A.mark v) := ⟨r.dp, r.un⟩
theorem hu64W {k : Nat} {A : Around} (hr : RmW k A) : A.units + 64 < cLine := by have := hr.un; omega
structure FnW (P : Program) (w : World) (K : PySem.W.Frag) (mg : Str → Option Value) (base : Heap) (k : Nat) (f : Addr) (fd : FuncData) (ps : List Str) (sp : Sp) : Prop where
  len : ∀ vs H Q E, sp vs H Q E → vs.length = ps.length
  run : ∀ (A : Around) (outer : List PySem.Env) (s : Shared) (H : Hp) (args : Args) (us : List Value) (vs : List V) (Q : VK) (E : XK), A.guards = some [] → RmW k A → Env0 P w K mg base A outer s H → BindsTo s fd args (ps.zip us) → Vals vs us → sp vs H Q E →
    codeAny (model P w) A (.call (.ref f) args) (CR (L2.CX P w) outer P w H s Q E) s
theorem FnW.mono {P : Program} {w : World} {K : PySem.W.Frag} {mg : Str → Option Value} {base : Heap} {j k : Nat} {f : Addr} {fd : FuncData} {ps : List Str} {sp : Sp} (F : FnW P w K mg base j f fd ps sp) (h : j ≤ k) : FnW P w K mg base k f fd ps sp :=
  ⟨F.len, fun A outer s H args us vs Q E hg hr => F.run A outer s H args us vs Q E hg (hr.mono h)⟩
/-- the body's context -/
def cxW (P : Program) (w : World) (K : PySem.W.Frag) (mg : Str → Option Value) (base : Heap) (N : List Str) (qual : Str) (scope : Scope) (f : Addr) (cd : Value) (A : Around) (outer : List PySem.Env) (s : Shared) (H : Hp) (E : XK) : Cx :=
  { cxOf (L2.CX P w) P w K mg base N qual scope f cd A outer s H E with calm := false }
section
variable {P : Program} {w : World} {K : PySem.W.Frag} {mg : Str → Option Value} {base : Heap} {k : Nat} {f : Addr} {N ps : List Str} {sp : Sp}
theorem Fun.okW {x qual : Str} {st : Stmt} {fd : FuncData} (F : Fun K x qual st f fd) (S : FnScope N ps (defScope st)) (len : ∀ vs H Q E, sp vs H Q E → vs.length = ps.length)
    (body : ∀ (cdv : Value) (A : Around) (outer : List PySem.Env) (s : Shared) (H : Hp) (vs : List V) (Q : VK) (E : XK), A.guards = some [] → RmW k (A.deeper (envOfC qual (defScope st) s.heap.objs.size f cdv)) → sp vs H Q E →
      ∃ t, PSs (cxW P w K mg base N qual (defScope st) f cdv A outer s H E) (defBody st) t ∧ t { nx := fun _ H' => Q .non H', rt := Q } (L2.start N vs) H) : FnW P w K mg base (k + 1) f fd ps sp := by
  obtain ⟨oc, od, kV, doc, pm, an, cdv, ct, osl, rfl, lk, hcd⟩ := F.ex
  refine ⟨len, fun A outer s H args us vs Q E hg hr e0 hb rv hsp => ?_⟩
  have nl := len _ _ _ _ hsp
  have inK : K.In s.heap := e0.mod.kin.keeps fun b o e => (e0.bs b o e).1
  have kinds : ∀ y ∈ ps.zip us, (defScope st).names.lookup y.1 = some .local ∨ ((defScope st).names.lookup y.1 = some .cell ∧ ((cellsFrom (s.heap.objs.size + 1) (defScope st).names []).lookup y.1).isSome = true) := by
    rintro ⟨n, v⟩ hy
    exact (S.par n (List.of_mem_zip hy).1).imp id fun q => ⟨q, PySem.W.cellsFrom_some _ _ _ (.inl q)⟩
  refine codeAny_call_function hr.depth (inK _ _ lk) rfl S.co S.gen rfl (PySem.W.codeRec_of inK hcd) (hb _ _ _ _ ?_)
  refine wpAny_newFunctionEnv_cells S.kind kinds fun env he s1 x1 => ?_
  subst he
  refine ⟨(e0.mod.nolimit.keeps fun b o e => (e0.bs b o e).1).keeps x1.toInCall.keep, codeAny_func ?_⟩
  obtain ⟨t, ht, hq⟩ := body cdv A outer s H vs Q E hg (hr.deeper _) hsp
  -- the start is the one of a call where nothing is handled
  have I0 := inv_start (CX := L2.CX P w) (E := E) (qual := qual) (f := f) (cd := cdv) (A := { A with handled := none }) S rfl ⟨e0.frames, e0.mod, e0.bs, e0.bsz, e0.funs, e0.frf, e0.hok, e0.bare⟩ nl rv x1
  have ok0 := I0.ok
  have I : Inv (cxW P w K mg base N qual (defScope st) f cdv A outer s H E) [] (L2.start N vs) H s1 :=
    ⟨⟨ok0.mod, ok0.kind, ok0.glob, ok0.blt, ok0.above, ok0.inj, ok0.has, ok0.cab, (fun z => Bool.noConfusion (show false = true from z)), Around.frames_deeper e0.frames, ok0.stk, ok0.exf, ok0.bs, ok0.bsz, ok0.noex, ok0.exfs, ok0.funs, ok0.frf⟩,
      I0.os, I0.bare, I0.base, I0.loc, I0.cell, I0.free, I0.freeC, I0.pin, I0.hok, I0.len⟩
  refine wpAny_mono (ht.run [] s1 (L2.start N vs) H _ I hq) (fun fl s' hs => ?_) (fun e s' hs => hs)
  cases fl with
  | brk => exact (hs.elim fun _ z => z.elim fun _ y => (show False from y.2).elim)
  | cont => exact (hs.elim fun _ z => z.elim fun _ y => (show False from y.2).elim)
  | ret u =>
    obtain ⟨v, _, H', J, r, q⟩ := hs
    exact ⟨v, H', J.os, J.bare, J.base, J.hok, r, q⟩
  | next =>
    obtain ⟨_, H', J, q⟩ := hs
    exact ⟨V.non, H', J.os, J.bare, J.base, J.hok, rfl, q⟩
end
section
variable {G : Gm} {P : Program} {w : World} {mg : Str → Option Value} {base : Heap} {k : Nat} {f : Addr} {N ps : List Str}
theorem okW {x qual : Str} {st : Stmt} {fd : FuncData} {sp : DSp} {B : FS} (F : Fun G.K x qual st f fd) (S : FnScope N ps (defScope st)) (len : ∀ ds Q EX, sp ds Q EX → ds.length = ps.length)
    (body : ∀ (cdv : Value) (A : Around) (outer : List PySem.Env) (s : Shared) (H : Hp) (E : XK), A.guards = some [] → RmW k (A.deeper (envOfC qual (defScope st) s.heap.objs.size f cdv)) →
      PSs (cxW P w G.K mg base N qual (defScope st) f cdv A outer s H E) (defBody st) (sD G E B))
    (pure : ∀ ds Q EX, sp ds Q EX → B { nx := fun _ => Q .non, rt := Q } EX (startD N ds)) : FnW P w G.K mg base (k + 1) f fd ps (lift G sp) := by
  refine Fun.okW F S (fun vs H Q E ⟨w, ds, QD, EX, _, r, h, _⟩ => by rw [← r.length]; exact len _ _ _ h) fun cdv A outer s H vs Q E hg hr ⟨w, ds, QD, EX, ok, r, h, k, lk⟩ => ⟨_, body cdv A outer s H E hg hr, ?_⟩
  exact ⟨w, H, w, startD N ds, w, { nx := fun _ => QD .non, rt := QD }, EX, fr_start ok r, .refl w, lk, ⟨fun r s w' H' fr _ q => k .non .non w' H' fr.le fr.ok Rep.non q, fun d v w' H' l ok' rp q => k d v w' H' l ok' rp q, fun _ _ _ _ _ _ q => q.elim, fun _ _ _ _ _ _ q => q.elim, fun _ _ _ _ _ _ _ _ _ _ q => q.elim⟩, pure ds QD EX h⟩
end
section
variable {X : Cx} {G : Gm} {E : XK} {k : Nat} {f : Addr} {fd : FuncData} {ps : List Str} {sp : DSp} {x : Str} {p pos : Pos} {e : Expr} {es : List Expr} {B : FA}
theorem ce_callW (F : FnW X.prog X.w X.K X.mg X.base k f fd ps (lift G sp)) (hm : X.mg x = some (.ref f)) (hk : PySem.W.keepIn X.K (.ref f) = true) (hb : Binds X.K fd ps []) (hgd : X.A.guards = some []) (hr : RmW k X.A) (hx : PassX X E)
    (ha : PA X (e :: es) (taD G E B)) (hg : Gl X x := by rfl) (hdb : (x == ("__debug__" : Str)) = false := by decide) (he : starEach (e :: es) X.env = (false, eval e X.env) :: starEach es X.env := by rfl) (hpl : (backTo pos (starEach es X.env)).any (·.1) = false := by rfl) :
    PE X (.Call (.Name x p) (e :: es) [] pos) (tD G E (fCall sp B)) := ⟨fun pins s σ H Q I ⟨w0, H0, r, w, QD, EX, fr, lk, f0, k0⟩ => by
  refine wpAny_Call_Name_kw (ld_glob I hg hm (PySem.W.callWith_K (h₀ := X.base) I.ok.mod.kin hk (thn (ha.run pos pins s σ H (fun vs H1 => lift G sp vs H1 Q E) I ⟨w0, H0, r, w, _, EX, fr, lk, f0, fun ds vs w1 H1 l1 ok1 r1 q1 =>
    ⟨w1, ds, QD, EX, ok1, r1, q1, fun d v w2 H2 l2 ok2 r2 q2 => k0 d v w2 H2 (l1.trans l2) ok2 r2 q2, lk.go (fr.le.trans l1)⟩⟩) ?_) he hpl) hdb)
  rintro us s1 ⟨vs, H1, I1, rv, q⟩
  refine ⟨I1.kIn, ?_⟩
  have nl : us.length = ps.length := rv.length.symm.trans (F.len _ _ _ _ q)
  have bd := hb s1 us I1.kIn (by rw [List.append_nil]; exact nl)
  rw [List.append_nil] at bd
  refine wpAny_call (codeAny_mono (F.run X.A X.stack s1 H1 ⟨us, []⟩ us vs Q E hgd hr I1.env0 bd rv q) ?_)
  rintro (er | fl) s' hq
  · exact hx pins σ H1 s1 er s' I1 hq
  · cases fl <;> first
      | exact I1.after hq
      | exact hq.elim⟩
/-- nothing leaves an except suite by an exception -/
theorem pass_suite {a : Addr} {pn : List (Addr × Obj)} : PassX (X.suite a pn) NoE := fun pins σ H s e s' I c => by
  obtain ⟨_, _, _, _, _, _, _, _, _, _, _, _, z⟩ := c
  exact z
end
def DefW (P : Program) (w : World) (G : Gm) (mg : Str → Option Value) (base : Heap) (k : Nat) (f : Addr) (ps : List Str) (U : FuncData → Prop) (sp : Sp) : Prop := ∃ fd, FnW P w G.K mg base k f fd ps sp ∧ U fd
end DL
/-! The head by one run of the kernel: a part of the heap is looked at behind the top, by tests on it. -/
namespace HdM
open PySem PySem.Spec PyProof.Rows L2 DL
/-! ### the part: the module's names xs, what they name in four steps -/
def refsAt (g : Addr → Option Obj) (l : List Addr) : List Addr := l.flatMap fun a => match g a with
  | some o => He.refsO o
  | none => []
def lev (g : Addr → Option Obj) : Nat → List Addr → List Addr
  | 0, l => l
  | n + 1, l => l ++ lev g n (refsAt g l)
def partG (xs : List Str) (g : Addr → Option Obj) : PySem.W.Frag := He.frG g (mainGlobals :: cStatics :: lev g 4 (xs.map (He.ga (He.frG g [mainGlobals]))))
/-! ### a def -/
structure DfM where
  ad : PySem.W.Frag → Addr
  name : Str
  qual : Str
  params : Arguments
  body : List Stmt
  scope : Scope
  dfl : List He.Dv := []
def fnAt (K : PySem.W.Frag) (a : Addr) : He.FnW := match K.lookup a with
  | some ⟨_, _, .func d, _⟩ => some (d.name, d.qualname, d.params, d.body, d.scope, d.globals, d.closure, d.builtins)
  | _ => none
def DfM.val (d : DfM) : He.FnW := some (d.name, d.qual, d.params, .stmts d.body, d.scope, mainGlobals, [], builtinsNs)
def DfM.dvs (K : PySem.W.Frag) (d : DfM) : List V := d.dfl.map (He.Dv.v K)
def DfM.ok (K : PySem.W.Frag) (d : DfM) : Bool := PySem.W.keepIn K (.ref (d.ad K)) && (match K.lookup (d.ad K) with
  | some ⟨_, _, .func e, _⟩ => PySem.W.codeIn K e.code d.qual && He.dflB K e.defaults (d.dvs K)
  | _ => false)
theorem DfM.funD {K : PySem.W.Frag} {d : DfM} (e : fnAt K (d.ad K) = d.val) (c : d.ok K = true) : ∃ fd, FunD K d.name d.qual d.params d.body d.scope (d.dvs K) [] (d.ad K) fd := by
  obtain ⟨kp, c2⟩ := Bool.and_eq_true_iff.mp c
  cases q : K.lookup (d.ad K) with
  | none => rw [q] at c2; cases c2
  | some o =>
    obtain ⟨oc, od, dt, osl⟩ := o
    unfold fnAt at e
    rw [q] at c2 e
    cases dt with
    | func fd =>
      obtain ⟨m1, m2, m3, m4, m5, m6, m7, m8, m9, m10, m11, m12, m13, m14, m15⟩ := fd
      have z : (some (m1, m2, m3, m4, m5, m6, m7, m15) : He.FnW) = some (d.name, d.qual, d.params, .stmts d.body, d.scope, mainGlobals, [], builtinsNs) := e
      simp only [Option.some.injEq, Prod.mk.injEq] at z
      obtain ⟨z1, z2, z3, z4, z5, z6, z7, z8⟩ := z
      subst z1 z2 z3 z4 z5 z6 z7 z8
      obtain ⟨k1, k2⟩ := Bool.and_eq_true_iff.mp (show (PySem.W.codeIn K m13 d.qual && He.dflB K m8 (d.dvs K)) = true from c2)
      exact ⟨_, ⟨oc, od, m8, m9, m10, m11, m12, m13, m14, osl, rfl, q, k1, He.dflB_ok k2, .inl rfl⟩, kp⟩
    | _ => cases c2
theorem fun_of {K : PySem.W.Frag} {x q : Str} {st : Stmt} {f : Addr} (h : ∃ fd, FunD K x q (defArgs st) (defBody st) (defScope st) [] [] f fd) : ∃ fd, L2.Fun K x q st f fd := by
  obtain ⟨fd, ⟨oc, od, dV, kV, doc, pm, an, cdv, ct, osl, rfl, lk, cd, df, _⟩, kp⟩ := h
  rcases df with ⟨_, rfl⟩ | ⟨n, _⟩
  · exact ⟨_, ⟨oc, od, kV, doc, pm, an, cdv, ct, osl, rfl, lk, cd⟩, kp⟩
  · exact absurd rfl n
/-! ### tests -/
/-- the getter of a property -/
def getF (K : PySem.W.Frag) (P : Addr) : Addr := match PySem.W.recIn K P "property" with
  | some (.ref f :: _) => f
  | _ => 0
def getB (K : PySem.W.Frag) (P : Addr) : Bool := match PySem.W.recIn K P "property" with
  | some (.ref _ :: _) => true
  | _ => false
theorem get_ok {K : PySem.W.Frag} {P : Addr} (h : getB K P = true) : ∃ r, PySem.W.recIn K P "property" = some (.ref (getF K P) :: r) := by
  unfold getB at h
  unfold getF
  split at h
  · rename_i f r e
    exact ⟨r, by rw [e]⟩
  · cases h
def intB (K : PySem.W.Frag) (x : Str) (i : Int) : Bool := match PySem.W.nsIn K mainGlobals x with
  | some (some (.int j _)) => decide (j = i)
  | _ => false
theorem int_ok {K : PySem.W.Frag} {x : Str} {i : Int} (h : intB K x i = true) : ∃ t, PySem.W.nsIn K mainGlobals x = some (some (.int i t)) := by
  unfold intB at h
  split at h
  · rename_i j t e
    have ej : j = i := of_decide_eq_true h
    exact ⟨t, by rw [e, ej]⟩
  · cases h
/-- a dict of the written part, but for its hashes -/
def entB : List DictEntry → List (Key × V) → Bool
  | [], [] => true
  | e :: r, (k, v) :: t => keyIs k e.key && (He.relB v e.val && entB r t)
  | _, _ => false
def dicB (K : PySem.W.Frag) (a : Addr) (kvs : List (Key × V)) : Bool := match K.lookup a with
  | some ⟨.type c, none, .dict es _, sl⟩ => decide (c = "dict") && (sl.toList.isEmpty && (!(a == sysModules) && entB es.toList kvs))
  | _ => false
def hashesAt (K : PySem.W.Frag) (a : Addr) : List Int := match K.lookup a with
  | some ⟨_, _, .dict es _, _⟩ => es.toList.map (·.hash)
  | _ => []
theorem kent_of {w : World} : ∀ {es : List DictEntry} {kvs : List (Key × V)}, entB es kvs = true → es.map (·.hash) = kvs.map (fun p => keyH w p.1) → KEnt w es kvs
  | [], [], _, _ => trivial
  | [], _ :: _, h, _ => by cases h
  | _ :: _, [], h, _ => by cases h
  | e :: r, (k, v) :: t, h, q => by
    obtain ⟨h1, h⟩ := Bool.and_eq_true_iff.mp (show (keyIs k e.key && (He.relB v e.val && entB r t)) = true from h)
    obtain ⟨h2, h3⟩ := Bool.and_eq_true_iff.mp h
    have q : e.hash :: r.map (·.hash) = keyH w k :: t.map (fun p => keyH w p.1) := q
    injection q with q1 q2
    exact ⟨h1, q1, He.relB_ok h2, kent_of h3 q2⟩
theorem dic_ok {K : PySem.W.Frag} {w : World} {a : Addr} {kvs : List (Key × V)} (h : dicB K a kvs = true) (q : hashesAt K a = kvs.map (fun p => keyH w p.1)) : KDic K w a kvs := by
  unfold dicB at h
  unfold hashesAt at q
  split at h
  · rename_i c es n sl e
    obtain ⟨h1, h⟩ := Bool.and_eq_true_iff.mp h
    obtain ⟨h2, h⟩ := Bool.and_eq_true_iff.mp h
    obtain ⟨h3, h4⟩ := Bool.and_eq_true_iff.mp h
    have ec : c = "dict" := of_decide_eq_true h1
    have es0 : sl = #[] := by
      cases sl with
      | mk l =>
        cases l with
        | nil => rfl
        | cons x y => cases h2
    rw [e] at q
    exact ⟨es, n, by rw [e, ec, es0], by simpa using h3, kent_of h4 q⟩
  · cases h
/-! ### the Hook -/
abbrev AlM : Type := Bool × List He.FnW × List (List Int)
def lookM (fs : List (PySem.W.Frag → Bool)) (fn : List DfM) (dc : List (PySem.W.Frag → Addr)) (K : PySem.W.Frag) : AlM :=
  ((fs.all fun f => f K) && fn.all fun d => d.ok K, fn.map fun d => fnAt K (d.ad K), dc.map fun a => hashesAt K (a K))
def wantM (fn : List DfM) (hs : List (List Key)) (w : World) : AlM := (true, fn.map DfM.val, hs.map fun l => l.map (keyH w))
def SaysM (fs : List (PySem.W.Frag → Bool)) (fn : List DfM) (dc : List (PySem.W.Frag → Addr)) (hs : List (List Key)) (w : World) (K : PySem.W.Frag) : Prop := lookM fs fn dc K = wantM fn hs w
section
variable {fs : List (PySem.W.Frag → Bool)} {fn : List DfM} {dc : List (PySem.W.Frag → Addr)} {hs : List (List Key)} {w : World} {K : PySem.W.Frag}
theorem SaysM.fact (c : SaysM fs fn dc hs w K) (i : Nat) {f : PySem.W.Frag → Bool} (h : fs[i]? = some f := by rfl) : f K = true := by
  have c1 : ((fs.all fun f => f K) && fn.all fun d => d.ok K) = true := congrArg (fun z : AlM => z.1) c
  exact List.all_eq_true.mp (Bool.and_eq_true_iff.mp c1).1 f (List.mem_of_getElem? h)
theorem SaysM.def_ (c : SaysM fs fn dc hs w K) (i : Nat) {d : DfM} (h : fn[i]? = some d := by rfl) : ∃ fd, FunD K d.name d.qual d.params d.body d.scope (d.dvs K) [] (d.ad K) fd := by
  have c1 : ((fs.all fun f => f K) && fn.all fun d => d.ok K) = true := congrArg (fun z : AlM => z.1) c
  have e : (fn.map fun d => fnAt K (d.ad K)) = fn.map DfM.val := congrArg (fun z : AlM => z.2.1) c
  have e2 : (fn.map fun d => fnAt K (d.ad K))[i]? = (fn.map DfM.val)[i]? := by rw [e]
  rw [List.getElem?_map, List.getElem?_map, h] at e2
  exact DfM.funD (Option.some.inj e2) (List.all_eq_true.mp (Bool.and_eq_true_iff.mp c1).2 d (List.mem_of_getElem? h))
theorem SaysM.hash (c : SaysM fs fn dc hs w K) (i : Nat) {a : PySem.W.Frag → Addr} {l : List Key} (h : dc[i]? = some a := by rfl) (h2 : hs[i]? = some l := by rfl) : hashesAt K (a K) = l.map (keyH w) := by
  have e : (dc.map fun a => hashesAt K (a K)) = hs.map fun l => l.map (keyH w) := congrArg (fun z : AlM => z.2.2) c
  have e2 : (dc.map fun a => hashesAt K (a K))[i]? = (hs.map fun l => l.map (keyH w))[i]? := by rw [e]
  rw [List.getElem?_map, List.getElem?_map, h, h2] at e2
  exact Option.some.inj e2
end
end HdM
/-! A lambda that is handed to a def which calls it in a try: over data. -/
namespace DL
open PySem L2 PyProof.Rows
section
variable {X : Cx} {pins : List (Addr × Obj)} {σ : L2.St} {H : Hp} {s : Shared}
/-- the lambda's name -/
abbrev lamQ (X : Cx) : Str := X.env.qual ++ "<lambda>"
/-- how the heap looks behind the making of a lambda: its code object at c was in the table, or is new there -/
def LamH (X : Cx) (H H1 : Hp) (P c : Addr) : Prop :=
  (H1 = H ∧ ∃ (ps : Array Value) (pos : Pos), H P = some (.tbl ps) ∧ codeAmong pos ps.toList = some (.ref c)) ∨
    ∃ (ps : Array Value) (pos : Pos), H P = some (.tbl ps) ∧ H c = none ∧ H1 = upd (upd H P (.tbl (ps ++ #[rawInt pos.line, rawInt pos.col, .ref c]))) c (LamX.CodeO c (lamQ X))
theorem lam_mk {c P : Addr} {params : Arguments} {body : Expr} {scope : Scope} {pos : Pos} {E1 : Value → Shared → Prop} {Q : Value → Shared → Prop} (I : Inv X pins σ H s) (TB : LamX.TabB X.base X.mg c P) (hc : X.env.code = .ref c)
    (T : LamX.TabS H P (lamQ X)) (hd : defaultsOf params X.env = ([], [])) (hfr : ∀ y ∈ scope.names, y.2 = .free → ∃ c, X.env.cells.lookup y.1 = some c)
    (k : ∀ (f c1 : Addr) (pm ctv : Value) (H1 : Hp) (s1 : Shared), Inv X pins σ H1 s1 → LamH X H H1 P c1 →
      s1.heap.get? f = some (PySem.W.kla_obj "<lambda>" (lamQ X) params body scope (cloFrom X.env.cells scope.names []) pm c1 ctv) → H1 f = none → f ∉ frs X.stack → H1 c1 = some (LamX.CodeO c1 (lamQ X)) → Q (.ref f) s1) :
    wpAny (model X.prog X.w) X.A (eval (.Lambda params body scope pos) X.env) Q E1 s := by
  obtain ⟨ps, tP, trip, told⟩ := T
  have gP : s.heap.get? P = some { cls := .none, data := .fields ps } := I.hok P _ tP
  have bP : s.heap.BuiltinsAt X.mg P := TB.bm.keeps I.bk
  have young : ∀ f, s.heap.objs.size ≤ f → f ∉ frs X.stack := fun f hf hm => (List.mem_cons.mp (I.stkSub _ hm)).elim (fun e => by
    have lt := I.lt
    rw [← e] at lt
    exact Nat.lt_irrefl _ (Nat.lt_of_lt_of_le lt hf)) (I.nofs hf)
  refine PySem.W.kla_eval hd ?_
  cases am : codeAmong pos ps.toList with
  | some cv =>
    obtain ⟨c1, rfl, hco⟩ := told pos cv am
    refine PySem.W.kla_makeFunctionHit (mg := X.mg) (c := c) (P := P) (ps := ps) (closure_ok hfr) I.ok.glob (I.mod.glob.keeps I.bk) hc (TB.code.keeps I.bk) gP trip am bP fun ctv h1 tk kp sz => ?_
    exact k h1.objs.size c1 ((X.mg "__name__").getD .none) ctv H _ (I.kept (t' := tk) fun b o e => Heap.get?_push_of_some _ (kp b o e)) (.inl ⟨rfl, ps, pos, tP, am⟩) (Heap.get?_push_size _ rfl) (I.hok.fresh sz) (young _ sz) hco
  | none =>
    refine PySem.W.kla_makeFunction (mg := X.mg) (c := c) (P := P) (ps := ps) (closure_ok hfr) I.ok.glob (I.mod.glob.keeps I.bk) hc (TB.code.keeps I.bk) gP trip am TB.gP bP fun c1 ctv h1 tk kp ge lt rc at1 => ?_
    obtain ⟨c2, oc, vs, t, e2, hoc, hdt, hv⟩ := rc
    cases e2
    have sz : s.heap.objs.size ≤ h1.objs.size := Nat.le_trans ge (Nat.le_of_lt lt)
    have nc : H c1 = none := I.hok.fresh ge
    have J := LamX.inv_table (c := c1) (q := lamQ X) (t' := tk) (more := #[rawInt pos.line, rawInt pos.col, .ref c1]) (h' := h1.push (PySem.W.kla_obj "<lambda>" (lamQ X) params body scope (cloFrom X.env.cells scope.names []) ((X.mg "__name__").getD .none) c1 ctv)) I tP
      (fun b o ne e => Heap.get?_push_of_some _ (kp b o ne e)) (Heap.get?_push_of_some _ at1) ge ⟨oc, vs, t, Heap.get?_push_of_some _ hoc, hdt, hv⟩
    have fP : h1.objs.size ≠ P := Nat.ne_of_gt (Nat.lt_of_lt_of_le (Heap.lt_size gP) sz)
    refine k h1.objs.size c1 ((X.mg "__name__").getD .none) ctv _ _ J (.inr ⟨ps, pos, tP, nc, rfl⟩) (Heap.get?_push_size _ rfl) ?_ (young _ sz) upd_same
    rw [upd_ne (Nat.ne_of_gt lt), upd_ne fP]
    exact I.hok.fresh sz
end
/-- the world behind it -/
theorem lam_world {X : Cx} {w : Wd} {H H1 : Hp} {P c : Addr} (ok : Ok w H) (hm : (P, lamQ X) ∈ w.tb) (hu : ∀ p ∈ w.tb, p.1 = P → p.2 = lamQ X) (L : LamH X H H1 P c) : ∃ w1, Le w H w1 H1 ∧ Ok w1 H1 := by
  obtain ⟨jP, ps0, tP0, trip, told⟩ := ok.tab _ hm
  rcases L with ⟨rfl, _⟩ | ⟨ps, pos, tP, nc, rfl⟩
  · exact ⟨w, .refl w H1, ok⟩
  · cases tP0.symm.trans tP
    have nP : P ≠ c := fun z => by
      rw [z, nc] at tP; cases tP
    have hn : w.hd c = none := ok.none_hd nc
    have off : ∀ a, a ≠ c → a ≠ P → upd (upd H P (.tbl (ps0 ++ #[rawInt pos.line, rawInt pos.col, .ref c]))) c (LamX.CodeO c (lamQ X)) a = H a := fun a h1 h2 => by rw [upd_ne h1, upd_ne h2]
    have atP : upd (upd H P (.tbl (ps0 ++ #[rawInt pos.line, rawInt pos.col, .ref c]))) c (LamX.CodeO c (lamQ X)) P = some (.tbl (ps0 ++ #[rawInt pos.line, rawInt pos.col, .ref c])) := by rw [upd_ne nP, upd_same]
    have hP := (ok.jn P jP).1
    have nonP : ∀ a o, w.hd a = some o → a ≠ P := fun a o e z => by rw [z, hP] at e; cases e
    have nonc : ∀ a o, H a = some o → a ≠ c := fun a o e => ne_of_none e nc
    refine ⟨w.frz (upd (upd H P (.tbl (ps0 ++ #[rawInt pos.line, rawInt pos.col, .ref c]))) c (LamX.CodeO c (lamQ X))) c, ⟨.frz hn, fun a o e nj => ?_, fun _ _ j => j, fun a e j => ?_, fun a e => ?_⟩, ⟨fun a o e => ?_, fun a j => ?_, fun a j => ?_, fun p m => ?_⟩⟩
    · rw [off a (nonc a o e) fun z => nj (by rw [z]; exact jP)]; exact e
    · by_cases z : a = c
      · rw [z] at e; exact absurd nc e
      · rw [frz_ne z] at j; exact j
    · by_cases z : a = P
      · rw [z, atP]; exact fun y => by cases y
      · by_cases y : a = c
        · rw [y] at e; exact absurd nc e
        · rw [off a y z]; exact e
    · by_cases z : a = c
      · rw [z, frz_at] at e; rw [z]; exact e
      · rw [frz_ne z] at e
        rw [off a z (nonP a o e)]; exact ok.sub a o e
    · obtain ⟨e, r⟩ := ok.jn a j
      have ac : a ≠ c := fun z => by rw [z] at r; exact r nc
      refine ⟨by rw [frz_ne ac]; exact e, ?_⟩
      by_cases z : a = P
      · rw [z, atP]; exact fun y => by cases y
      · rw [off a ac z]; exact r
    · obtain ⟨e, d, t, k, z⟩ := ok.jar a j
      refine ⟨e, d, t, k, ?_⟩
      rw [off a (nonc a _ z) fun y => by rw [y, tP] at z; cases z]; exact z
    · obtain ⟨e, t⟩ := ok.tab p m
      refine ⟨e, ?_⟩
      have up : ∀ a o, w.hd a = some o → (w.frz (upd (upd H P (.tbl (ps0 ++ #[rawInt pos.line, rawInt pos.col, .ref c]))) c (LamX.CodeO c (lamQ X))) c).hd a = some o := fun a o z => by
        rw [frz_ne (nonc a o (ok.sub a o z))]; exact z
      by_cases y : p.1 = P
      · rw [y, hu p m y]
        refine ⟨_, atP, ?_, fun pos2 cv e2 => ?_⟩
        · rw [show (ps0 ++ #[rawInt pos.line, rawInt pos.col, Value.ref c]).toList = ps0.toList ++ [rawInt pos.line, rawInt pos.col, .ref c] by simp]
          exact PySem.TriplesOk_snoc _ _ _ _ trip
        · rw [show (ps0 ++ #[rawInt pos.line, rawInt pos.col, Value.ref c]).toList = ps0.toList ++ [rawInt pos.line, rawInt pos.col, .ref c] by simp] at e2
          rcases LamX.among_app _ trip e2 with z | z
          · obtain ⟨c0, e3, e4⟩ := told pos2 cv z
            exact ⟨c0, e3, up _ _ e4⟩
          · exact ⟨c, z, by rw [frz_at, upd_same]⟩
      · obtain ⟨q, tq, _⟩ := id t
        exact t.go (off p.1 (nonc p.1 _ tq) y) up
theorem tabs_of {w : Wd} {H : Hp} {P : Addr} {q : Str} (ok : Ok w H) (h : TabD w H P q) : LamX.TabS H P q := by
  obtain ⟨ps, h1, h2, h3⟩ := h
  refine ⟨ps, h1, h2, fun pos cv e => ?_⟩
  obtain ⟨c, e1, e2⟩ := h3 pos cv e
  exact ⟨c, e1, ok.sub _ _ e2⟩
/-! ### the maker's names, as the lambda sees them -/
def Sl.seen : Sl → Sl
  | .val d => .val d
  | _ => .un
theorem Fr.seen {G : Gm} {w0 w w1 : Wd} {H0 H H1 : Hp} {r : Env} {t : L2.St} (f : Fr G w0 H0 r t w H) (l : Le w H w1 H1) (ok : Ok w1 H1) : Fr G w1 H1 (r.map Sl.seen) t w1 H1 where
  ok := ok
  le := .refl w1 H1
  len := by rw [List.length_map]; exact f.len
  slot := fun i x e => by
    rw [List.getElem?_map] at e
    cases q : r[i]? with
    | none => rw [q] at e; cases e
    | some y =>
      rw [q] at e
      cases e
      have h := f.slot i y q
      cases y with
      | val d =>
        obtain ⟨v, e2, rv⟩ := h
        exact ⟨v, e2, rv.mono l.sub⟩
      | _ => trivial
  dist := fun i j x y a e1 e2 o1 o2 _ _ => by
    rw [List.getElem?_map] at e1
    cases q : r[i]? with
    | none => rw [q] at e1; cases e1
    | some y =>
      rw [q] at e1
      cases e1
      cases y <;> cases o1
end DL
/-! x(lambda: ..), x a def that calls what it got first in a try: over data. -/
namespace DL
open PySem L2 PyProof.Rows
/-- the context of the def that got the lambda -/
abbrev zc (X : Cx) (Ng : List Str) (x : Str) (st : Stmt) (g : Addr) (cdv : Value) (s1 : Shared) (H1 : Hp) : Cx := cxOf (L2.CX X.prog X.w) X.prog X.w X.K X.mg X.base Ng x (defScope st) g cdv X.A X.stack s1 H1 NoE
section
variable {X : Cx} {pins : List (Addr × Obj)} {σ : L2.St} {H : Hp} {s : Shared}
/-- a(), in that def -/
theorem pe_actD {Ng : List Str} {x a : Str} {st : Stmt} {g f c1 : Addr} {cdv pm ctv : Value} {params : Arguments} {body : Expr} {scope : Scope} {k : Nat} {pn : List (Addr × Obj)} {xe : Value → Shared → Prop} {E : XK} {tb : TE} {p1 p2 : Pos}
    (I : Inv X pins σ H s) (L : LamX.LamS X.env.scope scope) (hf : s.heap.get? f = some (PySem.W.kla_obj "<lambda>" (lamQ X) params body scope (cloFrom X.env.cells scope.names []) pm c1 ctv)) (nf : H f = none) (ff : f ∉ frs X.stack)
    (hbd : bindArgs (PySem.W.kla_fn "<lambda>" (lamQ X) params body scope (cloFrom X.env.cells scope.names []) pm (.ref c1) ctv) ⟨[], []⟩ = pure [])
    (tk : Takes ((zc X Ng x st g cdv s H).tr pn xe) (fun cls d _ H => E cls d H)) (hr : Room (k + 1) (X.A.deeper (envOfC x (defScope st) s.heap.objs.size g cdv)))
    (hb : ∀ (s2 : Shared) (H2 : Hp), Room k ((X.A.deeper (envOfC x (defScope st) s.heap.objs.size g cdv)).deeper (LamX.lamEnv X scope s2.heap.objs.size f c1)) → PE (LamX.lamCx X (X.A.deeper (envOfC x (defScope st) s.heap.objs.size g cdv)) (envOfC x (defScope st) s.heap.objs.size g cdv :: X.stack) s2 H2 E scope f c1) body tb)
    (hN : Ng[0]? = some a) (hv : Vis (defScope st) a) (hd : (a == ("__debug__" : Str)) = false) (hcd : (a == ("__classdict__" : Str)) = false) :
    PE ((zc X Ng x st g cdv s H).tr pn xe) (.Call (.Name a p1) [] [] p2) (fun t HZ Q => t[0]? = some (some (.ref f)) ∧ HZ c1 = some (LamX.CodeO c1 (lamQ X)) ∧ tb σ HZ Q) := ⟨fun ps sZ t HZ Q IZ h => by
  obtain ⟨at0, co, rd⟩ := h
  refine wpAny_Call_Name_kw (thn ((pe_var (pos := p1) (i := 0) hN hv hd hcd).run ps sZ t HZ (fun v H1 => v = .ref f ∧ H1 = HZ) IZ ⟨.ref f, at0, rfl, rfl⟩) ?_)
  rintro u s1 ⟨v, H1, I1, rv, rfl, rfl⟩
  cases (show u = Value.ref f from rv)
  have fs : s1.heap.get? f = some (PySem.W.kla_obj "<lambda>" (lamQ X) params body scope (cloFrom X.env.cells scope.names []) pm c1 ctv) := I1.base.keep f _ hf nf ff fun z => by cases z
  refine PySem.W.callWith_F0 ⟨_, _, _, _, fs⟩ ?_
  obtain ⟨⟨oc, vs, tt, hoc, hdc, hvc⟩, _⟩ := I1.hok c1 _ co
  have runs : codeAny (model X.prog X.w) (X.A.deeper (envOfC x (defScope st) s.heap.objs.size g cdv)) (.call (.ref f) ⟨[], []⟩) (CR (L2.CX X.prog X.w) (envOfC x (defScope st) s.heap.objs.size g cdv :: X.stack) X.prog X.w H1 s1 Q E) s1 := by
    refine PySem.W.kla_callFunE hr.depth fs rfl L.co L.gen rfl ⟨c1, oc, vs, tt, rfl, hoc, hdc, hvc⟩ ?_
    rw [hbd]
    refine wpAny_pure (wpAny_newFunctionEnv (fun y hy => (L.own y hy).2) (fun y hy => absurd hy (by simp)) (fun h2 ns sb => ⟨I1.nolimit.fresh _ sb, ?_⟩) L.kind)
    show codeAny _ _ (.expr body (LamX.lamEnv X scope s1.heap.objs.size f c1)) _ _
    have J := LamX.lam_start2 (A := X.A.deeper (envOfC x (defScope st) s.heap.objs.size g cdv)) (E := E) (f := f) (c' := c1) (tk := s1.toks + ([] : List (Str × Value)).length) I L I1.env0 hr.hd I1.base ns fun b o e => sb.extBut b o (Nat.ne_of_lt (Heap.lt_size e)) (Heap.get?_push_of_some _ e)
    refine PySem.W.kla_codeExpr (wpAny_mono ((hb s1 H1 (hr.deeper _)).run [] _ _ H1 Q J rd) (fun v s2 hq => ?_) fun e s2 hq => hq)
    obtain ⟨w2, H2, J2, rv2, q⟩ := hq
    exact ⟨w2, H2, J2.os, J2.bare, J2.base, J2.hok, rv2, q⟩
  refine wpAny_call (codeAny_mono runs fun r s2 hq => ?_)
  cases r with
  | error e => exact passes_call tk (fun _ _ _ _ z => z) ps t H1 s1 e s2 I1 hq
  | ok fl =>
    cases fl with
    | ret u => exact I1.after hq
    | next => exact False.elim hq
    | brk => exact False.elim hq
    | cont => exact False.elim hq⟩
end
/-- told = a(), in a try whose clauses are l; then R -/
def fCaught (n it : Nat) (l : List Hdl) (R : FS) (A : FE) : FE := fun r Q EX => A (r.map Sl.seen) (fun d => R { nx := fun _ => Q .non, rt := Q } NoX ((List.replicate n Sl.un).set it (.val d))) (hdl n l { nx := fun _ => False, rt := Q })
section
variable {X : Cx} {G : Gm} {E : XK} {k n it : Nat} {x a told : Str} {st : Stmt} {g c P : Addr} {fd : FuncData} {Ng : List Str} {params : Arguments} {body : Expr} {scope : Scope} {p lpos pos p1 p2 p3 p4 p5 : Pos} {h₀ : ExceptHandler} {hds : List ExceptHandler} {rest : List Stmt} {l : List Hdl} {R : FS} {A : FE}
theorem ce_caught (F : L2.Fun X.K x x st g fd) (Sg : FnScope Ng [a] (defScope st)) (hb : L2.Binds X.K fd [a] []) (hm : X.mg x = some (.ref g)) (hr : Room (k + 2) X.A) (hx : PassX X E)
    (hbody : defBody st = .Try [.Assign [.Name told p3] (.Call (.Name a p1) [] [] p2) p4] (h₀ :: hds) [] [] p5 :: rest) (hn : Ng.length = n) (hN0 : Ng[0]? = some a) (hNt : Ng[it]? = some told) (hit : it ≠ 0)
    (hva : Vis (defScope st) a) (hlt : Loc (defScope st) told)
    (hh : ∀ cdv s1 H1, Room (k + 1) (X.A.deeper (envOfC x (defScope st) s1.heap.objs.size g cdv)) → HdsD (zc X Ng x st g cdv s1 H1) G (h₀ :: hds) l)
    (h2 : ∀ cdv s1 H1, Room (k + 1) (X.A.deeper (envOfC x (defScope st) s1.heap.objs.size g cdv)) → PSs (zc X Ng x st g cdv s1 H1) rest (sD G NoE R))
    (TB : LamX.TabB X.base X.mg c P) (hc : X.env.code = .ref c) (L : LamX.LamS X.env.scope scope) (hd : defaultsOf params X.env = ([], []))
    (hbd : ∀ (q : Str) (cl : List (Str × Addr)) (pm cv ctv : Value), bindArgs (PySem.W.kla_fn "<lambda>" q params body scope cl pm cv ctv) ⟨[], []⟩ = pure [])
    (hl : ∀ (A1 : Around) (outer : List PySem.Env) (s2 : Shared) (H2 : Hp) (E1 : XK) (f c1 : Addr), A1.guards = X.A.guards → Room k (A1.deeper (LamX.lamEnv X scope s2.heap.objs.size f c1)) → PE (LamX.lamCx X A1 outer s2 H2 E1 scope f c1) body (tD G E1 A))
    (hmG : (P, lamQ X) ∈ G.tb) (huG : ∀ p ∈ G.tb, p.1 = P → p.2 = lamQ X)
    (hg : Gl X x := by rfl) (hdb : (x == ("__debug__" : Str)) = false := by decide) (hda : (a == ("__debug__" : Str)) = false := by decide) (hca : (a == ("__classdict__" : Str)) = false := by decide) :
    PE X (.Call (.Name x p) [.Lambda params body scope lpos] [] pos) (tD G E (fCaught n it l R A)) := ⟨fun pins s σ H Q I ⟨w0, H0, r, w, QD, EX, fr, lk, f0, k0⟩ => by
  obtain ⟨⟨oc, od, kV, doc, pm, an, cdv, ct, osl, rfl, lkp, hcg⟩, kp⟩ := F
  have tbw : w.tb = G.tb := fr.le.sub.tb.trans lk.2
  have hmt : (P, lamQ X) ∈ w.tb := by rw [tbw]; exact hmG
  have hut : ∀ p ∈ w.tb, p.1 = P → p.2 = lamQ X := by rw [tbw]; exact huG
  refine wpAny_Call_Name_kw (ld_glob I hg hm ?_ hdb)
  refine PySem.W.callWith_K (h₀ := X.base) I.ok.mod.kin kp ?_ (by rfl) (by rfl)
  show wpAny _ _ (spliced ((false, eval (.Lambda params body scope lpos) X.env) :: backTo pos (starEach [] X.env))) _ _ s
  refine Calls.spliced_cons (lam_mk I TB hc (tabs_of fr.ok (fr.ok.tab _ hmt).2) hd (L.has I.ok) fun f c1 pm1 ctv H1 s1 I1 LH hf nf ff co => ?_)
  refine Calls.spliced_nil ⟨I1.kIn, ?_⟩
  obtain ⟨w1, le1, ok1⟩ := lam_world fr.ok hmt hut LH
  have fr1 := fr.seen le1 ok1
  have tb1 : w1.tb = G.tb := le1.sub.tb.trans tbw
  have runs : codeAny (model X.prog X.w) X.A (.call (.ref g) ⟨[.ref f], []⟩) (CR (L2.CX X.prog X.w) X.stack X.prog X.w H1 s1 Q NoE) s1 := by
    refine LamX.run_ofS (N := Ng) (ps := [a]) (us := [.ref f]) (vs := [.ref f]) lkp hcg Sg hr I1.env0 (hb s1 [.ref f] I1.kIn rfl) (.cons rfl .nil) rfl fun hr1 => ?_
    obtain ⟨kz, ck, zz⟩ := (hh cdv s1 H1 hr1).zs
    refine ⟨_, by
      rw [hbody]
      exact pss_cons (ps_tryZ (tb := fun E2 => tAsg (fun t HZ Q => t[0]? = some (some (.ref f)) ∧ HZ c1 = some (LamX.CodeO c1 (lamQ X)) ∧ tD G E2 A σ HZ Q) (gName it)) rfl rfl Sg.nd rfl (fun E2 pn xe tk _ =>
        pss_one (ps_set Sg.nd hNt hlt (pe_actD I1 L hf nf ff (hbd _ _ _ _ _) tk hr1 (fun s2 H2 hr2 => hl _ _ s2 H2 E2 f c1 rfl hr2) hN0 hva hda hca))) ck) (h2 cdv s1 H1 hr1), ?_⟩
    have ends : ∀ wk, Lk G w1 H1 wk { nx := fun _ => QD .non, rt := QD } { nx := fun _ H' => Q .non H', rt := Q } := fun wk =>
      ⟨fun r2 s2 w2 H2 fr2 _ q => k0 .non .non w2 H2 (le1.trans fr2.le) fr2.ok Rep.non q, fun d v w2 H2 l2 ok2 rv q => k0 d v w2 H2 (le1.trans l2) ok2 rv q, fun _ _ _ _ _ _ q => q.elim, fun _ _ _ _ _ _ q => q.elim, fun _ _ _ _ _ _ _ _ _ _ q => q.elim⟩
    have len : (L2.start Ng [.ref f]).length = n := by
      have z : ([a] : List Str).length ≤ Ng.length := by
        rw [← Sg.pre, List.length_take]; exact Nat.min_le_right _ _
      unfold L2.start
      rw [List.length_append, List.length_map, List.length_replicate, ← hn]
      have z : 1 ≤ Ng.length := z
      show 1 + (Ng.length - 1) = Ng.length
      omega
    refine ⟨by unfold L2.start; rfl, co, ?_⟩
    refine ⟨w1, H1, r.map Sl.seen, w1, _, hdl n l { nx := fun _ => False, rt := QD }, fr1, ⟨fun xx od w2 H2 l2 ok2 ex q t ht => ?_, tb1⟩, f0, fun d v w2 H2 l2 ok2 rv q => ?_⟩
    · have ll : Lk G w1 H1 w2 { nx := fun _ => False, rt := QD } { nx := sD G NoE R { nx := fun _ H' => Q .non H', rt := Q }, rt := Q } :=
        ⟨fun _ _ _ _ _ _ q => q.elim, (ends w2).rt, fun _ _ _ _ _ _ q => q.elim, fun _ _ _ _ _ _ q => q.elim, fun _ _ _ _ _ _ _ _ _ _ q => q.elim⟩
      exact wZ_of ll l2 ok2 ex tb1 (ht.trans hn) zz q
    · exact ⟨w1, H1, w2, _, w2, _, NoX, (fr_un (G := G) (n := n) ok2 l2 len).setV rv, .refl w2, LkE.none tb1, ends w2, q⟩
  refine wpAny_call (codeAny_mono runs ?_)
  rintro (er | fl) s2 hq
  · obtain ⟨_, _, _, _, _, _, _, _, _, _, _, _, z⟩ := hq
    exact (show False from z).elim
  · cases fl <;> first
      | exact I1.after hq
      | exact hq.elim⟩
end
end DL
/-! A def that calls what it got in a try: its run. -/
namespace DL
open PySem L2 PyProof.Rows
def RS.toR : RS → R D
  | .rt d => .ok d
  | .nx _ => .ok .non
  | _ => .no
theorem toR_hold {y : Addr} {m : RS} {Q : D → Prop} {EX : XP} (h : m.toR.hold Q EX) : m.hold y { nx := fun _ => Q .non, rt := Q } NoX := by
  cases m with
  | rt d => exact h
  | nx r => exact fun _ _ => h
  | bk r => exact h.elim
  | ct r => exact h.elim
  | rn ds => exact h.elim
  | ex x => exact h.elim
  | no => exact h.elim
theorem toR_fin {y : Addr} {n : Nat} {k : List HdY} {x : XD} {Q : D → Prop} {EX : XP} (h : (yHdl n k x).toR.hold Q EX) : (yHdl n k x).hold y { nx := fun _ => False, rt := Q } NoX := by
  have no : ∀ r, yHdl n k x ≠ .nx r := by
    induction k with
    | nil => intro r e; cases e
    | cons a t ih =>
      intro r e
      unfold yHdl at e
      cases z : a.ex x.c with
      | none => rw [z] at e; cases e
      | some b =>
        rw [z] at e
        cases b with
        | true =>
          have e : (a.s (putE (List.replicate n .un) x a.io)).fin = .nx r := e
          cases q : a.s (putE (List.replicate n .un) x a.io) <;> rw [q] at e <;> cases e
        | false =>
          unfold yHdl at h
          rw [z] at h
          exact ih h r e
  cases e : yHdl n k x with
  | rt d => rw [e] at h; exact h
  | nx r => exact absurd e (no r)
  | bk r => rw [e] at h; exact h.elim
  | ct r => rw [e] at h; exact h.elim
  | rn ds => rw [e] at h; exact h.elim
  | ex x => rw [e] at h; exact h.elim
  | no => rw [e] at h; exact h.elim
def xCaught (n it : Nat) (k : List HdY) (rr : Env → RS) (a : Env → R D) (r : Env) : R D := match a (r.map Sl.seen) with
  | .ok d => (rr ((List.replicate n Sl.un).set it (.val d))).toR
  | .ex x => (yHdl n k x).toR
  | .no => .no
theorem f_caught {n it : Nat} {l : List Hdl} {k : List HdY} {R0 : FS} {rr : Env → RS} {A : FE} {a : Env → R D} (ha : CF A a) (hk : HdsY l k) (hr : CS R0 rr) : CF (fCaught n it l R0 A) (xCaught n it k rr a) := fun {x} r r' Q EX s h => by
  have e1 : r'.map Sl.seen = r.map Sl.seen := by
    rw [show r' = r.map (adr x) from s, List.map_map]
    refine List.map_congr_left fun y _ => ?_
    cases y <;> rfl
  have s1 : Sim x (r.map Sl.seen) (r.map Sl.seen) := by
    show _ = List.map _ _
    rw [List.map_map]
    refine List.map_congr_left fun y _ => ?_
    cases y <;> rfl
  have s2 : ∀ d, Sim x ((List.replicate n Sl.un).set it (.val d)) ((List.replicate n Sl.un).set it (.val d)) := fun d => by
    have b : Sim x (List.replicate n Sl.un) (List.replicate n .un) := by
      show _ = List.map _ _
      rw [List.map_replicate]; rfl
    exact b.set it _
  unfold fCaught
  rw [e1]
  refine ha (x := x) _ _ _ _ s1 ?_
  unfold xCaught at h
  cases e : a (r.map Sl.seen) with
  | no => rw [e] at h; exact h
  | ok d =>
    rw [e] at h
    exact hr (x := x) _ _ _ _ (s2 d) (toR_hold h)
  | ex xd =>
    rw [e] at h
    exact hdl_of hk (toR_fin (y := x) h)
end DL
/-! The law's call where tables of code objects are written (defs that make lambdas). -/
namespace DL
open PySem PySem.Spec L2 PyProof.Rows
/-- what is known of a code object and its table, ahead of the law's call -/
structure TabI (K : PySem.W.Frag) (h : Heap) (c P : Addr) : Prop where
  code : PySem.W.CodeHd h c P
  out : K.lookup P = none
  empty : h.get? P = some { cls := .none, data := .fields #[] }
section
variable {P : Program} {w : World} {G : Gm} {mg mb : Str → Option Value} {k : Nat} {fa a : Addr} {fd : FuncData} {x : Str} {sp : DSp} {s₁ : Shared} {vs : List Value} {ns : List Int}
theorem law_callT {cs : List (Addr × Addr)} {qs : Addr → Str} (KX : G.K.In s₁.heap) (hG : G.tb = cs.map fun p => (p.2, qs p.2)) (hT : ∀ p ∈ cs, TabI G.K s₁.heap p.1 p.2) (hns : s₁.heap.Ns mainGlobals mg) (hb : s₁.heap.Ns builtinsNs mb)
    (hbb : ∀ x : Str, x ≠ "__name__" → mb x = bootBuiltins x) (hlim : s₁.heap.NoLimit) (hg : s₁.gens = #[])
    (hbm : ∃ (bm : Addr) (ob : Obj), mg "__builtins__" = some (.ref bm) ∧ bm ≠ builtinsNs ∧ s₁.heap.get? bm = some ob ∧ ob.cls = .type "module" ∧ ob.dict = some builtinsNs ∧ ob.data = .plain)
    (ha : s₁.heap.get? a = some { cls := .type "list", data := .seq vs.toArray }) (hi : IntsAre vs ns) (hl : ns.length ≤ sizeLine) (hr : Room k callerA)
    (F : ∀ base : Heap, G.K.In base → base.Ns mainGlobals mg → (∀ p ∈ cs, LamX.TabB base mg p.1 p.2) → FnG P w G.K mg base k fa fd [x] (lift G sp)) (hbind : ∀ (s : Shared) (u : Value), BindsTo s fd ⟨[u], []⟩ [(x, u)])
    (hsp : sp [.lst (ns.map D.int)] (fun d => d = .bl true) NoX) :
    codeAny (model P w) callerA (.call (.ref fa) ⟨[.ref a], []⟩) (fun r s' => r = .ok (.ret (.bool true)) ∧ OldK s₁.heap s'.heap ∧ s'.os = s₁.os ∧ AllBare s'.gens) s₁ := by
  have rv := vals_ints hi
  have lenV := hi.length
  have ts : ∀ b, b ∈ cs.map (·.2) → ∃ p ∈ cs, p.2 = b := fun b hb => by
    obtain ⟨p, hp, e⟩ := List.mem_map.mp hb
    exact ⟨p, hp, e⟩
  have aT : a ∉ cs.map (·.2) := fun z => by
    obtain ⟨p, hp, e⟩ := ts a z
    have q := (hT p hp).empty
    rw [e, ha] at q
    have q' := congrArg Obj.data (Option.some.inj q)
    cases q'
  have core : ∀ H : Hp, (∀ b, b ∈ cs.map (·.2) → H b = some (.tbl #[])) → (∀ b u, H b = some u → b ∉ cs.map (·.2) → b = a ∧ ∃ o xs, u = .frz o (.lst xs)) → LsT G.K H a (ns.map V.int) → HOk P w H s₁.heap → (H a ≠ none → G.K.lookup a = none) →
      codeAny (model P w) callerA (.call (.ref fa) ⟨[.ref a], []⟩) (fun r s' => r = .ok (.ret (.bool true)) ∧ OldK s₁.heap s'.heap ∧ s'.os = s₁.os ∧ AllBare s'.gens) s₁ := by
    intro H hH hA hS hok hK
    -- what stands at a tracked address
    have what : ∀ {b : Addr} {o : Obj}, s₁.heap.get? b = some o → H b ≠ none → (∃ vs n, o.data = .seq vs n) ∨ o.data = .fields #[] := fun {b o} e n => by
      by_cases hb : b ∈ cs.map (·.2)
      · obtain ⟨p, hp, e2⟩ := ts b hb
        have q := (hT p hp).empty
        rw [e2, e] at q; cases q
        exact .inr rfl
      · cases q : H b with
        | none => exact absurd q n
        | some u =>
          have eb := (hA b u q hb).1
          rw [eb, ha] at e; cases e
          exact .inl ⟨_, _, rfl⟩
    have off : ∀ {b : Addr} {o : Obj}, s₁.heap.get? b = some o → (∀ vs n, o.data ≠ .seq vs n) → o.data ≠ .fields #[] → H b = none := fun {b o} e h1 h2 => by
      cases q : H b with
      | none => rfl
      | some u =>
        rcases what e (by rw [q]; exact fun z => by cases z) with ⟨vs, n, z⟩ | z
        · exact absurd z (h1 vs n)
        · exact absurd z h2
    have base_of : ∀ {b : Addr} {o : Obj}, s₁.heap.get? b = some o → H b = none → (hidT s₁.heap H).get? b = some o := fun e n => hidT_get e n
    have nsK : ∀ {b : Addr} {m : Str → Option Value}, s₁.heap.Ns b m → (hidT s₁.heap H).Ns b m := fun {b m} ⟨o, es, ep, e, d, r⟩ => ⟨o, es, ep, base_of e (off e (fun vs n z => by rw [d] at z; cases z) fun z => by rw [d] at z; cases z), d, r⟩
    have hKb : G.K.In (hidT s₁.heap H) := fun b o e => base_of (KX b o e) (by
      cases q : H b with
      | none => rfl
      | some u =>
        by_cases hb : b ∈ cs.map (·.2)
        · obtain ⟨p, hp, e2⟩ := ts b hb
          have z := (hT p hp).out
          rw [e2, e] at z; cases z
        · have eb := (hA b u q hb).1
          rw [eb] at e q
          rw [hK (by rw [q]; exact fun z => by cases z)] at e; cases e)
    have hM : Mod G.K mg (hidT s₁.heap H) := ⟨hKb, nsK hns, ⟨mb, nsK hb, hbb⟩, let ⟨mc, h1, h2⟩ := hlim; ⟨mc, nsK h1, h2⟩⟩
    have TB : ∀ p ∈ cs, LamX.TabB (hidT s₁.heap H) mg p.1 p.2 := fun p hp => by
      obtain ⟨C, _, em⟩ := hT p hp
      refine ⟨?_, ?_, fun z => ?_⟩
      · obtain ⟨o, us, file, tf, flags, tg, inF, text, tt, e1, r1, r2, r3, r⟩ := C
        exact ⟨o, us, file, tf, flags, tg, inF, text, tt, base_of e1 (off e1 (fun vs n z => by rw [r2] at z; cases z) fun z => by rw [r2] at z; cases z; simp at r3), r1, r2, r3, r⟩
      · obtain ⟨bm, ob, b1, b2, b3, b4, b5, b6⟩ := hbm
        refine ⟨bm, ob, b1, b2, fun q => ?_, fun q => ?_, base_of b3 (off b3 (fun vs n z => by rw [b6] at z; cases z) fun z => by rw [b6] at z; cases z), b4, b5, b6⟩
        · obtain ⟨o, es, ep, e, d, _⟩ := hns
          rw [q, e] at b3; cases b3
          rw [d] at b6; cases b6
        · rw [q, em] at b3; cases b3
          cases b6
      · obtain ⟨o, es, ep, e, d, _⟩ := hns
        rw [z, em] at e; cases e
        cases d
    have e0 : Env0 P w G.K mg (hidT s₁.heap H) callerA [] s₁ H := ⟨rfl, hM, fun b o e => of_hidT e, Nat.le_of_eq (hidT_size _ _), trivial, fun b hb => absurd (show b ∈ ([] : List Addr) from hb) (by simp), hok, .of_eq hg⟩
    -- the world: the script is frozen, the tables may be written
    let W0 : Wd := ⟨fun b => if b ∈ cs.map (·.2) then none else H b, fun b => b ∈ cs.map (·.2), fun _ => False, G.tb⟩
    have w0ok : Ok W0 H := ⟨fun b o e => by
        by_cases hb : b ∈ cs.map (·.2)
        · rw [show W0.hd b = none from if_pos hb] at e; cases e
        · rw [show W0.hd b = H b from if_neg hb] at e; exact e,
      fun b j => ⟨if_pos j, by rw [hH b j]; exact fun z => by cases z⟩, fun _ z => z.elim, fun q m => by
        rw [show W0.tb = cs.map fun p => (p.2, qs p.2) from hG] at m
        obtain ⟨p, hp, rfl⟩ := List.mem_map.mp m
        have hm : p.2 ∈ cs.map (·.2) := List.mem_map.mpr ⟨p, hp, rfl⟩
        refine ⟨hm, #[], hH _ hm, True.intro, fun pos cv e => ?_⟩
        have z : codeAmong pos [] = some cv := e
        simp [codeAmong] at z⟩
    have hlst : LsT G.K W0.hd a (ns.map V.int) := by
      rcases hS with (h | ⟨o, h⟩) | h
      · exact .inl (.inl ((if_neg aT).trans h))
      · exact .inl (.inr ⟨o, (if_neg aT).trans h⟩)
      · exact .inr h
    have hlift : lift G sp [.ref a] H (fun v _ => v = .bl true) (fun _ _ _ => False) :=
      ⟨W0, [.lst (ns.map D.int)], _, NoX, w0ok, Reps.cons (by unfold Rep; exact ⟨a, _, rfl, hlst, Reps.of_ints⟩) Reps.nil, hsp, fun d v w' H' _ _ rp q => by
        subst q
        exact rp.bl_of, LkE.none rfl⟩
    refine codeAny_mono ((F _ hKb (nsK hns) TB).run callerA [] s₁ H ⟨[.ref a], []⟩ [.ref a] [.ref a] _ _ rfl hr e0 (hbind s₁ (.ref a)) (.cons rfl .nil) hlift) fun r s' h => ?_
    cases r with
    | error e =>
      obtain ⟨_, _, _, _, _, _, _, _, _, _, _, _, z⟩ := h
      exact z.elim
    | ok fl =>
      cases fl with
      | next => exact False.elim h
      | brk => exact False.elim h
      | cont => exact False.elim h
      | ret u =>
        obtain ⟨v, H', os, bare, un, hok', r', q⟩ := h
        have q' : v = .bl true := q
        subst q'
        obtain rfl : u = Value.bool true := r'
        have grown : ∀ p ∈ cs, ∃ more : Array Value, s'.heap.get? p.2 = some { cls := .none, data := .fields more } := fun p hp => by
          obtain ⟨more, z⟩ := un.tbls p.2 #[] (hH p.2 (List.mem_map.mpr ⟨p, hp, rfl⟩))
          exact ⟨_, hok' p.2 _ z⟩
        have same : ∀ b o, b ∉ cs.map (·.2) → s₁.heap.get? b = some o → s'.heap.get? b = some o := fun b o nb e => by
          cases q : H b with
          | none => exact un.keep b o e q (by intro z; exact absurd (show b ∈ ([] : List Addr) from z) (by simp)) (by simp)
          | some u =>
            obtain ⟨_, ob, xs, rfl⟩ := hA b u q nb
            obtain ⟨e1, _⟩ := hok b _ q
            obtain ⟨e2, _⟩ := hok' b _ (un.frzs b ob _ q)
            rw [e] at e1; cases e1
            exact e2
        refine ⟨rfl, ⟨fun b o e => ?_, fun b o e => ?_⟩, os, bare⟩
        · by_cases hb : b ∈ cs.map (·.2)
          · obtain ⟨p, hp, rfl⟩ := ts b hb
            obtain ⟨more, hm⟩ := grown p hp
            have em := (hT p hp).empty
            rw [em] at e; cases e
            exact .inr (.inl ⟨((hT p hp).code.tab em).isCodeTable, rfl, #[], more, rfl, by rw [Array.empty_append]; exact hm⟩)
          · exact .inl (same b o hb e)
        · by_cases hb : b ∈ cs.map (·.2)
          · obtain ⟨p, hp, rfl⟩ := ts b hb
            obtain ⟨more, hm⟩ := grown p hp
            exact ⟨_, hm⟩
          · exact ⟨o, same b o hb e⟩
  cases hk : G.K.lookup a with
  | some o =>
    have e := KX a o hk
    rw [ha] at e; cases e
    refine core (fun b => if b ∈ cs.map (·.2) then some (.tbl #[]) else none) (fun b hb => if_pos hb) (fun b u e nb => by rw [if_neg nb] at e; cases e) (.inr ⟨vs.toArray, _, hk, by rw [List.size_toArray, lenV]; exact hl, by simpa using rv⟩) (fun b u z => ?_) fun z => absurd (if_neg aT) z
    by_cases hb : b ∈ cs.map (·.2)
    · obtain ⟨p, hp, rfl⟩ := ts b hb
      have z' := (if_pos hb).symm.trans z
      cases z'
      exact (hT p hp).empty
    · have z' := (if_neg hb).symm.trans z
      cases z'
  | none =>
    refine core (fun b => if b ∈ cs.map (·.2) then some (.tbl #[]) else if b = a then some (.frz { cls := .type "list", data := .seq vs.toArray } (.lst (ns.map V.int))) else none) (fun b hb => if_pos hb) (fun b u e nb => ?_) (.inl (.inr ⟨{ cls := .type "list", data := .seq vs.toArray }, (if_neg aT).trans (if_pos rfl)⟩)) (fun b u z => ?_) fun _ => hk
    · rw [if_neg nb] at e
      by_cases hb : b = a
      · rw [if_pos hb] at e; cases e
        exact ⟨hb, _, _, rfl⟩
      · rw [if_neg hb] at e; cases e
    · by_cases hb : b ∈ cs.map (·.2)
      · obtain ⟨p, hp, rfl⟩ := ts b hb
        have z' := (if_pos hb).symm.trans z
        cases z'
        exact (hT p hp).empty
      · have z1 := (if_neg hb).symm.trans z
        by_cases hb2 : b = a
        · have z' := (if_pos hb2).symm.trans z1
          cases z'
          subst hb2
          exact ⟨ha, by rw [List.length_map]; exact hl, vs, _, rv, ha⟩
        · have z' := (if_neg hb2).symm.trans z1
          cases z'
end
end DL
/-! The head's Hook where defs make lambdas: their code objects and tables. -/
namespace HdM
open PySem PySem.Spec PyProof.Rows L2 DL
def codeAt (K : PySem.W.Frag) (f : Addr) : Addr := match K.lookup f with
  | some ⟨_, _, .func d, _⟩ => (match d.code with
    | .ref c => c
    | _ => 0)
  | _ => 0
def tabAt (K : PySem.W.Frag) (c : Addr) : Addr := match K.lookup c with
  | some ⟨_, _, .fields vs, _⟩ => (match (vs[11]? : Option Value) with
    | some (Value.ref P) => P
    | _ => 0)
  | _ => 0
def isStrV : Value → Bool
  | .str _ _ => true
  | _ => false
def isIntV : Value → Bool
  | .int _ _ => true
  | _ => false
def isBoolV : Value → Bool
  | .bool _ => true
  | _ => false
def isRefOpt : Option Value → Bool
  | some (.ref _) => true
  | _ => false
def codeB (K : PySem.W.Frag) (c : Addr) : Bool := match K.lookup c with
  | some ⟨.type n, _, .fields vs, _⟩ => decide (n = "code") && (isRefOpt vs[11]? && (isStrV (vs.getD 18 .none) && (isIntV (vs.getD 7 .none) && (isBoolV (vs.getD 9 .none) && (isIntV (vs.getD 10 .none) && !(c == tabAt K c))))))
  | _ => false
theorem codeB_ok {K : PySem.W.Frag} {c : Addr} {h : Heap} (X : K.In h) (b : codeB K c = true) : PySem.W.CodeHd h c (tabAt K c) := by
  cases q : K.lookup c with
  | none =>
    unfold codeB at b
    rw [q] at b; cases b
  | some o =>
    have b0 := b
    unfold codeB at b
    rw [q] at b
    obtain ⟨oc, od, dt, osl⟩ := o
    cases oc with
    | type n =>
      cases dt with
      | fields vs =>
        obtain ⟨h1, b⟩ := Bool.and_eq_true_iff.mp b
        obtain ⟨h2, b⟩ := Bool.and_eq_true_iff.mp b
        obtain ⟨h3, b⟩ := Bool.and_eq_true_iff.mp b
        obtain ⟨h4, b⟩ := Bool.and_eq_true_iff.mp b
        obtain ⟨h5, b⟩ := Bool.and_eq_true_iff.mp b
        obtain ⟨h6, h7⟩ := Bool.and_eq_true_iff.mp b
        have en : n = "code" := of_decide_eq_true h1
        cases e11 : vs[11]? with
        | none => rw [e11] at h2; cases h2
        | some v =>
          rw [e11] at h2
          cases v with
          | ref P =>
            have eP : tabAt K c = P := by
              unfold tabAt
              rw [q]
              show (match (vs[11]? : Option Value) with
                | some (Value.ref P) => P
                | _ => 0) = P
              rw [e11]
            have g11 : vs.getD 11 .none = .ref P := by
              rw [Array.getD_eq_getD_getElem?, e11]; rfl
            cases e18 : vs.getD 18 .none <;> rw [e18] at h3 <;> try cases h3
            cases e7 : vs.getD 7 .none <;> rw [e7] at h4 <;> try cases h4
            cases e9 : vs.getD 9 .none <;> rw [e9] at h5 <;> try cases h5
            cases e10 : vs.getD 10 .none <;> rw [e10] at h6 <;> try cases h6
            rw [eP] at h7 ⊢
            refine ⟨_, vs, _, _, _, _, _, _, _, X _ _ q, by rw [en], rfl, e11, g11, e18, e7, e9, e10, by simpa using h7⟩
          | _ => cases h2
      | _ => cases b
    | _ => cases dt <;> cases b
def emptyB : Option Obj → Bool
  | some ⟨.none, none, .fields vs, sl⟩ => vs.toList.isEmpty && sl.toList.isEmpty
  | _ => false
theorem emptyB_ok {o : Option Obj} (h : emptyB o = true) : o = some { cls := .none, data := .fields #[] } := by
  unfold emptyB at h
  split at h
  · rename_i vs sl
    obtain ⟨h1, h2⟩ := Bool.and_eq_true_iff.mp h
    cases vs with
    | mk l =>
      cases sl with
      | mk m =>
        cases l with
        | cons _ _ => cases h1
        | nil =>
          cases m with
          | cons _ _ => cases h2
          | nil => rfl
  · cases h
/-! ### the part without the tables -/
def tabsG (xs : List Str) (mk : List (PySem.W.Frag → Addr)) (g : Addr → Option Obj) : List Addr := mk.map fun f => tabAt (partG xs g) (codeAt (partG xs g) (f (partG xs g)))
def partGT (xs : List Str) (mk : List (PySem.W.Frag → Addr)) (g : Addr → Option Obj) : PySem.W.Frag := He.frG g ((mainGlobals :: cStatics :: lev g 4 (xs.map (He.ga (He.frG g [mainGlobals])))).filter fun a => !(tabsG xs mk g).contains a)
/-- a def's lambdas: its code object is told, its table is empty and not in the part -/
def mkB (g : Addr → Option Obj) (K : PySem.W.Frag) (f : Addr) : Bool := codeB K (codeAt K f) && ((K.lookup (tabAt K (codeAt K f))).isNone && emptyB (g (tabAt K (codeAt K f))))
abbrev AlT : Type := AlM × Bool
def lookT (mk : List (PySem.W.Frag → Addr)) (fs : List (PySem.W.Frag → Bool)) (fn : List DfM) (dc : List (PySem.W.Frag → Addr)) (g : Addr → Option Obj) (K : PySem.W.Frag) : AlT := (lookM fs fn dc K, mk.all fun f => mkB g K (f K))
def hookT (xs : List Str) (mk : List (PySem.W.Frag → Addr)) (fs : List (PySem.W.Frag → Bool)) (fn : List DfM) (dc : List (PySem.W.Frag → Addr)) (hs : List (List Key)) : PySem.W.Hook where
  α := AlT
  obs := fun s => lookT mk fs fn dc s.heap.get? (partGT xs mk s.heap.get?)
  val := fun w => (wantM fn hs w, true)
  says := fun w h => ∃ K : PySem.W.Frag, K.In h ∧ SaysM fs fn dc hs w K ∧ ∀ f ∈ mk, TabI K h (codeAt K (f K)) (tabAt K (codeAt K (f K)))
  of := fun w s e => by
    have X : (partGT xs mk s.heap.get?).In s.heap := He.frG_in
    refine ⟨_, X, congrArg (fun z : AlT => z.1) e, fun f hf => ?_⟩
    have b : (mk.all fun f => mkB s.heap.get? (partGT xs mk s.heap.get?) (f (partGT xs mk s.heap.get?))) = true := congrArg (fun z : AlT => z.2) e
    obtain ⟨b1, b2⟩ := Bool.and_eq_true_iff.mp (List.all_eq_true.mp b f hf)
    obtain ⟨b3, b4⟩ := Bool.and_eq_true_iff.mp b2
    exact ⟨codeB_ok X b1, by simpa using b3, emptyB_ok b4⟩
  keeps := fun w h h1 ⟨K, hK, c, t⟩ k => ⟨K, PySem.W.Frag.In.keeps hK k, c, fun f hf => by
    obtain ⟨t1, t2, t3⟩ := t f hf
    exact ⟨t1.keeps k, t2, k _ _ t3⟩⟩
def obT (xs : List Str) (mk : List (PySem.W.Frag → Addr)) (fs : List (PySem.W.Frag → Bool)) (fn : List DfM) (dc : List (PySem.W.Frag → Addr)) (s : PySem.W.SharedT) : AlT := lookT mk fs fn dc (HandSHeadRun.getT s) (partGT xs mk (HandSHeadRun.getT s))
theorem obT_eq {xs : List Str} {mk : List (PySem.W.Frag → Addr)} {fs : List (PySem.W.Frag → Bool)} {fn : List DfM} {dc : List (PySem.W.Frag → Addr)} {hs : List (List Key)} (s : PySem.W.SharedT) : obT xs mk fs fn dc s = (hookT xs mk fs fn dc hs).obs s.abs := by
  have e : HandSHeadRun.getT s = s.abs.heap.get? := funext fun a => HandSHeadRun.getT_eq s a
  unfold obT
  rw [e]; rfl
theorem walk_ofT {l : PySem.W.OpenLaw} {n k : Nat} {q : Program} {loose : List Str} {XP : (Str → Option Value) → Heap → Prop} {d : DefRec} {sp : DSp} {x : Str} {xs : List Str} {mk : List (PySem.W.Frag → Addr)} {fs : List (PySem.W.Frag → Bool)} {fn : List DfM} {dc : List (PySem.W.Frag → Addr)} {hs : List (List Key)}
    (hn : l.most = some n) (hn2 : n ≤ sizeLine) (hdf : d.params.defaults = []) (hr : Room k callerA)
    (F : ∀ (w : World) (K : PySem.W.Frag) (mg : Str → Option Value) (fa : Addr) (h : Heap), K.In h → SaysM fs fn dc hs w K → h.Ns mainGlobals mg → mg d.name = some (.ref fa) →
      ∃ (G : Gm) (fd : FuncData) (qs : Addr → Str), G.K = K ∧ (G.tb = (mk.map fun f => (codeAt K (f K), tabAt K (codeAt K (f K)))).map fun p => (p.2, qs p.2)) ∧ (∀ (s : Shared) (u : Value), BindsTo s fd ⟨[u], []⟩ [(x, u)]) ∧
        ∀ base : Heap, K.In base → base.Ns mainGlobals mg → (∀ f ∈ mk, LamX.TabB base mg (codeAt K (f K)) (tabAt K (codeAt K (f K)))) → FnG l.prog w K mg base k fa fd [x] (lift G sp))
    (hsp : ∀ (ns : List Int), ns.length ≤ n → (∀ z ∈ ns, Builtin.Int.intBits z ≤ 1048576) → sp [.lst (ns.map D.int)] (fun d => d = .bl true) NoX) :
    PySem.W.WalkO q loose XP (hookT xs mk fs fn dc hs).says l.row.toRowW d [] (fun f vs => PySem.call f vs) := by
  refine Att.attach_callB hn hdf fun w s₀ s₁ mg mb fa o pm cd doc a vs ns G' Y ho hd hcd hmg hobj hints hlen hbits hg => ?_
  obtain ⟨K, KX, c, t⟩ := Y
  obtain ⟨G, fd, qs, rfl, et, hb, hF⟩ := F w K mg fa _ KX c G'.T.g hmg
  refine law_callT (cs := mk.map fun f => (codeAt G.K (f G.K), tabAt G.K (codeAt G.K (f G.K)))) KX et (fun p hp => ?_) G'.T.g G'.T.b G'.T.builtins G'.T.nolimit hg G'.T.bmain hobj hints (Nat.le_trans hlen hn2) hr (fun base h1 h2 h3 => hF base h1 h2 fun f hf => h3 _ (List.mem_map.mpr ⟨f, hf, rfl⟩)) hb (hsp ns hlen hbits)
  obtain ⟨f, hf, rfl⟩ := List.mem_map.mp hp
  exact t f hf
end HdM
/-! Own exceptions: the facts of a class, from tests on the part. -/
namespace ExL
open PySem PySem.Spec PyProof.Rows L2
/-- the class's object, from the test of the kit -/
theorem cls_of {K : PySem.W.Frag} {C : Addr} {bmB : List Value} {newId : String} (q : PySem.W.excInitIn K C bmB newId = true) (hd : PySem.W.hasDictIn K C = true) :
    ∃ nm q N bs bm sn sub ab col dd k0 k1 k2 k3 k5, K.lookup C = some (excClassObj nm q C N bs bm true sn sub ab col dd k0 k1 k2 k3 k5 newId) ∧ PySem.W.excTail bmB bm = true := by
  unfold PySem.W.excInitIn at q
  split at q
  · rename_i dd cd sl lk
    split at q
    · rename_i C1 bm k0 k1 k2 k3 n k5 em es
      simp only [Bool.and_eq_true, beq_iff_eq, Bool.not_eq_true'] at q
      obtain ⟨⟨⟨e1, e2⟩, e3⟩, e4⟩ := q
      subst e1 e2
      have hd2 : cd.hasDict = true := by
        unfold PySem.W.hasDictIn PySem.W.clsIn at hd
        rw [lk] at hd
        exact hd
      obtain ⟨nm, bs, mro, ns, qn, hdc, sn, sub, ab, col, del⟩ := cd
      dsimp only at em e3 hd2
      subst em e3 hd2
      cases sl with
      | mk l =>
        have es : l = [k0, k1, k2, k3, some (.builtin n), k5] := es
        subst es
        exact ⟨nm, qn, ns, bs, bm, sn, sub, ab, col, dd, k0, k1, k2, k3, k5, lk, e4⟩
    · cases q
  · cases q
/-- no keyword-only defaults -/
def kwB (K : PySem.W.Frag) (f : Addr) : Bool := match K.lookup f with
  | some ⟨_, _, .func d, _⟩ => decide (d.kwdefaults = .none)
  | _ => false
section
variable {K : PySem.W.Frag} {mg : Str → Option Value} {x : Str} {C f : Addr} {bmB : List Value} {newId : String}
theorem fn_of {q : Str} {params : Arguments} {body : List Stmt} {scope : Scope} (F : ∃ fd, FunD K "__init__" q params body scope [] [] f fd) (kw : kwB K f = true) :
    ∃ (oc : Value) (od : Option Addr) (doc pm : Value) (an : Option Addr) (cdv ct : Value) (osl : Array (Option Value)), K.lookup f = some ⟨oc, od, .func (PySem.W.fnOf "__init__" q params body scope .none .none doc pm an cdv ct), osl⟩ ∧ PySem.W.codeIn K cdv q = true := by
  obtain ⟨fd, ⟨oc, od, dV, kV, doc, pm, an, cdv, ct, osl, rfl, lk, cd, df, _⟩, _⟩ := F
  have e1 : dV = .none := by
    rcases df with ⟨_, e⟩ | ⟨n, _⟩
    · exact e
    · exact absurd rfl n
  have e2 : kV = .none := by
    unfold kwB at kw
    rw [lk] at kw
    exact of_decide_eq_true kw
  subst e1 e2
  exact ⟨oc, od, doc, pm, an, cdv, ct, osl, lk, cd⟩
theorem clG_of {q : Str} {p1 p2 q1 q2 q3 q4 : Pos} (gl : mg x = some (.ref C)) (h1 : PySem.W.excInitIn K C bmB newId = true) (h2 : PySem.W.hasDictIn K C = true) (h3 : PySem.W.findIn K (.ref C) "__setattr__" = some (some (.builtin "object.__setattr__"))) (h4 : PySem.W.takerIn K C "given" = some none)
    (h5 : PySem.W.findIn K (.ref C) "__init__" = some (some (.ref f))) (h6 : PySem.W.typeIn K (.ref f) = some (.type "function")) (h7 : PySem.W.keepIn K (.ref C) = true) (h8 : PySem.W.subIn K (.ref C) (.type "BaseException") = some true) (h9 : PySem.W.typeIn K (.ref C) = some (.type "type"))
    (F : ∃ fd, FunD K "__init__" q (argsG p1 p2) (bodyG q1 q2 q3 q4) scopeG [] [] f fd) (kw : kwB K f = true) : ClG K mg x C f bmB newId := by
  obtain ⟨oc, od, doc, pm, an, cdv, ct, osl, lk, cd⟩ := fn_of F kw
  exact ⟨gl, cls_of h1 h2, h3, h4, h5, h6, h7, h8, h9, q, oc, od, doc, pm, an, cdv, ct, osl, p1, p2, q1, q2, q3, q4, lk, cd⟩
theorem clI_of {q : Str} {p1 p2 q1 q2 q3 q4 : Pos} (gl : mg x = some (.ref C)) (h1 : PySem.W.excInitIn K C bmB newId = true) (h2 : PySem.W.hasDictIn K C = true) (h3 : PySem.W.findIn K (.ref C) "__setattr__" = some (some (.builtin "object.__setattr__"))) (h4 : PySem.W.takerIn K C "index" = some none)
    (h5 : PySem.W.findIn K (.ref C) "__init__" = some (some (.ref f))) (h6 : PySem.W.typeIn K (.ref f) = some (.type "function")) (h7 : PySem.W.keepIn K (.ref C) = true) (h8 : PySem.W.subIn K (.ref C) (.type "BaseException") = some true) (h9 : PySem.W.typeIn K (.ref C) = some (.type "type"))
    (F : ∃ fd, FunD K "__init__" q (argsI p1 p2) (bodyI q1 q2 q3 q4) scopeI [] [] f fd) (kw : kwB K f = true) : ClI K mg x C f bmB newId := by
  obtain ⟨oc, od, doc, pm, an, cdv, ct, osl, lk, cd⟩ := fn_of F kw
  exact ⟨gl, cls_of h1 h2, h3, h4, h5, h6, h7, h8, h9, q, oc, od, doc, pm, an, cdv, ct, osl, p1, p2, q1, q2, q3, q4, lk, cd⟩
end
end ExL
/-! A def that makes lambdas: its body knows its code object. -/
namespace DL
open PySem PySem.Spec L2 PyProof.Rows
/-- the def at f has the code object at c -/
def refB (K : PySem.W.Frag) (f c : Addr) : Bool := match K.lookup f with
  | some ⟨_, _, .func d, _⟩ => decide (d.code = .ref c)
  | _ => false
section
variable {P : Program} {w : World} {K : PySem.W.Frag} {mg : Str → Option Value} {base : Heap} {k : Nat} {f c : Addr} {N ps : List Str} {sp : Sp}
theorem Fun.okC {x qual : Str} {st : Stmt} {fd : FuncData} (F : Fun K x qual st f fd) (S : FnScope N ps (defScope st)) (len : ∀ vs H Q E, sp vs H Q E → vs.length = ps.length) (hc : refB K f c = true)
    (body : ∀ (A : Around) (outer : List PySem.Env) (s : Shared) (H : Hp) (vs : List V) (Q : VK) (E : XK), A.guards = some [] → Room k (A.deeper (envOfC qual (defScope st) s.heap.objs.size f (.ref c))) → sp vs H Q E →
      ∃ t, PSs (cxOf (L2.CX P w) P w K mg base N qual (defScope st) f (.ref c) A outer s H E) (defBody st) t ∧ t { nx := fun _ H' => Q .non H', rt := Q } (L2.start N vs) H) : FnG P w K mg base (k + 1) f fd ps sp := by
  obtain ⟨oc, od, kV, doc, pm, an, cdv, ct, osl, rfl, lk, hcd⟩ := F.ex
  have ec : cdv = .ref c := by
    unfold refB at hc
    rw [lk] at hc
    exact of_decide_eq_true hc
  subst ec
  refine ⟨len, fun A outer s H args us vs Q E hg hr e0 hb rv hsp => ?_⟩
  have nl := len _ _ _ _ hsp
  have inK : K.In s.heap := e0.mod.kin.keeps fun b o e => (e0.bs b o e).1
  have kinds : ∀ y ∈ ps.zip us, (defScope st).names.lookup y.1 = some .local ∨ ((defScope st).names.lookup y.1 = some .cell ∧ ((cellsFrom (s.heap.objs.size + 1) (defScope st).names []).lookup y.1).isSome = true) := by
    rintro ⟨n, v⟩ hy
    exact (S.par n (List.of_mem_zip hy).1).imp id fun q => ⟨q, PySem.W.cellsFrom_some _ _ _ (.inl q)⟩
  refine codeAny_call_function hr.depth (inK _ _ lk) rfl S.co S.gen rfl (PySem.W.codeRec_of inK hcd) (hb _ _ _ _ ?_)
  refine wpAny_newFunctionEnv_cells S.kind kinds fun env he s1 x1 => ?_
  subst he
  refine ⟨(e0.mod.nolimit.keeps fun b o e => (e0.bs b o e).1).keeps x1.toInCall.keep, codeAny_func ?_⟩
  obtain ⟨t, ht, hq⟩ := body A outer s H vs Q E hg (hr.deeper _) hsp
  have I := inv_start (CX := L2.CX P w) (E := E) (qual := qual) (f := f) (cd := .ref c) S hr.hd e0 nl rv x1
  refine wpAny_mono (ht.run [] s1 (L2.start N vs) H _ I hq) (fun fl s' hs => ?_) (fun e s' hs => hs)
  cases fl with
  | ret u =>
    obtain ⟨v, _, H', J, r, q⟩ := hs
    exact ⟨v, H', J.os, J.bare, J.base, J.hok, r, q⟩
  | next =>
    obtain ⟨_, H', J, q⟩ := hs
    exact ⟨V.non, H', J.os, J.bare, J.base, J.hok, rfl, q⟩
  | brk => exact (hs.elim fun _ z => z.elim fun _ y => (show False from y.2).elim)
  | cont => exact (hs.elim fun _ z => z.elim fun _ y => (show False from y.2).elim)
end
section
variable {G : Gm} {P : Program} {w : World} {mg : Str → Option Value} {base : Heap} {k : Nat} {f c : Addr} {N ps : List Str}
theorem okC {x qual : Str} {st : Stmt} {fd : FuncData} {sp : DSp} {B : FS} (hc : refB G.K f c = true) (F : Fun G.K x qual st f fd) (S : FnScope N ps (defScope st)) (len : ∀ ds Q EX, sp ds Q EX → ds.length = ps.length)
    (body : ∀ (A : Around) (outer : List PySem.Env) (s : Shared) (H : Hp) (E : XK), A.guards = some [] → Room k (A.deeper (envOfC qual (defScope st) s.heap.objs.size f (.ref c))) →
      PSs (cxOf (L2.CX P w) P w G.K mg base N qual (defScope st) f (.ref c) A outer s H E) (defBody st) (sD G E B))
    (pure : ∀ ds Q EX, sp ds Q EX → B { nx := fun _ => Q .non, rt := Q } EX (startD N ds)) : FnG P w G.K mg base (k + 1) f fd ps (lift G sp) := by
  refine Fun.okC F S (fun vs H Q E ⟨w, ds, QD, EX, _, r, h, _⟩ => by rw [← r.length]; exact len _ _ _ h) hc fun A outer s H vs Q E hg hr ⟨w, ds, QD, EX, ok, r, h, k, lk⟩ => ⟨_, body A outer s H E hg hr, ?_⟩
  exact ⟨w, H, w, startD N ds, w, { nx := fun _ => QD .non, rt := QD }, EX, fr_start ok r, .refl w, lk, ⟨fun r s w' H' fr _ q => k .non .non w' H' fr.le fr.ok Rep.non q, fun d v w' H' l ok' rp q => k d v w' H' l ok' rp q, fun _ _ _ _ _ _ q => q.elim, fun _ _ _ _ _ _ q => q.elim, fun _ _ _ _ _ _ _ _ _ _ q => q.elim⟩, pure ds QD EX h⟩
end
/-! ### the context of a lambda's body -/
section
variable {X : Cx} {A1 : Around} {outer : List PySem.Env} {s2 : Shared} {H2 : Hp} {E1 : XK} {scope : Scope} {f c1 : Addr}
theorem takes_lam : Takes (LamX.lamCx X A1 outer s2 H2 E1 scope f c1) (fun cls d _ H => E1 cls d H) := L2.takes_of rfl rfl rfl rfl
theorem pass_lam : PassX (LamX.lamCx X A1 outer s2 H2 E1 scope f c1) E1 := L2.passes_call takes_lam fun _ _ _ _ h => h
theorem guards_lam (h : A1.guards = X.A.guards) (hg : X.A.guards = some []) : (LamX.lamCx X A1 outer s2 H2 E1 scope f c1).A.guards = some [] := h.trans hg
end
end DL
/-! {} as a value. -/
namespace DL
open PySem L2 PyProof.Rows
section
variable {X : Cx} {G : Gm} {E : XK} {pos : Pos}
theorem ce_emp : PE X (.Dict [] [] pos) (tD G E (fC (.dic [] []))) := PE.weak pe_dnewK fun s H Q ⟨w0, H0, r, w, QD, EX, fr, lk, f, k⟩ => fun p hp => by
  refine k (.dic [] []) (.ref p) (w.frz (upd H p (.dK [])) p) _ ((Le.new hp).frz (fr.ok.none_hd hp) hp) ((fr.ok.new hp).frz (fr.ok.none_jr hp)) ?_ f
  unfold Rep
  exact ⟨p, [], rfl, .inl (by rw [frz_at, upd_same]; rfl), rfl, Reps.nil⟩
end
end DL
/-! repr of a dict of flat values. -/
namespace DL
open PySem L2 PyProof.Rows
def kPd : Key → PyData
  | .inl i => .int i
  | .inr s => .str s
def dkv : List Key → List D → List (PyData × PyData)
  | k :: ks, d :: ds => (kPd k, pd d) :: dkv ks ds
  | _, _ => []
def flatB : D → Bool
  | .non => true
  | .bl _ => true
  | .int _ => true
  | .str _ => true
  | _ => false
def EntR : List DictEntry → List (Key × V) → Prop
  | [], [] => True
  | e :: r, (k, v) :: t => keyIs k e.key = true ∧ RelV v e.val ∧ EntR r t
  | _, _ => False
theorem entR_k {w : World} : ∀ {es : List DictEntry} {kvs : List (Key × V)}, KEnt w es kvs → EntR es kvs
  | [], [], _ => trivial
  | e :: r, (k, v) :: t, h => by
    unfold KEnt at h
    exact ⟨h.1, h.2.2.1, entR_k h.2.2.2⟩
  | [], _ :: _, h => by unfold KEnt at h; exact h.elim
  | _ :: _, [], h => by unfold KEnt at h; exact h.elim
theorem entR_p {P : Program} {w : World} : ∀ {kvs : List (Key × V)} {ys : List (Key × Value)} {es : List DictEntry}, KV kvs ys → Pairs (mixKind P w) es ys → EntR es kvs
  | [], _, _, .nil, .nil => trivial
  | (k, v) :: t, _, _, .cons h1 h2, .cons h3 h4 h5 => ⟨by rw [show k = _ from h1.1]; exact h3, by rw [h4]; exact h1.2, entR_p h2 h5⟩
theorem reads_key {h : Heap} {k : Key} {v : Value} (e : keyIs k v = true) : Reads h v (kPd k) [] := by
  rcases keyIs_shape e with ⟨i, t, rfl, rfl⟩ | ⟨x, t, rfl, rfl⟩
  · exact Reads.int i t
  · exact Reads.str x t
section
variable {G : Gm}
theorem reads_flat {w : Wd} {h : Heap} {d : D} {v : V} {u : Value} (r : Rep G w d v) (f : flatB d = true) (e : RelV v u) : Reads h u (pd d) [] := by
  cases d <;> first | (cases f; done) | skip
  · cases r.non_of
    cases e
    unfold pd
    exact Reads.none
  · cases r.bl_of
    cases e
    unfold pd
    exact Reads.bool _
  · cases r.int_of
    obtain ⟨t, rfl⟩ := e
    unfold pd
    exact Reads.int _ t
  · cases r.str_of
    obtain ⟨t, rfl⟩ := e
    unfold pd
    exact Reads.str _ t
theorem reads_dk {w : Wd} {h : Heap} : ∀ {ks : List Key} {vs : List V} {ds : List D} {es : List DictEntry}, ks.length = vs.length → EntR es (ks.zip vs) → Reps G w ds vs → ds.all flatB = true →
    ReadsAll h (es.map (·.key)) ((dkv ks ds).map (·.1)) [] ∧ ReadsAll h (es.map (·.val)) ((dkv ks ds).map (·.2)) []
  | [], [], ds, es, _, e, r, _ => by
    cases ds with
    | nil =>
      cases es with
      | nil => exact ⟨.nil, .nil⟩
      | cons _ _ => exact e.elim
    | cons d t => obtain ⟨_, _, z, _⟩ := r.of_cons; cases z
  | [], _ :: _, _, _, hl, _, _, _ => by cases hl
  | _ :: _, [], _, _, hl, _, _, _ => by cases hl
  | k :: ks, v :: vs, ds, es, hl, e, r, f => by
    cases ds with
    | nil => cases r.of_nil
    | cons d t =>
      obtain ⟨_, _, z, r1, r2⟩ := r.of_cons
      cases z
      cases es with
      | nil => exact e.elim
      | cons e0 es =>
        rw [List.zip_cons_cons] at e
        obtain ⟨e1, e2, e3⟩ := e
        rw [List.all_cons, Bool.and_eq_true] at f
        have ih := reads_dk (h := h) (Nat.succ.inj hl) e3 r2 f.2
        exact ⟨.cons (reads_key e1) ih.1, .cons (reads_flat r1 f.1 e2) ih.2⟩
end
def dicOK (ks : List Key) (ds : List D) : Prop := ds.all flatB = true ∧ (PyData.dict (dkv ks ds)).showable = true ∧ (PyData.dict (dkv ks ds)).depth ≤ 60 ∧ (PyData.dict (dkv ks ds)).shown.length ≤ sizeLine
instance (ks : List Key) (ds : List D) : Decidable (dicOK ks ds) := by unfold dicOK; exact inferInstance
def reprD2 : CG := fun xs Q => reprD xs Q ∨ ∃ ks ds, xs = [.dic ks ds] ∧ dicOK ks ds ∧ Q (.str (PyData.dict (dkv ks ds)).shown)
section
variable {G : Gm} {X : Cx}
theorem cal_repr2 (hg : X.A.guards = some []) (hu : X.A.units + 64 < cLine) (hK : X.K = G.K := by rfl) : CaL G X (.builtin "repr") reprD2 := by
  obtain ⟨r1, c1, k1⟩ := cal_repr (G := G) hg hu hK
  refine ⟨fun xs H Q => r1 xs H Q ∨ ∃ a w ks vs ds, xs = [.ref a] ∧ (H a = some (.dK (ks.zip vs)) ∨ KDic G.K G.pw a (ks.zip vs)) ∧ ks.length = vs.length ∧ Reps G w ds vs ∧ dicOK ks ds ∧ Q (.str (PyData.dict (dkv ks ds)).shown) H, ?_, fun H0 w H ds vs Q QD ok sx g k => ?_⟩
  · intro pins s σ H xs us Q I r h
    rcases h with h | ⟨a, w, ks, vs, ds, rfl, hd, hl, rr, ⟨o1, o2, o3, o4⟩, q⟩
    · exact c1 pins s σ H xs us Q I r h
    · obtain ⟨u, rfl, rx⟩ := vals1 r
      cases (show u = Value.ref a from rx)
      have rd : ∃ as, Reads s.heap (.ref a) (PyData.dict (dkv ks ds)) as ∧ sysModules ∉ as := by
        have ns : ∀ {p : Addr}, (p == sysModules) = false → sysModules ∉ (p :: [] ++ [] : List Addr) := fun z m => by
          rw [List.append_nil, List.mem_singleton] at m
          rw [← m] at z
          simp at z
        rcases hd with hd | ⟨es, n, lk, hs, he⟩
        · obtain ⟨_, hs, ys, kv, o, es, ep, ho, hc, hda, _, pp, _⟩ := (show ObjOk X.prog X.w H s.heap a (.dK (ks.zip vs)) from I.hok a _ hd)
          obtain ⟨x1, x2⟩ := reads_dk (h := s.heap) hl (entR_p kv pp) rr o1
          exact ⟨_, Reads.dict ho hc.1 hda x1 x2, ns hs⟩
        · obtain ⟨x1, x2⟩ := reads_dk (h := s.heap) hl (entR_k he) rr o1
          exact ⟨_, Reads.dict (I.kIn _ _ (hK ▸ lk)) rfl rfl x1 x2, ns hs⟩
      obtain ⟨as, rd, hn⟩ := rd
      exact repr_of_reads' rd o2 (fun _ => hn) hg (by omega) (fun _ _ e => e) (fun h' u tk hk => ⟨.str _, H, I.kept hk, ⟨_, rfl⟩, q⟩) o4
  · rcases g with g | ⟨ks, es, rfl, o, q⟩
    · exact .inl (k1 H0 w H ds vs Q QD ok sx g k)
    · obtain ⟨v, rfl, s1⟩ := sx.one
      obtain ⟨a, us, rfl, hd, hl, rr⟩ := s1.dic_of ok
      exact .inr ⟨a, w, ks, us, es, rfl, hd, hl, rr, o, k _ _ w H (.refl w H) ok Rep.str q⟩
end
def reprX2 (xs : List D) : Option D := match reprX xs with
  | some d => some d
  | none => match xs with
    | [.dic ks ds] => if dicOK ks ds then some (.str (PyData.dict (dkv ks ds)).shown) else none
    | _ => none
theorem g_repr2 : CCG reprD2 reprX2 := fun xs d Q e q => by
  unfold reprX2 at e
  cases z : reprX xs with
  | some d2 =>
    rw [z] at e
    cases e
    exact .inl (g_repr xs _ Q z q)
  | none =>
    rw [z] at e
    match xs, e with
    | [.dic ks ds], e =>
      have e : (if dicOK ks ds then some (D.str (PyData.dict (dkv ks ds)).shown) else none) = some d := e
      by_cases o : dicOK ks ds
      · rw [if_pos o] at e
        cases e
        exact .inr ⟨ks, ds, rfl, o, q⟩
      · rw [if_neg o] at e; cases e
/-- what is shown of a value, of dicts too -/
def shw : D → Str
  | .dic ks ds => (PyData.dict (dkv ks ds)).shown
  | d => (pd d).shown
def shwOK : D → Prop
  | .dic ks ds => dicOK ks ds
  | d => shownOK d
theorem reprX2_ok {d : D} (h : shwOK d) : reprX2 [d] = some (.str (shw d)) := by
  have pl : ∀ d : D, shownOK d → reprX [d] = some (.str (pd d).shown) := fun d h => by
    show gd (shownB d = true) _ = _
    unfold gd
    rw [if_pos]
    unfold shownB
    rw [h.1, h.2.1, decide_eq_true h.2.2.1, decide_eq_true h.2.2.2]; rfl
  cases d with
  | dic ks ds =>
    have h : dicOK ks ds := h
    unfold reprX2
    rw [show reprX [.dic ks ds] = none from rfl]
    show (if dicOK ks ds then some (D.str (PyData.dict (dkv ks ds)).shown) else none) = _
    rw [if_pos h]; rfl
  | non => unfold reprX2; rw [pl _ h]; rfl
  | bl b => unfold reprX2; rw [pl _ h]; rfl
  | int i => unfold reprX2; rw [pl _ h]; rfl
  | str s => unfold reprX2; rw [pl _ h]; rfl
  | tup ds => unfold reprX2; rw [pl _ h]; rfl
  | lst ds => unfold reprX2; rw [pl _ h]; rfl
  | obj c ds => unfold reprX2; rw [pl _ h]; rfl
  | exc c ds => unfold reprX2; rw [pl _ h]; rfl
  | jar => unfold reprX2; rw [pl _ h]; rfl
end DL
/-! list(x), x a text too. -/
namespace DL
open PySem L2 PyProof.Rows
def sgV (z : Str) : List V := z.cps.toList.map fun c => V.str ⟨#[c]⟩
section
variable {X : Cx} {G : Gm}
theorem call_listT (hc : X.calm = true) : CallR X (.type "list") (fun xs H Q => ∃ z, xs = [.str z] ∧ z.length ≤ sizeLine ∧ ∀ l, H l = none → Q (.ref l) (upd H l (.lst (sgV z)))) := by
  intro pins s σ H xs us Q I r h
  obtain ⟨z, rfl, hz, q⟩ := h
  obtain ⟨u, rfl, t, rfl⟩ := vals1 r
  refine PySem.call_list_str (I.ok.hd hc) z t (fun h' tk acc c' kp e it => ?_) hz
  refine ⟨.ref s.heap.objs.size, _, I.laid (t' := tk) kp (Nat.le_refl _) (show ObjOk X.prog X.w _ h' _ (.lst (sgV z)) from ⟨?_, acc.toList, c', ?_, by rw [Array.toArray_toList]; exact e⟩), rfl, q _ (I.hok.fresh (Nat.le_refl _))⟩
  · show (z.cps.toList.map _).length ≤ sizeLine
    rw [List.length_map, Array.length_toList]; exact hz
  · refine vals_of_at ?_ fun j x v hx hv => ?_
    · show (z.cps.toList.map _).length = _
      rw [List.length_map, Array.length_toList, Array.length_toList, it.1]
    · rw [Array.getElem?_toList] at hv
      obtain ⟨c, u, h1, rfl⟩ := it.2 j v hv
      unfold sgV at hx
      rw [List.getElem?_map, Array.getElem?_toList, h1] at hx
      cases hx
      exact ⟨u, rfl⟩
theorem reps_signs {w : Wd} : ∀ l : List Nat, Reps G w (l.map fun c => D.str ⟨#[c]⟩) (l.map fun c => V.str ⟨#[c]⟩)
  | [] => Reps.nil
  | c :: l => Reps.cons Rep.str (reps_signs l)
def listC2 : List D → (List D → Prop) → Prop := fun ds Q => match ds with
  | [.lst xs] => Q xs
  | [.tup xs] => Q xs
  | [.str z] => z.length ≤ sizeLine ∧ Q (signs z)
  | _ => False
theorem caf_list2 (hc : X.calm = true := by rfl) (hK : X.K = G.K := by rfl) : CaF G X (.type "list") listC2 := by
  obtain ⟨r1, c1, k1⟩ := caf_list (X := X) (G := G) hK
  refine ⟨_, c1.or (call_listT hc), fun H0 w H ds vs Q QD ok sx g k => ?_⟩
  match ds, g with
  | [.lst xs], g => exact .inl (k1 H0 w H _ vs Q QD ok sx g k)
  | [.tup xs], g => exact .inl (k1 H0 w H _ vs Q QD ok sx g k)
  | [.str z], g =>
    obtain ⟨v, rfl, s1⟩ := sx.one
    have e : v = .str z := by
      rcases s1 with h | ⟨_, _, _, _, e, _⟩ | ⟨_, _, _, _, _, e, _⟩
      · exact h.str_of
      · cases e
      · cases e
    subst e
    exact .inr ⟨z, rfl, g.1, fun l hl => k (signs z) l _ hl (reps_signs _) g.2⟩
end
end DL
/-! x in o, both values (x of any kind). -/
namespace DL
open PySem L2 PyProof.Rows
section
variable {X : Cx} {G : Gm} {E : XK} {a b : Expr} {pos : Pos}
/-- an operator's rule over values -/
structure OpV (G : Gm) (X : Cx) (op : Value → Value → Sem Value) (g : G2) : Prop where
  ex : ∃ r, OpR X op r ∧ ∀ w H x y v u Q (QD : D → Prop), Ok w H → Rep G w x v → Rep G w y u → g x y QD →
    (∀ d z w' H', Le w H w' H' → Ok w' H' → Rep G w' d z → QD d → Q z H') → r v u H Q
theorem OpV.link {op : Value → Value → Sem Value} {g : G2} {rr : R2} {A B : FE} (k0 : ∀ w H x y v u Q (QD : D → Prop), Ok w H → Rep G w x v → Rep G w y u → g x y QD →
    (∀ d z w' H', Le w H w' H' → Ok w' H' → Rep G w' d z → QD d → Q z H') → rr v u H Q) (s : L2.St) (H : Hp) (Q : VK) (h : tD G E (f2 g A B) s H Q) : tOp rr (tD G E A) (tD G E B) s H Q := by
  obtain ⟨w0, H0, r, w, QD, EX, fr, lk, f, k⟩ := h
  refine ⟨w0, H0, r, w, _, EX, fr, lk, f, fun x v w1 H1 l1 ok1 s1 q1 => ?_⟩
  refine ⟨w0, H0, r, w1, _, EX, fr.go l1 ok1, lk, q1, fun y u w2 H2 l2 ok2 s2 q2 => ?_⟩
  exact k0 w2 H2 x y v u Q QD ok2 (s1.mono l2.sub) s2 q2 fun d z w3 H3 l3 ok3 r3 q3 => k d z w3 H3 ((l1.trans l2).trans l3) ok3 r3 q3
theorem ct_cmpV {op : CmpOp} {g : G2} {A B : FE} (ho : OpV G X (compareOp op) g) (ha : PE X a (tD G E A)) (hb : PE X b (tD G E B)) (hm : behindInMarks op b = false := by first | exact nomark _ (by decide) (by decide) | rfl) : PT X (.Compare a [op] [b] pos) (ttD G E (fTb (f2 g A B))) := by
  obtain ⟨rr, hr, k0⟩ := ho.ex
  exact ct_of_tTest (pt_cmpR hr ha hb hm) (OpV.link (op := compareOp op) k0)
end
section
variable {G : Gm} {X : Cx} {k : Nat} {f : Addr} {fd : FuncData} {ps : List Str} {sp : DSp}
def inV (c : Nat) (sp : DSp) (neg : Bool) : G2 := fun x y Q => match y with
  | .obj c' fs => c' = c ∧ sp [.obj c' fs, x] (fun d => match d with
    | .bl b => Q (.bl (neg != b))
    | _ => False) NoX
  | _ => False
end
/-! ### x is None, x a value of any kind -/
def isNV (neg : Bool) : G2 := fun x y Q => match y with
  | .non => Q (.bl (neg != isNon x))
  | _ => False
section
variable {G : Gm} {X : Cx}
theorem opv_is : OpV G X (compareOp .Is) (isNV false) := by
  refine ⟨_, op_isN, fun w H x y v u Q QD ok rx ry g k => ?_⟩
  cases y with
  | non =>
    refine ⟨ry.non_of, ?_⟩
    rw [rx.non_iff]
    have g : QD (.bl (false != isNon x)) := g
    rw [Bool.false_bne] at g
    exact k _ _ w H (.refl w H) ok Rep.bl g
  | _ => exact g.elim
end
def isNVX (neg : Bool) : O2 := fun x y => match y with
  | .non => some (.bl (neg != isNon x))
  | _ => none
theorem g_isNV {neg : Bool} : CG2 (isNV neg) (isNVX neg) := fun x y d Q e q => by
  cases y <;> first | (cases e; done) | (cases e; exact q)
end DL
/-! text * int. -/
namespace DL
open PySem L2 PyProof.Rows
section
variable {G : Gm} {X : Cx}
end
instance (z : Str) (n : Int) : Decidable (MulOk z n) := by unfold MulOk; exact inferInstance
end DL
/-! str(x), x a tuple or a list. -/
namespace DL
open PySem L2 PyProof.Rows
section
variable {G : Gm} {X : Cx}
theorem call_strT (hg : X.A.guards = some []) (hu : X.A.units + 64 < cLine) : CallR X (.type "str") (fun xs H Q => ∃ a d, xs = [.ref a] ∧ Dp X.K H (.ref a) d ∧ d.showable = true ∧ d.hasDict = false ∧ d.depth ≤ 60 ∧ d.shown.length ≤ sizeLine ∧ Q (.str d.shown) H) := by
  intro pins s σ H xs us Q I r h
  obtain ⟨a, d, rfl, hd, h1, h2, h3, h4, q⟩ := h
  obtain ⟨u, rfl, rx⟩ := vals1 r
  cases (show u = Value.ref a from rx)
  obtain ⟨as, rd⟩ := Dp.reads I d _ _ hd rx
  exact str_of_reads rd h1 (PyData.noDict_hsm h2) hg (by omega) (fun _ _ e => e) (fun h' u tk hk => ⟨.str _, H, I.kept hk, ⟨_, rfl⟩, q⟩) h4
def strC2 : CG := fun ds Q => strC ds Q ∨ ∃ es, ds = [.tup es] ∧ shownOK (.tup es) ∧ Q (.str (pd (.tup es)).shown)
theorem cal_str2 (hg : X.A.guards = some []) (hu : X.A.units + 64 < cLine) (hK : X.K = G.K := by rfl) : CaL G X (.type "str") strC2 := by
  obtain ⟨r1, c1, k1⟩ := cal_str (G := G) (X := X)
  refine ⟨_, c1.or (call_strT hg hu), fun H0 w H ds vs Q QD ok sx g k => ?_⟩
  rcases g with g | ⟨es, rfl, ⟨p, a, b, c⟩, q⟩
  · exact .inl (k1 H0 w H ds vs Q QD ok sx g k)
  · obtain ⟨v, rfl, s1⟩ := sx.one
    obtain ⟨ad, us, rfl, _⟩ := s1.tup_rep.tup_of
    exact .inr ⟨ad, pd (.tup es), rfl, hK ▸ s1.dp ok p, a, pd_noDict _ p, b, c, k _ _ w H (.refl w H) ok Rep.str q⟩
end
def strCX2 (ds : List D) : Option D := match strCX ds with
  | some d => some d
  | none => match ds with
    | [.tup es] => gd (shownB (.tup es) = true) (.str (pd (.tup es)).shown)
    | _ => none
theorem g_strC2 : CCG strC2 strCX2 := fun xs d Q e q => by
  unfold strCX2 at e
  cases z : strCX xs with
  | some d2 =>
    rw [z] at e
    cases e
    exact .inl (g_strC xs _ Q z q)
  | none =>
    rw [z] at e
    match xs, e with
    | [.tup es], e =>
      obtain ⟨h, rfl⟩ := gd_some (show gd (shownB (.tup es) = true) (D.str (pd (.tup es)).shown) = some d from e)
      unfold shownB at h
      rw [Bool.and_eq_true, Bool.and_eq_true, Bool.and_eq_true, decide_eq_true_iff, decide_eq_true_iff] at h
      exact .inr ⟨es, rfl, ⟨h.1.1.1, h.1.1.2, h.1.2, h.2⟩, q⟩
end DL
/-! x == (), x != (), x a tuple of anything. -/
namespace DL
open PySem L2 PyProof.Rows
section
variable {G : Gm} {X : Cx}
theorem unit_len {its : List Value} {xs : List V} (r : Vals xs its) (e : Nat → Bool) : (((List.range (min its.toArray.size ([] : List Value).toArray.size)).all e) && (its.toArray.size == ([] : List Value).toArray.size)) = xs.isEmpty := by
  have hl := r.length
  have e1 : min its.toArray.size ([] : List Value).toArray.size = 0 := by simp
  rw [e1]
  cases xs with
  | nil =>
    have : its = [] := List.eq_nil_of_length_eq_zero hl.symm
    subst this; rfl
  | cons x t =>
    cases its with
    | nil => cases hl
    | cons _ _ => rfl
theorem op_eqU (hu : X.A.units + 64 < cLine) : OpR X (compareOp .Eq) (fun x y H Q => ∃ a b xs, x = V.ref a ∧ y = V.ref b ∧ SqT X.K H a xs ∧ SqT X.K H b [] ∧ Q (.bl xs.isEmpty) H) := by
  intro pins s σ H x y v u Q I rx ry h
  obtain ⟨a, b, xs, rfl, rfl, ha, hb, q⟩ := h
  cases (show v = Value.ref a from rx)
  cases (show u = Value.ref b from ry)
  obtain ⟨its, r, pl, hz⟩ := I.tuple ha
  obtain ⟨its2, r2, pl2, _⟩ := I.tuple hb
  have e2 : its2 = [] := by cases r2; rfl
  subst e2
  show wpAny _ _ (richCompare .Eq (.ref a) (.ref b)) _ _ s
  refine SeqAt.RcAt.tuples (e := fun _ => true) pl pl2 (by omega) (fun j h1 h2 => absurd h2 (by simp)) X.prog X.w X.xe _ ?_
  rw [unit_len r]
  exact ⟨.bl _, H, I, rfl, q⟩
def eqUD (neg : Bool) : G2 := fun x y Q => match x, y with
  | .tup ds, .tup [] => Q (.bl (neg != ds.isEmpty))
  | _, _ => False
theorem emp_reps {w : Wd} {ds : List D} {vs : List V} (r : Reps G w ds vs) : vs.isEmpty = ds.isEmpty := by
  have h := r.length
  cases ds <;> cases vs <;> first | rfl | cases h
theorem opl_eqU (hu : X.A.units + 64 < cLine) (hK : X.K = G.K := by rfl) : OpL G X (compareOp .Eq) (eqUD false) := by
  refine ⟨_, op_eqU hu, fun H0 w H x y v u Q QD ok sx sy g k => ?_⟩
  match x, y, g with
  | .tup ds, .tup [], g =>
    obtain ⟨a, vs, rfl, s1, r1⟩ := sx.tup_of ok
    obtain ⟨b, us, rfl, s2, r2⟩ := sy.tup_of ok
    rw [r2.of_nil] at s2
    refine ⟨a, b, vs, rfl, rfl, hK ▸ s1, hK ▸ s2, ?_⟩
    rw [emp_reps r1]
    have g : QD (.bl (false != ds.isEmpty)) := g
    rw [Bool.false_bne] at g
    exact k _ _ w H (.refl w H) ok Rep.bl g
end
def eqUX (neg : Bool) : O2 := fun x y => match x, y with
  | .tup ds, .tup [] => some (.bl (neg != ds.isEmpty))
  | _, _ => none
theorem g_eqU {neg : Bool} : CG2 (eqUD neg) (eqUX neg) := fun x y d Q e q => by
  match x, y, e with
  | .tup ds, .tup [], e => cases e; exact q
end DL
/-! xs.count(True), xs.index(True): lists of bools. -/
namespace DL
open PySem L2 PyProof.Rows
section
variable {G : Gm} {X : Cx} {E : XK}
variable {o e : Expr} {apos cpos : Pos} {A B : FE}
end
end DL
/-! x in xs, xs a list of tuples, x a dict too. -/
namespace DL
open PySem L2 PyProof.Rows
section
variable {A : Around} {s : Shared}
end
section
variable {G : Gm} {X : Cx}
end
end DL
/-! int(text). -/
namespace DL
open PySem L2 PyProof.Rows
section
variable {G : Gm} {X : Cx}
def intC2 : CG := fun ds Q => match ds with
  | [.int i] => Q (.int i)
  | [.bl b] => Q (.int (if b then 1 else 0))
  | [.str z] => ∃ n, PySem.intText? z = some n ∧ z.length ≤ 640 ∧ Q (.int n)
  | _ => False
theorem cal_int2 : CaL G X (.type "int") intC2 := by
  refine ⟨_, call_int1.or call_int_str, fun H0 w H ds vs Q QD ok sx g k => ?_⟩
  match ds, g with
  | [.int i], g =>
    obtain ⟨v, rfl, s1⟩ := sx.one
    rw [s1.int_of]
    exact .inl (.inl ⟨i, rfl, k _ _ w H (.refl w H) ok Rep.int g⟩)
  | [.bl b], g =>
    obtain ⟨v, rfl, s1⟩ := sx.one
    rw [s1.bl_of]
    exact .inl (.inr ⟨b, rfl, k _ _ w H (.refl w H) ok Rep.int g⟩)
  | [.str z], g =>
    obtain ⟨v, rfl, s1⟩ := sx.one
    rw [s1.str_of]
    obtain ⟨n, h1, h2, q⟩ := g
    exact .inr ⟨z, n, rfl, h1, h2, k _ _ w H (.refl w H) ok Rep.int q⟩
end
def intCX2 : List D → Option D
  | [.int i] => some (.int i)
  | [.bl b] => some (.int (if b then 1 else 0))
  | [.str z] => if z.length ≤ 640 then (PySem.intText? z).map D.int else none
  | _ => none
theorem g_intC2 : CCG intC2 intCX2 := fun ds d Q e q => by
  match ds, e with
  | [.int i], e => cases e; exact q
  | [.bl i], e => cases e; exact q
  | [.str z], e =>
    have e : (if z.length ≤ 640 then (PySem.intText? z).map D.int else none) = some d := e
    by_cases h : z.length ≤ 640
    · rw [if_pos h] at e
      obtain ⟨n, h1, rfl⟩ := Option.map_eq_some_iff.mp e
      exact ⟨n, h1, h, q⟩
    · rw [if_neg h] at e; cases e
end DL
/-! Classmethods: their defs (the class in an unread slot), their calls by position. -/
namespace DL
open PySem L2 PyProof.Rows
/-- the frame of a classmethod: the class stands in the first slot -/
def startC (N : List Str) (ds : List D) : Env := Sl.un :: startD N.tail ds
theorem fr_startC {G : Gm} {w : Wd} {H : Hp} {c : Str} {N : List Str} {ds : List D} {v : V} {vs : List V} (ok : Ok w H) (r : Reps G w ds vs) : Fr G w H (startC (c :: N) ds) (L2.start (c :: N) (v :: vs)) w H := by
  have f := fr_start (N := N) ok r
  have e : L2.start (c :: N) (v :: vs) = some v :: L2.start N vs := by
    unfold L2.start
    rw [List.length_cons, List.length_cons, Nat.add_sub_add_right]; rfl
  rw [e]
  refine ⟨ok, .refl w H, by unfold startC; rw [List.length_cons, List.length_cons, List.tail_cons, f.len], fun i x h => ?_, fun i j x y a e1 e2 o1 o2 h1 h2 => ?_⟩
  · cases i with
    | zero => cases h; trivial
    | succ i => exact f.slot i x h
  · cases i with
    | zero => cases e1; cases o1
    | succ i =>
      cases j with
      | zero => cases e2; cases o2
      | succ j => exact congrArg (· + 1) (f.dist i j x y a e1 e2 o1 o2 h1 h2)
theorem Sim.startC {x : Addr} {N : List Str} {ds : List D} : Sim x (Sl.un :: DL.startD N ds) (Sl.un :: DL.startD N ds) := by
  have h := Sim.startD (x := x) (N := N) (ds := ds)
  unfold Sim at h ⊢
  rw [List.map_cons, ← h]; rfl
theorem spOf_pureC {N : List Str} {n : Nat} {B : FS} {b : Env → RS} (hb : CS B b) {ds : List D} {Q : D → Prop} {EX : XP} (h : spOf (cfOf N n fun r => b (Sl.un :: r)) ds Q EX) : B { nx := fun _ => Q .non, rt := Q } EX (Sl.un :: startD N ds) := by
  have hl := spOf_len h
  unfold spOf cfOf at h
  rw [if_pos hl] at h
  refine hb (x := 0) _ _ _ EX Sim.startC ?_
  cases e : b (Sl.un :: startD N ds) with
  | nx r => simp only [e] at h; exact fun _ _ => h
  | rt d => simp only [e] at h; exact h
  | rn d => simp only [e] at h; exact h.elim
  | ex x => simp only [e] at h; exact h
  | bk r => simp only [e] at h; exact h.elim
  | ct r => simp only [e] at h; exact h.elim
  | no => simp only [e] at h; exact h.elim
def liftC (G : Gm) (C : Addr) (sp : DSp) : Sp := fun vs H Q E => ∃ vr, vs = .ref C :: vr ∧ lift G sp vr H Q E
section
variable {P : Program} {w : World} {mg : Str → Option Value} {base : Heap} {k : Nat} {f C : Addr} {c : Str} {N ps : List Str} {G : Gm}
theorem okCm {x qual : Str} {st : Stmt} {fd : FuncData} {sp : DSp} {B : FS} (F : Fun G.K x qual st f fd) (S : FnScope (c :: N) (c :: ps) (defScope st)) (len : ∀ ds Q EX, sp ds Q EX → ds.length = ps.length)
    (body : ∀ (cdv : Value) (A : Around) (outer : List PySem.Env) (s : Shared) (H : Hp) (E : XK), A.guards = some [] → Room k (A.deeper (envOfC qual (defScope st) s.heap.objs.size f cdv)) →
      PSs (cxOf (L2.CX P w) P w G.K mg base (c :: N) qual (defScope st) f cdv A outer s H E) (defBody st) (sD G E B))
    (pure : ∀ ds Q EX, sp ds Q EX → B { nx := fun _ => Q .non, rt := Q } EX (startC (c :: N) ds)) : FnG P w G.K mg base (k + 1) f fd (c :: ps) (liftC G C sp) := by
  refine Fun.okG F S (fun vs H Q E ⟨vr, e, w, ds, QD, EX, _, r, h, _⟩ => by rw [e, List.length_cons, List.length_cons, ← r.length]; exact congrArg (· + 1) (len _ _ _ h)) fun cdv A outer s H vs Q E hg hr ⟨vr, e, w, ds, QD, EX, ok, r, h, k, lk⟩ => ⟨_, body cdv A outer s H E hg hr, ?_⟩
  subst e
  exact ⟨w, H, w, startC (c :: N) ds, w, { nx := fun _ => QD .non, rt := QD }, EX, fr_startC ok r, .refl w, lk, ⟨fun r s w' H' fr _ q => k .non .non w' H' fr.le fr.ok Rep.non q, fun d v w' H' l ok' rp q => k d v w' H' l ok' rp q, fun _ _ _ _ _ _ q => q.elim, fun _ _ _ _ _ _ q => q.elim, fun _ _ _ _ _ _ _ _ _ _ q => q.elim⟩, pure ds QD EX h⟩
end
section
variable {X : Cx} {G : Gm} {E : XK} {k : Nat} {f C p g : Addr} {mc : Value} {fd : FuncData} {ps : List Str} {dvs : List V} {dsv : List Value} {x m : Str} {pos apos npos : Pos} {e o : Expr} {es : List Expr} {B : FA} {sp : DSp} {pl : Sem Bool}
theorem run_cmG {sp : Sp} {q : Addr} {pins : List (Addr × Obj)} {σ : L2.St} {H : Hp} {s : Shared} {Q : VK} {us : List Value} {vs : List V} (F : FnG X.prog X.w X.K X.mg X.base k g fd ps sp) (hgd : X.A.guards = some []) (hr : Room k X.A) (hb : Binds X.K fd ps dsv) (hd : Vals dvs dsv) (hx : PassX X E)
    (I : Inv X ((q, PySem.W.methodObj (.ref g) (.ref C)) :: pins) σ H s) (r : Vals vs us) (h : sp ((.ref C :: vs) ++ dvs) H Q E) : wpAny (model X.prog X.w) X.A (call (.ref q) us) (EP X pins σ Q) X.xe s := by
  have both : Vals ((V.ref C :: vs) ++ dvs) ((Value.ref C :: us) ++ dsv) := Vals.append (.cons rfl r) hd
  have nl : ((Value.ref C :: us) ++ dsv).length = ps.length := both.length.symm.trans (F.len _ _ _ _ h)
  refine wpAny_call (PySem.W.method_call (ClX.pin_at I) (codeAny_mono (F.run X.A X.stack s H ⟨.ref C :: us, []⟩ ((.ref C :: us) ++ dsv) ((.ref C :: vs) ++ dvs) Q E hgd hr I.env0 (hb s (.ref C :: us) I.kIn nl) both h) ?_))
  rintro (er | fl) s' hq
  · exact hx pins σ H s er s' (ClX.unpin I) hq
  · cases fl <;> first
      | exact ClX.unpinE (I.after hq)
      | exact hq.elim
theorem ce_cmeth (hm : X.mg x = some (.ref C)) (r : ClX.CRead X.K C mc) (c : ClX.CMet X.K C mc m p g) (F : FnG X.prog X.w X.K X.mg X.base k g fd ps (liftC G C sp)) (hb : Binds X.K fd ps []) (hgd : X.A.guards = some []) (hr : Room k X.A) (hx : PassX X E)
    (ha : PA X (e :: es) (taD G E B)) (hg : Gl X x := by rfl) (hdb : (x == ("__debug__" : Str)) = false := by decide)
    (hst : starEach (e :: es) X.env = (false, eval e X.env) :: starEach es X.env := by rfl) (hpl : (backTo pos (starEach es X.env)).any (·.1) = false := by rfl)
    (ht : eval (.Call (.Attribute (.Name x npos) m apos) (e :: es) [] pos) X.env = (do
      let ov ← eval (.Name x npos) X.env
      standAt apos.atName
      let (f, first) ← holding [ov] (getMethod ov m pl)
      callWith pos f first (backTo pos (starEach (e :: es) X.env)) (backToKw pos (keywordEach [] X.env))) := by rfl) :
    PE X (.Call (.Attribute (.Name x npos) m apos) (e :: es) [] pos) (tD G E (fCall sp B)) := by
  refine ⟨fun pins s σ H Q I h => ?_⟩
  obtain ⟨w0, H0, r0, w, QD, EX, fr, lk, f0, kk⟩ := h
  have hn : PE X (.Name x npos) (tC (.ref C)) := pe_glob hg hm rfl hdb
  refine PySem.W.methodCall_KW (pl := pl) (thn (hn.run pins s σ H (fun v H1 => v = .ref C ∧ H1 = H) I ⟨rfl, rfl⟩) ?_) ht
  rintro u s1 ⟨v, H1, I1, rx, rfl, rfl⟩
  cases (show u = Value.ref C from rx)
  refine ClX.getmethcm_ok I1 r c fun s2 I2 => ?_
  refine ClX.callwith_cm I2 (ClX.base_none I1 (Nat.le_refl _)) c.fi (thn (ha.run pos _ s2 σ H1 _ I2 ⟨w0, H0, r0, w, (fun ds => sp ds QD EX), EX, fr, lk, f0, fun ds vs w1 H2 l1 ok1 r1 q1 => (⟨w1, ds, l1, ok1, r1, q1⟩ : ∃ w1 ds, Le w H1 w1 H2 ∧ Ok w1 H2 ∧ Reps G w1 ds vs ∧ sp ds QD EX)⟩) fun us s3 ⟨vs, H2, I3, rv, w1, ds, l1, ok1, r1, q1⟩ => ⟨⟨ClX.pin_at I3, I3.kIn⟩, ?_⟩) hst hpl
  refine run_cmG (dvs := []) (dsv := []) F hgd hr hb .nil hx I3 rv ?_
  rw [List.append_nil]
  exact ⟨vs, rfl, w1, ds, QD, EX, ok1, r1, q1, fun d v w2 H2 l2 ok2 r2 q2 => kk d v w2 H2 (l1.trans l2) ok2 r2 q2, lk.go (fr.le.trans l1)⟩
end
end DL
/-! Plain law, part 1: settings of parts, neighbours, peaks. No program in sight. -/
namespace TP
open DL
abbrev Tx := List Nat
/-! ### settings of a part -/
def setsF (found : List Tx) : List Tx → List Tx
  | [] => found
  | p :: ps => setsF (found.flatMap fun b => p.map fun c => b ++ [c]) ps
def sets (ps : List Tx) : List Tx := setsF [[]] ps
def fits : Tx → List Tx → Prop
  | [], [] => True
  | c :: s, p :: ps => c ∈ p ∧ fits s ps
  | _, _ => False
theorem mem_setsF : ∀ {ps : List Tx} {found : List Tx} {s : Tx}, s ∈ setsF found ps ↔ ∃ b ∈ found, ∃ t, s = b ++ t ∧ fits t ps
  | [], found, s => by
    unfold setsF
    constructor
    · intro h; exact ⟨s, h, [], by simp, trivial⟩
    · rintro ⟨b, hb, t, e, f⟩
      cases t with
      | nil => rw [e, List.append_nil]; exact hb
      | cons _ _ => exact f.elim
  | p :: ps, found, s => by
    unfold setsF
    rw [mem_setsF]
    constructor
    · rintro ⟨b, hb, t, e, f⟩
      obtain ⟨b0, hb0, h⟩ := List.mem_flatMap.mp hb
      obtain ⟨c, hc, rfl⟩ := List.mem_map.mp h
      exact ⟨b0, hb0, c :: t, by rw [e]; simp, hc, f⟩
    · rintro ⟨b, hb, t, e, f⟩
      cases t with
      | nil => exact f.elim
      | cons c t =>
        exact ⟨b ++ [c], List.mem_flatMap.mpr ⟨b, hb, List.mem_map.mpr ⟨c, f.1, rfl⟩⟩, t, by rw [e]; simp, f.2⟩
theorem mem_sets {ps : List Tx} {s : Tx} : s ∈ sets ps ↔ fits s ps := by
  unfold sets
  rw [mem_setsF]
  constructor
  · rintro ⟨b, hb, t, e, f⟩
    rw [List.mem_singleton.mp hb] at e
    rw [e]; exact f
  · intro f; exact ⟨[], List.mem_singleton.mpr rfl, s, rfl, f⟩
theorem fits.len : ∀ {s : Tx} {ps : List Tx}, fits s ps → s.length = ps.length
  | [], [], _ => rfl
  | c :: s, p :: ps, h => by simp [fits.len h.2]
  | [], _ :: _, h => h.elim
  | _ :: _, [], h => h.elim
theorem fits.at : ∀ {s : Tx} {ps : List Tx}, fits s ps → ∀ {k : Nat}, k < ps.length → s.getD k 0 ∈ ps.getD k []
  | [], [], _, k, h => by simp at h
  | c :: s, p :: ps, h, 0, _ => h.1
  | c :: s, p :: ps, h, k + 1, hk => by
    have := fits.at h.2 (k := k) (by simpa using hk)
    simpa using this
  | [], _ :: _, h, _, _ => h.elim
  | _ :: _, [], h, _, _ => h.elim
theorem fits_of : ∀ {s : Tx} {ps : List Tx}, s.length = ps.length → (∀ k, k < ps.length → s.getD k 0 ∈ ps.getD k []) → fits s ps
  | [], [], _, _ => trivial
  | c :: s, p :: ps, hl, h => ⟨h 0 (by simp), fits_of (by simpa using hl) fun k hk => by simpa using h (k + 1) (by simpa using hk)⟩
  | [], _ :: _, hl, _ => by simp at hl
  | _ :: _, [], hl, _ => by simp at hl
theorem len_setsF : ∀ {ps : List Tx} {found : List Tx}, (setsF found ps).length = found.length * (ps.map List.length).prod
  | [], found => by simp [setsF]
  | p :: ps, found => by
    unfold setsF
    rw [len_setsF]
    have : (found.flatMap fun b => p.map fun c => b ++ [c]).length = found.length * p.length := by
      induction found with
      | nil => simp
      | cons b bs ih => simp [List.flatMap_cons, ih, Nat.add_mul]; omega
    rw [this, List.map_cons, List.prod_cons, Nat.mul_assoc]
theorem len_sets {ps : List Tx} : (sets ps).length = (ps.map List.length).prod := by
  unfold sets; rw [len_setsF]; simp

theorem prod3 : ∀ {p : List Tx} {n : Nat}, (∀ x ∈ p, x.length ≤ 3) → p.length ≤ n → (p.map List.length).prod ≤ 3 ^ n
  | [], n, _, _ => by simp; exact Nat.one_le_pow _ _ (by decide)
  | x :: p, 0, _, h => by simp at h
  | x :: p, n + 1, h, hl => by
    rw [List.map_cons, List.prod_cons, Nat.pow_succ, Nat.mul_comm (3 ^ n)]
    exact Nat.mul_le_mul (h x List.mem_cons_self) (prod3 (fun y hy => h y (List.mem_cons_of_mem _ hy)) (by simpa using hl))
/-- a part of up to five switches with up to three stands each -/
structure Small (p : List Tx) : Prop where
  len : p.length ≤ 5
  three : ∀ x ∈ p, x.length ≤ 3
theorem Small.sets {p : List Tx} (h : Small p) : (sets p).length ≤ 243 := by
  rw [len_sets]
  exact prod3 h.three h.len
theorem Small.pre {p q : List Tx} (h : Small (p ++ q)) : Small p := ⟨by have := h.len; rw [List.length_append] at this; omega, fun x hx => h.three x (List.mem_append_left _ hx)⟩
theorem fits.len5 {s : Tx} {p : List Tx} (h : fits s p) (hp : Small p) : s.length ≤ 5 := by rw [h.len]; exact hp.len
/-! ### neighbours -/
def turned (s : Tx) (k : Nat) (c : Tx) : Tx := s.take k ++ c ++ s.drop (k + 1)
def side (part : List Tx) (s : Tx) (k : Nat) : List Tx := ((part.getD k []).filter fun c => decide (c ≠ s.getD k 0)).map fun c => turned s k [c]
def besideRaw (part : List Tx) (s : Tx) : List Tx := (List.range part.length).flatMap fun k => side part s k
def beside (part : List Tx) (s : Tx) : List Tx := isort ltN (besideRaw part s)
theorem mem_beside {part : List Tx} {s e : Tx} : e ∈ beside part s ↔ ∃ k, k < part.length ∧ ∃ c, c ∈ part.getD k [] ∧ c ≠ s.getD k 0 ∧ e = turned s k [c] := by
  unfold beside
  rw [isort_perm.mem_iff]
  unfold besideRaw
  rw [List.mem_flatMap]
  constructor
  · rintro ⟨k, hk, h⟩
    unfold side at h
    obtain ⟨c, hc, rfl⟩ := List.mem_map.mp h
    obtain ⟨h1, h2⟩ := List.mem_filter.mp hc
    exact ⟨k, by simpa using hk, c, h1, of_decide_eq_true h2, rfl⟩
  · rintro ⟨k, hk, c, h1, h2, rfl⟩
    refine ⟨k, by simpa using hk, ?_⟩
    unfold side
    exact List.mem_map.mpr ⟨c, List.mem_filter.mpr ⟨h1, decide_eq_true h2⟩, rfl⟩
theorem turned_len {s : Tx} {k : Nat} {c : Nat} (h : k < s.length) : (turned s k [c]).length = s.length := by
  unfold turned
  simp
  omega
theorem turned_eq_set : ∀ {s : Tx} {k : Nat} {c : Nat}, k < s.length → turned s k [c] = s.set k c
  | [], k, c, h => by simp at h
  | x :: s, 0, c, h => by simp [turned]
  | x :: s, k + 1, c, h => by
    have ih := turned_eq_set (s := s) (k := k) (c := c) (by simpa using h)
    unfold turned at ih ⊢
    simp only [List.take_succ_cons, List.drop_succ_cons, List.set_cons_succ, List.cons_append]
    rw [ih]
theorem set_getD {s : Tx} {k j c : Nat} (h : k < s.length) : (s.set k c).getD j 0 = if j = k then c else s.getD j 0 := by
  rw [List.getD_eq_getElem?_getD, List.getElem?_set, List.getD_eq_getElem?_getD]
  by_cases e : j = k
  · subst e; simp [h]
  · rw [if_neg (fun z => e z.symm), if_neg e]
/-- in how many places two settings differ -/
def dif (e s : Tx) : Nat := ((List.range s.length).filter fun k => decide (e.getD k 0 ≠ s.getD k 0)).length
theorem ext_getD : ∀ {a b : Tx}, a.length = b.length → (∀ k, k < b.length → a.getD k 0 = b.getD k 0) → a = b
  | [], [], _, _ => rfl
  | x :: a, y :: b, hl, h => by
    have h0 := h 0 (by simp)
    have := ext_getD (a := a) (b := b) (by simpa using hl) fun k hk => by simpa using h (k + 1) (by simpa using hk)
    simp at h0
    rw [h0, this]
  | [], _ :: _, hl, _ => by simp at hl
  | _ :: _, [], hl, _ => by simp at hl
theorem filter_one {n : Nat} {p : Nat → Bool} : ((List.range n).filter p).length = 1 ↔ ∃ k, k < n ∧ p k = true ∧ ∀ j, j < n → p j = true → j = k := by
  constructor
  · intro h
    obtain ⟨k, hk⟩ := List.length_eq_one_iff.mp h
    have mk : k ∈ (List.range n).filter p := by rw [hk]; simp
    obtain ⟨h1, h2⟩ := List.mem_filter.mp mk
    refine ⟨k, by simpa using h1, h2, fun j hj hp => ?_⟩
    have : j ∈ (List.range n).filter p := List.mem_filter.mpr ⟨by simpa using hj, hp⟩
    rw [hk] at this
    exact List.mem_singleton.mp this
  · rintro ⟨k, hk, hp, hu⟩
    have hn : ((List.range n).filter p).Nodup := List.nodup_range.filter _
    have : ((List.range n).filter p).Perm [k] := by
      refine (List.perm_ext_iff_of_nodup hn (by simp)).mpr fun j => ?_
      rw [List.mem_filter, List.mem_singleton, List.mem_range]
      constructor
      · rintro ⟨a, b⟩; exact hu j a b
      · rintro rfl; exact ⟨hk, hp⟩
    rw [this.length_eq]; rfl
theorem dif_one {e s : Tx} (hl : e.length = s.length) : dif e s = 1 ↔ ∃ k, k < s.length ∧ e.getD k 0 ≠ s.getD k 0 ∧ e = turned s k [e.getD k 0] := by
  unfold dif
  rw [filter_one]
  constructor
  · rintro ⟨k, hk, h1, h2⟩
    refine ⟨k, hk, of_decide_eq_true h1, ?_⟩
    rw [turned_eq_set hk]
    refine ext_getD (by rw [List.length_set, hl]) fun j hj => ?_
    rw [List.length_set] at hj
    rw [set_getD hk]
    by_cases q : j = k
    · rw [if_pos q, q]
    · rw [if_neg q]
      exact Decidable.byContradiction fun z => q (h2 j hj (decide_eq_true z))
  · rintro ⟨k, hk, h1, h2⟩
    refine ⟨k, hk, decide_eq_true h1, fun j hj hp => ?_⟩
    have hp' := of_decide_eq_true hp
    refine Decidable.byContradiction fun q => hp' ?_
    rw [h2, turned_eq_set hk, set_getD hk, if_neg q]
/-- the neighbours in a part that the setting is in -/
theorem mem_beside_fits {part : List Tx} {s e : Tx} (hs : fits s part) : e ∈ beside part s ↔ fits e part ∧ dif e s = 1 := by
  have hl := hs.len
  rw [mem_beside]
  constructor
  · rintro ⟨k, hk, c, hc, hne, rfl⟩
    have hk' : k < s.length := by omega
    have el : (turned s k [c]).length = s.length := turned_len hk'
    have g : (turned s k [c]).getD k 0 = c := by rw [turned_eq_set hk', set_getD hk', if_pos rfl]
    refine ⟨fits_of (by omega) fun j hj => ?_, (dif_one el).mpr ⟨k, hk', by rw [g]; exact hne, by rw [g]⟩⟩
    rw [turned_eq_set hk', set_getD hk']
    by_cases q : j = k
    · rw [if_pos q, q]; exact hc
    · rw [if_neg q]; exact hs.at hj
  · rintro ⟨fe, d⟩
    obtain ⟨k, hk, h1, h2⟩ := (dif_one (by rw [fe.len, hl])).mp d
    exact ⟨k, by omega, e.getD k 0, fe.at (by omega), h1, h2⟩
/-! ### places in an order -/
/-- the place of a text -/
def idx (o : List Tx) (s : Tx) : Nat := o.idxOf s
theorem idx_lt {o : List Tx} {s : Tx} (h : s ∈ o) : idx o s < o.length := List.idxOf_lt_length_iff.mpr h
def near (w : List Tx) (s : Tx) : List Tx := (sets w).filter fun e => decide (dif e s = 1)
end TP
/-! Runs over typed data: texts as lists of signs, lists of texts. -/
namespace DL
open PySem L2 PyProof.Rows TP
def sx (l : Tx) : Str := ⟨⟨l⟩⟩
abbrev st (l : Tx) : D := .str (sx l)
def sts (xs : List Tx) : List D := xs.map st
theorem sts_app {x y : List Tx} : sts (x ++ y) = sts x ++ sts y := List.map_append
theorem sts_len {x : List Tx} : (sts x).length = x.length := List.length_map _
theorem sx_app {a b : Tx} : sx a ++ sx b = sx (a ++ b) := by
  show (⟨(⟨a⟩ : Array Nat) ++ ⟨b⟩⟩ : Str) = ⟨⟨a ++ b⟩⟩
  rw [List.append_toArray]
theorem sl_eq : sizeLine = 16777216 := sizeLine_eq
theorem gd_pos {p : Prop} [Decidable p] {a : D} (h : p) : gd p a = some a := by unfold gd; rw [if_pos h]
theorem neX_st {a b : Tx} : neX (st a) (st b) = some (.bl (!decide (a = b))) := rfl
theorem leX_int {a b : Int} : leX (.int a) (.int b) = some (.bl (decide (a ≤ b))) := rfl
theorem gtX_int {a b : Int} : gtX (.int a) (.int b) = some (.bl (decide (b < a))) := rfl
theorem shp_int (a : Int) : shpB (.int a) = true := rfl
theorem eqX_int {a b : Int} : eqX (.int a) (.int b) = some (.bl (decide (a = b))) := by
  show gd ((shpB (.int a) && shpB (.int b)) = true) (.bl (eqb (.int a) (.int b))) = _
  rw [gd_pos (by rw [shp_int, shp_int]; rfl)]
  rfl
theorem ixX_tup {a : List D} {n : Nat} {d : D} (h : a[n]? = some d) : ixX (.tup a) (.int n) = some d := h
theorem ixX_lst {a : List D} {n : Nat} {d : D} (h : a[n]? = some d) : ixX (.lst a) (.int n) = some d := h
theorem strsOf_sts : ∀ {xs : List Tx}, strsOf (sts xs) = some (xs.map sx)
  | [] => rfl
  | x :: xs => by
    show (strsOf (sts xs)).map (sx x :: ·) = _
    rw [strsOf_sts]; rfl
theorem blsOf_map : ∀ {xs : List Bool}, blsOf (xs.map D.bl) = some xs
  | [] => rfl
  | x :: xs => by
    show (blsOf (xs.map D.bl)).map (x :: ·) = _
    rw [blsOf_map]; rfl
/-! ### comprehensions -/
section
variable {α β : Type}
theorem lcG_ok {e : α → D} {g : D → List Sl → Option (List Sl)} {t : List Sl → R Bool} {f : List Sl → R D} {r : List Sl} {p : α → Bool} {h : α → D} :
    ∀ (xs : List α) (n : Nat) (acc : List D), (∀ x ∈ xs, ∃ r1, g (e x) r = some r1 ∧ t r1 = .ok (p x) ∧ (p x = true → f r1 = .ok (h x))) → n + xs.length ≤ 16777216 →
      lcG g t f r (xs.map e) n acc = .ok (n + (xs.filter p).length, ((xs.filter p).map h).reverse ++ acc)
  | [], n, acc, _, _ => rfl
  | x :: xs, n, acc, hb, hl => by
    obtain ⟨r1, h1, h2, h3⟩ := hb x List.mem_cons_self
    rw [List.map_cons]
    unfold lcG
    rw [h1]
    dsimp only
    rw [h2]
    simp only [R.cut, R.bind]
    have hb' : ∀ y ∈ xs, _ := fun y hy => hb y (List.mem_cons_of_mem _ hy)
    rw [List.length_cons] at hl
    cases hp : p x with
    | false =>
      rw [if_neg Bool.false_ne_true, lcG_ok xs n acc hb' (by omega), List.filter_cons_of_neg (by rw [hp]; exact Bool.false_ne_true)]
    | true =>
      rw [if_pos rfl, h3 hp]
      simp only
      rw [if_pos (by rw [Nat.blt_eq]; omega), frc_eq, lcG_ok xs (n + 1) _ hb' (by omega), List.filter_cons_of_pos hp]
      simp only [List.length_cons, List.map_cons, List.reverse_cons, List.append_assoc, List.cons_append, List.nil_append]
      rw [show n + 1 + (xs.filter p).length = n + ((xs.filter p).length + 1) by omega]
theorem xLc_ok {e : α → D} {s : List Sl → R (List D)} {vs : List Nat} {g : D → List Sl → Option (List Sl)} {t : List Sl → R Bool} {f : List Sl → R D} {r : List Sl} {xs : List α} (p : α → Bool) (h : α → D) (hs : s r = .ok (xs.map e)) (hl : xs.length ≤ 16777216)
    (hb : ∀ x ∈ xs, ∃ r1, g (e x) (wipeD r vs) = some r1 ∧ t r1 = .ok (p x) ∧ (p x = true → f r1 = .ok (h x))) : xLc s vs g t f r = .ok ((xs.filter p).map h) := by
  unfold xLc
  rw [hs]
  simp only [R.bind]
  rw [lcG_ok xs 0 [] hb (by omega)]
  simp
end
theorem rangeD_nat {n : Nat} : rangeD 0 (n : Int) = (List.range n).map fun i => D.int (i : Nat) := by
  unfold rangeD
  simp
theorem filter_tt {α : Type} {l : List α} : l.filter (fun _ => true) = l := List.filter_eq_self.mpr fun _ _ => rfl
theorem bind_ok {α β : Type} {a : α} {f : α → R β} : (R.ok a).bind f = f a := rfl
theorem seqD_st {a : Tx} : seqD (.str (sx a)) = some (a.map fun c => st [c]) := rfl
theorem iA_ok {a : List Sl → R D} {r : List Sl} {d : D} {ds : List D} (h : a r = .ok d) (h2 : seqD d = some ds) : iA a r = .ok ds := by
  unfold iA; rw [h]; show (match seqD d with
    | some ds => R.ok ds
    | none => R.no) = _
  rw [h2]
theorem rng1_eq {a : List Sl → R (List D)} {r : List Sl} {n : Int} (h : a r = .ok [.int n]) : iRng1 a r = if -(2 ^ 62) ≤ n ∧ n < 2 ^ 62 then .ok (rangeD 0 n) else .no := by
  unfold iRng1
  rw [h]
  rfl
theorem rng1_ok {a : List Sl → R (List D)} {r : List Sl} {n : Nat} (h : a r = .ok [.int (n : Int)]) (h2 : n < 1000000000) : iRng1 a r = .ok (rangeD 0 (n : Int)) := by
  rw [rng1_eq h]
  have h3 : (n : Int) < 1000000000 := by omega
  have h4 : (0 : Int) ≤ (n : Int) := Int.natCast_nonneg n
  exact if_pos ⟨Int.le_trans (by decide : -(2 ^ 62 : Int) ≤ 0) h4, Int.lt_trans h3 (by decide : (1000000000 : Int) < 2 ^ 62)⟩
theorem mulAX_int {a b : Int} (h : -(2 ^ 64) < b ∧ b < 2 ^ 64) : mulAX (.int a) (.int b) = some (.int (a * b)) := gd_pos (.inr h)
end DL
/-! Runs stepped through, goal by goal: W for statements, equations for expressions. -/
namespace DL
open PySem L2 PyProof.Rows TP
def RS.w : RS → DE → XP → Prop
  | .nx r, A, _ => A.nx r
  | .rt d, A, _ => A.rt d
  | .bk r, A, _ => A.bk r
  | .ct r, A, _ => A.ct r
  | .rn ds, A, _ => A.rn ds
  | .ex x, _, EX => EX x
  | .no, _, _ => False
@[irreducible] def W (c : List Sl → RS) (A : DE) (EX : XP) (r : List Sl) : Prop := (c r).w A EX
section
variable {A : DE} {EX : XP} {r : List Sl} {a b : List Sl → RS} {e e1 e2 : List Sl → R D} {i j : Nat}
theorem W_def {c : List Sl → RS} : W c A EX r = (c r).w A EX := by unfold W; rfl
theorem W_eq {c : List Sl → RS} {z : RS} (h : c r = z) (k : z.w A EX) : W c A EX r := by unfold W; rw [h]; exact k
theorem W_seq (h : W a { A with nx := fun r1 => W b A EX r1 } EX r) : W (ySeq a b) A EX r := by
  unfold W ySeq at *
  cases e : a r with
  | nx r1 => rw [e] at h; exact h
  | rt d => rw [e] at h; exact h
  | bk r1 => rw [e] at h; exact h
  | ct r1 => rw [e] at h; exact h
  | rn d => rw [e] at h; exact h
  | ex x => rw [e] at h; exact h
  | no => rw [e] at h; exact h
theorem W_next (h : A.nx r) : W yNext A EX r := W_eq (z := .nx r) rfl h
theorem W_ret {d : D} (h : e r = .ok d) (k : A.rt d) : W (yRet e) A EX r := W_eq (z := .rt d) (by unfold yRet; rw [h]; rfl) k
theorem W_set {d : D} (h : e r = .ok d) (k : A.nx (r.set i (.val d))) : W (ySet i e) A EX r := W_eq (z := .nx (r.set i (.val d))) (by unfold ySet; rw [h]; show frc d (fun d => RS.nx (r.set i (.val d))) = _; rw [frc_eq]) k
theorem W_if {t : List Sl → R Bool} {v : Bool} (h : t r = .ok v) (k1 : v = true → W a A EX r) (k2 : v = false → W b A EX r) : W (yIf t a b) A EX r := by
  unfold W yIf
  rw [h]
  show RS.w (if v = true then a r else b r) A EX
  cases v with
  | true => rw [if_pos rfl, ← W_def]; exact k1 rfl
  | false => rw [if_neg Bool.false_ne_true, ← W_def]; exact k2 rfl
theorem W_par {d d2 : D} {f : List Sl → R (List D)} (h : f r = .ok [d, d2]) (k : A.nx ((r.set i (.val d)).set j (.val d2))) : W (yPar i j f) A EX r :=
  W_eq (z := .nx ((r.set i (.val d)).set j (.val d2))) (by
    unfold yPar; rw [h]
    show frc d (fun d => frc d2 fun d2 => RS.nx ((r.set i (.val d)).set j (.val d2))) = _
    rw [frc_eq, frc_eq]) k
/-- a walk: I holds behind each turn, of what has come -/
theorem forG_W {α : Type} {em : α → D} {g : D → List Sl → Option (List Sl)} (I : List α → List Sl → Prop) {ys : List α} :
    ∀ (xs pre : List α) (r : List Sl), pre ++ xs = ys → I pre r → (∀ p x q, ys = p ++ x :: q → ∀ r, I p r → ∃ r1, g (em x) r = some r1 ∧ W b { A with nx := I (p ++ [x]), ct := I (p ++ [x]), bk := A.nx } EX r1) → (∀ r', I ys r' → A.nx r') → (forG g b (xs.map em) r).w A EX
  | [], pre, r, e, hi, _, k => k r (by rw [← e, List.append_nil]; exact hi)
  | x :: xs, pre, r, e, hi, hb, k => by
    obtain ⟨r1, h1, h2⟩ := hb pre x xs e.symm r hi
    rw [List.map_cons]
    unfold forG
    rw [h1]
    dsimp only
    unfold W at h2
    have e2 : pre ++ [x] ++ xs = ys := by rw [← e]; simp
    cases q : b r1 with
    | nx r2 => rw [q] at h2; exact forG_W I xs (pre ++ [x]) r2 e2 h2 hb k
    | ct r2 => rw [q] at h2; exact forG_W I xs (pre ++ [x]) r2 e2 h2 hb k
    | bk r2 => rw [q] at h2; exact h2
    | rt d => rw [q] at h2; exact h2
    | rn d => rw [q] at h2; exact h2
    | ex x => rw [q] at h2; exact h2
    | no => rw [q] at h2; exact h2
theorem W_for {α : Type} {s : List Sl → R (List D)} {g : D → List Sl → Option (List Sl)} {em : α → D} {xs : List α} (I : List α → List Sl → Prop) (hs : s r = .ok (xs.map em)) (h0 : I [] r)
    (hb : ∀ p x q, xs = p ++ x :: q → ∀ r, I p r → ∃ r1, g (em x) r = some r1 ∧ W b { A with nx := I (p ++ [x]), ct := I (p ++ [x]), bk := A.nx } EX r1) (k : ∀ r', I xs r' → A.nx r') : W (yFor s g b) A EX r := by
  unfold W yFor
  rw [hs]
  exact forG_W I xs [] r rfl h0 hb k
theorem S_set {d : D} (h : e r = .ok d) (k : W b A EX (r.set i (.val d))) : W (ySeq (ySet i e) b) A EX r := W_seq (W_set h k)
theorem S_if {t : List Sl → R Bool} {c : List Sl → RS} {v : Bool} (h : t r = .ok v) (k1 : v = true → W a { A with nx := fun r1 => W c A EX r1 } EX r) (k2 : v = false → W b { A with nx := fun r1 => W c A EX r1 } EX r) : W (ySeq (yIf t a b) c) A EX r := W_seq (W_if h k1 k2)
/-- a test that is known not to hold, with nothing else -/
theorem S_skip {t : List Sl → R Bool} {c : List Sl → RS} (h : t r = .ok false) (k : W c A EX r) : W (ySeq (yIf t a yNext) c) A EX r := W_seq (W_if h (fun z => nomatch z) fun _ => W_next k)
/-- what a def answers -/
theorem cf_ok {N : List Str} {n : Nat} {c : List Sl → RS} {ds : List D} {v : D} (hl : ds.length = n) (h : W c { nx := fun _ => v = .non, rt := fun d => d = v } NoX (startD N ds)) : cfOf N n c ds = .ok v := by
  unfold cfOf
  rw [if_pos hl]
  unfold W at h
  cases q : c (startD N ds) with
  | nx r => rw [q] at h; show R.ok D.non = _; rw [show v = .non from h]
  | rt d => rw [q] at h; show R.ok d = _; rw [show d = v from h]
  | bk r => rw [q] at h; exact h.elim
  | ct r => rw [q] at h; exact h.elim
  | rn d => rw [q] at h; exact h.elim
  | ex x => rw [q] at h; exact h.elim
  | no => rw [q] at h; exact h.elim
/-! ### expressions -/
theorem E_2 {c : O2} {x y d : D} (h1 : e1 r = .ok x) (h2 : e2 r = .ok y) (h : c x y = some d) : x2 c e1 e2 r = .ok d := by unfold x2; rw [h1, bind_ok, h2, bind_ok, h]; rfl
theorem E_L {f : List Sl → R (List D)} {ds : List D} (h : f r = .ok ds) : xL f r = .ok (.lst ds) := by unfold xL; rw [h]; rfl
theorem E_cons {f : List Sl → R (List D)} {d : D} {ds : List D} (h : e r = .ok d) (h2 : f r = .ok ds) : xCons e f r = .ok (d :: ds) := by unfold xCons; rw [h, bind_ok, h2]; rfl
theorem E_nil : xNil r = .ok [] := rfl
theorem E_ca {α : Type} {c : List D → Option α} {f : List Sl → R (List D)} {ds : List D} {d : α} (h : f r = .ok ds) (h2 : c ds = some d) : xCa c f r = .ok d := by unfold xCa; rw [h, bind_ok, h2]; rfl
theorem E_tup {f : List Sl → R (List D)} {ds : List D} (h : f r = .ok ds) (h2 : ds.length ≤ 16777216) : xTup f r = .ok (.tup ds) := by unfold xTup; rw [h, bind_ok, if_pos (by rw [sl_eq]; exact h2)]
theorem E_lst {f : List Sl → R (List D)} {ds : List D} (h : f r = .ok ds) (h2 : ds.length ≤ 16777216) : xLst f r = .ok ds := by unfold xLst; rw [h, bind_ok, if_pos (by rw [sl_eq]; exact h2)]
theorem E_call {c : List D → R D} {f : List Sl → R (List D)} {ds : List D} {d : D} (h : f r = .ok ds) (h2 : c ds = .ok d) : xCall c f r = .ok d := by unfold xCall; rw [h, bind_ok, frcs_eq, h2]
theorem E_prop {k : Nat} {c : List D → R D} {fs : List D} {d : D} (h : e r = .ok (.obj k fs)) (h2 : c [.obj k fs] = .ok d) : xProp k c e r = .ok d := by
  unfold xProp
  rw [h, bind_ok]
  show (if k = k then _ else _) = _
  rw [if_pos rfl, h2]
  rfl
theorem E_tb {b : Bool} (h : e r = .ok (.bl b)) : xTb e r = .ok b := by unfold xTb; rw [h]; rfl
theorem E_notT {t : List Sl → R Bool} {b : Bool} (h : t r = .ok b) : xNotT t r = .ok (!b) := by unfold xNotT; rw [h]; rfl
theorem E_orT {t u : List Sl → R Bool} {b c : Bool} (h : t r = .ok b) (h2 : b = false → u r = .ok c) : xOrT t u r = .ok (b || c) := by
  unfold xOrT; rw [h, bind_ok]
  cases b with
  | true => rw [if_pos rfl]; rfl
  | false => rw [if_neg Bool.false_ne_true, h2 rfl]; rfl
theorem E_andT {t u : List Sl → R Bool} {b c : Bool} (h : t r = .ok b) (h2 : b = true → u r = .ok c) : xAndT t u r = .ok (b && c) := by
  unfold xAndT; rw [h, bind_ok]
  cases b with
  | false => rw [if_neg Bool.false_ne_true]; rfl
  | true => rw [if_pos rfl, h2 rfl]; rfl
theorem E_all {xs : List Bool} {f : List Sl → R (List D)} (h : f r = .ok (xs.map D.bl)) : xCa (blsX fun bs => .bl (bs.all id)) (xCons (xL f) xNil) r = .ok (.bl (xs.all id)) := by
  refine E_ca (E_cons (E_L h) E_nil) ?_
  show (blsOf (xs.map D.bl)).map _ = _
  rw [blsOf_map]; rfl
theorem E_kw {f g : List Sl → R (List D)} {ds es : List D} (h1 : f r = .ok ds) (h2 : g r = .ok es) : xKw f g r = .ok (ds, es) := by
  unfold xKw; rw [h1, bind_ok, h2]; rfl
theorem strOX_ok {c : Nat} {m : List D → R D} {fs : List D} {z : Str} (h : m [.obj c fs] = .ok (.str z)) : strOX c m [.obj c fs] = some (.str z) := by
  unfold strOX
  dsimp only
  rw [if_pos rfl, h]
theorem E_isi {tbl : Tag → Option Bool} {d : D} {t : Tag} {b : Bool} (h : e r = .ok d) (h1 : tagD d = some t) (h2 : tbl t = some b) : isiX tbl e r = .ok (.bl b) := by
  unfold isiX; rw [h, bind_ok]
  show (match tagD d with
    | some t => (match tbl t with
      | some b => R.ok (D.bl b)
      | none => .no)
    | none => .no) = _
  rw [h1]
  show (match tbl t with
      | some b => R.ok (D.bl b)
      | none => .no) = _
  rw [h2]
theorem E_and {a b : Bool} (h1 : e1 r = .ok (.bl a)) (h2 : a = true → e2 r = .ok (.bl b)) : xAnd e1 e2 r = .ok (.bl (a && b)) := by
  unfold xAnd; rw [h1, bind_ok]
  cases a with
  | false => rfl
  | true => exact h2 rfl
theorem E_not {a : Bool} (h1 : e1 r = .ok (.bl a)) : xNot e1 r = .ok (.bl (!a)) := by
  unfold xNot; rw [h1]; rfl
theorem E_if {t : List Sl → R Bool} {v : Bool} {d : D} (h : t r = .ok v) (h1 : v = true → e1 r = .ok d) (h2 : v = false → e2 r = .ok d) : xIf t e1 e2 r = .ok d := by
  unfold xIf; rw [h, bind_ok]
  cases v with
  | true => rw [if_pos rfl]; exact h1 rfl
  | false => rw [if_neg Bool.false_ne_true]; exact h2 rfl
end
/-! ### a drawing def's statement that draws nothing -/
def jk : Option D → Sl
  | none => .un
  | some d => .val d
def jo : Option (List D) → Sl
  | none => .un
  | some d => .own d
theorem adr_jo {x : Addr} {a : Option (List D)} : adr x (jo a) = jo a := by cases a <;> rfl
theorem adr_jk {x : Addr} {a : Option D} : adr x (jk a) = jk a := by cases a <;> rfl
theorem adr_val {x : Addr} {d : D} : adr x (.val d) = .val d := rfl
theorem adr_un {x : Addr} : adr x .un = .un := rfl
theorem adr_own {x : Addr} {d : List D} : adr x (.own d) = .own d := rfl
theorem CS.goW {F : FS} {c : List Sl → RS} (h : CS F c) {r : List Sl} (hr : r.map (adr 0) = r) {A : DE} {EX : XP} (hw : W c { nx := fun r1 => r1.map (adr 0) = r1 ∧ A.nx r1, rt := A.rt, bk := fun r1 => r1.map (adr 0) = r1 ∧ A.bk r1, ct := fun r1 => r1.map (adr 0) = r1 ∧ A.ct r1, rn := A.rn } EX r) : F A EX r := by
  refine h (x := 0) r r A EX hr.symm ?_
  rw [W_def] at hw
  cases q : c r with
  | nx r1 =>
    rw [q] at hw
    intro s hs
    rw [show s = r1.map (adr 0) from hs, hw.1]
    exact hw.2
  | bk r1 =>
    rw [q] at hw
    intro s hs
    rw [show s = r1.map (adr 0) from hs, hw.1]
    exact hw.2
  | ct r1 =>
    rw [q] at hw
    intro s hs
    rw [show s = r1.map (adr 0) from hs, hw.1]
    exact hw.2
  | rt d => rw [q] at hw; exact hw
  | rn d => rw [q] at hw; exact hw
  | ex x => rw [q] at hw; exact hw
  | no => rw [q] at hw; exact hw
/-- a test that draws nothing -/
theorem CF.go {α : Type} {F : List Sl → (α → Prop) → XP → Prop} {c : List Sl → R α} (h : CF F c) {r : List Sl} (hr : r.map (adr 0) = r) {d : α} (e : c r = .ok d) {Q : α → Prop} {EX : XP} (q : Q d) : F r Q EX := h (x := 0) r r Q EX hr.symm (by rw [e]; exact q)
end DL
/-! Boards, rankings as data; what is shown of texts. -/
namespace DL
open PySem L2 PyProof.Rows TP
def standsOf (z : Int) : Tx := if z = 2 then [48, 49] else [48, 49, 50]
def full (s : List Int) : List Tx := s.map standsOf
def bd (s : List Int) : D := .obj 1 [.tup [.tup (s.map D.int), .tup (sts (sets (full s)))]]
structure OkS (s : List Int) : Prop where
  len : s.length ≤ 5
  two : ∀ z ∈ s, z = 2 ∨ z = 3
  ne : s ≠ []
theorem standsOf_len {z : Int} : (standsOf z).length ≤ 3 := by unfold standsOf; split <;> decide
theorem OkS.small {s : List Int} (h : OkS s) : Small (full s) where
  len := by unfold full; rw [List.length_map]; exact h.len
  three := fun x hx => by
    obtain ⟨z, _, rfl⟩ := List.mem_map.mp hx
    exact standsOf_len
theorem full_len {s : List Int} : (full s).length = s.length := List.length_map _
theorem full_at {s : List Int} {k : Nat} (h : k < s.length) : (full s).getD k [] = standsOf (s[k]) := by
  unfold full
  rw [List.getD_eq_getElem?_getD, List.getElem?_map, List.getElem?_eq_getElem h]; rfl
theorem full_digit {s : List Int} {t : Tx} (h : fits t (full s)) : ∀ c ∈ t, c < 100 := fun c hc => by
  obtain ⟨k, hk, rfl⟩ := List.mem_iff_getElem.mp hc
  have hl := h.len
  have := h.at (k := k) (by omega)
  have e : t.getD k 0 = t[k] := by rw [List.getD_eq_getElem?_getD, List.getElem?_eq_getElem hk]; rfl
  rw [e, full_at (by rw [← full_len (s := s)]; omega)] at this
  unfold standsOf at this
  split at this <;> simp at this <;> omega
/-! ### what is shown -/
structure Plain (l : Tx) : Prop where
  len : l.length ≤ 5
  lt : ∀ c ∈ l, c < 100
/-! ### what may be compared -/
mutual
def okq : Nat → D → Bool
  | _, .non => true
  | _, .bl _ => true
  | _, .int _ => true
  | _, .str s => PyData.strOk s
  | n + 1, .tup ds => okqs n ds
  | n + 1, .lst ds => okqs n ds
  | _, _ => false
def okqs : Nat → List D → Bool
  | _, [] => true
  | n, d :: ds => okq n d && okqs n ds
end
mutual
theorem okq_ok : ∀ (n : Nat) (d : D), okq n d = true → plain d = true ∧ (pd d).canLay0 = true ∧ (pd d).depth ≤ n
  | _, .non, _ => ⟨rfl, rfl, Nat.zero_le _⟩
  | _, .bl _, _ => ⟨rfl, rfl, Nat.zero_le _⟩
  | _, .int _, _ => ⟨rfl, rfl, Nat.zero_le _⟩
  | n, .str s, h => ⟨rfl, by cases n <;> exact h, Nat.zero_le _⟩
  | 0, .tup _, h => by unfold okq at h; cases h
  | 0, .lst _, h => by unfold okq at h; cases h
  | n + 1, .tup ds, h => by
    unfold okq at h
    have := okqs_ok n ds h
    exact ⟨by unfold plain; exact this.1, by simp only [pd, PyData.canLay0]; exact this.2.1, by simp only [pd, PyData.depth]; exact Nat.succ_le_succ this.2.2⟩
  | n + 1, .lst ds, h => by
    unfold okq at h
    have := okqs_ok n ds h
    exact ⟨by unfold plain; exact this.1, by simp only [pd, PyData.canLay0]; exact this.2.1, by simp only [pd, PyData.depth]; exact Nat.succ_le_succ this.2.2⟩
  | _, .dic _ _, h => by unfold okq at h; cases h
  | _, .obj _ _, h => by unfold okq at h; cases h
  | _, .exc _ _, h => by unfold okq at h; cases h
  | _, .jar, h => by unfold okq at h; cases h
theorem okqs_ok : ∀ (n : Nat) (ds : List D), okqs n ds = true → plains ds = true ∧ PyData.canLayAll0 (pds ds) = true ∧ PyData.depthAll (pds ds) ≤ n
  | _, [], _ => ⟨rfl, rfl, Nat.zero_le _⟩
  | n, d :: ds, h => by
    unfold okqs at h
    rw [Bool.and_eq_true] at h
    have a := okq_ok n d h.1
    have b := okqs_ok n ds h.2
    exact ⟨by unfold plains; rw [a.1, b.1]; rfl, by simp only [pds, PyData.canLayAll0]; rw [a.2.1, b.2.1]; rfl, by simp only [pds, PyData.depthAll]; exact Nat.max_le.mpr ⟨a.2.2, b.2.2⟩⟩
end
theorem shp_of {d : D} (h : okq 60 d = true) : shpB d = true := by
  have z := okq_ok 60 d h
  unfold shpB
  rw [Bool.and_eq_true]
  refine ⟨z.1, ?_⟩
  unfold SeqAt.shaped
  rw [Bool.and_eq_true]
  exact ⟨z.2.1, decide_eq_true (Nat.le_trans z.2.2 (by decide))⟩
theorem okqs_map {α : Type} {f : α → D} {n : Nat} : ∀ {xs : List α}, (∀ x ∈ xs, okq n (f x) = true) → okqs n (xs.map f) = true
  | [], _ => by simp [okqs]
  | x :: xs, h => by
    rw [List.map_cons]
    unfold okqs
    rw [h x List.mem_cons_self, okqs_map fun y hy => h y (List.mem_cons_of_mem _ hy)]; rfl
theorem okq_lst {n : Nat} {ds : List D} (h : okqs n ds = true) : okq (n + 1) (.lst ds) = true := by unfold okq; exact h
theorem okq_tup {n : Nat} {ds : List D} (h : okqs n ds = true) : okq (n + 1) (.tup ds) = true := by unfold okq; exact h
theorem okd_lst {n : Nat} {ds : List D} (h : okds n ds = true) : okd (n + 1) (.lst ds) = true := by unfold okd; exact h
theorem okd_tup {n : Nat} {ds : List D} (h : okds n ds = true) : okd (n + 1) (.tup ds) = true := by unfold okd; exact h
theorem plain_of {s : List Int} (h : OkS s) {t : Tx} (ht : fits t (full s)) : Plain t := ⟨ht.len5 h.small, full_digit ht⟩
theorem plain_sets {s : List Int} (h : OkS s) : ∀ t ∈ sets (full s), Plain t := fun t ht => plain_of h (mem_sets.mp ht)
/-! ### drawn boards -/
def lists : Nat → List (List Int)
  | 0 => [[]]
  | n + 1 => [] :: (lists n).flatMap fun s => [2 :: s, 3 :: s]
def prodI : List Int → Int
  | [] => 1
  | z :: s => z * prodI s
def spansOf (m : Int) : List (List Int) := (lists 5).filter fun s => !s.isEmpty && decide (prodI s ≤ m)
/-! ### parts -/
structure IsPart (s : List Int) (rs : List Tx) : Prop where
  len : rs.length = s.length
  ne : ∀ k, k < s.length → rs.getD k [] ≠ []
  asc : ∀ k, k < s.length → (rs.getD k []).Pairwise (· < ·)
  sub : ∀ k, k < s.length → ∀ c ∈ rs.getD k [], c ∈ (full s).getD k []
theorem IsPart.fits {s : List Int} {rs : List Tx} (h : IsPart s rs) {t : Tx} (ht : TP.fits t rs) : TP.fits t (full s) := by
  refine fits_of (by rw [ht.len, h.len, full_len]) fun k hk => ?_
  rw [full_len] at hk
  exact h.sub k hk _ (ht.at (by rw [h.len]; exact hk))
theorem full_three {s : List Int} {k : Nat} : ∀ {c : Nat}, c ∈ (full s).getD k [] → c = 48 ∨ c = 49 ∨ c = 50 := fun {c} h => by
  by_cases hk : k < s.length
  · rw [full_at hk] at h
    unfold standsOf at h
    split at h <;> simp at h <;> omega
  · rw [List.getD_eq_getElem?_getD, List.getElem?_eq_none (by rw [full_len]; omega)] at h
    cases h
theorem asc_three {l : Tx} (h : l.Pairwise (· < ·)) (k : ∀ c ∈ l, c = 48 ∨ c = 49 ∨ c = 50) : l.length ≤ 3 := by
  match l, h, k with
  | [], _, _ => exact Nat.zero_le _
  | [_], _, _ => exact (by decide : 1 ≤ 3)
  | [_, _], _, _ => exact (by decide : 2 ≤ 3)
  | [_, _, _], _, _ => exact (by decide : 3 ≤ 3)
  | a :: b :: c :: d :: t, h, k =>
    have k1 := k a (by simp)
    have k2 := k d (by simp)
    have h1 := List.pairwise_cons.mp h
    have h2 := List.pairwise_cons.mp h1.2
    have h3 := List.pairwise_cons.mp h2.2
    have q1 := h1.1 b (by simp)
    have q2 := h2.1 c (by simp)
    have q3 := h3.1 d (by simp)
    omega
theorem IsPart.small {s : List Int} {rs : List Tx} (h : IsPart s rs) (hs : OkS s) : Small rs where
  len := by rw [h.len]; exact hs.len
  three := fun x hx => by
    obtain ⟨k, hk, rfl⟩ := List.mem_iff_getElem.mp hx
    have hk' : k < s.length := by rw [← h.len]; exact hk
    have e : rs.getD k [] = rs[k] := by rw [List.getD_eq_getElem?_getD, List.getElem?_eq_getElem hk]; rfl
    have a := h.asc k hk'
    have b := h.sub k hk'
    rw [e] at a b
    exact asc_three a fun c hc => full_three (b c hc)
theorem log_small {n : Nat} (h : n ≤ 16777216) : n.log2 < 25 := by
  by_cases z : n = 0
  · subst z; decide
  · exact (Nat.log2_lt z).mpr (Nat.lt_of_le_of_lt h (by decide))
theorem okd_nat {k n : Nat} (h : n ≤ 16777216) : okd k (.int n) = true := by
  have e : okd k (.int n) = decide (n.log2 < 1920) := by cases k <;> rfl
  rw [e]
  exact decide_eq_true (Nat.lt_trans (log_small h) (by decide))
theorem wt_nat {n : Nat} (h : n ≤ 16777216) : wt (.int n) ≤ 27 := by
  show n.log2 + 2 ≤ 27
  have := log_small h
  omega
theorem okq_int {k : Nat} {i : Int} : okq k (.int i) = true := by cases k <;> rfl
end DL
/-! Plain law, part 2: helping and climbing. -/
namespace TP
open DL
def bestI (o l : List Tx) : Int := maxI (l.map fun x => (idx o x : Int))
def up (w o : List Tx) (x : Tx) : Option Tx := if (idx o x : Int) < bestI o (beside w x) then some (o.getD (bestI o (beside w x)).toNat []) else none
/-- every place of the whole has a neighbour -/
structure Rich (w o : List Tx) : Prop where
  mem : ∀ t, fits t w → t ∈ o
  nb : ∀ t, fits t w → beside w t ≠ []
end TP
/-! Squares: as data, sorted, of a board; kinds. -/
namespace TP
open DL
def far (n : Nat) (lo hi : Tx) : List Nat := (List.range n).filter fun k => decide (lo.getD k 0 < hi.getD k 0)
end TP
/-! Squares as data; kinds. -/
namespace DL
open PySem L2 PyProof.Rows TP
/-! ### kinds -/
def kd : Nat → D
  | 0 => .str "crossed"
  | 1 => .str "plain"
  | _ => .str "turned"
theorem range_pre {n k : Nat} {p q : List Nat} (h : List.range n = p ++ k :: q) : k < n := by
  have : k ∈ List.range n := by rw [h]; simp
  simpa using this
end DL
/-! Rising rows: how many, which is the shortest (plain Lean). -/
namespace TP
open DL
/-! ### rows -/
def endOf (r : List Tx) : Tx := r.getD (r.length - 1) []
theorem endOf_one {b : Tx} : endOf [b] = b := rfl
theorem endOf_snoc {r : List Tx} {e : Tx} : endOf (r ++ [e]) = e := by
  unfold endOf
  rw [List.length_append, List.length_singleton, Nat.add_sub_cancel, List.getD_eq_getElem?_getD, List.getElem?_append_right (Nat.le_refl _), Nat.sub_self]
  rfl
inductive Pth (nx : Tx → List Tx) (b : Tx) : List Tx → Prop
  | one : Pth nx b [b]
  | snoc {r : List Tx} {e : Tx} : Pth nx b r → e ∈ nx (endOf r) → Pth nx b (r ++ [e])
theorem Pth.ne {nx : Tx → List Tx} {b : Tx} {r : List Tx} (h : Pth nx b r) : r ≠ [] := by
  cases h <;> simp
def grw (nx : Tx → List Tx) (r : List Tx) : List (List Tx) := (nx (endOf r)).map fun e => r ++ [e]
def stp (nx : Tx → List Tx) (L : List (List Tx)) : List (List Tx) := L.flatMap (grw nx)
def allF (nx : Tx → List Tx) (g : Tx) : Nat → List (List Tx) → List (List Tx)
  | 0, _ => []
  | m + 1, L => L.filter (fun r => decide (endOf r = g)) ++ allF nx g m (stp nx L)
/-! ### upwards -/
def ups (w o : List Tx) (x : Tx) : List Tx := (beside w x).filter fun e => decide (idx o x < idx o e)
def upTo (w o : List Tx) (g x : Tx) : List Tx := (ups w o x).filter fun e => decide (idx o e ≤ idx o g)
structure Line (w o : List Tx) : Prop where
  asc : ∀ p ∈ w, p.Pairwise (· < ·)
  mem : ∀ t, fits t w ↔ t ∈ o
  nd : o.Nodup
section
variable {w o : List Tx} {g b : Tx}
theorem Line.ups (h : Line w o) {x e : Tx} (hx : x ∈ o) (he : e ∈ ups w o x) : e ∈ o ∧ idx o x < idx o e := by
  obtain ⟨h1, h2⟩ := List.mem_filter.mp he
  exact ⟨(h.mem e).mp ((mem_beside_fits ((h.mem x).mpr hx)).mp h1).1, by simpa using h2⟩
theorem mem_upTo {x e : Tx} : e ∈ upTo w o g x ↔ e ∈ TP.ups w o x ∧ idx o e ≤ idx o g := by
  unfold upTo
  rw [List.mem_filter]
  simp
theorem Line.pth (h : Line w o) {r : List Tx} (hb : b ∈ o) (hr : Pth (TP.ups w o) b r) : endOf r ∈ o ∧ r.length ≤ idx o (endOf r) + 1 ∧ ∀ x ∈ r, x ∈ o := by
  induction hr with
  | one => exact ⟨hb, by simp, fun x hx => by rw [List.mem_singleton.mp hx]; exact hb⟩
  | snoc h1 h2 ih =>
    obtain ⟨i1, i2, i3⟩ := ih
    obtain ⟨j1, j2⟩ := h.ups i1 h2
    rw [endOf_snoc]
    refine ⟨j1, by rw [List.length_append, List.length_singleton]; omega, fun x hx => ?_⟩
    rcases List.mem_append.mp hx with hx | hx
    · exact i3 x hx
    · rw [List.mem_singleton.mp hx]; exact j1
/-- all rows from b to g -/
def rowsOf (w o : List Tx) (b g : Tx) : List (List Tx) := allF (upTo w o g) g o.length [[b]]
/-! ### how many -/
def cnt (nx : Tx → List Tx) (g : Tx) : Nat → Tx → Nat
  | 0, _ => 0
  | n + 1, v => (if v = g then 1 else 0) + ((nx v).map (cnt nx g n)).sum
theorem sum_flat {α β : Type} {f : α → List β} {k : β → Nat} : ∀ {l : List α}, ((l.flatMap f).map k).sum = (l.map fun a => ((f a).map k).sum).sum
  | [] => rfl
  | a :: l => by simp [sum_flat (l := l)]
theorem sum_add {α : Type} {f h : α → Nat} : ∀ {l : List α}, (l.map fun a => f a + h a).sum = (l.map f).sum + (l.map h).sum
  | [] => rfl
  | a :: l => by simp only [List.map_cons, List.sum_cons, sum_add (l := l)]; omega
theorem sum_ite {α : Type} {p : α → Bool} : ∀ {l : List α}, (l.map fun a => if p a = true then 1 else 0).sum = (l.filter p).length
  | [] => rfl
  | a :: l => by
    rw [List.map_cons, List.sum_cons, sum_ite (l := l), List.filter_cons]
    split <;> simp <;> omega
theorem len_allF {nx : Tx → List Tx} : ∀ {m : Nat} {L : List (List Tx)}, (allF nx g m L).length = (L.map fun r => cnt nx g m (endOf r)).sum
  | 0, L => by
    have : ∀ L : List (List Tx), (L.map fun r => cnt nx g 0 (endOf r)).sum = 0 := fun L => by
      induction L with
      | nil => rfl
      | cons r L ih => rw [List.map_cons, List.sum_cons, ih]; rfl
    rw [this]; rfl
  | m + 1, L => by
    unfold allF
    rw [List.length_append, len_allF (m := m), ← sum_ite, stp, sum_flat, ← sum_add]
    congr 1
    refine List.map_congr_left fun r _ => ?_
    unfold grw
    rw [List.map_map]
    show _ = (if endOf r = g then 1 else 0) + _
    congr 1
    · simp
    · congr 1
      refine List.map_congr_left fun e _ => ?_
      show cnt nx g m (endOf (r ++ [e])) = _
      rw [endOf_snoc]
def rise (w o : List Tx) (g : Tx) : Nat → Tx → Nat
  | 0, _ => 0
  | n + 1, v => if v = g then 1 else ((TP.ups w o v).map (rise w o g n)).sum
theorem sum_zero {α : Type} {f : α → Nat} : ∀ {l : List α}, (∀ a ∈ l, f a = 0) → (l.map f).sum = 0
  | [], _ => rfl
  | a :: l, h => by rw [List.map_cons, List.sum_cons, h a List.mem_cons_self, sum_zero fun x hx => h x (List.mem_cons_of_mem _ hx)]
theorem sum_filter {α : Type} {f k : α → Nat} {p : α → Bool} : ∀ {l : List α}, (∀ a ∈ l, p a = true → f a = k a) → (∀ a ∈ l, p a = false → k a = 0) → ((l.filter p).map f).sum = (l.map k).sum
  | [], _, _ => rfl
  | a :: l, h1, h2 => by
    have ih := sum_filter (l := l) (fun x hx => h1 x (List.mem_cons_of_mem _ hx)) (fun x hx => h2 x (List.mem_cons_of_mem _ hx))
    rw [List.filter_cons, List.map_cons, List.sum_cons]
    cases q : p a with
    | true => rw [if_pos rfl, List.map_cons, List.sum_cons, ih, h1 a List.mem_cons_self q]
    | false => rw [if_neg Bool.false_ne_true, ih, h2 a List.mem_cons_self q, Nat.zero_add]
theorem Line.rise_past (h : Line w o) : ∀ (n : Nat) {v : Tx}, v ∈ o → idx o g < idx o v → rise w o g n v = 0
  | 0, v, _, _ => rfl
  | n + 1, v, hv, hl => by
    rw [rise, if_neg (fun e => by rw [e] at hl; omega)]
    refine sum_zero fun e he => ?_
    obtain ⟨h1, h2⟩ := h.ups hv he
    exact h.rise_past n h1 (by omega)
theorem Line.cnt_rise (h : Line w o) (hg : g ∈ o) : ∀ (n : Nat) {v : Tx}, v ∈ o → cnt (upTo w o g) g n v = rise w o g n v
  | 0, v, _ => rfl
  | n + 1, v, hv => by
    rw [cnt, rise]
    by_cases e : v = g
    · subst e
      rw [if_pos rfl, if_pos rfl, show upTo w o v v = [] from ?_]
      · rfl
      · refine List.eq_nil_iff_forall_not_mem.mpr fun x hx => ?_
        obtain ⟨h1, h2⟩ := mem_upTo.mp hx
        have := (h.ups hv h1).2
        omega
    · rw [if_neg e, if_neg e, Nat.zero_add]
      unfold upTo
      refine sum_filter (fun x hx _ => h.cnt_rise hg n (h.ups hv hx).1) fun x hx hp => h.rise_past n (h.ups hv hx).1 ?_
      have : ¬ idx o x ≤ idx o g := by simpa using hp
      omega
theorem Line.many (h : Line w o) (hg : g ∈ o) (hb : b ∈ o) : (rowsOf w o b g).length = rise w o g o.length b := by
  unfold rowsOf
  rw [len_allF, List.map_cons, List.sum_cons, endOf_one, h.cnt_rise hg _ hb]
  rfl
end
end TP
/-! Own dicts with settings as keys; rows as data. -/
namespace DL
open PySem L2 PyProof.Rows TP
variable {A : DE} {EX : XP} {r : List Sl} {i j : Nat} {e e1 e2 : List Sl → R D} {b : List Sl → RS}
end DL
/-! The shortest rising row, found in waves (plain Lean). -/
namespace TP
open DL
section
variable {w o : List Tx} {b g : Tx} {k : Nat} {R L : List (List Tx)} {S S1 Dn : List Tx}
structure Bfs (w o : List Tx) (b g : Tx) (k : Nat) (R : List (List Tx)) (S Dn : List Tx) : Prop where
  row : ∀ r ∈ R, Pth (ups w o) b r ∧ r.length = k + 1
  seen : ∀ x, x ∈ S ↔ x ∈ Dn ∨ ∃ r ∈ R, endOf r = x
  goal : g ∉ Dn
  shut : ∀ x ∈ Dn, ∀ e ∈ ups w o x, e ∈ S
  start : b ∈ S
  far : ∀ p, Pth (ups w o) b p → p.length ≤ k → endOf p ∈ Dn
  nd : S.Nodup
  sub : ∀ x ∈ S, x ∈ o
structure Wave (w o : List Tx) (b g : Tx) (k : Nat) (S : List Tx) (p : List (List Tx)) (S1 : List Tx) (L : List (List Tx)) : Prop where
  seen : ∀ x, x ∈ S1 ↔ x ∈ S ∨ ∃ r ∈ L, endOf r = x
  row : ∀ r ∈ L, Pth (ups w o) b r ∧ r.length = k + 2
  done : ∀ r ∈ p, endOf r ≠ g ∧ ∀ e ∈ ups w o (endOf r), e ∈ S1
  nd : S1.Nodup
  sub : ∀ x ∈ S1, x ∈ o
  few : L.length ≤ S1.length
structure Short (w o : List Tx) (b g : Tx) (x : List Tx) : Prop where
  pth : Pth (ups w o) b x
  fin : endOf x = g
  least : ∀ q, Pth (ups w o) b q → endOf q = g → x.length ≤ q.length
theorem Bfs.first (hb : b ∈ o) : Bfs w o b g 0 [[b]] [b] [] where
  row r hr := by rw [List.mem_singleton.mp hr]; exact ⟨.one, rfl⟩
  seen x := by simp [endOf, eq_comm]
  goal h := by cases h
  shut x h := by cases h
  start := List.mem_singleton_self _
  far p h hl := by have := List.length_pos_iff.mpr h.ne; omega
  nd := by simp
  sub x hx := by rw [List.mem_singleton.mp hx]; exact hb
theorem Wave.add {p : List (List Tx)} (ln : Line w o) (hb : b ∈ o) (h : Wave w o b g k S p S1 L) {x : List Tx} {e : Tx} (hx : Pth (ups w o) b x) (hl : x.length = k + 1) (he : e ∈ ups w o (endOf x)) (hn : e ∉ S1) : Wave w o b g k S p (S1 ++ [e]) (L ++ [x ++ [e]]) where
  seen y := by
    rw [List.mem_append, h.seen, List.mem_singleton]
    constructor
    · rintro ((h1 | ⟨r, h1, h2⟩) | h1)
      · exact .inl h1
      · exact .inr ⟨r, List.mem_append_left _ h1, h2⟩
      · exact .inr ⟨x ++ [e], List.mem_append_right _ (List.mem_singleton_self _), by rw [endOf_snoc, h1]⟩
    · rintro (h1 | ⟨r, h1, h2⟩)
      · exact .inl (.inl h1)
      · rcases List.mem_append.mp h1 with h3 | h3
        · exact .inl (.inr ⟨r, h3, h2⟩)
        · rw [List.mem_singleton.mp h3, endOf_snoc] at h2
          exact .inr h2.symm
  row r hr := by
    rcases List.mem_append.mp hr with h3 | h3
    · exact h.row r h3
    · rw [List.mem_singleton.mp h3]
      exact ⟨.snoc hx he, by rw [List.length_append, hl]; rfl⟩
  done r hr := ⟨(h.done r hr).1, fun e he => List.mem_append_left _ ((h.done r hr).2 e he)⟩
  nd := by
    rw [List.nodup_append]
    exact ⟨h.nd, by simp, fun a ha c hc e2 => hn (by rw [List.mem_singleton.mp hc] at e2; exact e2 ▸ ha)⟩
  sub y hy := by
    rcases List.mem_append.mp hy with h3 | h3
    · exact h.sub y h3
    · rw [List.mem_singleton.mp h3]; exact (ln.ups (ln.pth hb hx).1 he).1
  few := by
    rw [List.length_append, List.length_append]
    exact Nat.add_le_add h.few (Nat.le_refl _)
theorem Wave.next {p : List (List Tx)} (h : Wave w o b g k S p S1 L) {x : List Tx} (hg : endOf x ≠ g) (hu : ∀ e ∈ ups w o (endOf x), e ∈ S1) : Wave w o b g k S (p ++ [x]) S1 L where
  seen := h.seen
  row := h.row
  done r hr := by
    rcases List.mem_append.mp hr with h3 | h3
    · exact h.done r h3
    · rw [List.mem_singleton.mp h3]; exact ⟨hg, hu⟩
  nd := h.nd
  sub := h.sub
  few := h.few
theorem Bfs.found (h : Bfs w o b g k R S Dn) {x : List Tx} (hx : x ∈ R) (he : endOf x = g) : Short w o b g x where
  pth := (h.row x hx).1
  fin := he
  least q hq hg := by
    rw [(h.row x hx).2]
    by_cases hl : q.length ≤ k
    · exact absurd (hg ▸ h.far q hq hl) h.goal
    · omega
theorem Bfs.none (h : Bfs w o b g k [] S Dn) {q : List Tx} (hq : Pth (ups w o) b q) : endOf q ≠ g := by
  have hs : ∀ x, x ∈ S → x ∈ Dn := fun x hx => by
    rcases (h.seen x).mp hx with h1 | ⟨r, h1, _⟩
    · exact h1
    · cases h1
  have : endOf q ∈ Dn := by
    induction hq with
    | one => exact hs _ h.start
    | snoc h1 h2 ih => rw [endOf_snoc]; exact hs _ (h.shut _ ih _ h2)
  exact fun e => h.goal (e ▸ this)
end
end TP
/-! Facts: what they lead to; orders that agree with them (plain Lean). -/
namespace TP
open DL
abbrev Fa := Tx × Tx
inductive Reach (F : List Fa) (a : Tx) : Tx → Prop
  | refl : Reach F a a
  | step {b c : Tx} : Reach F a b → (b, c) ∈ F → Reach F a c
theorem Reach.trans {F : List Fa} {a b c : Tx} (h : Reach F a b) (k : Reach F b c) : Reach F a c := by
  induction k with
  | refl => exact h
  | step _ h2 ih => exact .step ih h2
theorem Reach.one {F : List Fa} {a b : Tx} (h : (a, b) ∈ F) : Reach F a b := .step .refl h
theorem Reach.sub {F F' : List Fa} (s : ∀ f ∈ F, f ∈ F') {a b : Tx} (h : Reach F a b) : Reach F' a b := by
  induction h with
  | refl => exact .refl
  | step _ h2 ih => exact .step ih (s _ h2)
open Classical in
noncomputable def rch (F : List Fa) (a b : Tx) : Bool := decide (Reach F a b)
theorem rch_iff {F : List Fa} {a b : Tx} : rch F a b = true ↔ Reach F a b := by
  unfold rch
  exact @decide_eq_true_iff _ (Classical.propDecidable _)
theorem rch_false {F : List Fa} {a b : Tx} : rch F a b = false ↔ ¬ Reach F a b := by
  rw [← rch_iff]
  cases rch F a b <;> simp
/-- an order agrees with the facts -/
def Agr (o : List Tx) (F : List Fa) : Prop := ∀ f ∈ F, idx o f.1 < idx o f.2
def agr (o : List Tx) (F : List Fa) : Bool := F.all fun f => decide (idx o f.1 < idx o f.2)
theorem Agr.le {o : List Tx} {F : List Fa} (h : Agr o F) {a b : Tx} (r : Reach F a b) : idx o a ≤ idx o b := by
  induction r with
  | refl => exact Nat.le_refl _
  | step _ h2 ih => exact Nat.le_trans ih (Nat.le_of_lt (h _ h2))
theorem Agr.lt {o : List Tx} {F : List Fa} (h : Agr o F) {a b : Tx} (r : Reach F a b) (hne : a ≠ b) : idx o a < idx o b := by
  induction r with
  | refl => exact absurd rfl hne
  | step h1 h2 ih => exact Nat.lt_of_le_of_lt (h.le h1) (h _ h2)
theorem idx_app_l {l m : List Tx} {x : Tx} (h : x ∈ l) : idx (l ++ m) x = idx l x := by
  unfold idx
  rw [List.idxOf_append, if_pos h]
theorem idx_app_r {l m : List Tx} {x : Tx} (h : x ∉ l) : idx (l ++ m) x = idx m x + l.length := by
  unfold idx
  rw [List.idxOf_append, if_neg h]
/-! ### what is seen from a place -/
structure Seek (F : List Fa) (a : Tx) (S W : List Tx) : Prop where
  start : a ∈ S
  from_ : ∀ x ∈ S, Reach F a x
  wait : ∀ x ∈ W, x ∈ S
  shut : ∀ x ∈ S, x ∉ W → ∀ f ∈ F, f.1 = x → f.2 ∈ S
theorem Seek.done {F : List Fa} {a : Tx} {S : List Tx} (h : Seek F a S []) {b : Tx} : b ∈ S ↔ Reach F a b := by
  refine ⟨h.from_ b, fun r => ?_⟩
  induction r with
  | refl => exact h.start
  | step _ h2 ih => exact h.shut _ ih (by simp) _ h2 rfl
def left (F : List Fa) (S : List Tx) : Nat := (F.filter fun f => decide (f.2 ∉ S)).length
end TP
namespace TP
open DL
/-- facts that a line agrees with -/
structure Fc (w o : List Tx) (F : List Fa) : Prop where
  nd : F.Nodup
  mem : ∀ f ∈ F, f.1 ∈ o ∧ f.2 ∈ o
  near : ∀ f ∈ F, dif f.1 f.2 = 1
  agr : Agr o F
  few : F.length ≤ 900
theorem Fc.let {w o : List Tx} {F : List Fa} (h : Fc w o F) {k : Nat} (hk : k < F.length) : F[k] ∉ F.take k ∧ rch (F.take k) F[k].2 F[k].1 = false := by
  constructor
  · intro z
    obtain ⟨j, hj, e⟩ := List.mem_iff_getElem.mp z
    rw [List.length_take] at hj
    rw [List.getElem_take] at e
    have := (List.getElem_inj h.nd).mp e
    omega
  · rw [rch_false]
    intro r
    have h1 := h.agr.le (r.sub fun f hf => List.mem_of_mem_take hf)
    have h2 := h.agr _ (List.getElem_mem hk)
    omega
end TP
/-! Facts as data; Notes as data. -/
namespace DL
open PySem L2 PyProof.Rows TP
variable {A : DE} {EX : XP} {r : List Sl} {i j : Nat} {b : List Sl → RS}
end DL
/-! An order for the facts; all that is better (plain Lean). -/
namespace TP
open DL
def upsF (F : List Fa) (x : Tx) : List Tx := (F.filter fun f => decide (f.1 = x)).map fun f => f.2
theorem mem_upsF {F : List Fa} {x u : Tx} : u ∈ upsF F x ↔ (x, u) ∈ F := by
  unfold upsF
  rw [List.mem_map]
  constructor
  · rintro ⟨f, hf, rfl⟩
    obtain ⟨h1, h2⟩ := List.mem_filter.mp hf
    have h3 : f.1 = x := by simpa using h2
    rw [← h3]; exact h1
  · intro h
    exact ⟨(x, u), List.mem_filter.mpr ⟨h, by simp⟩, rfl⟩
def free (w : List Tx) (F : List Fa) (P : List Tx) : List Tx := (sets w).filter fun x => !decide (x ∈ P) && (upsF F x).all fun u => decide (u ∈ P)
theorem mem_free {w : List Tx} {F : List Fa} {P : List Tx} {x : Tx} : x ∈ free w F P ↔ x ∈ sets w ∧ x ∉ P ∧ ∀ u ∈ upsF F x, u ∈ P := by
  unfold free
  rw [List.mem_filter, Bool.and_eq_true, List.all_eq_true]
  simp
/-- placed so far: each after all that is better -/
structure Plc (w : List Tx) (F : List Fa) (P : List Tx) : Prop where
  nd : P.Nodup
  sub : ∀ x ∈ P, x ∈ sets w
  up : ∀ p x q, P = p ++ x :: q → ∀ u ∈ upsF F x, u ∈ p
theorem Plc.nil {w : List Tx} {F : List Fa} : Plc w F [] := ⟨List.nodup_nil, (fun _ h => by cases h), fun p x q h => by simp at h⟩
theorem Plc.add {w : List Tx} {F : List Fa} {P : List Tx} (h : Plc w F P) {x : Tx} (hx : x ∈ free w F P) : Plc w F (P ++ [x]) := by
  obtain ⟨h1, h2, h3⟩ := mem_free.mp hx
  refine ⟨?_, ?_, ?_⟩
  · rw [List.nodup_append]
    exact ⟨h.nd, by simp, fun a ha c hc e => h2 (by rw [List.mem_singleton.mp hc] at e; exact e ▸ ha)⟩
  · intro y hy
    rcases List.mem_append.mp hy with q | q
    · exact h.sub y q
    · rw [List.mem_singleton.mp q]; exact h1
  · intro p y q e u hu
    rcases List.append_eq_append_iff.mp e with ⟨l, e1, e2⟩ | ⟨l, e1, e2⟩
    · -- p = P ++ l, [x] = l ++ y :: q
      cases l with
      | nil =>
        rw [List.nil_append] at e2
        injection e2 with e3 e4
        subst e3
        rw [List.append_nil] at e1
        rw [e1]
        exact h3 u hu
      | cons z l =>
        have := congrArg List.length e2
        simp at this
    · -- P = p ++ l, y :: q = l ++ [x]
      cases l with
      | nil =>
        rw [List.nil_append] at e2
        injection e2 with e3 e4
        subst e3
        rw [List.append_nil] at e1
        rw [← e1]
        exact h3 u hu
      | cons z l =>
        rw [List.cons_append] at e2
        injection e2 with e3 e4
        subst e3
        exact h.up p y l e1 u hu
theorem Plc.agr {w : List Tx} {F : List Fa} {P : List Tx} (h : Plc w F P) (hall : ∀ f ∈ F, f.1 ∈ P) : Agr P.reverse F := by
  rintro ⟨x, u⟩ hf
  dsimp only
  obtain ⟨p, q, e⟩ := List.mem_iff_append.mp (hall _ hf)
  have hu := h.up p x q e u (mem_upsF.mpr hf)
  have nd := h.nd
  rw [e] at nd
  have er : P.reverse = (q.reverse ++ [x]) ++ p.reverse := by rw [e]; simp
  rw [er, idx_app_l (by simp)]
  have nu : u ∉ q.reverse ++ [x] := fun z => by
    rw [List.nodup_append] at nd
    have z2 : u ∈ x :: q := by
      rcases List.mem_append.mp z with z | z
      · exact List.mem_cons_of_mem _ (List.mem_reverse.mp z)
      · rw [List.mem_singleton.mp z]; exact List.mem_cons_self
    exact nd.2.2 u hu u z2 rfl
  rw [idx_app_r nu]
  have := idx_lt (show x ∈ q.reverse ++ [x] by simp)
  omega
end TP
/-! All orders (plain Lean). -/
namespace TP
open DL
end TP
/-! Facts as data, further; sorted(set(texts)); dict(pairs). -/
namespace DL
open PySem L2 PyProof.Rows TP
theorem fc_plain {s : List Int} {o : List Tx} {F : List Fa} (h : OkS s) (hp : o.Perm (sets (full s))) (hc : Fc (full s) o F) : ∀ f ∈ F, Plain f.1 ∧ Plain f.2 := fun f hf =>
  ⟨plain_sets h _ (hp.mem_iff.mp (hc.mem f hf).1), plain_sets h _ (hp.mem_iff.mp (hc.mem f hf).2)⟩
theorem Reach.head {F : List Fa} {a b : Tx} (h : Reach F a b) : a = b ∨ ∃ c, (a, c) ∈ F ∧ Reach F c b := by
  induction h with
  | refl => exact .inl rfl
  | step h1 h2 ih =>
    rcases ih with rfl | ⟨c, m, r⟩
    · exact .inr ⟨_, h2, .refl⟩
    · exact .inr ⟨c, m, .step r h2⟩
theorem neX_str {z : Str} : neX (.str z) (.str z) = some (.bl false) := by
  unfold neX
  rw [bothS_refl]; rfl
end DL
/-! Runs that raise; values of any kind; the signs of what is shown. -/
namespace DL
open PySem L2 PyProof.Rows TP
/-! ### the signs of what is shown -/
def okT (t : Str) : Prop := ∀ c ∈ t.cps.toList, c < 1114112
theorem strOk_of {t : Str} (h : okT t) : PyData.strOk t = true := by
  unfold PyData.strOk
  rw [Array.all_eq_true_iff_forall_mem]
  exact fun c hc => decide_eq_true (h c (Array.mem_toList_iff.mpr hc))
theorem okT_of {t : Str} (h : PyData.strOk t = true) : okT t := by
  unfold PyData.strOk at h
  rw [Array.all_eq_true_iff_forall_mem] at h
  exact fun c hc => of_decide_eq_true (h c (Array.mem_toList_iff.mp hc))
theorem okT_app {a b : Str} (h : okT a) (k : okT b) : okT (a ++ b) := fun c hc => by
  have e : (a ++ b).cps.toList = a.cps.toList ++ b.cps.toList := Array.toList_append
  rw [e, List.mem_append] at hc
  exact hc.elim (h c) (k c)
theorem okT_lit (s : String) : okT (Str.ofString s) := fun c hc => by
  rw [Str.ofString_eq_toList] at hc
  obtain ⟨ch, _, rfl⟩ := List.mem_map.mp hc
  have h := ch.valid
  rcases h with h | h
  · have : ch.toNat < 55296 := h
    omega
  · have : ch.toNat < 1114112 := h.2
    exact this
theorem okT_join {s : Str} (h : okT s) : ∀ {ts : List Str}, (∀ t ∈ ts, okT t) → okT (Str.join s ts)
  | [], _ => fun c hc => by simp [Str.join, Str.empty] at hc
  | [x], k => k x List.mem_cons_self
  | x :: y :: r, k => okT_app (okT_app (k x List.mem_cons_self) h) (okT_join h fun t ht => k t (List.mem_cons_of_mem _ ht))
theorem okT_from : ∀ (ts : List Str) (n : Nat) (acc : Str), okT acc → (∀ t ∈ ts, okT t) → okT (textFrom n acc ts)
  | [], _, _, h, _ => h
  | t :: ts, n, acc, h, k => okT_from ts (n + 1) _ (okT_app (okT_app h (okT_lit _)) (k t List.mem_cons_self)) fun u hu => k u (List.mem_cons_of_mem _ hu)
theorem ch_lt (ch : Char) : ch.toNat < 1114112 := by
  rcases ch.valid with h | h
  · have : ch.toNat < 55296 := h
    omega
  · exact h.2
theorem reprChar_lt {q c : Nat} (hc : c < 1114112) : ∀ x ∈ Builtin.Str.reprChar q c, x < 1114112 := by
  have hex : ∀ (w : Nat) x, x ∈ List.replicate (w - ((Nat.toDigits 16 c).map Char.toNat).length) 48 ++ (Nat.toDigits 16 c).map Char.toNat → x < 1114112 := fun w x hx => by
    rcases List.mem_append.mp hx with h | h
    · rw [List.eq_of_mem_replicate h]; decide
    · obtain ⟨ch, _, rfl⟩ := List.mem_map.mp h
      exact ch_lt ch
  have two : ∀ (a b : Nat), a < 1114112 → b < 1114112 → ∀ x ∈ [a, b], x < 1114112 := fun a b ha hb x hx => by
    rcases List.mem_cons.mp hx with rfl | hx
    · exact ha
    · rw [List.mem_singleton.mp hx]; exact hb
  intro x hx
  unfold Builtin.Str.reprChar at hx
  dsimp only at hx
  split at hx
  · exact two 92 c (by decide) hc x hx
  split at hx
  · exact two 92 110 (by decide) (by decide) x hx
  split at hx
  · exact two 92 114 (by decide) (by decide) x hx
  split at hx
  · exact two 92 116 (by decide) (by decide) x hx
  split at hx
  · rw [List.mem_singleton.mp hx]; exact hc
  split at hx
  · exact (List.mem_append.mp hx).elim (two 92 120 (by decide) (by decide) x) (hex 2 x)
  split at hx
  · exact (List.mem_append.mp hx).elim (two 92 117 (by decide) (by decide) x) (hex 4 x)
  · exact (List.mem_append.mp hx).elim (two 92 85 (by decide) (by decide) x) (hex 8 x)
theorem okT_repr {x : Str} (h : okT x) : okT (reprText x) := by
  have go : ∀ (q : Nat) (l : List Nat) (acc : Array Nat), (∀ c ∈ l, c < 1114112) → (∀ c ∈ acc.toList, c < 1114112) → ∀ c ∈ (l.foldl (fun out c => out ++ (Builtin.Str.reprChar q c).toArray) acc).toList, c < 1114112 := by
    intro q l
    induction l with
    | nil => exact fun acc _ k => k
    | cons c r ih =>
      intro acc hl ha
      rw [List.foldl_cons]
      refine ih _ (fun d hd => hl d (List.mem_cons_of_mem _ hd)) fun d hd => ?_
      rw [Array.toList_append] at hd
      exact (List.mem_append.mp hd).elim (ha d) (reprChar_lt (hl c List.mem_cons_self) d)
  have hq : reprQuote x < 1114112 := by unfold reprQuote; split <;> decide
  intro c hc
  have e : (reprText x).cps.toList = (x.cps.toList.foldl (fun out c => out ++ (Builtin.Str.reprChar (reprQuote x) c).toArray) #[reprQuote x]).toList ++ [reprQuote x] := by
    unfold reprText
    rw [Array.toList_push, ← Array.foldl_toList]
  rw [e] at hc
  rcases List.mem_append.mp hc with hc | hc
  · refine go _ _ _ h (fun d hd => ?_) c hc
    rw [List.mem_singleton.mp hd]; exact hq
  · rw [List.mem_singleton.mp hc]; exact hq
mutual
theorem okT_shown : ∀ d : PyData, d.canLay0 = true → okT d.shown
  | .none, _ => by simp only [PyData.shown]; exact okT_lit _
  | .bool b, _ => by cases b <;> (simp only [PyData.shown]; exact okT_lit _)
  | .int i, _ => by simp only [PyData.shown]; exact okT_lit _
  | .str x, h => by
    simp only [PyData.shown]
    exact okT_repr (okT_of (by simpa [PyData.canLay0] using h))
  | .list xs, h => by
    simp only [PyData.shown]
    unfold listText
    exact okT_app (okT_from _ _ _ (okT_lit _) (okT_shownAll xs (by simpa [PyData.canLay0] using h))) (okT_lit _)
  | .tuple xs, h => by
    simp only [PyData.shown]
    unfold tupleText
    exact okT_app (okT_app (okT_lit _) (okT_join (okT_lit _) (okT_shownAll xs (by simpa [PyData.canLay0] using h)))) (okT_lit _)
  | .dict _, h => by simp [PyData.canLay0] at h
theorem okT_shownAll : ∀ ds : List PyData, PyData.canLayAll0 ds = true → ∀ t ∈ PyData.shownAll ds, okT t
  | [], _, t, ht => by simp [PyData.shownAll] at ht
  | d :: ds, h, t, ht => by
    simp only [PyData.canLayAll0, Bool.and_eq_true] at h
    simp only [PyData.shownAll, List.mem_cons] at ht
    rcases ht with rfl | ht
    · exact okT_shown d h.1
    · exact okT_shownAll ds h.2 t ht
end
/-! ### values of any kind -/
def isBase : D → Bool
  | .obj _ _ => false
  | .exc _ _ => false
  | .jar => false
  | _ => true
def isDic : D → Bool
  | .dic _ _ => true
  | _ => false
def smallT (d : D) : Prop := ∀ x, d = st x → okT (sx x) ∧ x.length ≤ 1677721
/-- of no own class, its texts small, to a depth -/
def deepT : Nat → D → Prop
  | 0, d => isBase d = true ∧ smallT d
  | n + 1, d => (isBase d = true ∧ smallT d) ∧ ∀ ds, d = .tup ds → ds.length ≤ 16777216 ∧ ∀ e ∈ ds, deepT n e
def DOk (d : D) : Prop := ∀ n, deepT n d
/-- a value that the laws draw: of no own class, it may be shown, what is shown are signs -/
structure VOk (d : D) : Prop where
  shp : isDic d = false → shpB d = true
  deep : DOk d
  base : isBase d = true
  shw : shwOK d
  sign : okT (DL.shw d)
  str : smallT d
  tup : ∀ ds, d = .tup ds → ds.length ≤ 16777216 ∧ ∀ e ∈ ds, isBase e = true ∧ smallT e
theorem small_of {n : Nat} {d : D} (hq : okq n d = true) (hw : wt d ≤ 16777216) : smallT d := fun x e => by
  subst e
  refine ⟨okT_of (by cases n <;> simpa [okq] using hq), ?_⟩
  have : 10 * x.length + 2 ≤ 16777216 := hw
  omega
theorem okd_base {n : Nat} {d : D} (h : okd n d = true) : isBase d = true := by
  cases d <;> first | rfl | (unfold okd at h; cases h)
theorem small_all {n m : Nat} : ∀ {ds : List D}, okds n ds = true → okqs m ds = true → wts ds ≤ 16777216 → ds.length * 2 ≤ wts ds ∧ ∀ e ∈ ds, isBase e = true ∧ smallT e
  | [], _, _, _ => ⟨Nat.zero_le _, fun e he => by cases he⟩
  | d :: ds, h, hq, hw => by
    unfold okds at h
    unfold okqs at hq
    unfold wts at hw ⊢
    rw [Bool.and_eq_true] at h hq
    obtain ⟨h1, h2⟩ := small_all h.2 hq.2 (by omega)
    refine ⟨by rw [List.length_cons]; omega, fun e he => ?_⟩
    rcases List.mem_cons.mp he with rfl | he
    · exact ⟨okd_base h.1, small_of hq.1 (by omega)⟩
    · exact h2 e he
theorem items_of {n m : Nat} : ∀ {ds : List D}, okds n ds = true → okqs m ds = true → wts ds ≤ 16777216 → ds.length * 2 ≤ wts ds ∧ ∀ e ∈ ds, okd n e = true ∧ okq m e = true ∧ wt e ≤ 16777216
  | [], _, _, _ => ⟨Nat.zero_le _, fun e he => by cases he⟩
  | d :: ds, h, hq, hw => by
    unfold okds at h
    unfold okqs at hq
    unfold wts at hw ⊢
    rw [Bool.and_eq_true] at h hq
    obtain ⟨h1, h2⟩ := items_of h.2 hq.2 (by omega)
    refine ⟨by rw [List.length_cons]; omega, fun e he => ?_⟩
    rcases List.mem_cons.mp he with rfl | he
    · exact ⟨h.1, hq.1, by omega⟩
    · exact h2 e he
theorem deep_of : ∀ (k : Nat) {n m : Nat} {d : D}, okd n d = true → okq m d = true → wt d ≤ 16777216 → deepT k d
  | 0, n, m, d, h, hq, hw => ⟨okd_base h, small_of hq hw⟩
  | k + 1, n, m, d, h, hq, hw => by
    refine ⟨⟨okd_base h, small_of hq hw⟩, fun ds e => ?_⟩
    subst e
    cases n with
    | zero => unfold okd at h; cases h
    | succ n =>
      cases m with
      | zero => unfold okq at hq; cases hq
      | succ m =>
        unfold okd at h
        unfold okq at hq
        have hw : wts ds + 3 ≤ 16777216 := hw
        obtain ⟨h1, h2⟩ := items_of h hq (by omega)
        exact ⟨by omega, fun e he => deep_of k (h2 e he).1 (h2 e he).2.1 (h2 e he).2.2⟩
theorem vok_of {d : D} (h : okd 60 d = true) (hq : okq 60 d = true) (hw : wt d ≤ 16777216) : VOk d := by
  have z := shownOK_of h (by rw [sl_eq]; exact hw)
  have q := okq_ok 60 d hq
  have s := small_of hq hw
  have dp : DOk d := fun k => deep_of k h hq hw
  cases d with
  | dic _ _ => unfold okd at h; cases h
  | obj _ _ => unfold okd at h; cases h
  | exc _ _ => unfold okd at h; cases h
  | jar => unfold okd at h; cases h
  | non => exact ⟨(fun _ => shp_of hq), dp, rfl, z, okT_shown _ q.2.1, s, fun x e => by cases e⟩
  | bl b => exact ⟨(fun _ => shp_of hq), dp, rfl, z, okT_shown _ q.2.1, s, fun x e => by cases e⟩
  | int i => exact ⟨(fun _ => shp_of hq), dp, rfl, z, okT_shown _ q.2.1, s, fun x e => by cases e⟩
  | str _ => exact ⟨(fun _ => shp_of hq), dp, rfl, z, okT_shown _ q.2.1, s, fun x e => by cases e⟩
  | tup ds =>
    refine ⟨(fun _ => shp_of hq), dp, rfl, z, okT_shown _ q.2.1, s, fun x e => ?_⟩
    cases e
    unfold okd at h
    unfold okq at hq
    have hw : wts ds + 3 ≤ 16777216 := hw
    obtain ⟨h1, h2⟩ := small_all h hq (by omega)
    exact ⟨by omega, h2⟩
  | lst ds => exact ⟨(fun _ => shp_of hq), dp, rfl, z, okT_shown _ q.2.1, s, fun x e => by cases e⟩
theorem vok_dic {ks : List Key} {ds : List D} (h : dicOK ks ds) (hs : PyData.strOk (PyData.dict (dkv ks ds)).shown = true) : VOk (.dic ks ds) := ⟨(fun z => by cases z), fun n => (by cases n <;> first | exact ⟨rfl, fun x e => (by cases e)⟩ | exact ⟨⟨rfl, fun x e => (by cases e)⟩, fun x e => (by cases e)⟩), rfl, h, okT_of hs, fun x e => (by cases e), fun x e => (by cases e)⟩
def vokB : D → Bool
  | .dic ks ds => decide (dicOK ks ds) && PyData.strOk (PyData.dict (dkv ks ds)).shown
  | d => okd 60 d && okq 60 d && Nat.ble (wt d) 16777216
theorem vok_b {d : D} (h : vokB d = true) : VOk d := by
  have go : (okd 60 d && okq 60 d && Nat.ble (wt d) 16777216) = true → VOk d := fun h => by
    rw [Bool.and_eq_true, Bool.and_eq_true] at h
    exact vok_of h.1.1 h.1.2 (Nat.le_of_ble_eq_true h.2)
  cases d with
  | dic ks ds =>
    have h : (decide (dicOK ks ds) && PyData.strOk (PyData.dict (dkv ks ds)).shown) = true := h
    rw [Bool.and_eq_true] at h
    exact vok_dic (of_decide_eq_true h.1) h.2
  | non => exact go h
  | bl _ => exact go h
  | int _ => exact go h
  | str _ => exact go h
  | tup _ => exact go h
  | lst _ => exact go h
  | obj _ _ => exact go h
  | exc _ _ => exact go h
  | jar => exact go h
theorem VOk.repr {d : D} (h : VOk d) : reprX2 [d] = some (.str (DL.shw d)) := reprX2_ok h.shw
/-- isinstance(d, str) -/
def strB : D → Bool
  | .str _ => true
  | _ => false
def tupB : D → Bool
  | .tup _ => true
  | _ => false
theorem strB_of {d : D} (h : strB d = true) : ∃ x, d = st x := by
  cases d <;> first | exact ⟨_, rfl⟩ | cases h
theorem tupB_of {d : D} (h : tupB d = true) : ∃ x, d = .tup x := by
  cases d <;> first | exact ⟨_, rfl⟩ | cases h
/-! ### runs that raise -/
section
variable {A : DE} {EX : XP} {r : List Sl} {a b : List Sl → RS} {e e1 e2 : List Sl → R D} {i j : Nat} {x : XD}
theorem W_exprX (h : e r = .ex x) (k : EX x) : W (yExpr e) A EX r := W_eq (z := .ex x) (by unfold yExpr; rw [h]; rfl) k
theorem S_exprX (h : e r = .ex x) (k : EX x) : W (ySeq (yExpr e) b) A EX r := W_seq (W_exprX h k)
theorem W_raise {c : Nat} {f : List Sl → R (List D)} {d : D} (h : f r = .ok [d]) (k : EX ⟨c, some d⟩) : W (yRaise c f) A EX r := W_eq (z := .ex ⟨c, some d⟩) (by unfold yRaise; rw [h]; rfl) k
theorem Z_call {c : List D → R D} {f : List Sl → R (List D)} {ds : List D} (h : f r = .ok ds) : xCall c f r = c ds := by unfold xCall; rw [h, bind_ok, frcs_eq]
/-- a def that raises -/
theorem cf_X {N : List Str} {n : Nat} {c : List Sl → RS} {ds : List D} (hl : ds.length = n) (h : W c { nx := fun _ => False, rt := fun _ => False } (fun y => y = x) (startD N ds)) : cfOf N n c ds = .ex x := by
  unfold cfOf
  rw [if_pos hl]
  unfold W at h
  cases q : c (startD N ds) with
  | nx r => rw [q] at h; exact h.elim
  | rt d => rw [q] at h; exact h.elim
  | bk r => rw [q] at h; exact h.elim
  | ct r => rw [q] at h; exact h.elim
  | rn d => rw [q] at h; exact h.elim
  | ex y => rw [q] at h; show R.ex y = _; rw [show y = x from h]
  | no => rw [q] at h; exact h.elim
theorem cfI_X {N : List Str} {n m c : Nat} {cc : List Sl → RS} {ds : List D} (hl : ds.length = n) (h : W cc { nx := fun _ => False, rt := fun _ => False } (fun y => y = x) (startI N 0 c ds)) : cfI N n m c cc ds = .ex x := by
  unfold cfI
  rw [if_pos hl]
  rw [W_def] at h
  cases q : cc (startI N 0 c ds) with
  | nx r => rw [q] at h; exact h.elim
  | rt d => rw [q] at h; exact h.elim
  | bk r => rw [q] at h; exact h.elim
  | ct r => rw [q] at h; exact h.elim
  | rn d => rw [q] at h; exact h.elim
  | ex y => rw [q] at h; show R.ex y = _; rw [show y = x from h]
  | no => rw [q] at h; exact h.elim
/-- what is called within x(lambda: ..) answers -/
theorem E_caught {n it : Nat} {k : List HdY} {rr : List Sl → RS} {d v : D} (h : e (r.map Sl.seen) = .ok d) (hr : rr ((List.replicate n Sl.un).set it (.val d)) = .rt v) : xCaught n it k rr e r = .ok v := by
  unfold xCaught
  rw [h]
  show (rr _).toR = _
  rw [hr]; rfl
/-- .. or raises -/
theorem E_caughtX {n it : Nat} {k : List HdY} {rr : List Sl → RS} {v : D} (h : e (r.map Sl.seen) = .ex x) (hr : yHdl n k x = .rt v) : xCaught n it k rr e r = .ok v := by
  unfold xCaught
  rw [h]
  show (yHdl n k x).toR = _
  rw [hr]; rfl
/-- isinstance(e, C), e an exception -/
theorem E_isx {tbl : Tag → Option Bool} {c : Nat} {ds : List D} {v : Bool} (h : e r = .ok (.exc c ds)) (h2 : tbl (.exc c) = some v) : isiX tbl e r = .ok (.bl v) := E_isi h rfl h2
theorem E_xat {tbl : Nat → Bool} {c : Nat} {d : D} (h : e r = .ok (.exc c [d])) (h2 : tbl c = true) : xXat tbl e r = .ok d := by
  unfold xXat
  rw [h]
  show (if tbl c = true then R.ok d else R.no) = _
  rw [if_pos h2]
end
/-! ### equality of short lists of texts -/
theorem okq_str {n : Nat} {t : Str} (h : okT t) : okq n (.str t) = true := by cases n <;> exact strOk_of h
theorem shp_strs {ts : List Str} (h : ∀ t ∈ ts, okT t) : shpB (.lst (ts.map D.str)) = true := shp_of (okq_lst (n := 59) (okqs_map (f := D.str) fun t ht => okq_str (h t ht)))
theorem eqvAll_strs : ∀ {a b : List Str}, PyData.eqvAll (pds (a.map D.str)) (pds (b.map D.str)) = decide (a = b)
  | [], [] => rfl
  | [], _ :: _ => rfl
  | _ :: _, [] => rfl
  | x :: a, y :: b => by
    show (PyData.eqv (.str x) (.str y) && PyData.eqvAll (pds (a.map D.str)) (pds (b.map D.str))) = _
    rw [eqvAll_strs, show PyData.eqv (.str x) (.str y) = decide (x = y) from rfl, Bool.eq_iff_iff, Bool.and_eq_true, decide_eq_true_iff, decide_eq_true_iff, decide_eq_true_iff]
    constructor
    · rintro ⟨rfl, rfl⟩; rfl
    · intro h; cases h; exact ⟨rfl, rfl⟩
theorem eqX_strs {a b : List Str} (ha : ∀ t ∈ a, okT t) (hb : ∀ t ∈ b, okT t) : eqX (.lst (a.map D.str)) (.lst (b.map D.str)) = some (.bl (decide (a = b))) := by
  show gd ((shpB (.lst (a.map D.str)) && shpB (.lst (b.map D.str))) = true) (.bl (eqb (.lst (a.map D.str)) (.lst (b.map D.str)))) = _
  rw [gd_pos (by rw [shp_strs ha, shp_strs hb]; rfl)]
  rw [show eqb (.lst (a.map D.str)) (.lst (b.map D.str)) = PyData.eqvAll (pds (a.map D.str)) (pds (b.map D.str)) from rfl, eqvAll_strs]
theorem neX_strs {a b : List Str} (ha : ∀ t ∈ a, okT t) (hb : ∀ t ∈ b, okT t) : neX (.lst (a.map D.str)) (.lst (b.map D.str)) = some (.bl (!decide (a = b))) := by
  show gd ((shpB (.lst (a.map D.str)) && shpB (.lst (b.map D.str))) = true) (.bl (!eqb (.lst (a.map D.str)) (.lst (b.map D.str)))) = _
  rw [gd_pos (by rw [shp_strs ha, shp_strs hb]; rfl)]
  rw [show eqb (.lst (a.map D.str)) (.lst (b.map D.str)) = PyData.eqvAll (pds (a.map D.str)) (pds (b.map D.str)) from rfl, eqvAll_strs]
mutual
theorem okd_mono : ∀ (n : Nat) (d : D), okd n d = true → okd (n + 1) d = true
  | _, .non, _ => rfl
  | _, .bl _, _ => rfl
  | _, .int _, h => by unfold okd at h ⊢; exact h
  | _, .str _, h => by unfold okd at h ⊢; exact h
  | 0, .tup _, h => by unfold okd at h; cases h
  | 0, .lst _, h => by unfold okd at h; cases h
  | n + 1, .tup ds, h => by unfold okd at h ⊢; exact okds_mono n ds h
  | n + 1, .lst ds, h => by unfold okd at h ⊢; exact okds_mono n ds h
  | _, .dic _ _, h => by unfold okd at h; cases h
  | _, .obj _ _, h => by unfold okd at h; cases h
  | _, .exc _ _, h => by unfold okd at h; cases h
  | _, .jar, h => by unfold okd at h; cases h
theorem okds_mono : ∀ (n : Nat) (ds : List D), okds n ds = true → okds (n + 1) ds = true
  | _, [], _ => rfl
  | n, d :: ds, h => by
    unfold okds at h ⊢
    rw [Bool.and_eq_true] at h
    rw [okd_mono n d h.1, okds_mono n ds h.2]; rfl
end
mutual
theorem okq_mono : ∀ (n : Nat) (d : D), okq n d = true → okq (n + 1) d = true
  | _, .non, _ => rfl
  | _, .bl _, _ => rfl
  | _, .int _, _ => rfl
  | _, .str _, h => by unfold okq at h ⊢; exact h
  | 0, .tup _, h => by unfold okq at h; cases h
  | 0, .lst _, h => by unfold okq at h; cases h
  | n + 1, .tup ds, h => by unfold okq at h ⊢; exact okqs_mono n ds h
  | n + 1, .lst ds, h => by unfold okq at h ⊢; exact okqs_mono n ds h
  | _, .dic _ _, h => by unfold okq at h; cases h
  | _, .obj _ _, h => by unfold okq at h; cases h
  | _, .exc _ _, h => by unfold okq at h; cases h
  | _, .jar, h => by unfold okq at h; cases h
theorem okqs_mono : ∀ (n : Nat) (ds : List D), okqs n ds = true → okqs (n + 1) ds = true
  | _, [], _ => rfl
  | n, d :: ds, h => by
    unfold okqs at h ⊢
    rw [Bool.and_eq_true] at h
    rw [okq_mono n d h.1, okqs_mono n ds h.2]; rfl
end
section
variable {e e2 : List Sl → R D} {r : List Sl}
end
/-! ### tuples and lists of small things -/
structure Few (e : D) : Prop where
  d : okd 58 e = true
  q : okq 58 e = true
  w : wt e ≤ 1000
theorem few_st {x : Tx} (h : ∀ c ∈ x, c < 1000) (hl : x.length ≤ 99) : Few (st x) where
  d := by
    show x.all (fun c => decide (c < 16 ^ 8)) = true
    rw [List.all_eq_true]
    exact fun c hc => decide_eq_true (Nat.lt_trans (h c hc) (by decide))
  q := strOk_of fun c hc => Nat.lt_trans (h c hc) (by decide)
  w := by show 10 * x.length + 2 ≤ 1000; omega
theorem few_all : ∀ {ds : List D}, (∀ e ∈ ds, Few e) → okds 58 ds = true ∧ okqs 58 ds = true ∧ wts ds ≤ ds.length * 1002
  | [], _ => ⟨rfl, rfl, Nat.zero_le _⟩
  | e :: ds, h => by
    obtain ⟨a, b, c⟩ := few_all fun x hx => h x (List.mem_cons_of_mem _ hx)
    have z := h e List.mem_cons_self
    refine ⟨by unfold okds; rw [z.d, a]; rfl, by unfold okqs; rw [z.q, b]; rfl, ?_⟩
    have := z.w
    show wt e + 2 + wts ds ≤ _
    rw [List.length_cons]
    omega
theorem vok_tup {ds : List D} (h : ∀ e ∈ ds, Few e) (hl : ds.length ≤ 100) : VOk (.tup ds) := by
  obtain ⟨a, b, c⟩ := few_all h
  have a2 : okd 59 (.tup ds) = true := okd_tup a
  have b2 : okq 59 (.tup ds) = true := okq_tup b
  exact vok_of (okd_mono _ _ a2) (okq_mono _ _ b2) (by show wts ds + 3 ≤ _; omega)
theorem vok_lst {ds : List D} (h : ∀ e ∈ ds, Few e) (hl : ds.length ≤ 100) : VOk (.lst ds) := by
  obtain ⟨a, b, c⟩ := few_all h
  have a2 : okd 59 (.lst ds) = true := okd_lst a
  have b2 : okq 59 (.lst ds) = true := okq_lst b
  exact vok_of (okd_mono _ _ a2) (okq_mono _ _ b2) (by show wts ds + 3 ≤ _; omega)
theorem vok_few {e : D} (h : Few e) : VOk e := vok_of (okd_mono _ _ (okd_mono _ _ h.d)) (okq_mono _ _ (okq_mono _ _ h.q)) (Nat.le_trans h.w (by decide))
/-! ### one of several things, drawn -/
section
variable {sp : DSp} {X : FE} {c : List Sl → R D} {A : DE} {EX : XP} {r : List Sl} {i j : Nat} {d0 d : D}
theorem F_pick {Q : D → Prop} (h : CF X c) (hr : r.map (adr 0) = r) (h0 : r[i]? = some (.val d0)) (e : c r = .ok d) (k : sp [d0, d] Q EX) : fCall sp (fCons (fVar i) (fCons X fNil)) r Q EX := by
  show fVar i r _ EX
  unfold fVar
  rw [h0]
  exact h.use hr e k
theorem ret_pick (h : CF X c) (hr : r.map (adr 0) = r) (h0 : r[i]? = some (.val d0)) (e : c r = .ok d) (k : sp [d0, d] A.rt EX) : sRet (fCall sp (fCons (fVar i) (fCons X fNil))) A EX r := F_pick h hr h0 e k
end
end DL
/-! Refusals: a def's answer, whatever it is; orders with something otherwise. -/
namespace DL
open PySem L2 PyProof.Rows TP
theorem cf_is {N : List Str} {n : Nat} {c : List Sl → RS} {ds : List D} {Z : R D} (hl : ds.length = n) (h : W c { nx := fun _ => Z = .ok .non, rt := fun d => Z = .ok d } (fun x => Z = .ex x) (startD N ds)) : cfOf N n c ds = Z := by
  unfold cfOf
  rw [if_pos hl]
  unfold W at h
  cases q : c (startD N ds) with
  | nx r => rw [q] at h; exact (show Z = .ok .non from h).symm
  | rt d => rw [q] at h; exact (show Z = .ok d from h).symm
  | bk r => rw [q] at h; exact h.elim
  | ct r => rw [q] at h; exact h.elim
  | rn d => rw [q] at h; exact h.elim
  | ex x => rw [q] at h; exact (show Z = .ex x from h).symm
  | no => rw [q] at h; exact h.elim
/-- a value that may be asked for its kind, item by item -/
structure WOk (d : D) : Prop where
  base : isBase d = true
  tup : ∀ ds, d = .tup ds → ds.length ≤ 16777216 ∧ ∀ e ∈ ds, isBase e = true ∧ smallT e
theorem VOk.w {d : D} (h : VOk d) : WOk d := ⟨h.base, h.tup⟩
def boolB : D → Bool
  | .bl _ => true
  | _ => false
def intB : D → Bool
  | .bl _ => true
  | .int _ => true
  | _ => false
/-! ### what the laws tell of refusals -/
/-- what _law_caught tells -/
def toldD (v : D) : D := .lst [.str "told", v]
def shownL (w : Str) (d : D) : D := .lst (([w, DL.shw d] : List Str).map D.str)
/-- an object made of what an __init__ leaves -/
def mkR (k : Nat) (z : R D) : R D := z.bind fun d => match d with
  | .tup es => .ok (.obj k es)
  | _ => .no
theorem Z_make {k : Nat} {c : List D → R D} {f : List Sl → R (List D)} {ds : List D} {r : List Sl} (h1 : f r = .ok ds) : xMake k c f r = mkR k (c ds) := by
  unfold xMake
  rw [h1, bind_ok, frcs_eq]; rfl
theorem Z_makeK {k n m : Nat} {sel : List Src} {dd : List D} {c : List D → R D} {f : List Sl → R (List D × List D)} {ds es xs : List D} {r : List Sl} (h1 : f r = .ok (ds, es)) (hn : ds.length + 1 = n ∧ es.length = m) (hp : pick sel ds es dd = xs) : xMakeK k n m sel dd c f r = mkR k (c xs) := by
  unfold xMakeK
  rw [h1, bind_ok, if_pos hn, frcs_eq, hp]; rfl
theorem vok_nat {k : Nat} (h : k ≤ 16777216) : VOk (.int k) := vok_of (okd_nat h) okq_int (Nat.le_trans (wt_nat h) (by decide))
/-! ### a walk by places, with an early end -/
section
variable {σ : Type}
def walkG (step : σ → D → Option σ) : Nat → σ → List D → Sum Nat σ
  | _, s, [] => .inr s
  | n, s, d :: ds => match step s d with
    | some t => walkG step (n + 1) t ds
    | none => .inl n
theorem walkG_at {step : σ → D → Option σ} {n : Nat} {s : σ} {ds : List D} {d : D} (h : ds[n]? = some d) : walkG step n s (ds.drop n) = match step s d with
    | some t => walkG step (n + 1) t (ds.drop (n + 1))
    | none => .inl n := by
  obtain ⟨hk, e⟩ := List.getElem?_eq_some_iff.mp h
  rw [List.drop_eq_getElem_cons hk, e]; rfl
theorem range_at {n k : Nat} {p q : List Nat} (h : List.range n = p ++ k :: q) : k = p.length := by
  have h1 : (List.range n)[p.length]? = some k := by rw [h]; simp
  have h2 : p.length < n := by
    have := congrArg List.length h
    simp at this
    omega
  rw [List.getElem?_range h2] at h1
  exact (Option.some.inj h1).symm
theorem W_walk {A : DE} {EX : XP} {r : List Sl} {b : List Sl → RS} {s : List Sl → R (List D)} {g : D → List Sl → Option (List Sl)} {ds : List D} (step : σ → D → Option σ) (s0 : σ) (I : Nat → σ → List Sl → Prop) (hs : s r = .ok [.int (ds.length : Nat)]) (hl : ds.length < 1000000000) (h0 : I 0 s0 r)
    (hb : ∀ k t r d, ds[k]? = some d → I k t r → (step t d = none → walkG step 0 s0 ds = .inl k) → ∃ r1, g (.int k) r = some r1 ∧ W b { A with nx := fun r2 => ∃ u, step t d = some u ∧ I (k + 1) u r2, ct := fun r2 => ∃ u, step t d = some u ∧ I (k + 1) u r2, bk := A.nx } EX r1)
    (hk : ∀ t r, walkG step 0 s0 ds = .inr t → I ds.length t r → A.nx r) : W (yFor (iRng1 s) g b) A EX r := by
  refine W_for (em := fun k : Nat => .int k) (xs := List.range ds.length) (fun p r => ∃ t, I p.length t r ∧ walkG step 0 s0 ds = walkG step p.length t (ds.drop p.length)) (by rw [rng1_ok (n := ds.length) hs hl, rangeD_nat]) ⟨s0, h0, rfl⟩ ?_ ?_
  · rintro p k q hq r ⟨t, hi, hw⟩
    have hk : k < ds.length := range_pre hq
    have ek : k = p.length := range_at hq
    subst ek
    have hat : ds[p.length]? = some ds[p.length] := List.getElem?_eq_getElem hk
    have hw2 := hw.trans (walkG_at (step := step) (s := t) hat)
    obtain ⟨r1, e1, w⟩ := hb p.length t r _ hat hi (fun e => by rw [hw2, e])
    refine ⟨r1, e1, ?_⟩
    have fin : ∀ r2, (∃ u, step t ds[p.length] = some u ∧ I (p.length + 1) u r2) → ∃ t, I (p ++ [p.length]).length t r2 ∧ walkG step 0 s0 ds = walkG step (p ++ [p.length]).length t (ds.drop (p ++ [p.length]).length) := fun r2 ⟨u, e, hu⟩ => by
      refine ⟨u, ?_, ?_⟩
      · rw [List.length_append]; exact hu
      · rw [hw2, e, List.length_append]; rfl
    rw [W_def] at w ⊢
    cases z : b r1 with
    | nx r2 => rw [z] at w; exact fin r2 w
    | ct r2 => rw [z] at w; exact fin r2 w
    | bk r2 => rw [z] at w; exact w
    | rt d => rw [z] at w; exact w
    | rn d => rw [z] at w; exact w
    | ex x => rw [z] at w; exact w
    | no => rw [z] at w; exact w
  · rintro r ⟨t, hi, hw⟩
    rw [List.length_range] at hi hw
    refine hk t r (hw.trans ?_) hi
    rw [List.drop_length]; rfl
theorem S_walk {A : DE} {EX : XP} {r : List Sl} {b c : List Sl → RS} {s : List Sl → R (List D)} {g : D → List Sl → Option (List Sl)} {ds : List D} (step : σ → D → Option σ) (s0 : σ) (I : Nat → σ → List Sl → Prop) (hs : s r = .ok [.int (ds.length : Nat)]) (hl : ds.length < 1000000000) (h0 : I 0 s0 r)
    (hb : ∀ k t r d, ds[k]? = some d → I k t r → (step t d = none → walkG step 0 s0 ds = .inl k) → ∃ r1, g (.int k) r = some r1 ∧ W b { A with nx := fun r2 => ∃ u, step t d = some u ∧ I (k + 1) u r2, ct := fun r2 => ∃ u, step t d = some u ∧ I (k + 1) u r2, bk := fun r => W c A EX r } EX r1)
    (hk : ∀ t r, walkG step 0 s0 ds = .inr t → I ds.length t r → W c A EX r) : W (ySeq (yFor (iRng1 s) g b) c) A EX r := W_seq (W_walk step s0 I hs hl h0 hb hk)
end
theorem walkG_lt {σ : Type} {step : σ → D → Option σ} {k : Nat} : ∀ (ds : List D) (n : Nat) (s : σ), walkG step n s ds = .inl k → k < n + ds.length
  | [], n, s, h => by cases h
  | d :: ds, n, s, h => by
    unfold walkG at h
    rw [List.length_cons]
    cases e : step s d with
    | none => rw [e] at h; cases h; omega
    | some t =>
      rw [e] at h
      have := walkG_lt ds (n + 1) t h
      omega
end DL
/-! Facts with something otherwise. -/
namespace DL
open PySem L2 PyProof.Rows TP
theorem DOk.base {d : D} (h : DOk d) : isBase d = true := (h 0).1
theorem DOk.small {d : D} (h : DOk d) : smallT d := (h 0).2
theorem DOk.items {ds : List D} (h : DOk (.tup ds)) : ds.length ≤ 16777216 ∧ ∀ e ∈ ds, DOk e := ⟨((h 1).2 _ rfl).1, fun e he n => ((h (n + 1)).2 _ rfl).2 e he⟩
theorem DOk.w {d : D} (h : DOk d) : WOk d := ⟨h.base, fun ds e => by
  subst e
  exact ⟨h.items.1, fun x hx => ⟨(h.items.2 x hx).base, (h.items.2 x hx).small⟩⟩⟩
/-- facts that some order agrees with -/
def FcE (s : List Int) (F : List Fa) : Prop := ∃ o, o.Perm (sets (full s)) ∧ Fc (full s) o F
theorem FcE.plain {s : List Int} {F : List Fa} (ok : OkS s) (h : FcE s F) : ∀ f ∈ F, Plain f.1 ∧ Plain f.2 := by
  obtain ⟨o, hp, hc⟩ := h
  exact fc_plain ok hp hc
theorem FcE.few {s : List Int} {F : List Fa} (h : FcE s F) : F.length ≤ 900 := by
  obtain ⟨o, hp, hc⟩ := h
  exact hc.few
end DL
/-! One peak in each part: no crossed square, no second peak. -/
namespace DL
open PySem L2 PyProof.Rows TP
section
variable {s : List Int} {o rs : List Tx}
end
end DL
/-! Sizes of boards, right and wrong ones; texts of boards. -/
namespace DL
open PySem L2 PyProof.Rows TP
def szItem (k : Nat) (many : Int) : D → Option Int
  | .int v => if k ≠ 5 ∧ (v = 2 ∨ v = 3) ∧ many * v ≤ 48 then some v else none
  | _ => none
def szStep (s : Nat × Int) (d : D) : Option (Nat × Int) := match szItem s.1 s.2 d with
  | some v => some (s.1 + 1, s.2 * v)
  | none => none
/-- what slips among sizes -/
def szSlip : D → Option D
  | .tup ds => if ds.isEmpty = true then some .non else match walkG szStep 0 (0, 1) ds with
    | .inl k => some (.int k)
    | .inr _ => none
  | _ => some .non
theorem szSlip_not {d : D} (h : tupB d = false) : szSlip d = some .non := by
  cases d <;> first | rfl | cases h
theorem szSlip_tup {ds : List D} (h : ds.isEmpty = false) : szSlip (.tup ds) = match walkG szStep 0 (0, 1) ds with
    | .inl k => some (.int k)
    | .inr _ => none := by
  show (if ds.isEmpty = true then _ else _) = _
  rw [if_neg (by rw [h]; exact Bool.false_ne_true)]
theorem szItem_some {k : Nat} {m v : Int} {d : D} (h : szItem k m d = some v) : d = .int v ∧ k ≠ 5 ∧ (v = 2 ∨ v = 3) ∧ m * v ≤ 48 := by
  cases d with
  | int w =>
    have h : (if k ≠ 5 ∧ (w = 2 ∨ w = 3) ∧ m * w ≤ 48 then some w else none) = some v := h
    by_cases c : k ≠ 5 ∧ (w = 2 ∨ w = 3) ∧ m * w ≤ 48
    · rw [if_pos c] at h
      have h := Option.some.inj h
      subst h
      exact ⟨rfl, c⟩
    · rw [if_neg c] at h; cases h
  | non => cases h
  | bl _ => cases h
  | str _ => cases h
  | tup _ => cases h
  | lst _ => cases h
  | dic _ _ => cases h
  | obj _ _ => cases h
  | exc _ _ => cases h
  | jar => cases h
theorem szStep_some {k : Nat} {m v : Int} {d : D} (h : szItem k m d = some v) : szStep (k, m) d = some (k + 1, m * v) := by
  unfold szStep
  rw [h]
theorem szStep_none {k : Nat} {m : Int} {d : D} (h : szItem k m d = none) : szStep (k, m) d = none := by
  unfold szStep
  rw [h]
theorem walk_sizes : ∀ (ds : List D) (n k : Nat) (m : Int) (t : Nat × Int), k ≤ 5 → walkG szStep n (k, m) ds = .inr t → ∃ s : List Int, ds = s.map D.int ∧ (∀ z ∈ s, z = 2 ∨ z = 3) ∧ k + s.length ≤ 5 ∧ (s = [] ∨ m * prodI s ≤ 48)
  | [], n, k, m, t, hk, h => ⟨[], rfl, (fun z hz => by cases hz), by simpa using hk, .inl rfl⟩
  | d :: ds, n, k, m, t, hk, h => by
    unfold walkG at h
    cases e : szItem k m d with
    | none => rw [szStep_none e] at h; cases h
    | some v =>
      rw [szStep_some e] at h
      obtain ⟨rfl, h5, hv, hm⟩ := szItem_some e
      obtain ⟨s, rfl, h2, h3, h4⟩ := walk_sizes ds (n + 1) (k + 1) (m * v) t (by omega) h
      refine ⟨v :: s, rfl, fun z hz => ?_, by rw [List.length_cons]; omega, .inr ?_⟩
      · rcases List.mem_cons.mp hz with rfl | hz
        · exact hv
        · exact h2 z hz
      · show m * (v * prodI s) ≤ 48
        rw [← Int.mul_assoc]
        rcases h4 with rfl | h4
        · show m * v * 1 ≤ 48
          omega
        · exact h4
theorem mem_listsN : ∀ (n : Nat) (s : List Int), s.length ≤ n → (∀ z ∈ s, z = 2 ∨ z = 3) → s ∈ lists n
  | 0, [], _, _ => by simp [lists]
  | 0, _ :: _, h, _ => by simp at h
  | n + 1, [], _, _ => by simp [lists]
  | n + 1, z :: s, h, k => by
    have ih := mem_listsN n s (by simpa using h) fun y hy => k y (List.mem_cons_of_mem _ hy)
    unfold lists
    refine List.mem_cons_of_mem _ (List.mem_flatMap.mpr ⟨s, ih, ?_⟩)
    rcases k z List.mem_cons_self with e | e <;> simp [e]
theorem szSlip_none {d : D} (h : szSlip d = none) : ∃ s ∈ spansOf 48, d = .tup (s.map D.int) := by
  cases ht : tupB d with
  | false => rw [szSlip_not ht] at h; cases h
  | true =>
    obtain ⟨ds, rfl⟩ := tupB_of ht
    cases he : ds.isEmpty with
    | true =>
      have h : (if ds.isEmpty = true then some D.non else _) = (none : Option D) := h
      rw [if_pos he] at h; cases h
    | false =>
      rw [szSlip_tup he] at h
      cases e : walkG szStep 0 (0, 1) ds with
      | inl k => rw [e] at h; cases h
      | inr t =>
        obtain ⟨s, rfl, h2, h3, h4⟩ := walk_sizes ds 0 0 1 t (by omega) e
        refine ⟨s, List.mem_filter.mpr ⟨mem_listsN 5 s (by omega) h2, ?_⟩, rfl⟩
        have hs : s.isEmpty = false := by
          cases s with
          | nil => cases he
          | cons _ _ => rfl
        rw [hs]
        rcases h4 with rfl | h4
        · cases hs
        · show (true && decide (prodI s ≤ 48)) = true
          rw [decide_eq_true (by omega)]; rfl
/-! ### texts of boards -/
def digB (c : Nat) : Bool := decide (c = 50) || decide (c = 51)
def txD (x : Tx) : D := .tup (x.map fun c => .int ((c - 48 : Nat) : Int))
def fineB (x : Tx) : Bool := x.all digB && (szSlip (txD x)).isNone
theorem fine_of {x : Tx} (h : fineB x = true) : x.all digB = true ∧ szSlip (txD x) = none ∧ ∃ s ∈ spansOf 48, txD x = .tup (s.map D.int) ∧ x = s.map fun z : Int => 48 + z.toNat := by
  unfold fineB at h
  rw [Bool.and_eq_true] at h
  have h2 : szSlip (txD x) = none := by simpa using h.2
  refine ⟨h.1, h2, ?_⟩
  obtain ⟨s, hs, e⟩ := szSlip_none h2
  refine ⟨s, hs, e, ?_⟩
  unfold txD at e
  have e : (x.map fun c => D.int ((c - 48 : Nat) : Int)) = s.map D.int := by injection e
  have e2 : x.map (fun c => ((c - 48 : Nat) : Int)) = s := by
    have := congrArg (List.map fun d : D => match d with | .int v => v | _ => 0) e
    rw [List.map_map, List.map_map] at this
    simpa [Function.comp_def] using this
  rw [← e2, List.map_map]
  have hd := h.1
  rw [List.all_eq_true] at hd
  symm
  refine (List.map_congr_left (g := id) fun c hc => ?_).trans (List.map_id x)
  have := hd c hc
  unfold digB at this
  rw [Bool.or_eq_true, decide_eq_true_iff, decide_eq_true_iff] at this
  rcases this with rfl | rfl <;> rfl
/-! ### what stands in a tuple that may be compared -/
theorem shp_mems : ∀ {ds : List D}, plains ds = true → PyData.canLayAll0 (pds ds) = true → PyData.depthAll (pds ds) ≤ 64 → ∀ e ∈ ds, shpB e = true
  | [], _, _, _, e, h => by cases h
  | d :: ds, h1, h2, h3, e, he => by
    unfold plains at h1
    simp only [pds, PyData.canLayAll0] at h2
    simp only [pds, PyData.depthAll] at h3
    rw [Bool.and_eq_true] at h1 h2
    have h3 := Nat.max_le.mp h3
    rcases List.mem_cons.mp he with rfl | he
    · unfold shpB SeqAt.shaped
      rw [h1.1, h2.1, decide_eq_true h3.1]; rfl
    · exact shp_mems h1.2 h2.2 h3.2 e he
theorem shp_mem {ds : List D} (h : shpB (.tup ds) = true) : ∀ e ∈ ds, shpB e = true := by
  unfold shpB SeqAt.shaped at h
  rw [Bool.and_eq_true, Bool.and_eq_true, decide_eq_true_iff] at h
  obtain ⟨h1, h2, h3⟩ := h
  unfold plain at h1
  simp only [pd, PyData.canLay0] at h2
  simp only [pd, PyData.depth] at h3
  exact shp_mems h1 h2 (by omega)
def twoB (d : D) : Bool := eqb (.int 2) d || eqb (.int 3) d
theorem in23 {neg : Bool} {d : D} (h : shpB d = true) : inX neg d (.lst [.int 2, .int 3]) = some (.bl (neg != twoB d)) := by
  show gd ((shpB d && shpB (.lst [.int 2, .int 3])) = true) (.bl (neg != ([D.int 2, .int 3].any fun z => eqb z d))) = _
  rw [gd_pos (by rw [h]; rfl)]
  show some (D.bl (neg != (eqb (.int 2) d || (eqb (.int 3) d || false)))) = _
  rw [Bool.or_false]; rfl
theorem two_int {v : Int} : twoB (.int v) = decide (v = 2 ∨ v = 3) := by
  show (PyData.eqv (.int 2) (.int v) || PyData.eqv (.int 3) (.int v)) = _
  rw [PyData.eqv, PyData.eqv, Bool.eq_iff_iff]
  simp
  omega
end DL
namespace K03
open PySem L2 DL PyProof.Rows
abbrev fl_Board : List Str := ["both"]
def D_DIGITS : D := .dic [.inr "2", .inr "3"] [(.int 2), (.int 3)]
def D_STANDS : D := .dic [.inl 2, .inl 3] [(.str "01"), (.str "012")]
def exm_InvalidSizes : Nat → Option Bool
  | 23 => some true
  | 11 => some false
  | _ => none
def xt_index : Nat → Bool
  | 23 => true
  | _ => false
def xt_given : Nat → Bool
  | 11 => true
  | _ => false
def isx_WrongValue : Tag → Option Bool
  | .exc 23 => some true
  | .exc 11 => some true
  | _ => none
def isx_WrongName : Tag → Option Bool
  | .exc 23 => some false
  | .exc 11 => some false
  | _ => none
def isx_NotPossible : Tag → Option Bool
  | .exc 23 => some false
  | .exc 11 => some false
  | _ => none
def isx_ValueError : Tag → Option Bool
  | .exc 23 => some true
  | .exc 11 => some true
  | _ => none
def isx_LookupError : Tag → Option Bool
  | .exc 23 => some false
  | .exc 11 => some false
  | _ => none
def isx_ArithmeticError : Tag → Option Bool
  | .exc 23 => some false
  | .exc 11 => some false
  | _ => none
def isx_InvalidSizes : Tag → Option Bool
  | .exc 23 => some true
  | .exc 11 => some false
  | _ => none
def isx_InvalidText : Tag → Option Bool
  | .exc 23 => some false
  | .exc 11 => some true
  | _ => none
def isi_bool : Tag → Option Bool
  | .non => some false
  | .bl => some true
  | .int => some false
  | .str => some false
  | .tup => some false
  | .lst => some false
  | .dic => some false
  | .obj _ => none
  | .exc _ => none
def isi_int : Tag → Option Bool
  | .non => some false
  | .bl => some true
  | .int => some true
  | .str => some false
  | .tup => some false
  | .lst => some false
  | .dic => some false
  | .obj _ => none
  | .exc _ => none
def isi_str : Tag → Option Bool
  | .non => some false
  | .bl => some false
  | .int => some false
  | .str => some true
  | .tup => some false
  | .lst => some false
  | .dic => some false
  | .obj _ => none
  | .exc _ => none
def isi_tuple : Tag → Option Bool
  | .non => some false
  | .bl => some false
  | .int => some false
  | .str => some false
  | .tup => some true
  | .lst => some false
  | .dic => some false
  | .obj _ => none
  | .exc _ => none
/-! _law_dip -/
abbrev N_law_dip : List Str := ["jar", "most", "seed", "digit"]
def R_law_dip : FS := (sSeq (sJar 0 (f2 addD (fJar (fVar 0)) (fC (.int 1))))
    (sSeq (sIf (fTb (f2 gtD (fJar (fVar 0)) (fC (.int 0)))) (sSeq (sSet 3 (f2 modD (fCa intC2 (fCons (fJar (fVar 0)) fNil)) (fVar 1)))
    (sSeq (sJar 0 (f2 divD (fCa intC2 (fCons (fJar (fVar 0)) fNil)) (fVar 1)))
    (sRet (fVar 3)))) sNext)
    (sSeq (sSet 2 (fCa intC2 (fCons (fJar (fVar 0)) fNil)))
    (sSeq (sJar 0 (f2 modD (fCa intC2 (fCons (f2 addD (f2 addD (f2 mulAD (fVar 2) (fC (.int 40692))) (f2 mulAD (fJar (fVar 0)) (fC (.int 52021)))) (fC (.int 31))) fNil)) (fC (.int 2147483399))))
    (sRet (f2 modD (fCa intC2 (fCons (f2 divD (fJar (fVar 0)) (fC (.int 2048))) fNil)) (fVar 1)))))))
def sp_law_dip : DSp := fun ds Q _ => ∃ m : Int, ds = [.jar, .int m] ∧ 0 < m ∧ m < 1073741824 ∧ ∀ n : Int, 0 ≤ n → n < m → Q (.int n)
/-! _law_pick -/
abbrev N_law_pick : List Str := ["jar", "menu", "at"]
def R_law_pick : FS := (sSeq (sSet 2 (fCall sp_law_dip (fCons (fVar 0) (fCons (fCa lenD (fCons (fVar 1) fNil)) fNil))))
    (sRet (f2 ixD (fVar 1) (fVar 2))))
def sp_law_pick : DSp := fun ds Q _ => ∃ (xs : List D) (d : D), ds = [.jar, d] ∧ (d = .lst xs ∨ d = .tup xs) ∧ xs ≠ [] ∧ xs.length < 1000000 ∧ ∀ d ∈ xs, Q d
/-! _law_odd -/
abbrev N_law_odd : List Str := ["jar", "menu"]
def P_law_odd_0 : FS := (sSet 1 (fL (fLst (fCons (fC .non) (fCons (fC (.bl true)) (fCons (fC (.bl false)) (fCons (fC (.int 0)) (fCons (fC (.int 1)) (fCons (fNeg (fC (.int 1))) (fCons (fC (.int 2)) (fCons (f2 powD (fC (.int 10)) (fC (.int 30))) (fCons (fC (.str "")) (fCons (fC (.str "0")) fNil)))))))))))))
def yP_law_odd_0 : DL.Env → RS := (ySet 1 (xL (xLst (xCons (xC .non) (xCons (xC (.bl true)) (xCons (xC (.bl false)) (xCons (xC (.int 0)) (xCons (xC (.int 1)) (xCons (xNeg (xC (.int 1))) (xCons (xC (.int 2)) (xCons (x2 powX (xC (.int 10)) (xC (.int 30))) (xCons (xC (.str "")) (xCons (xC (.str "0")) xNil)))))))))))))
theorem lP_law_odd_0 : CS P_law_odd_0 yP_law_odd_0 := (s_set (f_L (f_lst (f_cons f_c (f_cons f_c (f_cons f_c (f_cons f_c (f_cons f_c (f_cons (f_neg f_c) (f_cons f_c (f_cons (f_2 g_pow f_c f_c) (f_cons f_c (f_cons f_c f_nil)))))))))))))
def P_law_odd_1 : FS := (sSet 1 (fL (fAddN (fVar 1) (fL (fLst (fCons (fC (.str "00")) (fCons (fC (.str "3")) (fCons (fC (.str "0 1")) (fCons (fTup fNil) (fCons (fTup (fCons (fC (.int 1)) fNil)) (fCons (fTup (fCons (fC (.str "0")) fNil)) (fCons (fTup (fCons (fC (.str "0")) (fCons (fC (.str "1")) fNil))) (fCons (fL (fLst (fCons (fC (.str "0")) fNil))) (fCons (fL (fLst fNil)) fNil))))))))))))))
def yP_law_odd_1 : DL.Env → RS := (ySet 1 (xL (xAddN (xVar 1) (xL (xLst (xCons (xC (.str "00")) (xCons (xC (.str "3")) (xCons (xC (.str "0 1")) (xCons (xTup xNil) (xCons (xTup (xCons (xC (.int 1)) xNil)) (xCons (xTup (xCons (xC (.str "0")) xNil)) (xCons (xTup (xCons (xC (.str "0")) (xCons (xC (.str "1")) xNil))) (xCons (xL (xLst (xCons (xC (.str "0")) xNil))) (xCons (xL (xLst xNil)) xNil))))))))))))))
theorem lP_law_odd_1 : CS P_law_odd_1 yP_law_odd_1 := (s_set (f_L (f_addN f_var (f_L (f_lst (f_cons f_c (f_cons f_c (f_cons f_c (f_cons (f_tup f_nil) (f_cons (f_tup (f_cons f_c f_nil)) (f_cons (f_tup (f_cons f_c f_nil)) (f_cons (f_tup (f_cons f_c (f_cons f_c f_nil))) (f_cons (f_L (f_lst (f_cons f_c f_nil))) (f_cons (f_L (f_lst f_nil)) f_nil))))))))))))))
def R_law_odd : FS := (sSeq P_law_odd_0
    (sSeq P_law_odd_1
    (sRet (fCall sp_law_pick (fCons (fVar 0) (fCons (fL (fAddN (fVar 1) (fL (fLst (fCons (fC (.dic [] [])) (fCons (fDic [.inr "0"] [((fC (.str "0")), (fC (.int 1)))]) (fCons (fTup (fCons (fC .non) (fCons (fC (.int 0)) fNil))) (fCons (fC (.str "0\n1")) (fCons (fTup (fCons (fTup (fCons (fC (.str "0")) (fCons (fC (.str "1")) fNil))) fNil)) (fCons (fTup (fCons (fC (.str "0")) (fCons (fC (.str "0")) fNil))) (fCons (fL (fLst (fCons (fL (fLst fNil)) fNil))) (fCons (fC (.str "000000")) (fCons (fTup (fCons (fTup fNil) fNil)) (fCons (fTup (fCons (fC (.int 2)) (fCons (fC (.int 2)) fNil))) fNil)))))))))))))) fNil))))))
def sp_law_odd : DSp := fun ds Q _ => ds = [.jar] ∧ ∀ d, VOk d → Q d
/-! _law_slip -/
abbrev N_law_slip : List Str := ["value", "many", "k"]
def R_law_slip : FS := (sSeq (sIf (fOrT (fNotT (fTb (isiD isi_tuple (fVar 0)))) (fTb (f2 (eqUD false) (fVar 0) (fTup fNil)))) (sRet (fL (fLst (fCons (fC (.str "sizes")) (fCons (fC (.str "None")) fNil))))) sNext)
    (sSeq (sSet 1 (fC (.int 1)))
    (sSeq (sFor (fRng1 (fCons (fCa lenD (fCons (fVar 0) fNil)) fNil)) (gVar 2)
      (sSeq (sIf (fOrT (fTb (f2 eqD (fVar 2) (fC (.int 5)))) (fOrT (fTb (isiD isi_bool (f2 ixD (fVar 0) (fVar 2)))) (fOrT (fTb (f2 (inD true) (f2 ixD (fVar 0) (fVar 2)) (fL (fLst (fCons (fC (.int 2)) (fCons (fC (.int 3)) fNil)))))) (fTb (f2 gtD (f2 mulAD (fVar 1) (f2 ixD (fVar 0) (fVar 2))) (fC (.int 48))))))) (sRet (fL (fLst (fCons (fC (.str "sizes")) (fCons (fCa reprD2 (fCons (fVar 2) fNil)) fNil))))) sNext)
    (sSet 1 (f2 mulAD (fVar 1) (f2 ixD (fVar 0) (fVar 2))))))
    (sRet (fL (fLst fNil))))))
def x_law_slip : DL.Env → RS := (ySeq (yIf (xOrT (xNotT (xTb (isiX isi_tuple (xVar 0)))) (xTb (x2 (eqUX false) (xVar 0) (xTup xNil)))) (yRet (xL (xLst (xCons (xC (.str "sizes")) (xCons (xC (.str "None")) xNil))))) yNext)
    (ySeq (ySet 1 (xC (.int 1)))
    (ySeq (yFor (iRng1 (xCons (xCa lenX (xCons (xVar 0) xNil)) xNil)) (yVar 2)
      (ySeq (yIf (xOrT (xTb (x2 eqX (xVar 2) (xC (.int 5)))) (xOrT (xTb (isiX isi_bool (x2 ixX (xVar 0) (xVar 2)))) (xOrT (xTb (x2 (inX true) (x2 ixX (xVar 0) (xVar 2)) (xL (xLst (xCons (xC (.int 2)) (xCons (xC (.int 3)) xNil)))))) (xTb (x2 gtX (x2 mulAX (xVar 1) (x2 ixX (xVar 0) (xVar 2))) (xC (.int 48))))))) (yRet (xL (xLst (xCons (xC (.str "sizes")) (xCons (xCa reprX2 (xCons (xVar 2) xNil)) xNil))))) yNext)
    (ySet 1 (x2 mulAX (xVar 1) (x2 ixX (xVar 0) (xVar 2))))))
    (yRet (xL (xLst xNil))))))
theorem l_law_slip : CS R_law_slip x_law_slip := (s_seq (s_if (f_orT (f_notT (f_tb (f_isi f_var))) (f_tb (f_2 g_eqU f_var (f_tup f_nil)))) (s_ret (f_L (f_lst (f_cons f_c (f_cons f_c f_nil))))) s_next)
    (s_seq (s_set f_c)
    (s_seq (s_for (f_rng1 (f_cons (f_ca g_len (f_cons f_var f_nil)) f_nil)) t_var
      (s_seq (s_if (f_orT (f_tb (f_2 g_eq f_var f_c)) (f_orT (f_tb (f_isi (f_2 g_ix f_var f_var))) (f_orT (f_tb (f_2 g_in (f_2 g_ix f_var f_var) (f_L (f_lst (f_cons f_c (f_cons f_c f_nil)))))) (f_tb (f_2 g_gt (f_2 g_mulA f_var (f_2 g_ix f_var f_var)) f_c))))) (s_ret (f_L (f_lst (f_cons f_c (f_cons (f_ca g_repr2 (f_cons f_var f_nil)) f_nil))))) s_next)
    (s_set (f_2 g_mulA f_var (f_2 g_ix f_var f_var)))))
    (s_ret (f_L (f_lst f_nil))))))
def cf_law_slip : List D → R D := cfOf N_law_slip 1 x_law_slip
def sp_law_slip : DSp := spOf cf_law_slip
/-! _law_bases -/
abbrev N_law_bases : List Str := ["e", "found"]
def R_law_bases : FS := (sSeq (sSetOwn 1 (fLst (fCons (fAnd (isiD isx_WrongValue (fVar 0)) (isiD isx_ValueError (fVar 0))) fNil)))
    (sSeq (sAppC 1 (fAnd (isiD isx_WrongName (fVar 0)) (isiD isx_LookupError (fVar 0))))
    (sRet (fL (fAddN (fSee 1) (fL (fLst (fCons (fAnd (isiD isx_NotPossible (fVar 0)) (isiD isx_ArithmeticError (fVar 0))) fNil))))))))
def x_law_bases : DL.Env → RS := (ySeq (ySetOwn 1 (xLst (xCons (xAnd (isiX isx_WrongValue (xVar 0)) (isiX isx_ValueError (xVar 0))) xNil)))
    (ySeq (yApp 1 (xAnd (isiX isx_WrongName (xVar 0)) (isiX isx_LookupError (xVar 0))))
    (yRet (xL (xAddN (xSee 1) (xL (xLst (xCons (xAnd (isiX isx_NotPossible (xVar 0)) (isiX isx_ArithmeticError (xVar 0))) xNil))))))))
theorem l_law_bases : CS R_law_bases x_law_bases := (s_seq (s_setOwn (f_lst (f_cons (f_and (f_isi f_var) (f_isi f_var)) f_nil)))
    (s_seq (s_app (f_and (f_isi f_var) (f_isi f_var)))
    (s_ret (f_L (f_addN f_see (f_L (f_lst (f_cons (f_and (f_isi f_var) (f_isi f_var)) f_nil))))))))
def cf_law_bases : List D → R D := cfOf N_law_bases 1 x_law_bases
def sp_law_bases : DSp := spOf cf_law_bases
/-! _law_shown -/
abbrev N_law_shown : List Str := ["e"]
def R_law_shown : FS := (sSeq (sIf (fOrT (fTb (f2 neD (fCall sp_law_bases (fCons (fVar 0) fNil)) (fL (fLst (fCons (fC (.bl true)) (fCons (fC (.bl false)) (fCons (fC (.bl false)) fNil))))))) (fTb (f2 eqD (isiD isx_InvalidSizes (fVar 0)) (isiD isx_InvalidText (fVar 0))))) (sRet (fL (fLst (fCons (fC (.str "odd")) (fCons (fC (.str "")) fNil))))) sNext)
    (sRet (fIf (fTb (isiD isx_InvalidSizes (fVar 0))) (fL (fLst (fCons (fC (.str "sizes")) (fCons (fCa reprD2 (fCons (fXat xt_index (fVar 0)) fNil)) fNil)))) (fL (fLst (fCons (fC (.str "text")) (fCons (fCa reprD2 (fCons (fXat xt_given (fVar 0)) fNil)) fNil)))))))
def x_law_shown : DL.Env → RS := (ySeq (yIf (xOrT (xTb (x2 neX (xCall cf_law_bases (xCons (xVar 0) xNil)) (xL (xLst (xCons (xC (.bl true)) (xCons (xC (.bl false)) (xCons (xC (.bl false)) xNil))))))) (xTb (x2 eqX (isiX isx_InvalidSizes (xVar 0)) (isiX isx_InvalidText (xVar 0))))) (yRet (xL (xLst (xCons (xC (.str "odd")) (xCons (xC (.str "")) xNil))))) yNext)
    (yRet (xIf (xTb (isiX isx_InvalidSizes (xVar 0))) (xL (xLst (xCons (xC (.str "sizes")) (xCons (xCa reprX2 (xCons (xXat xt_index (xVar 0)) xNil)) xNil)))) (xL (xLst (xCons (xC (.str "text")) (xCons (xCa reprX2 (xCons (xXat xt_given (xVar 0)) xNil)) xNil)))))))
theorem l_law_shown : CS R_law_shown x_law_shown := (s_seq (s_if (f_orT (f_tb (f_2 g_ne (f_call (f_cons f_var f_nil)) (f_L (f_lst (f_cons f_c (f_cons f_c (f_cons f_c f_nil))))))) (f_tb (f_2 g_eq (f_isi f_var) (f_isi f_var)))) (s_ret (f_L (f_lst (f_cons f_c (f_cons f_c f_nil))))) s_next)
    (s_ret (f_if (f_tb (f_isi f_var)) (f_L (f_lst (f_cons f_c (f_cons (f_ca g_repr2 (f_cons (f_xat f_var) f_nil)) f_nil)))) (f_L (f_lst (f_cons f_c (f_cons (f_ca g_repr2 (f_cons (f_xat f_var) f_nil)) f_nil)))))))
def cf_law_shown : List D → R D := cfOf N_law_shown 1 x_law_shown
def sp_law_shown : DSp := spOf cf_law_shown
/-! _law_caught -/
abbrev N_law_caught : List Str := ["act", "told", "e"]
def c3_law_caught : Nat → Option Bool
  | 23 => some true
  | 11 => some true
  | _ => none
def H_law_caught : List Hdl := [⟨c3_law_caught, some 2, (sRet (fCall sp_law_shown (fCons (fVar 2) fNil)))⟩]
def k_law_caught : List HdY := [⟨c3_law_caught, some 2, (yRet (xCall cf_law_shown (xCons (xVar 2) xNil)))⟩]
theorem hk_law_caught : HdsY H_law_caught k_law_caught := .cons (s_ret (f_call (f_cons f_var f_nil))) .nil
def R_law_caught : FS := (sRet (fL (fLst (fCons (fC (.str "told")) (fCons (fVar 1) fNil)))))
def x_law_caught : DL.Env → RS := (yRet (xL (xLst (xCons (xC (.str "told")) (xCons (xVar 1) xNil)))))
theorem l_law_caught : CS R_law_caught x_law_caught := (s_ret (f_L (f_lst (f_cons f_c (f_cons f_var f_nil)))))
/-! is_within -/
abbrev N_is_within : List Str := ["value", "least", "most"]
def R_is_within : FS := (sRet (fAnd (isiD isi_int (fVar 0)) (fAnd (fNot (isiD isi_bool (fVar 0))) (fChain leD leD (fVar 1) (fVar 0) (fVar 2)))))
def x_is_within : DL.Env → RS := (yRet (xAnd (isiX isi_int (xVar 0)) (xAnd (xNot (isiX isi_bool (xVar 0))) (xChain leX leX (xVar 1) (xVar 0) (xVar 2)))))
theorem l_is_within : CS R_is_within x_is_within := (s_ret (f_and (f_isi f_var) (f_and (f_not (f_isi f_var)) (f_chain g_le g_le f_var f_var f_var))))
def cf_is_within : List D → R D := cfOf N_is_within 3 x_is_within
def sp_is_within : DSp := spOf cf_is_within
/-! check_sizes -/
abbrev N_check_sizes : List Str := ["sizes", "many", "index"]
def R_check_sizes : FS := (sSeq (sIf (fOrT (fNotT (fTb (isiD isi_tuple (fVar 0)))) (fTb (f2 (eqUD false) (fVar 0) (fTup fNil)))) (sRaise 23 (fCons (fC .non) fNil)) sNext)
    (sSeq (sSet 1 (fC (.int 1)))
    (sFor (fRng1 (fCons (fCa lenD (fCons (fVar 0) fNil)) fNil)) (gVar 2)
      (sSeq (sIf (fOrT (fTb (f2 eqD (fVar 2) (fC (.int 5)))) (fOrT (fNotT (fTb (fCall sp_is_within (fCons (f2 ixD (fVar 0) (fVar 2)) (fCons (fC (.int 2)) (fCons (fC (.int 3)) fNil)))))) (fTb (f2 gtD (f2 mulAD (fVar 1) (f2 ixD (fVar 0) (fVar 2))) (fC (.int 48)))))) (sRaise 23 (fCons (fVar 2) fNil)) sNext)
    (sSet 1 (f2 mulAD (fVar 1) (f2 ixD (fVar 0) (fVar 2))))))))
def x_check_sizes : DL.Env → RS := (ySeq (yIf (xOrT (xNotT (xTb (isiX isi_tuple (xVar 0)))) (xTb (x2 (eqUX false) (xVar 0) (xTup xNil)))) (yRaise 23 (xCons (xC .non) xNil)) yNext)
    (ySeq (ySet 1 (xC (.int 1)))
    (yFor (iRng1 (xCons (xCa lenX (xCons (xVar 0) xNil)) xNil)) (yVar 2)
      (ySeq (yIf (xOrT (xTb (x2 eqX (xVar 2) (xC (.int 5)))) (xOrT (xNotT (xTb (xCall cf_is_within (xCons (x2 ixX (xVar 0) (xVar 2)) (xCons (xC (.int 2)) (xCons (xC (.int 3)) xNil)))))) (xTb (x2 gtX (x2 mulAX (xVar 1) (x2 ixX (xVar 0) (xVar 2))) (xC (.int 48)))))) (yRaise 23 (xCons (xVar 2) xNil)) yNext)
    (ySet 1 (x2 mulAX (xVar 1) (x2 ixX (xVar 0) (xVar 2))))))))
theorem l_check_sizes : CS R_check_sizes x_check_sizes := (s_seq (s_if (f_orT (f_notT (f_tb (f_isi f_var))) (f_tb (f_2 g_eqU f_var (f_tup f_nil)))) (s_raise (f_cons f_c f_nil)) s_next)
    (s_seq (s_set f_c)
    (s_for (f_rng1 (f_cons (f_ca g_len (f_cons f_var f_nil)) f_nil)) t_var
      (s_seq (s_if (f_orT (f_tb (f_2 g_eq f_var f_c)) (f_orT (f_notT (f_tb (f_call (f_cons (f_2 g_ix f_var f_var) (f_cons f_c (f_cons f_c f_nil)))))) (f_tb (f_2 g_gt (f_2 g_mulA f_var (f_2 g_ix f_var f_var)) f_c)))) (s_raise (f_cons f_var f_nil)) s_next)
    (s_set (f_2 g_mulA f_var (f_2 g_ix f_var f_var)))))))
def cf_check_sizes : List D → R D := cfOf N_check_sizes 1 x_check_sizes
def sp_check_sizes : DSp := spOf cf_check_sizes
/-! settings_in -/
abbrev N_settings_in : List Str := ["part", "found", "stands", "begun", "stand"]
def R_settings_in : FS := (sSeq (sSet 1 (fL (fLst (fCons (fC (.str "")) fNil))))
    (sSeq (sFor (fItA (fVar 0)) (gVar 2)
      (sSet 1 (fL (fLc2 (fItA (fVar 1)) [3, 4] (gVar 3) fYes (fItA (fVar 2)) [4] (gVar 4) fYes (f2 addD (fVar 3) (fVar 4))))))
    (sRet (fVar 1))))
def x_settings_in : DL.Env → RS := (ySeq (ySet 1 (xL (xLst (xCons (xC (.str "")) xNil))))
    (ySeq (yFor (iA (xVar 0)) (yVar 2)
      (ySet 1 (xL (xLc2 (iA (xVar 1)) [3, 4] (yVar 3) xYes (iA (xVar 2)) [4] (yVar 4) xYes (x2 addX (xVar 3) (xVar 4))))))
    (yRet (xVar 1))))
theorem l_settings_in : CS R_settings_in x_settings_in := (s_seq (s_set (f_L (f_lst (f_cons f_c f_nil))))
    (s_seq (s_for (f_itA f_var) t_var
      (s_set (f_L (f_lc2 (f_itA f_var) t_var f_yes (f_itA f_var) t_var f_yes (f_2 g_add f_var f_var)))))
    (s_ret f_var)))
def cf_settings_in : List D → R D := cfOf N_settings_in 1 x_settings_in
def sp_settings_in : DSp := spOf cf_settings_in
/-! Board.__init__ -/
abbrev N_Board_init : List Str := ["self", "sizes", "size"]
def R_Board_init : FS := (sSeq (sExpr (fCall sp_check_sizes (fCons (fVar 1) fNil)))
    (sFldI 0 1 fl_Board "both" (fTup (fCons (fVar 1) (fCons (fCa tupC (fCons (fCall sp_settings_in (fCons (fL (fLc (fItA (fVar 1)) [2] (gVar 2) fYes (f2 ixD (fC D_STANDS) (fVar 2)))) fNil)) fNil)) fNil)))))
def x_Board_init : DL.Env → RS := (ySeq (yExpr (xCall cf_check_sizes (xCons (xVar 1) xNil)))
    (yFldI 0 1 fl_Board "both" (xTup (xCons (xVar 1) (xCons (xCa tupCX (xCons (xCall cf_settings_in (xCons (xL (xLc (iA (xVar 1)) [2] (yVar 2) xYes (x2 ixX (xC D_STANDS) (xVar 2)))) xNil)) xNil)) xNil)))))
theorem l_Board_init : CS R_Board_init x_Board_init := (s_seq (s_expr (f_call (f_cons f_var f_nil)))
    (s_fldI (f_tup (f_cons f_var (f_cons (f_ca g_tupC (f_cons (f_call (f_cons (f_L (f_lc (f_itA f_var) t_var f_yes (f_2 g_ix f_c f_var))) f_nil)) f_nil)) f_nil)))))
def cf_Board_init : List D → R D := cfI N_Board_init 1 1 1 x_Board_init
/-! Board.sizes -/
abbrev N_Board_sizes : List Str := ["self"]
def R_Board_sizes : FS := (sRet (f2 ixD (fFld 1 0 (fVar 0)) (fC (.int 0))))
def x_Board_sizes : DL.Env → RS := (yRet (x2 ixX (xFld 1 0 (xVar 0)) (xC (.int 0))))
theorem l_Board_sizes : CS R_Board_sizes x_Board_sizes := (s_ret (f_2 g_ix (f_fld f_var) f_c))
def cf_Board_sizes : List D → R D := cfOf N_Board_sizes 1 x_Board_sizes
def sp_Board_sizes : DSp := spOf cf_Board_sizes
/-! board_told -/
abbrev N_board_told : List Str := ["text", "sign"]
def R_board_told : FS := (sSeq (sIf (fOrT (fNotT (fTb (isiD isi_str (fVar 0)))) (fNotT (fTb (fCa (blsD fun bs => .bl (bs.all id)) (fCons (fL (fLc (fItA (fVar 0)) [1] (gVar 1) fYes (f2 (inD false) (fVar 1) (fC D_DIGITS)))) fNil))))) (sRet (fC .non)) sNext)
    (sTry 2 (sRet (fMake 1 (spIn cf_Board_init) (fCons (fCa tupC (fCons (fL (fLc (fItA (fVar 0)) [1] (gVar 1) fYes (f2 ixD (fC D_DIGITS) (fVar 1)))) fNil)) fNil))) [⟨exm_InvalidSizes, none, (sRet (fC .non))⟩]))
def x_board_told : DL.Env → RS := (ySeq (yIf (xOrT (xNotT (xTb (isiX isi_str (xVar 0)))) (xNotT (xTb (xCa (blsX fun bs => .bl (bs.all id)) (xCons (xL (xLc (iA (xVar 0)) [1] (yVar 1) xYes (x2 (inX false) (xVar 1) (xC D_DIGITS)))) xNil))))) (yRet (xC .non)) yNext)
    (yTry 2 (yRet (xMake 1 cf_Board_init (xCons (xCa tupCX (xCons (xL (xLc (iA (xVar 0)) [1] (yVar 1) xYes (x2 ixX (xC D_DIGITS) (xVar 1)))) xNil)) xNil))) [⟨exm_InvalidSizes, none, (yRet (xC .non))⟩]))
theorem l_board_told : CS R_board_told x_board_told := (s_seq (s_if (f_orT (f_notT (f_tb (f_isi f_var))) (f_notT (f_tb (f_ca g_bls (f_cons (f_L (f_lc (f_itA f_var) t_var f_yes (f_2 g_in f_var f_c))) f_nil))))) (s_ret f_c) s_next)
    (s_try (s_ret (f_make (f_cons (f_ca g_tupC (f_cons (f_L (f_lc (f_itA f_var) t_var f_yes (f_2 g_ix f_c f_var))) f_nil)) f_nil))) (.cons (s_ret f_c) .nil)))
def cf_board_told : List D → R D := cfOf N_board_told 1 x_board_told
def sp_board_told : DSp := spOf cf_board_told
/-! Board.read -/
abbrev N_Board_read : List Str := ["cls", "text", "found"]
def R_Board_read : FS := (sSeq (sSet 2 (fCall sp_board_told (fCons (fVar 1) fNil)))
    (sSeq (sIf (fTb (f2 (isNV false) (fVar 2) (fC .non))) (sRaise 11 (fCons (fVar 1) fNil)) sNext)
    (sRet (fVar 2))))
def x_Board_read : DL.Env → RS := (ySeq (ySet 2 (xCall cf_board_told (xCons (xVar 1) xNil)))
    (ySeq (yIf (xTb (x2 (isNVX false) (xVar 2) (xC .non))) (yRaise 11 (xCons (xVar 1) xNil)) yNext)
    (yRet (xVar 2))))
theorem l_Board_read : CS R_Board_read x_Board_read := (s_seq (s_set (f_call (f_cons f_var f_nil)))
    (s_seq (s_if (f_tb (f_2 g_isNV f_var f_c)) (s_raise (f_cons f_var f_nil)) s_next)
    (s_ret f_var)))
def cf_Board_read : List D → R D := cfOf N_Board_read.tail 1 fun r => x_Board_read (Sl.un :: r)
def sp_Board_read : DSp := spOf cf_Board_read
/-! Board.__str__ -/
abbrev N_Board_str : List Str := ["self", "size"]
def R_Board_str : FS := (sRet (fStr1 joinD (fC (.str "")) (fL (fLc (fItA (f2 ixD (fFld 1 0 (fVar 0)) (fC (.int 0)))) [1] (gVar 1) fYes (fCa strC2 (fCons (fVar 1) fNil))))))
def x_Board_str : DL.Env → RS := (yRet (xStr1 joinX (xC (.str "")) (xL (xLc (iA (x2 ixX (xFld 1 0 (xVar 0)) (xC (.int 0)))) [1] (yVar 1) xYes (xCa strCX2 (xCons (xVar 1) xNil))))))
theorem l_Board_str : CS R_Board_str x_Board_str := (s_ret (f_str1 g_join f_c (f_L (f_lc (f_itA (f_2 g_ix (f_fld f_var) f_c)) t_var f_yes (f_ca g_strC2 (f_cons f_var f_nil))))))
def cf_Board_str : List D → R D := cfOf N_Board_str 1 x_Board_str
def sp_Board_str : DSp := spOf cf_Board_str
/-! _law_right -/
abbrev N_law_right : List Str := ["jar", "turn", "value", "at", "odd_one", "due", "told", "page", "fine", "k", "glyph"]
def P_law_right_0 : FS := (sPar 5 6 (fCons (fCall sp_law_slip (fCons (fVar 2) fNil)) (fCons (fCaught 3 1 H_law_caught R_law_caught (fMakeK 1 1 1 [.k 0] [] (spIn cf_Board_init) (fKw fNil (fCons (fVar 2) fNil)))) fNil)))
def yP_law_right_0 : DL.Env → RS := (yPar 5 6 (xCons (xCall cf_law_slip (xCons (xVar 2) xNil)) (xCons (xCaught 3 1 k_law_caught x_law_caught (xMakeK 1 1 1 [.k 0] [] cf_Board_init (xKw xNil (xCons (xVar 2) xNil)))) xNil)))
theorem lP_law_right_0 : CS P_law_right_0 yP_law_right_0 := (s_par (f_cons (f_call (f_cons f_var f_nil)) (f_cons (f_caught (f_makeK (f_kw f_nil (f_cons f_var f_nil))) hk_law_caught l_law_caught) f_nil)))
def P_law_right_1 : FS := (sIf (fOrT (fAndT (fTb (f2 neD (fVar 5) (fL (fLst fNil)))) (fTb (f2 neD (fVar 6) (fVar 5)))) (fAndT (fTb (f2 eqD (fVar 5) (fL (fLst fNil)))) (fOrT (fTb (f2 neD (f2 ixD (fVar 6) (fC (.int 0))) (fC (.str "told")))) (fTb (f2 neD (fProp 1 sp_Board_sizes (f2 ixD (fVar 6) (fC (.int 1)))) (fVar 2)))))) (sRet (fC (.bl false))) sNext)
def yP_law_right_1 : DL.Env → RS := (yIf (xOrT (xAndT (xTb (x2 neX (xVar 5) (xL (xLst xNil)))) (xTb (x2 neX (xVar 6) (xVar 5)))) (xAndT (xTb (x2 eqX (xVar 5) (xL (xLst xNil)))) (xOrT (xTb (x2 neX (x2 ixX (xVar 6) (xC (.int 0))) (xC (.str "told")))) (xTb (x2 neX (xProp 1 cf_Board_sizes (x2 ixX (xVar 6) (xC (.int 1)))) (xVar 2)))))) (yRet (xC (.bl false))) yNext)
theorem lP_law_right_1 : CS P_law_right_1 yP_law_right_1 := (s_if (f_orT (f_andT (f_tb (f_2 g_ne f_var (f_L (f_lst f_nil)))) (f_tb (f_2 g_ne f_var f_var))) (f_andT (f_tb (f_2 g_eq f_var (f_L (f_lst f_nil)))) (f_orT (f_tb (f_2 g_ne (f_2 g_ix f_var f_c) f_c)) (f_tb (f_2 g_ne (f_prop (f_2 g_ix f_var f_c)) f_var))))) (s_ret f_c) s_next)
def P_law_right_2 : FS := (sSet 8 (fAnd (isiD isi_str (fVar 7)) (fCa (blsD fun bs => .bl (bs.all id)) (fCons (fL (fLc (fItA (fVar 7)) [10] (gVar 10) fYes (f2 (inD false) (fVar 10) (fC (.str "23"))))) fNil))))
def yP_law_right_2 : DL.Env → RS := (ySet 8 (xAnd (isiX isi_str (xVar 7)) (xCa (blsX fun bs => .bl (bs.all id)) (xCons (xL (xLc (iA (xVar 7)) [10] (yVar 10) xYes (x2 (inX false) (xVar 10) (xC (.str "23"))))) xNil))))
theorem lP_law_right_2 : CS P_law_right_2 yP_law_right_2 := (s_set (f_and (f_isi f_var) (f_ca g_bls (f_cons (f_L (f_lc (f_itA f_var) t_var f_yes (f_2 g_in f_var f_c))) f_nil))))
def P_law_right_3 : FS := (sSet 8 (fAnd (fVar 8) (f2 eqD (fCall sp_law_slip (fCons (fCa tupC (fCons (fL (fLc (fItA (fVar 7)) [10] (gVar 10) fYes (fCa intC2 (fCons (fVar 10) fNil)))) fNil)) fNil)) (fL (fLst fNil)))))
def yP_law_right_3 : DL.Env → RS := (ySet 8 (xAnd (xVar 8) (x2 eqX (xCall cf_law_slip (xCons (xCa tupCX (xCons (xL (xLc (iA (xVar 7)) [10] (yVar 10) xYes (xCa intCX2 (xCons (xVar 10) xNil)))) xNil)) xNil)) (xL (xLst xNil)))))
theorem lP_law_right_3 : CS P_law_right_3 yP_law_right_3 := (s_set (f_and f_var (f_2 g_eq (f_call (f_cons (f_ca g_tupC (f_cons (f_L (f_lc (f_itA f_var) t_var f_yes (f_ca g_intC2 (f_cons f_var f_nil)))) f_nil)) f_nil)) (f_L (f_lst f_nil)))))
def P_law_right_4 : FS := (sSet 6 (fCaught 3 1 H_law_caught R_law_caught (fCall sp_Board_read (fCons (fVar 7) fNil))))
def yP_law_right_4 : DL.Env → RS := (ySet 6 (xCaught 3 1 k_law_caught x_law_caught (xCall cf_Board_read (xCons (xVar 7) xNil))))
theorem lP_law_right_4 : CS P_law_right_4 yP_law_right_4 := (s_set (f_caught (f_call (f_cons f_var f_nil)) hk_law_caught l_law_caught))
def P_law_right_5 : FS := (sIf (fOrT (fAndT (fTb (fVar 8)) (fOrT (fTb (f2 neD (f2 ixD (fVar 6) (fC (.int 0))) (fC (.str "told")))) (fTb (f2 neD (fCa (strO 1 sp_Board_str) (fCons (f2 ixD (fVar 6) (fC (.int 1))) fNil)) (fVar 7))))) (fAndT (fNotT (fTb (fVar 8))) (fTb (f2 neD (fVar 6) (fL (fLst (fCons (fC (.str "text")) (fCons (fCa reprD2 (fCons (fVar 7) fNil)) fNil)))))))) (sRet (fC (.bl false))) sNext)
def yP_law_right_5 : DL.Env → RS := (yIf (xOrT (xAndT (xTb (xVar 8)) (xOrT (xTb (x2 neX (x2 ixX (xVar 6) (xC (.int 0))) (xC (.str "told")))) (xTb (x2 neX (xCa (strOX 1 cf_Board_str) (xCons (x2 ixX (xVar 6) (xC (.int 1))) xNil)) (xVar 7))))) (xAndT (xNotT (xTb (xVar 8))) (xTb (x2 neX (xVar 6) (xL (xLst (xCons (xC (.str "text")) (xCons (xCa reprX2 (xCons (xVar 7) xNil)) xNil)))))))) (yRet (xC (.bl false))) yNext)
theorem lP_law_right_5 : CS P_law_right_5 yP_law_right_5 := (s_if (f_orT (f_andT (f_tb f_var) (f_orT (f_tb (f_2 g_ne (f_2 g_ix f_var f_c) f_c)) (f_tb (f_2 g_ne (f_ca g_strO (f_cons (f_2 g_ix f_var f_c) f_nil)) f_var)))) (f_andT (f_notT (f_tb f_var)) (f_tb (f_2 g_ne f_var (f_L (f_lst (f_cons f_c (f_cons (f_ca g_repr2 (f_cons f_var f_nil)) f_nil)))))))) (s_ret f_c) s_next)
def L_law_right_0 : FS := (sSeq (sSet 2 (fCa tupC (fCons (fL (fLc (fRng1 (fCons (fCall sp_law_dip (fCons (fVar 0) (fCons (fC (.int 8)) fNil))) fNil)) [9] (gVar 9) fYes (fCall sp_law_pick (fCons (fVar 0) (fCons (fL (fLst (fCons (fC (.int 2)) (fCons (fC (.int 2)) (fCons (fC (.int 2)) (fCons (fC (.int 3)) fNil)))))) fNil))))) fNil)))
    (sSeq (sSet 3 (fCall sp_law_dip (fCons (fVar 0) (fCons (f2 addD (fCa lenD (fCons (fVar 2) fNil)) (fC (.int 1))) fNil))))
    (sSeq (sSet 4 (fCall sp_law_pick (fCons (fVar 0) (fCons (fL (fLst (fCons (fC (.int 1)) (fCons (fC (.int 4)) (fCons (fC (.int 0)) (fCons (fNeg (fC (.int 2))) (fCons (fC (.bl true)) (fCons (fC .non) (fCons (fC (.str "2")) (fCons (fTup (fCons (fC (.int 2)) fNil)) (fCons (f2 powD (fC (.int 10)) (fC (.int 30))) (fCons (fC (.int 2)) fNil)))))))))))) fNil))))
    (sSeq (sSet 2 (fCall sp_law_pick (fCons (fVar 0) (fCons (fL (fLst (fCons (fVar 2) (fCons (fVar 2) (fCons (f2 addD (f2 addD (fSlice (fVar 2) fNone (fSome (fVar 3))) (fTup (fCons (fVar 4) fNil))) (fSlice (fVar 2) (fSome (fVar 3)) fNone)) (fCons (fL (fCaF listC2 (fCons (fVar 2) fNil))) (fCons (fCall sp_law_odd (fCons (fVar 0) fNil)) fNil))))))) fNil))))
    (sSeq P_law_right_0
    (sSeq P_law_right_1
    (sSeq (sSet 7 (fStr1 joinD (fC (.str "")) (fL (fLc (fRng1 (fCons (fCall sp_law_dip (fCons (fVar 0) (fCons (fC (.int 7)) fNil))) fNil)) [9] (gVar 9) fYes (fCa strC2 (fCons (fCall sp_law_pick (fCons (fVar 0) (fCons (fL (fLst (fCons (fC (.int 2)) (fCons (fC (.int 2)) (fCons (fC (.int 2)) (fCons (fC (.int 3)) fNil)))))) fNil))) fNil))))))
    (sSeq (sSet 7 (fCall sp_law_pick (fCons (fVar 0) (fCons (fL (fLst (fCons (fVar 7) (fCons (fVar 7) (fCons (f2 addD (fVar 7) (fCall sp_law_pick (fCons (fVar 0) (fCons (fL (fLst (fCons (fC (.str "1")) (fCons (fC (.str "4")) (fCons (fC (.str " ")) (fCons (fC (.str "\n")) (fCons (fC (.str "a")) (fCons (fC (.str "2")) fNil)))))))) fNil)))) (fCons (fCall sp_law_odd (fCons (fVar 0) fNil)) fNil)))))) fNil))))
    (sSeq P_law_right_2
    (sSeq P_law_right_3
    (sSeq P_law_right_4
    P_law_right_5)))))))))))
def R_law_right : FS := (sSeq (sFor (fRng1 (fCons (fC (.int 10)) fNil)) (gVar 1)
      L_law_right_0)
    (sRet (fC (.bl true))))
def sp_law_right : DSp := fun ds Q _ => ds = [.jar] ∧ Q (.bl true)
/-! _law_jar -/
abbrev N_law_jar : List Str := ["script", "k", "mixed", "cell", "own", "digits"]
def P_law_jar_0 : FS := (sSet 2 (f2 addD (f2 mulAD (f2 mulAD (fC (.int 7369)) (f2 addD (fVar 1) (fC (.int 5)))) (f2 addD (fVar 1) (fC (.int 2)))) (f2 mulAD (fC (.int 29)) (fCa lenD (fCons (fVar 0) fNil)))))
def P_law_jar_1 : FS := (sSet 2 (f2 modD (fCa intC2 (fCons (f2 addD (f2 mulAD (fVar 2) (fC (.int 733))) (fVar 3)) fNil)) (fC (.int 1000000009))))
def L_law_jar_0 : FS := P_law_jar_1
def P_law_jar_2 : FS := (sFor (fItA (fSlice (fVar 0) fNone (fSome (fC (.int 4))))) (gVar 3)
      L_law_jar_0)
def P_law_jar_3 : FS := (sSet 4 (fIf (fTb (f2 ltD (fVar 1) (fCa lenD (fCons (fVar 0) fNil)))) (f2 ixD (fVar 0) (fVar 1)) (fC (.int 0))))
def P_law_jar_4 : FS := (sSet 5 (fIf (fOrT (fTb (f2 ltD (fVar 4) (fC (.int 0)))) (fTb (f2 geD (fVar 4) (f2 powD (fC (.int 10)) (fC (.int 18)))))) (fCa (i1D fun i => .int (if i < 0 then -i else i)) (fCons (fVar 4) fNil)) (fC (.int 0))))
def R_law_jar : FS := (sSeq P_law_jar_0
    (sSeq P_law_jar_2
    (sSeq P_law_jar_3
    (sSeq P_law_jar_4
    (sRetJar (fLst (fCons (fVar 5) (fCons (f2 modD (fCa intC2 (fCons (f2 addD (f2 addD (f2 mulAD (fVar 2) (fC (.int 8117))) (f2 mulAD (fVar 4) (fC (.int 64013)))) (f2 mulAD (fC (.int 105019)) (f2 addD (fVar 1) (fC (.int 1))))) fNil)) (fC (.int 2147483563))) (fCons (fC (.int 0)) fNil)))))))))
def sp_law_jar : DSp := fun ds Q _ => ∃ (ns : List Int) (k : Int), ds = [.lst (ns.map D.int), .int k] ∧ 0 ≤ k ∧ k < 1000 ∧ ns.length ≤ 63 ∧ Q .jar
/-! law -/
abbrev N_law : List Str := ["script", "k"]
def L_law_0 : FS := (sIf (fNotT (fTb (fCall sp_law_right (fCons (fCall sp_law_jar (fCons (fVar 0) (fCons (fVar 1) fNil))) fNil)))) (sRet (fC (.bl false))) sNext)
def R_law : FS := (sSeq (sFor (fRng1 (fCons (fCa (i2D fun i j => .int (if j > i then j else i)) (fCons (fC (.int 2)) (fCons (fCa (i2D fun i j => .int (if j < i then j else i)) (fCons (fCa lenD (fCons (fVar 0) fNil)) (fCons (fC (.int 5)) fNil))) fNil))) fNil)) (gVar 1)
      L_law_0)
    (sRet (fC (.bl true))))
def sp_law : DSp := fun ds Q _ => ∃ ns : List Int, ds = [.lst (ns.map D.int)] ∧ ns.length ≤ 63 ∧ Q (.bl true)
end K03
namespace K03
open PySem L2 DL PyProof.Rows TP
theorem isi_bool_v {e : List Sl → R D} {r : List Sl} {d : D} (h : e r = .ok d) (hb : isBase d = true) : isiX isi_bool e r = .ok (.bl (boolB d)) := by
  cases d <;> first | (cases hb; done) | exact E_isi h rfl rfl
theorem isi_str_v {e : List Sl → R D} {r : List Sl} {d : D} (h : e r = .ok d) (hb : isBase d = true) : isiX isi_str e r = .ok (.bl (strB d)) := by
  cases d <;> first | (cases hb; done) | exact E_isi h rfl rfl
theorem isi_tuple_v {e : List Sl → R D} {r : List Sl} {d : D} (h : e r = .ok d) (hb : isBase d = true) : isiX isi_tuple e r = .ok (.bl (tupB d)) := by
  cases d <;> first | (cases hb; done) | exact E_isi h rfl rfl
theorem len_law_dip : ∀ ds Q EX, sp_law_dip ds Q EX → ds.length = 2 := by
  rintro _ Q EX ⟨m, rfl, _⟩; rfl
theorem pure_law_dip : ∀ ds Q EX, sp_law_dip ds Q EX → R_law_dip { nx := fun _ => Q .non, rt := Q } EX (startD N_law_dip ds) := by
  rintro _ Q EX ⟨m, rfl, h0, h1, k⟩
  have hm : m ≠ 0 := by omega
  have fin : ∀ n : Int, Q (.int (n.fmod m)) := fun n => k _ (fmod_lt n h0).1 (fmod_lt n h0).2
  intro n0 n1
  refine ⟨_, rfl, ?_⟩
  refine ite2 (fun _ => ?_) (fun _ => ?_)
  · intro n2
    refine ⟨hm, ?_⟩
    intro n3
    refine ⟨⟨hm, by omega⟩, ?_⟩
    exact fin n2
  · intro n2
    refine ⟨.inr (by decide), ?_⟩
    intro n3
    refine ⟨.inr (by decide), ?_⟩
    refine ⟨(by decide : (2147483399 : Int) ≠ 0), ?_⟩
    intro n4
    refine ⟨⟨(by decide : (2048 : Int) ≠ 0), by decide⟩, ?_⟩
    refine ⟨hm, ?_⟩
    exact fin _
theorem len_law_pick : ∀ ds Q EX, sp_law_pick ds Q EX → ds.length = 2 := by
  rintro _ Q EX ⟨xs, d, rfl, _⟩; rfl
theorem pure_law_pick : ∀ ds Q EX, sp_law_pick ds Q EX → R_law_pick { nx := fun _ => Q .non, rt := Q } EX (startD N_law_pick ds) := by
  rintro _ Q EX ⟨xs, d, rfl, hd, hne, hz, k⟩
  have hl : 0 < xs.length := List.length_pos_iff.mpr hne
  have fin : ∀ n : Int, 0 ≤ n → n < xs.length → ∃ i : Nat, n = (i : Int) ∧ ∃ h : i < xs.length, Q xs[i] := fun n h1 h2 => by
    obtain ⟨i, rfl⟩ := Int.eq_ofNat_of_zero_le h1
    have hi : i < xs.length := by omega
    exact ⟨i, rfl, hi, k _ (List.getElem_mem hi)⟩
  rcases hd with rfl | rfl
  · refine ⟨(xs.length : Int), rfl, by omega, by omega, fun n h1 h2 => ?_⟩
    obtain ⟨i, rfl, hi, q⟩ := fin n h1 h2
    exact ⟨(i : Int), xs[i], rfl, atI_nat hi, q⟩
  · refine ⟨(xs.length : Int), rfl, by omega, by omega, fun n h1 h2 => ?_⟩
    obtain ⟨i, rfl, hi, q⟩ := fin n h1 h2
    exact ⟨(i : Int), xs[i], rfl, atI_nat hi, q⟩
def odd1 : List D := [.non, .bl true, .bl false, .int 0, .int 1, .int (-1), .int 2, .int (10 ^ 30), .str "", .str "0"]
def odd2 : List D := [.str "00", .str "3", .str "0 1", .tup [], .tup [.int 1], .tup [.str "0"], .tup [.str "0", .str "1"], .lst [.str "0"], .lst []]
def odd3 : List D := [.dic [] [], .dic [.inr "0"] [.int 1], .tup [.non, .int 0], .str "0\n1", .tup [.tup [.str "0", .str "1"]], .tup [.str "0", .str "0"], .lst [.lst []], .str "000000", .tup [.tup []], .tup [.int 2, .int 2]]
theorem odd_run0 : yP_law_odd_0 [.val .jar, .un] = .nx [.val .jar, .val (.lst odd1)] := by kernel_rfl
theorem odd_run1 : yP_law_odd_1 [.val .jar, .val (.lst odd1)] = .nx [.val .jar, .val (.lst (odd1 ++ odd2))] := by kernel_rfl
theorem odds_ok : ∀ d ∈ (odd1 ++ odd2) ++ odd3, vokB d = true := by decide +kernel
theorem len_law_odd : ∀ ds Q EX, sp_law_odd ds Q EX → ds.length = 1 := by
  rintro _ Q EX ⟨rfl, _⟩; rfl
theorem pure_law_odd : ∀ ds Q EX, sp_law_odd ds Q EX → R_law_odd { nx := fun _ => Q .non, rt := Q } EX (startD N_law_odd ds) := by
  rintro _ Q EX ⟨rfl, k⟩
  refine lP_law_odd_0.use (r := [.val .jar, .un]) rfl odd_run0 rfl ?_
  refine lP_law_odd_1.use (r := [.val .jar, .val (.lst odd1)]) rfl odd_run1 rfl ?_
  dsimp only
  refine ret_pick (i := 0) (r := [.val .jar, .val (.lst (odd1 ++ odd2))]) (d := .lst ((odd1 ++ odd2) ++ odd3)) (d0 := .jar) (by repeat' first | exact f_c | exact f_var | exact f_see | exact f_nil | exact CPs.nil | apply f_L | apply f_addN | apply f_lst | apply f_cons | apply f_tup | apply f_neg | apply f_dic | apply CPs.cons) rfl rfl ?_ ?_
  · kernel_rfl
  · exact ⟨_, _, rfl, .inl rfl, by decide, by decide, fun d hd => k d (vok_b (odds_ok d hd))⟩
theorem szItem_int {k : Nat} {m v : Int} : szItem k m (.int v) = if k ≠ 5 ∧ (v = 2 ∨ v = 3) ∧ m * v ≤ 48 then some v else none := rfl
theorem noneO {α : Type} {o : Option α} (h : o.isNone = true) : o = none := by
  cases o with
  | none => rfl
  | some _ => cases h
def slipO : Option D → D
  | none => .lst []
  | some k => shownL "sizes" k
theorem t_law_slip {d : D} (hv : WOk d) (hsh : ∀ ds, d = .tup ds → ∀ e ∈ ds, shpB e = true) : cf_law_slip [d] = .ok (slipO (szSlip d)) := by
  refine cf_ok (by rfl) ?_; simp only [x_law_slip, DL.startD, N_law_slip, List.map_cons, List.map_nil, List.length_cons, List.length_nil, Nat.reduceAdd, Nat.reduceSub, List.replicate_succ, List.replicate_zero, List.cons_append, List.nil_append]
  by_cases ht : tupB d = true
  · obtain ⟨ds, rfl⟩ := tupB_of ht
    obtain ⟨hl, hb⟩ := hv.tup _ rfl
    have hs := hsh _ rfl
    cases he : ds.isEmpty with
    | true =>
      refine S_if (v := true) (E_orT (b := false) (c := true) (E_notT (b := true) (E_tb (E_isi rfl rfl rfl))) fun _ => E_tb ((E_2 rfl (E_tup E_nil (Nat.zero_le _)) (d := .bl (false != ds.isEmpty)) rfl).trans (by rw [he]; rfl))) (fun _ => W_ret (E_L (E_lst (E_cons rfl (E_cons rfl E_nil)) (Nat.le_of_ble_eq_true rfl))) ?_) fun z => nomatch z
      show _ = slipO (if ds.isEmpty = true then _ else _)
      rw [if_pos he]; rfl
    | false =>
      refine S_skip (E_orT (b := false) (c := false) (E_notT (b := true) (E_tb (E_isi rfl rfl rfl))) fun _ => E_tb ((E_2 rfl (E_tup E_nil (Nat.zero_le _)) (d := .bl (false != ds.isEmpty)) rfl).trans (by rw [he]; rfl))) ?_
      refine S_set rfl ?_
      refine S_walk (ds := ds) szStep (0, 1) (fun k t r => t.1 = k ∧ ∃ a, r = [.val (.tup ds), .val (.int t.2), a]) (E_cons (E_ca (E_cons rfl E_nil) rfl) E_nil) (by omega) ⟨rfl, _, rfl⟩ ?_ ?_
      · rintro k ⟨k0, m⟩ r d hat ⟨h1, a, rfl⟩ hno
        have h1 : k0 = k := h1
        subst h1
        have hbk := hb _ (List.mem_of_getElem? hat)
        have hsk := hs _ (List.mem_of_getElem? hat)
        have hk : k0 < ds.length := (List.getElem?_eq_some_iff.mp hat).1
        have vk : VOk (.int k0) := vok_nat (by omega)
        refine ⟨_, rfl, S_if (v := (szItem k0 m d).isNone) ?_ (fun hv2 => ?_) fun hv2 => ?_⟩
        · by_cases h5 : k0 = 5
          · subst h5
            have e : szItem 5 m d = none := by
              cases q : szItem 5 m d with
              | none => rfl
              | some v => exact absurd rfl (szItem_some q).2.1
            rw [e]
            exact E_orT (b := true) (c := true) (E_tb (E_2 rfl rfl eqX_int)) fun z => nomatch z
          · refine Eq.trans (E_orT (b := false) (c := (szItem k0 m d).isNone) (E_tb ((E_2 rfl rfl eqX_int).trans ?_)) fun _ => ?_) rfl
            · congr 2
              exact decide_eq_false (by omega)
            · by_cases hbl : boolB d = true
              · have e : szItem k0 m d = none := by cases d <;> first | rfl | (cases hbl; done)
                rw [e]
                exact E_orT (b := true) (c := true) (E_tb ((isi_bool_v (E_2 rfl rfl (ixX_tup hat)) hbk.1).trans (by rw [hbl]))) fun z => nomatch z
              · have hbl : boolB d = false := by simpa using hbl
                refine Eq.trans (E_orT (b := false) (c := (szItem k0 m d).isNone) (E_tb ((isi_bool_v (E_2 rfl rfl (ixX_tup hat)) hbk.1).trans (by rw [hbl]))) fun _ => ?_) rfl
                have hin : xTb (x2 (inX true) (x2 ixX (xVar 0) (xVar 2)) (xL (xLst (xCons (xC (.int 2)) (xCons (xC (.int 3)) xNil))))) [.val (.tup ds), .val (.int m), .val (.int k0)] = .ok (!twoB d) := E_tb ((E_2 (E_2 rfl rfl (ixX_tup hat)) (E_L (E_lst (E_cons rfl (E_cons rfl E_nil)) (Nat.le_of_ble_eq_true rfl))) (in23 hsk)).trans (by rw [Bool.true_bne]))
                by_cases hn : twoB d = true
                · have : ∃ v, d = .int v := by
                    cases d <;> first | exact ⟨_, rfl⟩ | (cases hbl; done) | (cases hn; done)
                  obtain ⟨v, rfl⟩ := this
                  have hv3 : v = 2 ∨ v = 3 := by rw [two_int] at hn; exact of_decide_eq_true hn
                  refine (E_orT (b := false) (c := !decide (m * v ≤ 48)) (hin.trans (by rw [hn]; rfl)) fun _ => E_tb ((E_2 (E_2 rfl (E_2 rfl rfl (ixX_tup hat)) (mulAX_int ⟨by omega, by omega⟩)) rfl gtX_int).trans ?_)).trans ?_
                  · congr 2
                    rw [← decide_not, decide_eq_decide]
                    show 48 < m * v ↔ ¬ m * v ≤ 48
                    omega
                  · rw [szItem_int]
                    by_cases hm : m * v ≤ 48
                    · rw [if_pos ⟨h5, hv3, hm⟩, decide_eq_true hm]; rfl
                    · rw [if_neg (fun z => hm z.2.2), decide_eq_false hm]; rfl
                · have hn : twoB d = false := by simpa using hn
                  have e : szItem k0 m d = none := by
                    cases q : szItem k0 m d with
                    | none => rfl
                    | some v =>
                      obtain ⟨rfl, _, h23, _⟩ := szItem_some q
                      rw [two_int, decide_eq_true h23] at hn
                      cases hn
                  rw [e]
                  exact E_orT (b := true) (c := true) (hin.trans (by rw [hn]; rfl)) fun z => nomatch z
        · refine W_ret (E_L (E_lst (E_cons rfl (E_cons (E_ca (E_cons rfl E_nil) vk.repr) E_nil)) (Nat.le_of_ble_eq_true rfl))) ?_
          rw [szSlip_tup he, hno (szStep_none (noneO hv2))]; rfl
        · refine W_next ?_
          obtain ⟨v, e⟩ := Option.isSome_iff_exists.mp (show (szItem k0 m d).isSome = true by cases q : szItem k0 m d <;> first | rfl | (rw [q] at hv2; cases hv2))
          obtain ⟨rfl, h5, h23, hm⟩ := szItem_some e
          refine W_set (d := .int (m * v)) (E_2 rfl (E_2 rfl rfl (ixX_tup hat)) (mulAX_int ⟨by omega, by omega⟩)) ?_
          exact ⟨_, szStep_some e, rfl, _, rfl⟩
      · rintro ⟨k0, m⟩ r hw ⟨h1, a, rfl⟩
        refine W_ret (E_L (E_lst E_nil (Nat.zero_le _))) ?_
        rw [szSlip_tup he, hw]; rfl
  · have ht : tupB d = false := by simpa using ht
    refine S_if (v := true) (E_orT (b := true) (c := true) (E_notT (b := false) (E_tb ((isi_tuple_v rfl hv.base).trans (by rw [ht])))) fun z => nomatch z) (fun _ => W_ret (E_L (E_lst (E_cons rfl (E_cons rfl E_nil)) (Nat.le_of_ble_eq_true rfl))) ?_) fun z => nomatch z
    rw [szSlip_not ht]; rfl
theorem t_bases_23 {d : D} : cf_law_bases [.exc 23 [d]] = .ok (.lst [.bl true, .bl false, .bl false]) := rfl
theorem t_bases_11 {d : D} : cf_law_bases [.exc 11 [d]] = .ok (.lst [.bl true, .bl false, .bl false]) := rfl
theorem t_shown_23 {d : D} (h : VOk d) : cf_law_shown [.exc 23 [d]] = .ok (shownL "sizes" d) := by
  refine cf_ok (by rfl) ?_; simp only [x_law_shown, DL.startD, N_law_shown, List.map_cons, List.map_nil, List.length_cons, List.length_nil, Nat.reduceAdd, Nat.reduceSub, List.replicate_succ, List.replicate_zero, List.cons_append, List.nil_append]
  refine S_skip (E_orT (b := false) (c := false) (E_tb (E_2 (E_call (E_cons rfl E_nil) t_bases_23) (E_L (E_lst (E_cons rfl (E_cons rfl (E_cons rfl E_nil))) (Nat.le_of_ble_eq_true rfl))) (by kernel_rfl))) fun _ => E_tb (E_2 (E_isx rfl rfl) (E_isx rfl rfl) rfl)) ?_
  exact W_ret (E_if (v := true) (E_tb (E_isx rfl rfl)) (fun _ => E_L (E_lst (E_cons rfl (E_cons (E_ca (E_cons (E_xat rfl rfl) E_nil) h.repr) E_nil)) (Nat.le_of_ble_eq_true rfl))) fun z => nomatch z) rfl
theorem t_shown_11 {d : D} (h : VOk d) : cf_law_shown [.exc 11 [d]] = .ok (shownL "text" d) := by
  refine cf_ok (by rfl) ?_; simp only [x_law_shown, DL.startD, N_law_shown, List.map_cons, List.map_nil, List.length_cons, List.length_nil, Nat.reduceAdd, Nat.reduceSub, List.replicate_succ, List.replicate_zero, List.cons_append, List.nil_append]
  refine S_skip (E_orT (b := false) (c := false) (E_tb (E_2 (E_call (E_cons rfl E_nil) t_bases_11) (E_L (E_lst (E_cons rfl (E_cons rfl (E_cons rfl E_nil))) (Nat.le_of_ble_eq_true rfl))) (by kernel_rfl))) fun _ => E_tb (E_2 (E_isx rfl rfl) (E_isx rfl rfl) rfl)) ?_
  exact W_ret (E_if (v := false) (E_tb (E_isx rfl rfl)) (fun z => nomatch z) fun _ => E_L (E_lst (E_cons rfl (E_cons (E_ca (E_cons (E_xat rfl rfl) E_nil) h.repr) E_nil)) (Nat.le_of_ble_eq_true rfl))) rfl
theorem t_caught_ok {e : List Sl → R D} {r : List Sl} {d : D} (h : e (r.map Sl.seen) = .ok d) : xCaught 3 1 k_law_caught x_law_caught e r = .ok (toldD d) := by
  refine E_caught h ?_
  unfold x_law_caught yRet
  rw [E_L (E_lst (E_cons rfl (E_cons rfl E_nil)) (Nat.le_of_ble_eq_true rfl))]; rfl
theorem t_caught_x {e : List Sl → R D} {r : List Sl} {c : Nat} {d v : D} (h : e (r.map Sl.seen) = .ex ⟨c, some d⟩) (hc : c3_law_caught c = some true) (hs : cf_law_shown [.exc c [d]] = .ok v) : xCaught 3 1 k_law_caught x_law_caught e r = .ok v := by
  refine E_caughtX h ?_
  unfold k_law_caught yHdl
  dsimp only
  rw [hc]
  show (yRet (xCall cf_law_shown (xCons (xVar 2) xNil)) _).fin = _
  unfold yRet
  rw [Z_call (ds := [.exc c [d]]) rfl, hs]; rfl
theorem leX_chain {a b c : Int} : xChain leX leX (xVar 1) (xVar 0) (xVar 2) [.val (.int b), .val (.int a), .val (.int c)] = .ok (.bl (decide (a ≤ b ∧ b ≤ c))) := by
  unfold xChain
  show (match leX (.int a) (.int b) with
    | some (.bl true) => (R.ok (D.int c)).bind fun u => R.ofO (leX (.int b) u)
    | some (.bl false) => .ok (.bl false)
    | _ => .no) = _
  rw [leX_int]
  by_cases h : a ≤ b
  · rw [decide_eq_true h]
    show R.ofO (leX (.int b) (.int c)) = _
    rw [leX_int, decide_eq_decide.mpr (show b ≤ c ↔ a ≤ b ∧ b ≤ c from ⟨fun z => ⟨h, z⟩, fun z => z.2⟩)]; rfl
  · rw [decide_eq_false h, decide_eq_false (fun z => h z.1)]
def numB (d : D) : Bool := match d with
  | .int v => decide (2 ≤ v ∧ v ≤ 3)
  | _ => false
theorem t_is_within {d : D} (h : isBase d = true) : cf_is_within [d, .int 2, .int 3] = .ok (.bl (numB d)) := by
  cases d with
  | int v =>
    refine cf_ok (by rfl) ?_; simp only [x_is_within, DL.startD, N_is_within, List.map_cons, List.map_nil, List.length_cons, List.length_nil, Nat.reduceAdd, Nat.reduceSub, List.replicate_succ, List.replicate_zero, List.cons_append, List.nil_append]
    exact W_ret (E_and (a := true) (E_isi rfl rfl rfl) fun _ => E_and (a := true) (E_not (a := false) (E_isi rfl rfl rfl)) fun _ => leX_chain) rfl
  | non => rfl
  | bl b => rfl
  | str z => rfl
  | tup ds => rfl
  | lst ds => rfl
  | dic ks ds => rfl
  | obj _ _ => cases h
  | exc _ _ => cases h
  | jar => cases h
def szR : Option D → R D
  | none => .ok .non
  | some d => .ex ⟨23, some d⟩
theorem szItem_not {k : Nat} {m : Int} {d : D} (h : numB d = false) : szItem k m d = none := by
  cases d with
  | int v =>
    rw [szItem_int, if_neg (fun z => ?_)]
    have : decide (2 ≤ v ∧ v ≤ 3) = false := h
    rw [decide_eq_false_iff_not] at this
    omega
  | non => rfl
  | bl b => rfl
  | str z => rfl
  | tup ds => rfl
  | lst ds => rfl
  | dic ks ds => rfl
  | obj _ _ => rfl
  | exc _ _ => rfl
  | jar => rfl
theorem t_check_sizes {d : D} (hv : WOk d) : cf_check_sizes [d] = szR (szSlip d) := by
  refine cf_is (by rfl) ?_
  simp only [x_check_sizes, DL.startD, N_check_sizes, List.map_cons, List.map_nil, List.length_cons, List.length_nil, Nat.reduceAdd, Nat.reduceSub, List.replicate_succ, List.replicate_zero, List.cons_append, List.nil_append]
  by_cases ht : tupB d = true
  · obtain ⟨ds, rfl⟩ := tupB_of ht
    obtain ⟨hl, hb⟩ := hv.tup _ rfl
    cases he : ds.isEmpty with
    | true =>
      refine S_if (v := true) (E_orT (b := false) (c := true) (E_notT (b := true) (E_tb (E_isi rfl rfl rfl))) fun _ => E_tb ((E_2 rfl (E_tup E_nil (Nat.zero_le _)) (d := .bl (false != ds.isEmpty)) rfl).trans (by rw [he]; rfl))) (fun _ => W_raise (E_cons rfl E_nil) ?_) fun z => nomatch z
      show szR (if ds.isEmpty = true then _ else _) = _
      rw [if_pos he]; rfl
    | false =>
      refine S_skip (E_orT (b := false) (c := false) (E_notT (b := true) (E_tb (E_isi rfl rfl rfl))) fun _ => E_tb ((E_2 rfl (E_tup E_nil (Nat.zero_le _)) (d := .bl (false != ds.isEmpty)) rfl).trans (by rw [he]; rfl))) ?_
      refine S_set rfl ?_
      refine W_walk (ds := ds) szStep (0, 1) (fun k t r => t.1 = k ∧ ∃ a, r = [.val (.tup ds), .val (.int t.2), a]) (E_cons (E_ca (E_cons rfl E_nil) rfl) E_nil) (by omega) ⟨rfl, _, rfl⟩ ?_ ?_
      · rintro k ⟨k0, m⟩ r d hat ⟨h1, a, rfl⟩ hno
        have h1 : k0 = k := h1
        subst h1
        have hbk := hb _ (List.mem_of_getElem? hat)
        refine ⟨_, rfl, S_if (v := (szItem k0 m d).isNone) ?_ (fun hv2 => ?_) fun hv2 => ?_⟩
        · by_cases h5 : k0 = 5
          · subst h5
            have e : szItem 5 m d = none := by
              cases q : szItem 5 m d with
              | none => rfl
              | some v => exact absurd rfl (szItem_some q).2.1
            rw [e]
            exact E_orT (b := true) (c := true) (E_tb (E_2 rfl rfl eqX_int)) fun z => nomatch z
          · refine Eq.trans (E_orT (b := false) (c := (szItem k0 m d).isNone) (E_tb ((E_2 rfl rfl eqX_int).trans ?_)) fun _ => ?_) rfl
            · congr 2
              exact decide_eq_false (by omega)
            · by_cases hn : numB d = true
              · cases d <;> first | (cases hn; done) | skip
                rename_i v
                have hn2 : decide (2 ≤ v ∧ v ≤ 3) = true := hn
                rw [decide_eq_true_iff] at hn2
                have hv3 : v = 2 ∨ v = 3 := by omega
                refine (E_orT (b := false) (c := !decide (m * v ≤ 48)) (E_notT (b := true) (E_tb ((E_call (E_cons (E_2 rfl rfl (ixX_tup hat)) (E_cons rfl (E_cons rfl E_nil))) (t_is_within hbk.1)).trans (by rw [hn])))) fun _ => E_tb ((E_2 (E_2 rfl (E_2 rfl rfl (ixX_tup hat)) (mulAX_int ⟨by omega, by omega⟩)) rfl gtX_int).trans ?_)).trans ?_
                · congr 2
                  rw [← decide_not, decide_eq_decide]
                  show 48 < m * v ↔ ¬ m * v ≤ 48
                  omega
                · rw [szItem_int]
                  by_cases hm : m * v ≤ 48
                  · rw [if_pos ⟨h5, hv3, hm⟩, decide_eq_true hm]; rfl
                  · rw [if_neg (fun z => hm z.2.2), decide_eq_false hm]; rfl
              · have hn : numB d = false := by simpa using hn
                rw [szItem_not hn]
                exact E_orT (b := true) (c := true) (E_notT (b := false) (E_tb ((E_call (E_cons (E_2 rfl rfl (ixX_tup hat)) (E_cons rfl (E_cons rfl E_nil))) (t_is_within hbk.1)).trans (by rw [hn])))) fun z => nomatch z
        · refine W_raise (E_cons rfl E_nil) ?_
          rw [szSlip_tup he, hno (szStep_none (noneO hv2))]; rfl
        · refine W_next ?_
          obtain ⟨v, e⟩ := Option.isSome_iff_exists.mp (show (szItem k0 m d).isSome = true by cases q : szItem k0 m d <;> first | rfl | (rw [q] at hv2; cases hv2))
          obtain ⟨rfl, h5, h23, hm⟩ := szItem_some e
          refine W_set (d := .int (m * v)) (E_2 rfl (E_2 rfl rfl (ixX_tup hat)) (mulAX_int ⟨by omega, by omega⟩)) ?_
          exact ⟨_, szStep_some e, rfl, _, rfl⟩
      · rintro ⟨k0, m⟩ r hw ⟨h1, a, rfl⟩
        show szR (szSlip (.tup ds)) = _
        rw [szSlip_tup he, hw]; rfl
  · have ht : tupB d = false := by simpa using ht
    refine S_if (v := true) (E_orT (b := true) (c := true) (E_notT (b := false) (E_tb ((isi_tuple_v rfl hv.base).trans (by rw [ht])))) fun z => nomatch z) (fun _ => W_raise (E_cons rfl E_nil) ?_) fun z => nomatch z
    rw [szSlip_not ht]; rfl
def chkB (s : List Int) : Bool := match cf_Board_init [.tup (s.map D.int)] with
  | .ok (.tup [.tup [.tup a, .tup b]]) => eqDBs a (s.map D.int) && eqDBs b (sts (sets (full s)))
  | _ => false
theorem all_boards : ∀ s ∈ spansOf 48, chkB s = true := by decide +kernel
theorem t_Board_init {s : List Int} (h : s ∈ spansOf 48) : cf_Board_init [.tup (s.map D.int)] = .ok (.tup [.tup [.tup (s.map D.int), .tup (sts (sets (full s)))]]) := by
  have z := all_boards s h
  unfold chkB at z
  split at z
  · rename_i a b e
    rw [Bool.and_eq_true] at z
    rw [e, eqDBs_eq _ _ z.1, eqDBs_eq _ _ z.2]
  · cases z
theorem t_Board_sizes {s : List Int} : cf_Board_sizes [bd s] = .ok (.tup (s.map D.int)) := rfl
theorem in_digits {c : Nat} : inX false (st [c]) D_DIGITS = some (.bl (digB c)) := by
  show some (D.bl (false != ([Sum.inr ("2" : Str), Sum.inr ("3" : Str)] : List Key).any fun k => decide (k = Sum.inr (sx [c])))) = _
  rw [Bool.false_bne]
  have e2 : (("2" : Str)) = sx [50] := by decide +kernel
  have e3 : (("3" : Str)) = sx [51] := by decide +kernel
  rw [e2, e3]
  unfold digB
  have key : ∀ {a : Nat}, decide ((Sum.inr (sx [a]) : Key) = Sum.inr (sx [c])) = decide (c = a) := fun {a} => by
    rw [decide_eq_decide]
    constructor
    · intro h
      injection h with h
      have := congrArg (fun s : Str => s.cps.toList) h
      have : [a] = [c] := this
      injection this with h
      exact h.symm
    · rintro rfl; rfl
  show some (D.bl (decide _ || (decide _ || false))) = _
  rw [key, key, Bool.or_false]
theorem ix_digits {c : Nat} (h : digB c = true) : ixX D_DIGITS (st [c]) = some (.int ((c - 48 : Nat) : Int)) := by
  unfold digB at h
  rw [Bool.or_eq_true, decide_eq_true_iff, decide_eq_true_iff] at h
  rcases h with rfl | rfl <;> kernel_rfl
theorem t_Board_x {d k : D} (hv : WOk d) (e : szSlip d = some k) : cf_Board_init [d] = .ex ⟨23, some k⟩ := by
  refine cfI_X (by rfl) ?_
  simp only [x_Board_init, DL.startI, N_Board_init, List.map_cons, List.map_nil, List.length_cons, List.length_nil, Nat.reduceAdd, Nat.reduceSub, List.replicate_succ, List.replicate_zero, List.cons_append, List.nil_append]
  exact S_exprX (by rw [Z_call (E_cons rfl E_nil)]; exact (t_check_sizes hv).trans (by rw [e]; rfl)) rfl
theorem t_Board_ok {d : D} (e : szSlip d = none) : ∃ s ∈ spansOf 48, d = .tup (s.map D.int) ∧ cf_Board_init [d] = .ok (.tup [.tup [.tup (s.map D.int), .tup (sts (sets (full s)))]]) := by
  obtain ⟨s, hs, rfl⟩ := szSlip_none e
  exact ⟨s, hs, rfl, t_Board_init hs⟩
theorem wok_txD {x : Tx} (hl : x.length ≤ 16777216) : WOk (txD x) := ⟨rfl, fun ds e => by
  cases e
  refine ⟨by rw [List.length_map]; exact hl, fun e he => ?_⟩
  obtain ⟨c, _, rfl⟩ := List.mem_map.mp he
  exact ⟨rfl, fun x z => by cases z⟩⟩
theorem shp_txD {x : Tx} : ∀ ds, txD x = .tup ds → ∀ e ∈ ds, shpB e = true := fun ds e => by
  cases e
  intro e he
  obtain ⟨c, _, rfl⟩ := List.mem_map.mp he
  rfl
theorem seqD_stx {x : Tx} : seqD (st x) = some (x.map fun c => st [c]) := by
  rw [seqD_st]
theorem t_board_none {d : D} (hv : VOk d) (hb : isBase d = true) (h : strB d = true → ∀ x, d = st x → x.all digB = false) : cf_board_told [d] = .ok .non := by
  refine cf_ok (by rfl) ?_; simp only [x_board_told, DL.startD, N_board_told, List.map_cons, List.map_nil, List.length_cons, List.length_nil, Nat.reduceAdd, Nat.reduceSub, List.replicate_succ, List.replicate_zero, List.cons_append, List.nil_append]
  by_cases hs : strB d = true
  · obtain ⟨x, rfl⟩ := strB_of hs
    have hx := h hs x rfl
    refine S_if (v := true) (E_orT (b := false) (c := true) (E_notT (b := true) (E_tb (E_isi rfl rfl rfl))) fun _ => E_notT (b := false) (E_tb ((E_all (xs := x.map digB) ((xLc_ok (e := fun c => st [c]) (xs := x) (fun _ => true) (fun c => .bl (digB c)) (iA_ok rfl seqD_stx) ?_ fun c hc => ⟨_, rfl, rfl, fun _ => E_2 rfl rfl in_digits⟩).trans ?_)).trans ?_))) (fun _ => W_ret rfl rfl) fun z => nomatch z
    · have := (hv.str x rfl).2
      exact Nat.le_trans this (by decide)
    · rw [filter_tt, List.map_map]; rfl
    · rw [List.all_map]
      congr 2
  · have hs : strB d = false := by simpa using hs
    exact S_if (v := true) (E_orT (b := true) (c := true) (E_notT (b := false) (E_tb ((isi_str_v rfl hb).trans (by rw [hs])))) fun z => nomatch z) (fun _ => W_ret rfl rfl) fun z => nomatch z
theorem W_tryOk {n : Nat} {b : List Sl → RS} {l : List HdY} {r : List Sl} {A : DE} {EX : XP} {d : D} (h : b r = .rt d) (k : A.rt d) : W (yTry n b l) A EX r := W_eq (z := .rt d) (by unfold yTry; rw [h]) k
theorem W_tryX {n : Nat} {b : List Sl → RS} {l : List HdY} {r : List Sl} {A : DE} {EX : XP} {x : XD} {d : D} (h : b r = .ex x) (hh : yHdl n l x = .rt d) (k : A.rt d) : W (yTry n b l) A EX r := W_eq (z := .rt d) (by unfold yTry; rw [h]; exact hh) k
theorem told_args {x : Tx} (hl : x.length ≤ 16777216) (hd : x.all digB = true) {r : List Sl} (hr : xVar 0 r = .ok (st x)) (h1 : r.length = 2) : xCons (xCa tupCX (xCons (xL (xLc (iA (xVar 0)) [1] (yVar 1) xYes (x2 ixX (xC D_DIGITS) (xVar 1)))) xNil)) xNil r = .ok [txD x] := by
  rw [List.all_eq_true] at hd
  match r, h1 with
  | [a, b], _ =>
    refine E_cons (E_ca (E_cons (E_L (xLc_ok (e := fun c => st [c]) (xs := x) (fun _ => true) (fun c => .int ((c - 48 : Nat) : Int)) (iA_ok hr seqD_stx) hl fun c hc => ⟨_, rfl, rfl, fun _ => E_2 rfl rfl (ix_digits (hd c hc))⟩)) E_nil) ?_) E_nil
    rw [filter_tt]; rfl
theorem told_skip {x : Tx} (hl : x.length ≤ 16777216) (hd : x.all digB = true) {b : Sl} : xOrT (xNotT (xTb (isiX isi_str (xVar 0)))) (xNotT (xTb (xCa (blsX fun bs => .bl (bs.all id)) (xCons (xL (xLc (iA (xVar 0)) [1] (yVar 1) xYes (x2 (inX false) (xVar 1) (xC D_DIGITS)))) xNil)))) [.val (st x), b] = .ok false := by
  refine E_orT (b := false) (c := false) (E_notT (b := true) (E_tb (E_isi rfl rfl rfl))) fun _ => E_notT (b := true) (E_tb ((E_all (xs := x.map digB) ((xLc_ok (e := fun c => st [c]) (xs := x) (fun _ => true) (fun c => .bl (digB c)) (iA_ok rfl seqD_stx) hl fun c hc => ⟨_, rfl, rfl, fun _ => E_2 rfl rfl in_digits⟩).trans ?_)).trans ?_))
  · rw [filter_tt, List.map_map]; rfl
  · rw [List.all_map]
    exact congrArg (fun b => R.ok (D.bl b)) hd
theorem t_board_ok {x : Tx} (hv : VOk (st x)) (hf : fineB x = true) : ∃ s ∈ spansOf 48, txD x = .tup (s.map D.int) ∧ (x = s.map fun z : Int => 48 + z.toNat) ∧ cf_board_told [st x] = .ok (bd s) := by
  obtain ⟨hd, hz, s, hs, e, ex⟩ := fine_of hf
  refine ⟨s, hs, e, ex, ?_⟩
  have hl : x.length ≤ 16777216 := Nat.le_trans (hv.str x rfl).2 (by decide)
  refine cf_ok (by rfl) ?_; simp only [x_board_told, DL.startD, N_board_told, List.map_cons, List.map_nil, List.length_cons, List.length_nil, Nat.reduceAdd, Nat.reduceSub, List.replicate_succ, List.replicate_zero, List.cons_append, List.nil_append]
  refine S_skip (told_skip hl hd) ?_
  refine W_tryOk (d := bd s) ?_ rfl
  unfold yRet
  rw [Z_make (told_args hl hd rfl rfl), e, t_Board_init hs]; rfl
theorem t_board_no {x : Tx} {k : D} (hv : VOk (st x)) (hd : x.all digB = true) (hz : szSlip (txD x) = some k) : cf_board_told [st x] = .ok .non := by
  have hl : x.length ≤ 16777216 := Nat.le_trans (hv.str x rfl).2 (by decide)
  refine cf_ok (by rfl) ?_; simp only [x_board_told, DL.startD, N_board_told, List.map_cons, List.map_nil, List.length_cons, List.length_nil, Nat.reduceAdd, Nat.reduceSub, List.replicate_succ, List.replicate_zero, List.cons_append, List.nil_append]
  refine S_skip (told_skip hl hd) ?_
  refine W_tryX (x := ⟨23, some k⟩) ?_ rfl rfl
  unfold yRet
  rw [Z_make (told_args hl hd rfl rfl), t_Board_x (wok_txD hl) hz]; rfl
theorem W_un {b : List Sl → RS} {A : DE} {EX : XP} {r : List Sl} (h : W b A EX (Sl.un :: r)) : W (fun r => b (Sl.un :: r)) A EX r := by
  rw [W_def] at h ⊢
  exact h
/-- a text of a board -/
def pageB : D → Bool
  | .str z => fineB z.cps.toList
  | _ => false
theorem pageB_st {x : Tx} : pageB (st x) = fineB x := rfl
theorem t_read_ok {d : D} (hv : VOk d) (h : pageB d = true) : ∃ x, d = st x ∧ fineB x = true ∧ ∃ s ∈ spansOf 48, txD x = .tup (s.map D.int) ∧ (x = s.map fun z : Int => 48 + z.toNat) ∧ cf_Board_read [d] = .ok (bd s) := by
  have hs : strB d = true := by cases d <;> first | rfl | (cases h; done)
  obtain ⟨x, rfl⟩ := strB_of hs
  have hf : fineB x = true := h
  obtain ⟨s, ms, e, ex, h2⟩ := t_board_ok hv hf
  refine ⟨x, rfl, hf, s, ms, e, ex, ?_⟩
  refine cf_ok (by rfl) ?_
  simp only [x_Board_read, DL.startD, N_Board_read, List.tail_cons, List.map_cons, List.map_nil, List.length_cons, List.length_nil, Nat.reduceAdd, Nat.reduceSub, List.replicate_succ, List.replicate_zero, List.cons_append, List.nil_append]
  refine W_un ?_
  refine S_set (d := bd s) (E_call (E_cons rfl E_nil) h2) ?_
  refine S_skip (E_tb (E_2 rfl rfl rfl)) ?_
  exact W_ret rfl rfl
theorem t_read_x {d : D} (hv : VOk d) (h : pageB d = false) : cf_Board_read [d] = .ex ⟨11, some d⟩ := by
  have h2 : cf_board_told [d] = .ok .non := by
    by_cases hs : strB d = true
    · obtain ⟨x, rfl⟩ := strB_of hs
      by_cases hd : x.all digB = true
      · have hf : fineB x = false := h
        unfold fineB at hf
        rw [hd, Bool.true_and] at hf
        cases e : szSlip (txD x) with
        | none => rw [e] at hf; cases hf
        | some k => exact t_board_no hv hd e
      · exact t_board_none hv hv.base fun _ y e => by
          have : y = x := by
            have := congrArg (fun d => match d with | D.str z => z.cps.toList | _ => []) e
            exact this.symm
          rw [this]; simpa using hd
    · exact t_board_none hv hv.base fun h _ _ => absurd h hs
  refine cf_X (by rfl) ?_
  simp only [x_Board_read, DL.startD, N_Board_read, List.tail_cons, List.map_cons, List.map_nil, List.length_cons, List.length_nil, Nat.reduceAdd, Nat.reduceSub, List.replicate_succ, List.replicate_zero, List.cons_append, List.nil_append]
  refine W_un ?_
  refine S_set (d := .non) (E_call (E_cons rfl E_nil) h2) ?_
  exact S_if (v := true) (E_tb (E_2 rfl rfl rfl)) (fun _ => W_raise (E_cons rfl E_nil) rfl) fun z => nomatch z
theorem join_empty0 : ∀ {ts : List Str}, (Str.join (sx []) ts) = ⟨⟨(ts.map fun t => t.cps.toList).flatten⟩⟩
  | [] => rfl
  | [x] => by
    show x = _
    simp
  | x :: y :: r => by
    have ih := join_empty0 (ts := y :: r)
    show x ++ sx [] ++ Str.join (sx []) (y :: r) = _
    rw [ih]
    cases x with
    | mk a =>
      show (⟨a ++ #[] ++ _⟩ : Str) = _
      congr 1
      apply Array.toList_inj.mp
      simp
theorem join_empty {ts : List Str} : (Txt.join (sx []) ts) = ⟨⟨(ts.map fun t => t.cps.toList).flatten⟩⟩ := (StrLaws.glued_eq_join _ _).trans join_empty0
theorem loop_vals {x1 x2 x3 x4 x5 x6 x7 x8 x10 : Sl} {Q : List D → Prop} : ∀ (xs : List D) (acc : List Int), acc.length + xs.length ≤ 10 → (∀ z ∈ acc, z = 2 ∨ z = 3) → (∀ vs : List Int, vs.length ≤ 10 → (∀ z ∈ vs, z = 2 ∨ z = 3) → Q (vs.map D.int)) →
    lcD (gVar 9) fYes (fCall sp_law_pick (fCons (fVar 0) (fCons (fL (fLst (fCons (fC (.int 2)) (fCons (fC (.int 2)) (fCons (fC (.int 2)) (fCons (fC (.int 3)) fNil)))))) fNil))) [Sl.val .jar, x1, x2, x3, x4, x5, x6, x7, x8, .un, x10] xs (acc.map D.int) Q
  | [], acc, hl, h2, k => k acc (by simpa using hl) h2
  | x :: xs, acc, hl, h2, k => by
    rw [List.length_cons] at hl
    refine ⟨(by decide : 4 ≤ sizeLine), _, _, rfl, .inl rfl, by simp, by decide, fun d hd => ⟨?_, ?_⟩⟩
    · rw [List.length_map]
      exact Nat.lt_of_le_of_lt (show acc.length ≤ 10 by omega) (by decide)
    · have hz : ∃ z : Int, d = .int z ∧ (z = 2 ∨ z = 3) := by
        simp at hd
        rcases hd with rfl | rfl
        · exact ⟨2, rfl, .inl rfl⟩
        · exact ⟨3, rfl, .inr rfl⟩
      obtain ⟨z, rfl, hz⟩ := hz
      have := loop_vals (x1 := x1) (x2 := x2) (x3 := x3) (x4 := x4) (x5 := x5) (x6 := x6) (x7 := x7) (x8 := x8) (x10 := x10) (Q := Q) xs (acc ++ [z]) (by rw [List.length_append]; simp; omega) (fun y hy => (List.mem_append.mp hy).elim (h2 y) fun q => by rw [List.mem_singleton.mp q]; exact hz) k
      rw [List.map_append] at this
      exact this
theorem loop_page {x1 x2 x3 x4 x5 x6 x7 x8 x10 : Sl} {Q : List D → Prop} : ∀ (xs : List D) (acc : List Tx), acc.length + xs.length ≤ 10 → (∀ z ∈ acc, z = [50] ∨ z = [51]) → (∀ vs : List Tx, vs.length ≤ 10 → (∀ z ∈ vs, z = [50] ∨ z = [51]) → Q (sts vs)) →
    lcD (gVar 9) fYes (fCa strC2 (fCons (fCall sp_law_pick (fCons (fVar 0) (fCons (fL (fLst (fCons (fC (.int 2)) (fCons (fC (.int 2)) (fCons (fC (.int 2)) (fCons (fC (.int 3)) fNil)))))) fNil))) fNil)) [Sl.val .jar, x1, x2, x3, x4, x5, x6, x7, x8, .un, x10] xs (sts acc) Q
  | [], acc, hl, h2, k => k acc (by simpa using hl) h2
  | x :: xs, acc, hl, h2, k => by
    rw [List.length_cons] at hl
    have go : ∀ z : Tx, (z = [50] ∨ z = [51]) → acc.length < sizeLine ∧ lcD (gVar 9) fYes (fCa strC2 (fCons (fCall sp_law_pick (fCons (fVar 0) (fCons (fL (fLst (fCons (fC (.int 2)) (fCons (fC (.int 2)) (fCons (fC (.int 2)) (fCons (fC (.int 3)) fNil)))))) fNil))) fNil)) [Sl.val .jar, x1, x2, x3, x4, x5, x6, x7, x8, .un, x10] xs (sts acc ++ [st z]) Q := fun z hz => by
      refine ⟨Nat.lt_of_le_of_lt (show acc.length ≤ 10 by omega) (by decide), ?_⟩
      have := loop_page (x1 := x1) (x2 := x2) (x3 := x3) (x4 := x4) (x5 := x5) (x6 := x6) (x7 := x7) (x8 := x8) (x10 := x10) (Q := Q) xs (acc ++ [z]) (by rw [List.length_append]; simp; omega) (fun y hy => (List.mem_append.mp hy).elim (h2 y) fun q => by rw [List.mem_singleton.mp q]; exact hz) k
      rw [sts_app] at this
      exact this
    refine ⟨(by decide : 4 ≤ sizeLine), _, _, rfl, .inl rfl, by simp, by decide, fun d hd => ?_⟩
    simp at hd
    rcases hd with rfl | rfl
    · refine .inl ⟨by decide, ?_⟩
      have e : (toString (2 : Int) : Str) = sx [50] := by decide +kernel
      have := go [50] (.inl rfl)
      rw [← sts_len (x := acc)] at this
      show (sts acc).length < sizeLine ∧ lcD _ _ _ _ xs (sts acc ++ [.str (toString (2 : Int))]) Q
      rw [e]
      exact this
    · refine .inl ⟨by decide, ?_⟩
      have e : (toString (3 : Int) : Str) = sx [51] := by decide +kernel
      have := go [51] (.inr rfl)
      rw [← sts_len (x := acc)] at this
      show (sts acc).length < sizeLine ∧ lcD _ _ _ _ xs (sts acc ++ [.str (toString (3 : Int))]) Q
      rw [e]
      exact this
theorem neX_sizes {s : List Int} : neX (.tup (s.map D.int)) (.tup (s.map D.int)) = some (.bl false) := by
  show gd ((shpB (.tup (s.map D.int)) && shpB (.tup (s.map D.int))) = true) (.bl (!eqb (.tup (s.map D.int)) (.tup (s.map D.int)))) = _
  have h : shpB (.tup (s.map D.int)) = true := shp_of (okq_tup (okqs_map fun z _ => rfl))
  rw [gd_pos (by rw [h]; rfl)]
  have e : ∀ l : List Int, PyData.eqvAll (pds (l.map D.int)) (pds (l.map D.int)) = true := fun l => by
    induction l with
    | nil => rfl
    | cons a l ih =>
      show (PyData.eqv (.int a) (.int a) && PyData.eqvAll (pds (l.map D.int)) (pds (l.map D.int))) = true
      rw [ih, PyData.eqv]
      simp
  unfold eqb pd PyData.eqv
  rw [e]; rfl
theorem wok_shp {v : D} (hv : VOk v) : ∀ ds, v = .tup ds → ∀ e ∈ ds, shpB e = true := fun ds e => by
  subst e
  exact shp_mem (hv.shp rfl)
theorem slip_ok {v k : D} (hv : WOk v) (e : szSlip v = some k) : VOk k := by
  cases ht : tupB v with
  | false => rw [szSlip_not ht] at e; cases e; exact vok_b (by decide)
  | true =>
    obtain ⟨ds, rfl⟩ := tupB_of ht
    have hl := (hv.tup _ rfl).1
    cases he : ds.isEmpty with
    | true =>
      have e : (if ds.isEmpty = true then some D.non else _) = some k := e
      rw [if_pos he] at e; cases e; exact vok_b (by decide)
    | false =>
      rw [szSlip_tup he] at e
      cases q : walkG szStep 0 (0, 1) ds with
      | inr t => rw [q] at e; cases e
      | inl n =>
        rw [q] at e
        cases e
        have := walkG_lt ds 0 _ q
        exact vok_nat (by omega)
theorem sizes_ok {k : D} (h : VOk k) : ∀ t ∈ (["sizes", DL.shw k] : List Str), okT t := fun t ht => by
  rcases List.mem_cons.mp ht with rfl | ht
  · exact okT_lit _
  · rw [List.mem_singleton.mp ht]; exact h.sign
theorem text_ok {k : D} (h : VOk k) : ∀ t ∈ (["text", DL.shw k] : List Str), okT t := fun t ht => by
  rcases List.mem_cons.mp ht with rfl | ht
  · exact okT_lit _
  · rw [List.mem_singleton.mp ht]; exact h.sign
theorem made_told {v : D} (hv : VOk v) : ∃ T, (∀ (e : List Sl → R D) (r : List Sl), e (r.map Sl.seen) = mkR 1 (cf_Board_init [v]) → xCaught 3 1 k_law_caught x_law_caught e r = .ok T) ∧ ((szSlip v = none ∧ ∃ s ∈ spansOf 48, v = .tup (s.map D.int) ∧ T = toldD (bd s)) ∨ ∃ k, szSlip v = some k ∧ VOk k ∧ T = shownL "sizes" k) := by
  cases e : szSlip v with
  | none =>
    obtain ⟨s, hs, rfl, h⟩ := t_Board_ok e
    exact ⟨toldD (bd s), fun f r h2 => t_caught_ok (h2.trans (by rw [h]; rfl)), .inl ⟨rfl, s, hs, rfl, rfl⟩⟩
  | some k =>
    have vk := slip_ok hv.w e
    exact ⟨shownL "sizes" k, fun f r h2 => t_caught_x (h2.trans (by rw [t_Board_x hv.w e]; rfl)) rfl (t_shown_23 vk), .inr ⟨k, rfl, vk, rfl⟩⟩
def strB48 (s : List Int) : Bool := match cf_Board_str [bd s] with
  | .ok (.str z) => decide (z.cps.toList = s.map fun z : Int => 48 + z.toNat)
  | _ => false
theorem all_strs48 : ∀ s ∈ spansOf 48, strB48 s = true := by decide +kernel
theorem t_Board_str48 {s : List Int} (h : s ∈ spansOf 48) : cf_Board_str [bd s] = .ok (st (s.map fun z : Int => 48 + z.toNat)) := by
  have z := all_strs48 s h
  unfold strB48 at z
  split at z
  · rename_i t e
    rw [e, ← of_decide_eq_true z]; rfl
  · cases z
theorem page_told {v : D} (hv : VOk v) : ∃ T, (∀ (e : List Sl → R D) (r : List Sl), e (r.map Sl.seen) = cf_Board_read [v] → xCaught 3 1 k_law_caught x_law_caught e r = .ok T) ∧ ((pageB v = true ∧ ∃ s ∈ spansOf 48, v = st (s.map fun z : Int => 48 + z.toNat) ∧ T = toldD (bd s)) ∨ (pageB v = false ∧ T = shownL "text" v)) := by
  cases e : pageB v with
  | true =>
    obtain ⟨x, rfl, hf, s, hs, e1, e2, h⟩ := t_read_ok hv e
    exact ⟨toldD (bd s), fun f r h2 => t_caught_ok (h2.trans h), .inl ⟨rfl, s, hs, by rw [e2], rfl⟩⟩
  | false => exact ⟨shownL "text" v, fun f r h2 => t_caught_x (h2.trans (t_read_x hv e)) rfl (t_shown_11 hv), .inr ⟨rfl, rfl⟩⟩
def allB : D → Bool
  | .str z => z.cps.toList.all digB
  | _ => false
theorem in_23t {c : Nat} : inX false (st [c]) (.str "23") = some (.bl (digB c)) := by
  have e : ("23" : Str) = sx [50, 51] := by decide +kernel
  rw [e]
  show some (D.bl (false != decide (c ∈ [50, 51]))) = _
  rw [Bool.false_bne]
  unfold digB
  congr 2
  rw [Bool.eq_iff_iff]
  simp
theorem int_digB {c : Nat} (h : digB c = true) : intCX2 [st [c]] = some (.int ((c - 48 : Nat) : Int)) := by
  unfold digB at h
  rw [Bool.or_eq_true, decide_eq_true_iff, decide_eq_true_iff] at h
  rcases h with rfl | rfl <;> kernel_rfl
theorem eq_slip {o : Option D} (h : ∀ k, o = some k → VOk k) : eqX (slipO o) (.lst []) = some (.bl o.isNone) := by
  cases o with
  | none => exact eqX_strs (a := []) (b := []) (fun _ h => by cases h) (fun _ h => by cases h)
  | some k => exact eqX_strs (a := ["sizes", DL.shw k]) (b := []) (sizes_ok (h k rfl)) (fun _ h => by cases h)
theorem ne_slip {o : Option D} (h : ∀ k, o = some k → VOk k) : neX (slipO o) (.lst []) = some (.bl (!o.isNone)) := by
  cases o with
  | none => exact neX_strs (a := []) (b := []) (fun _ h => by cases h) (fun _ h => by cases h)
  | some k => exact neX_strs (a := ["sizes", DL.shw k]) (b := []) (sizes_ok (h k rfl)) (fun _ h => by cases h)
theorem text_right {v : D} (hv : VOk v) {A : DE} {EX : XP} {x1 x2 x3 x4 x5 x6 x9 x10 : Option D} (a8 : Option D) (hA : ∀ a6 a8, A.nx [.val .jar, jk x1, jk x2, jk x3, jk x4, jk x5, jk a6, .val v, jk a8, jk x9, jk x10]) :
    (sSeq P_law_right_2 (sSeq P_law_right_3 (sSeq P_law_right_4 P_law_right_5))) A EX [.val .jar, jk x1, jk x2, jk x3, jk x4, jk x5, jk x6, .val v, jk a8, jk x9, jk x10] := by
  obtain ⟨T, hT, hc⟩ := page_told hv
  (try dsimp only); refine lP_law_right_2.goW ?_ ?_; exact (by first | rfl | (simp only [List.set_cons_zero, List.set_cons_succ, List.map_cons, List.map_nil, adr_jk, adr_jo, adr_val, adr_un, adr_own]; done))
  refine W_set (d := .bl (strB v && allB v)) (E_and (a := strB v) (b := allB v) (isi_str_v rfl hv.base) fun hs => ?_) ⟨(by first | rfl | (simp only [List.set_cons_zero, List.set_cons_succ, List.map_cons, List.map_nil, adr_jk, adr_jo, adr_val, adr_un, adr_own]; done)), ?_⟩
  · obtain ⟨x, rfl⟩ := strB_of hs
    have hl : x.length ≤ 16777216 := Nat.le_trans (hv.str x rfl).2 (by decide)
    refine (E_all (xs := x.map digB) ((xLc_ok (e := fun c => st [c]) (xs := x) (fun _ => true) (fun c => .bl (digB c)) (iA_ok rfl seqD_stx) hl fun c hc => ⟨_, rfl, rfl, fun _ => E_2 rfl rfl in_23t⟩).trans ?_)).trans ?_
    · rw [filter_tt, List.map_map]; rfl
    · rw [List.all_map]; rfl
  (try dsimp only); refine lP_law_right_3.goW ?_ ?_; exact (by first | rfl | (simp only [List.set_cons_zero, List.set_cons_succ, List.map_cons, List.map_nil, adr_jk, adr_jo, adr_val, adr_un, adr_own]; done))
  refine W_set (d := .bl (pageB v)) ((E_and (a := strB v && allB v) (b := pageB v) rfl fun hs => ?_).trans ?_) ⟨(by first | rfl | (simp only [List.set_cons_zero, List.set_cons_succ, List.map_cons, List.map_nil, adr_jk, adr_jo, adr_val, adr_un, adr_own]; done)), ?_⟩
  · rw [Bool.and_eq_true] at hs
    obtain ⟨x, rfl⟩ := strB_of hs.1
    have hd : x.all digB = true := hs.2
    have hd2 := hd
    rw [List.all_eq_true] at hd2
    have hl : x.length ≤ 16777216 := Nat.le_trans (hv.str x rfl).2 (by decide)
    refine (E_2 (E_call (E_cons (E_ca (d := txD x) (E_cons (E_L (xLc_ok (e := fun c => st [c]) (xs := x) (fun _ => true) (fun c => .int ((c - 48 : Nat) : Int)) (iA_ok rfl seqD_stx) hl fun c hc => ⟨_, rfl, rfl, fun _ => E_ca (E_cons rfl E_nil) (int_digB (hd2 c hc))⟩)) E_nil) ?_) E_nil) (t_law_slip (wok_txD hl) shp_txD)) (E_L (E_lst E_nil (Nat.zero_le _))) (eq_slip fun k e => slip_ok (wok_txD hl) e)).trans ?_
    · rw [filter_tt]; rfl
    · rw [pageB_st]
      unfold fineB
      rw [hd, Bool.true_and]
  · congr 2
    cases hp : pageB v with
    | false => rw [Bool.and_false]
    | true =>
      have hs : strB v = true := by cases v <;> first | rfl | (cases hp; done)
      obtain ⟨x, rfl⟩ := strB_of hs
      have : allB (st x) = true := (fine_of hp).1
      rw [this]; rfl
  (try dsimp only); refine lP_law_right_4.goW ?_ ?_; exact (by first | rfl | (simp only [List.set_cons_zero, List.set_cons_succ, List.map_cons, List.map_nil, adr_jk, adr_jo, adr_val, adr_un, adr_own]; done))
  refine W_set (d := T) (hT _ _ (Z_call (E_cons rfl E_nil))) ⟨(by first | rfl | (simp only [List.set_cons_zero, List.set_cons_succ, List.map_cons, List.map_nil, adr_jk, adr_jo, adr_val, adr_un, adr_own]; done)), ?_⟩
  (try dsimp only); refine lP_law_right_5.goW ?_ ?_; exact (by first | rfl | (simp only [List.set_cons_zero, List.set_cons_succ, List.map_cons, List.map_nil, adr_jk, adr_jo, adr_val, adr_un, adr_own]; done))
  refine W_if (v := false) ?_ (fun z => nomatch z) fun _ => W_next ⟨(by first | rfl | (simp only [List.set_cons_zero, List.set_cons_succ, List.map_cons, List.map_nil, adr_jk, adr_jo, adr_val, adr_un, adr_own]; done)), hA (some T) (some _)⟩
  rcases hc with ⟨hp, s, hs, rfl, rfl⟩ | ⟨hp, rfl⟩
  · refine E_orT (b := false) (c := false) (E_andT (b := true) (c := false) (E_tb (by rw [← hp]; rfl)) fun _ => E_orT (b := false) (c := false) (E_tb (E_2 (E_2 rfl rfl (ixX_lst rfl)) rfl neX_str)) fun _ => E_tb ((E_2 (E_ca (E_cons (E_2 rfl rfl (ixX_lst rfl)) E_nil) (strOX_ok (t_Board_str48 hs))) rfl neX_st).trans (by rw [decide_eq_true rfl]; rfl))) fun _ => E_andT (b := false) (c := false) (E_notT (b := true) (E_tb (by rw [← hp]; rfl))) fun z => nomatch z
  · refine E_orT (b := false) (c := false) (E_andT (b := false) (c := false) (E_tb (by rw [← hp]; rfl)) fun z => nomatch z) fun _ => E_andT (b := true) (c := false) (E_notT (b := false) (E_tb (by rw [← hp]; rfl))) fun _ => E_tb ((E_2 rfl (E_L (E_lst (E_cons rfl (E_cons (E_ca (E_cons rfl E_nil) hv.repr) E_nil)) (Nat.le_of_ble_eq_true rfl))) (neX_strs (a := ["text", DL.shw v]) (b := ["text", DL.shw v]) (text_ok hv) (text_ok hv))).trans (by rw [decide_eq_true rfl]; rfl))
theorem size_right {v : D} (hv : VOk v) {A : DE} {EX : XP} {B : FS} {x1 x3 x4 x5 x6 x7 x8 x9 x10 : Option D} (hB : ∀ a5 a6, B A EX [.val .jar, jk x1, .val v, jk x3, jk x4, jk a5, jk a6, jk x7, jk x8, jk x9, jk x10]) :
    (sSeq P_law_right_0 (sSeq P_law_right_1 B)) A EX [.val .jar, jk x1, .val v, jk x3, jk x4, jk x5, jk x6, jk x7, jk x8, jk x9, jk x10] := by
  obtain ⟨T, hT, hc⟩ := made_told hv
  (try dsimp only); refine lP_law_right_0.goW ?_ ?_; exact (by first | rfl | (simp only [List.set_cons_zero, List.set_cons_succ, List.map_cons, List.map_nil, adr_jk, adr_jo, adr_val, adr_un, adr_own]; done))
  refine W_par (d := slipO (szSlip v)) (d2 := T) (E_cons (E_call (E_cons rfl E_nil) (t_law_slip hv.w (wok_shp hv))) (E_cons (hT _ _ (Z_makeK (E_kw E_nil (E_cons rfl E_nil)) ⟨rfl, rfl⟩ rfl)) E_nil)) ⟨(by first | rfl | (simp only [List.set_cons_zero, List.set_cons_succ, List.map_cons, List.map_nil, adr_jk, adr_jo, adr_val, adr_un, adr_own]; done)), ?_⟩
  (try dsimp only); refine lP_law_right_1.goW ?_ ?_; exact (by first | rfl | (simp only [List.set_cons_zero, List.set_cons_succ, List.map_cons, List.map_nil, adr_jk, adr_jo, adr_val, adr_un, adr_own]; done))
  refine W_if (v := false) ?_ (fun z => nomatch z) fun _ => W_next ⟨(by first | rfl | (simp only [List.set_cons_zero, List.set_cons_succ, List.map_cons, List.map_nil, adr_jk, adr_jo, adr_val, adr_un, adr_own]; done)), hB (some _) (some T)⟩
  rcases hc with ⟨e, s, hs, rfl, rfl⟩ | ⟨k, e, vk, rfl⟩
  · rw [e]
    refine E_orT (b := false) (c := false) (E_andT (b := false) (c := false) (E_tb (E_2 rfl (E_L (E_lst E_nil (Nat.zero_le _))) (ne_slip (o := none) fun k h => by cases h))) fun z => nomatch z) fun _ => E_andT (b := true) (c := false) (E_tb (E_2 rfl (E_L (E_lst E_nil (Nat.zero_le _))) (eq_slip (o := none) fun k h => by cases h))) fun _ => E_orT (b := false) (c := false) (E_tb (E_2 (E_2 rfl rfl (ixX_lst rfl)) rfl neX_str)) fun _ => E_tb (E_2 (E_prop (E_2 rfl rfl (ixX_lst rfl)) t_Board_sizes) rfl neX_sizes)
  · rw [e]
    refine E_orT (b := false) (c := false) (E_andT (b := true) (c := false) (E_tb (E_2 rfl (E_L (E_lst E_nil (Nat.zero_le _))) (ne_slip (o := some k) fun _ h => by cases h; exact vk))) fun _ => E_tb ((E_2 rfl rfl (neX_strs (a := ["sizes", DL.shw k]) (b := ["sizes", DL.shw k]) (sizes_ok vk) (sizes_ok vk))).trans (by rw [decide_eq_true rfl]; rfl))) fun _ => E_andT (b := false) (c := false) (E_tb (E_2 rfl (E_L (E_lst E_nil (Nat.zero_le _))) (eq_slip (o := some k) fun _ h => by cases h; exact vk))) fun z => nomatch z
def oddV : List D := [.int 1, .int 4, .int 0, .int (-2), .bl true, .non, .str "2", .tup [.int 2], .int ((10 : Int) ^ (30 : Int).toNat), .int 2]
theorem oddV_few : ∀ d ∈ oddV, Few d := fun d hd => by
  have h : (okd 58 d && okq 58 d && Nat.ble (wt d) 1000) = true := by
    have : ∀ d ∈ oddV, (okd 58 d && okq 58 d && Nat.ble (wt d) 1000) = true := by decide +kernel
    exact this d hd
  rw [Bool.and_eq_true, Bool.and_eq_true] at h
  exact ⟨h.1.1, h.1.2, Nat.le_of_ble_eq_true h.2⟩
def addV : List D := [.str "1", .str "4", .str " ", .str "\n", .str "a", .str "2"]
theorem addV_tx : ∀ d ∈ addV, ∃ y : Tx, d = st y ∧ y.length ≤ 1 ∧ ∀ c ∈ y, c < 200 := fun d hd => by
  have : ∀ d ∈ addV, (match d with | .str z => Nat.ble z.cps.toList.length 1 && z.cps.toList.all fun c => Nat.ble c 199 | _ => false) = true := by decide +kernel
  have h := this d hd
  have hs : strB d = true := by cases d <;> first | rfl | (cases h; done)
  obtain ⟨y, rfl⟩ := strB_of hs
  have h : (Nat.ble y.length 1 && y.all fun c => Nat.ble c 199) = true := h
  rw [Bool.and_eq_true, List.all_eq_true] at h
  exact ⟨y, rfl, Nat.le_of_ble_eq_true h.1, fun c hc => Nat.lt_succ_of_le (Nat.le_of_ble_eq_true (h.2 c hc))⟩
theorem cutm {ds : List D} {lo hi : Option Int} {x : D} (h : x ∈ DL.cutD ds lo hi) : x ∈ ds := List.mem_of_mem_drop (List.mem_of_mem_take h)
theorem cutl {ds : List D} {lo hi : Option Int} : (DL.cutD ds lo hi).length ≤ ds.length := by
  unfold DL.cutD
  rw [List.length_take, List.length_drop]; omega
theorem few_int {z : Int} (h : z = 2 ∨ z = 3) : Few (.int z) := by
  rcases h with rfl | rfl
  · exact ⟨by decide +kernel, by decide +kernel, by decide +kernel⟩
  · exact ⟨by decide +kernel, by decide +kernel, by decide +kernel⟩
def M2 : FS := (sSet 2 (fCall sp_law_pick (fCons (fVar 0) (fCons (fL (fLst (fCons (fVar 2) (fCons (fVar 2) (fCons (f2 addD (f2 addD (fSlice (fVar 2) fNone (fSome (fVar 3))) (fTup (fCons (fVar 4) fNil))) (fSlice (fVar 2) (fSome (fVar 3)) fNone)) (fCons (fL (fCaF listC2 (fCons (fVar 2) fNil))) (fCons (fCall sp_law_odd (fCons (fVar 0) fNil)) fNil))))))) fNil))))
def M7a : FS := (sSet 7 (fStr1 joinD (fC (.str "")) (fL (fLc (fRng1 (fCons (fCall sp_law_dip (fCons (fVar 0) (fCons (fC (.int 7)) fNil))) fNil)) [9] (gVar 9) fYes (fCa strC2 (fCons (fCall sp_law_pick (fCons (fVar 0) (fCons (fL (fLst (fCons (fC (.int 2)) (fCons (fC (.int 2)) (fCons (fC (.int 2)) (fCons (fC (.int 3)) fNil)))))) fNil))) fNil))))))
def M7b : FS := (sSet 7 (fCall sp_law_pick (fCons (fVar 0) (fCons (fL (fLst (fCons (fVar 7) (fCons (fVar 7) (fCons (f2 addD (fVar 7) (fCall sp_law_pick (fCons (fVar 0) (fCons (fL (fLst (fCons (fC (.str "1")) (fCons (fC (.str "4")) (fCons (fC (.str " ")) (fCons (fC (.str "\n")) (fCons (fC (.str "a")) (fCons (fC (.str "2")) fNil)))))))) fNil)))) (fCons (fCall sp_law_odd (fCons (fVar 0) fNil)) fNil)))))) fNil))))
def REST : FS := sSeq M7a (sSeq M7b (sSeq P_law_right_2 (sSeq P_law_right_3 (sSeq P_law_right_4 P_law_right_5))))
theorem join_page {ps : List Tx} : Txt.join (sx []) (ps.map sx) = sx ps.flatten := by
  rw [join_empty, List.map_map]
  show (⟨⟨(ps.map fun t => t).flatten⟩⟩ : Str) = _
  rw [List.map_id']; rfl
theorem few_page {y : Tx} (h : ∀ c ∈ y, c < 200) (hl : y.length ≤ 50) : VOk (st y) := vok_few (few_st (fun c hc => Nat.lt_trans (h c hc) (by decide)) (by omega))
theorem page_part {A : DE} {EX : XP} {a1 a2 a3 a4 a5 a6 a7 a8 a9 a10 : Option D} (hA : ∀ a6 a7 a8, A.nx [.val .jar, jk a1, jk a2, jk a3, jk a4, jk a5, jk a6, jk a7, jk a8, jk a9, jk a10]) : REST A EX [.val .jar, jk a1, jk a2, jk a3, jk a4, jk a5, jk a6, jk a7, jk a8, jk a9, jk a10] := by
  refine ⟨7, rfl, by decide, by decide, fun m hm0 hm1 => ⟨m, rfl, ⟨by omega, by omega⟩, ?_⟩⟩
  refine loop_page (rangeD 0 m) [] (by rw [rangeD_len]; simp; omega) (fun z hz => by cases hz) fun ps hpl hp => ?_
  have e0 : ("" : Str) = sx [] := by decide +kernel
  have hpc : ∀ c ∈ ps.flatten, c < 200 := fun c hc => by
    obtain ⟨t, ht, hc⟩ := List.mem_flatten.mp hc
    rcases hp t ht with rfl | rfl
    · rw [List.mem_singleton.mp hc]; decide
    · rw [List.mem_singleton.mp hc]; decide
  have hplen : ps.flatten.length ≤ 10 := by
    have : ∀ l : List Tx, (∀ z ∈ l, z = [50] ∨ z = [51]) → l.flatten.length = l.length := fun l h => by
      induction l with
      | nil => rfl
      | cons z l ih =>
        rw [List.flatten_cons, List.length_append, List.length_cons, ih fun y hy => h y (List.mem_cons_of_mem _ hy)]
        rcases h z List.mem_cons_self with rfl | rfl
        · show 1 + _ = _; omega
        · show 1 + _ = _; omega
    rw [this ps hp]; exact hpl
  show (match strsOf (sts ps) with
    | some ys => (ys.map (·.length)).sum + ys.length * ("" : Str).length ≤ 16777216 ∧ _
    | none => False)
  rw [strsOf_sts]
  have hb : ((ps.map sx).map (·.length)).sum + (ps.map sx).length * ("" : Str).length ≤ 16777216 := by
    have h1 : ∀ l : List Tx, (∀ z ∈ l, z = [50] ∨ z = [51]) → ((l.map sx).map (·.length)).sum = l.length := fun l h => by
      induction l with
      | nil => rfl
      | cons z l ih =>
        rw [List.map_cons, List.map_cons, List.sum_cons, ih fun y hy => h y (List.mem_cons_of_mem _ hy), List.length_cons]
        rcases h z List.mem_cons_self with rfl | rfl
        · show 1 + _ = _; omega
        · show 1 + _ = _; omega
    rw [h1 ps hp, e0, show (sx []).length = 0 from rfl]
    omega
  refine ⟨hb, ?_⟩
  have ej : Txt.join ("" : Str) (ps.map sx) = sx ps.flatten := by rw [e0]; exact join_page
  show (sSeq M7b (sSeq P_law_right_2 (sSeq P_law_right_3 (sSeq P_law_right_4 P_law_right_5)))) A EX [.val .jar, jk a1, jk a2, jk a3, jk a4, jk a5, jk a6, .val (.str (Txt.join ("" : Str) (ps.map sx))), jk a8, jk a9, jk a10]
  rw [ej]
  refine ⟨(by decide : 6 ≤ sizeLine), addV, _, rfl, .inl rfl, by decide, by decide, fun e he => ?_⟩
  obtain ⟨y, rfl, hyl, hyc⟩ := addV_tx e he
  have hlen : (sx ps.flatten).length + (sx y).length ≤ sizeLine := by
    show ps.flatten.length + y.length ≤ sizeLine
    rw [sl_eq]; omega
  refine ⟨hlen, ?_⟩
  refine ⟨rfl, fun w hw => ?_⟩
  refine ⟨(by decide : 4 ≤ sizeLine), ?_⟩
  refine ⟨_, _, rfl, .inl rfl, by simp, by simp, fun pg hpg => ?_⟩
  have vp : VOk pg := by
    rcases List.mem_cons.mp hpg with rfl | hpg
    · exact few_page hpc (by omega)
    rcases List.mem_cons.mp hpg with rfl | hpg
    · exact few_page hpc (by omega)
    rcases List.mem_cons.mp hpg with rfl | hpg
    · rw [sx_app]
      exact few_page (fun c hc => (List.mem_append.mp hc).elim (hpc c) (hyc c)) (by rw [List.length_append]; omega)
    · rw [List.mem_singleton.mp hpg]; exact hw
  exact text_right vp a8 (x1 := a1) (x2 := a2) (x3 := a3) (x4 := a4) (x5 := a5) (x6 := a6) (x9 := a9) (x10 := a10) (fun c6 c8 => hA c6 (some pg) c8)
theorem val_part {A : DE} {EX : XP} {vs : List Int} {at_ : Int} {o : D} (hl : vs.length ≤ 10) (h2 : ∀ z ∈ vs, z = 2 ∨ z = 3) (fo : Few o) {a1 a5 a6 a7 a8 a9 a10 : Option D} (hA : ∀ a2 a5 a6 a7 a8, A.nx [.val .jar, jk a1, jk a2, .val (.int at_), .val o, jk a5, jk a6, jk a7, jk a8, jk a9, jk a10]) : (sSeq M2 (sSeq P_law_right_0 (sSeq P_law_right_1 REST))) A EX [.val .jar, jk a1, .val (.tup (vs.map D.int)), .val (.int at_), .val o, jk a5, jk a6, jk a7, jk a8, jk a9, jk a10] := by
  have fv : ∀ e ∈ vs.map D.int, Few e := fun e he => by
    obtain ⟨z, hz, rfl⟩ := List.mem_map.mp he
    exact few_int (h2 z hz)
  have lv : (vs.map D.int).length ≤ 10 := by rw [List.length_map]; exact hl
  have c1 := cutl (ds := vs.map D.int) (lo := none) (hi := some at_)
  have c2 := cutl (ds := vs.map D.int) (lo := some at_) (hi := none)
  have b1 : (DL.cutD (vs.map D.int) none (some at_)).length + [o].length ≤ sizeLine := by
    rw [sl_eq, List.length_singleton]
    omega
  have b2 : (DL.cutD (vs.map D.int) none (some at_) ++ [o]).length + (DL.cutD (vs.map D.int) (some at_) none).length ≤ sizeLine := by
    rw [sl_eq, List.length_append, List.length_singleton]
    omega
  have b3 : (DL.cutD (vs.map D.int) none (some at_) ++ [o] ++ DL.cutD (vs.map D.int) (some at_) none).length ≤ 100 := by
    rw [List.length_append, List.length_append, List.length_singleton]
    omega
  refine ⟨at_, rfl, ?_⟩
  refine ⟨(by decide : 1 ≤ sizeLine), ?_⟩
  refine ⟨b1, ?_⟩
  refine ⟨at_, rfl, ?_⟩
  refine ⟨b2, ?_⟩
  refine ⟨rfl, fun w hw => ?_⟩
  refine ⟨(by decide : 5 ≤ sizeLine), ?_⟩
  refine ⟨_, _, rfl, .inl rfl, by simp, by simp, fun v hv => ?_⟩
  have vv : VOk v := by
    rcases List.mem_cons.mp hv with rfl | hv
    · exact vok_tup fv (by omega)
    rcases List.mem_cons.mp hv with rfl | hv
    · exact vok_tup fv (by omega)
    rcases List.mem_cons.mp hv with rfl | hv
    · refine vok_tup (fun e he => ?_) b3
      rcases List.mem_append.mp he with he | he
      · rcases List.mem_append.mp he with he | he
        · exact fv e (cutm he)
        · rw [List.mem_singleton.mp he]; exact fo
      · exact fv e (cutm he)
    rcases List.mem_cons.mp hv with rfl | hv
    · exact vok_lst fv (by omega)
    · rw [List.mem_singleton.mp hv]; exact hw
  show (sSeq P_law_right_0 (sSeq P_law_right_1 REST)) A EX [.val .jar, jk a1, .val v, jk (some (.int at_)), jk (some o), jk a5, jk a6, jk a7, jk a8, jk a9, jk a10]
  exact size_right vv (x1 := a1) (x3 := some (.int at_)) (x4 := some o) (x5 := a5) (x6 := a6) (x7 := a7) (x8 := a8) (x9 := a9) (x10 := a10) (B := REST) (fun b5 b6 => page_part (a1 := a1) (a2 := some v) (a3 := some (.int at_)) (a4 := some o) (a5 := b5) (a6 := b6) (a7 := a7) (a8 := a8) (a9 := a9) (a10 := a10) (fun c6 c7 c8 => hA (some v) b5 c6 c7 c8))
theorem loop_right {A : DE} {EX : XP} (hA : ∀ a1 a2 a3 a4 a5 a6 a7 a8 a9 a10, A.nx [.val .jar, jk a1, jk a2, jk a3, jk a4, jk a5, jk a6, jk a7, jk a8, jk a9, jk a10]) :
    ∀ (ds : List D) a1 a2 a3 a4 a5 a6 a7 a8 a9 a10, forD (gVar 1) L_law_right_0 ds A EX [.val .jar, jk a1, jk a2, jk a3, jk a4, jk a5, jk a6, jk a7, jk a8, jk a9, jk a10]
  | [], a1, a2, a3, a4, a5, a6, a7, a8, a9, a10 => hA a1 a2 a3 a4 a5 a6 a7 a8 a9 a10
  | d :: ds, a1, a2, a3, a4, a5, a6, a7, a8, a9, a10 => by
    refine ⟨8, rfl, by decide, by decide, fun n hn0 hn1 => ⟨n, rfl, ⟨by omega, by omega⟩, ?_⟩⟩
    refine loop_vals (rangeD 0 n) [] (by rw [rangeD_len]; simp; omega) (fun z hz => by cases hz) fun vs hl h2 => ?_
    refine ⟨((vs.map D.int).length : Nat) + 1, rfl, by omega, by rw [List.length_map]; omega, fun at_ ha0 ha1 => ?_⟩
    refine ⟨(by decide : 1 ≤ sizeLine), ?_⟩
    refine ⟨(by decide +kernel : CPow 10 30), ?_⟩
    refine ⟨(by decide : 10 ≤ sizeLine), ?_⟩
    refine ⟨oddV, _, rfl, .inl rfl, by decide, by decide, fun o ho => ?_⟩
    show (sSeq M2 (sSeq P_law_right_0 (sSeq P_law_right_1 REST))) { A with nx := fun r2 => forD (gVar 1) L_law_right_0 ds A EX r2, ct := fun r2 => forD (gVar 1) L_law_right_0 ds A EX r2, bk := A.nx } EX [.val .jar, jk (some d), .val (.tup (vs.map D.int)), .val (.int at_), .val o, jk a5, jk a6, jk a7, jk a8, jk a9, jk a10]
    exact val_part (a1 := some d) (a5 := a5) (a6 := a6) (a7 := a7) (a8 := a8) (a9 := a9) (a10 := a10) hl h2 (oddV_few o ho) (fun b2 b5 b6 b7 b8 => loop_right hA ds (some d) b2 (some (.int at_)) (some o) b5 b6 b7 b8 a9 a10)
theorem len_law_right : ∀ ds Q EX, sp_law_right ds Q EX → ds.length = 1 := by
  rintro _ Q EX ⟨rfl, _⟩; rfl
theorem pure_law_right : ∀ ds Q EX, sp_law_right ds Q EX → R_law_right { nx := fun _ => Q .non, rt := Q } EX (startD N_law_right ds) := by
  rintro _ Q EX ⟨rfl, k⟩
  refine ⟨10, rfl, ⟨by decide, by decide⟩, ?_⟩
  exact loop_right (fun _ _ _ _ _ _ _ _ _ _ => k) _ none none none none none none none none none none
theorem len_law_jar : ∀ ds Q EX, sp_law_jar ds Q EX → ds.length = 2 := by
  rintro _ Q EX ⟨ns, k, rfl, _⟩; rfl
theorem loop_jar {A : DE} {EX : XP} {a k : D} (hA : ∀ (m : Int) x y z, A.nx [.val a, .val k, .val (.int m), x, y, z]) : ∀ (ds : List D) (m : Int) (x y z : Sl), (∀ d ∈ ds, ∃ n : Int, d = .int n) → forD (gVar 3) L_law_jar_0 ds A EX [.val a, .val k, .val (.int m), x, y, z]
  | [], m, x, y, z, _ => hA m x y z
  | d :: ds, m, x, y, z, h => by
    obtain ⟨n, rfl⟩ := h d List.mem_cons_self
    refine ⟨.inr (by decide), ?_⟩
    refine ⟨(by decide : (1000000009 : Int) ≠ 0), ?_⟩
    exact loop_jar (EX := EX) hA ds _ _ _ _ fun d hd => h d (List.mem_cons_of_mem _ hd)
theorem cut_mem {ds : List D} {lo hi : Option Int} {d : D} (h : d ∈ cutD ds lo hi) : d ∈ ds := List.mem_of_mem_drop (List.mem_of_mem_take h)
theorem pure_law_jar : ∀ ds Q EX, sp_law_jar ds Q EX → R_law_jar { nx := fun _ => Q .non, rt := Q } EX (startD N_law_jar ds) := by
  rintro _ Q EX ⟨ns, k, rfl, h0, h1, hl, q⟩
  refine ⟨.inl (by decide), ?_⟩
  refine ⟨.inr ⟨by omega, by omega⟩, ?_⟩
  refine ⟨.inl (by decide), ?_⟩
  refine ⟨_, rfl, ?_⟩
  refine ⟨_, rfl, ?_⟩
  refine loop_jar (fun m x y z => ?_) _ _ _ _ _ (fun d hd => ?_)
  · -- own = script[k] if k < len(script) else 0
    refine ⟨_, rfl, ?_⟩
    have rest : ∀ own : Int, (sSeq (sSet 5 (fIf (fOrT (fTb (f2 ltD (fVar 4) (fC (.int 0)))) (fTb (f2 geD (fVar 4) (f2 powD (fC (.int 10)) (fC (.int 18)))))) (fCa (i1D fun i => .int (if i < 0 then -i else i)) (fCons (fVar 4) fNil)) (fC (.int 0))))
    (sRetJar (fLst (fCons (fVar 5) (fCons (f2 modD (fCa intC (fCons (f2 addD (f2 addD (f2 mulD (fVar 2) (fC (.int 8117))) (f2 mulD (fVar 4) (fC (.int 64013)))) (f2 mulD (fC (.int 105019)) (f2 addD (fVar 1) (fC (.int 1))))) fNil)) (fC (.int 2147483563))) (fCons (fC (.int 0)) fNil)))))) { nx := fun _ => Q .non, rt := Q } EX [.val (.lst (ns.map D.int)), .val (.int k), .val (.int m), x, .val (.int own), z] := by
      intro own
      have last : ∀ dg : Int, (sRetJar (fLst (fCons (fVar 5) (fCons (f2 modD (fCa intC (fCons (f2 addD (f2 addD (f2 mulD (fVar 2) (fC (.int 8117))) (f2 mulD (fVar 4) (fC (.int 64013)))) (f2 mulD (fC (.int 105019)) (f2 addD (fVar 1) (fC (.int 1))))) fNil)) (fC (.int 2147483563))) (fCons (fC (.int 0)) fNil))))) { nx := fun _ => Q .non, rt := Q } EX [.val (.lst (ns.map D.int)), .val (.int k), .val (.int m), x, .val (.int own), .val (.int dg)] := by
        intro dg
        refine ⟨.inr (by decide), ?_⟩
        refine ⟨.inr (by decide), ?_⟩
        refine ⟨.inl (by decide), ?_⟩
        refine ⟨(by decide : (2147483563 : Int) ≠ 0), ?_⟩
        exact ⟨(by decide : 3 ≤ sizeLine), q⟩
      refine ⟨_, rfl, ?_⟩
      refine ite2 (fun _ => ?_) (fun _ => ?_)
      · exact last _
      · refine ⟨⟨by decide, by decide, by decide⟩, ?_⟩
        refine ⟨_, rfl, ?_⟩
        refine ite2 (fun _ => ?_) (fun _ => ?_)
        · exact last _
        · exact last _
    refine ite2 (fun hb => ?_) (fun _ => ?_)
    · have hk : k < (ns.length : Int) := by
        have := of_decide_eq_true hb
        simpa using this
      obtain ⟨i, rfl⟩ := Int.eq_ofNat_of_zero_le h0
      have hi : i < (ns.map D.int).length := by simp; omega
      refine ⟨(i : Int), _, rfl, atI_nat hi, ?_⟩
      rw [List.getElem_map]
      exact rest _
    · exact rest 0
  · obtain ⟨n, _, e⟩ := List.mem_map.mp (cut_mem hd)
    exact ⟨n, e.symm⟩
theorem loop_law {A : DE} {EX : XP} {ns : List Int} (hl : ns.length ≤ 63) (hA : ∀ x, A.nx [.val (.lst (ns.map D.int)), x]) : ∀ (ds : List D) (x : Sl), (∀ d ∈ ds, ∃ k : Int, d = .int k ∧ 0 ≤ k ∧ k < 1000) → forD (gVar 1) L_law_0 ds A EX [.val (.lst (ns.map D.int)), x]
  | [], x, _ => hA x
  | d :: ds, x, h => by
    obtain ⟨k, rfl, h0, h1⟩ := h d List.mem_cons_self
    refine ⟨ns, k, rfl, h0, h1, hl, ?_⟩
    refine ⟨rfl, ?_⟩
    refine ⟨true, rfl, ?_⟩
    exact loop_law (EX := EX) hl hA ds _ fun d hd => h d (List.mem_cons_of_mem _ hd)
theorem len_law : ∀ ds Q EX, sp_law ds Q EX → ds.length = 1 := by
  rintro _ Q EX ⟨ns, rfl, _⟩; rfl
theorem pure_law : ∀ ds Q EX, sp_law ds Q EX → R_law { nx := fun _ => Q .non, rt := Q } EX (startD N_law ds) := by
  rintro _ Q EX ⟨ns, rfl, hl, q⟩
  refine ⟨_, rfl, ?_, ?_⟩
  · have : (ns.map D.int).length ≤ 63 := by simpa using hl
    constructor
    · split <;> omega
    · split <;> split <;> omega
  · refine loop_law hl (fun x => q) _ _ fun d hd => ?_
    obtain ⟨k, e, h0, h1⟩ := rangeD_int hd
    refine ⟨k, e, h0, ?_⟩
    have : (ns.map D.int).length ≤ 63 := by simpa using hl
    revert h1
    split <;> split <;> omega
theorem law_asks (ns : List Int) (h1 : ns.length ≤ 63) (_ : ∀ z ∈ ns, Builtin.Int.intBits z ≤ 1048576) : sp_law [.lst (ns.map D.int)] (fun d => d = .bl true) NoX := ⟨ns, rfl, h1, rfl⟩
end K03
namespace K03
open PySem L2 DL PyProof.Rows
def top (i : Nat) : Stmt := PySem.Challenge.pw_switchhills_k03_whole_sizes_and_texts_re.main.body.getD i (.Pass ⟨0, 0, 0, 0⟩)
abbrev s_law_dip : Stmt := top 19
abbrev s_law_pick : Stmt := top 20
abbrev s_law_odd : Stmt := top 22
abbrev s_law_slip : Stmt := top 25
abbrev s_law_bases : Stmt := top 21
abbrev s_law_shown : Stmt := top 23
abbrev s_law_caught : Stmt := top 24
abbrev s_is_within : Stmt := top 12
abbrev s_check_sizes : Stmt := top 13
abbrev s_settings_in : Stmt := top 14
abbrev s_Board_init : Stmt := inClass (top 16) 0
abbrev s_Board_sizes : Stmt := inClass (top 16) 2
abbrev s_board_told : Stmt := top 15
abbrev s_Board_read : Stmt := inClass (top 16) 1
abbrev s_Board_str : Stmt := inClass (top 16) 9
abbrev s_law_right : Stmt := top 26
abbrev s_law_jar : Stmt := top 18
abbrev s_law : Stmt := top 27
structure Ad where
  f_law_dip : Addr
  f_law_pick : Addr
  f_law_odd : Addr
  f_law_slip : Addr
  f_law_bases : Addr
  f_law_shown : Addr
  f_law_caught : Addr
  f_is_within : Addr
  f_check_sizes : Addr
  f_settings_in : Addr
  f_Board_init : Addr
  f_Board_sizes : Addr
  f_board_told : Addr
  f_Board_read : Addr
  f_Board_str : Addr
  f_law_right : Addr
  f_law_jar : Addr
  f_law : Addr
  C_Board : Addr
  P_Board_sizes : Addr
  P_Board_read : Addr
  A_DIGITS : Addr
  A_STANDS : Addr
  C_InvalidSizes : Addr
  i_InvalidSizes : Addr
  C_InvalidText : Addr
  i_InvalidText : Addr
  c_law_right : Addr
  t_law_right : Addr
  C_WrongValue : Addr
  C_WrongName : Addr
  C_NotPossible : Addr
def gm (K : PySem.W.Frag) (w : World) (ad : Ad) : Gm where
  K := K
  pw := w
  cls := fun c => match c with
    | 1 => ad.C_Board
    | 23 => ad.C_InvalidSizes
    | 11 => ad.C_InvalidText
    | _ => 0
  fld := fun c => match c with
    | 1 => fl_Board
    | 23 => ["index"]
    | 11 => ["given"]
    | _ => []
  tb := [(ad.t_law_right, "_law_right.<locals>.<lambda>")]
abbrev V_DIGITS (ad : Ad) : V := .ref ad.A_DIGITS
abbrev V_STANDS (ad : Ad) : V := .ref ad.A_STANDS
structure Txt (K : PySem.W.Frag) (w : World) (mg : Str → Option Value) (ad : Ad) : Prop where
  F_law_dip : ∃ fd, Fun K "_law_dip" "_law_dip" s_law_dip ad.f_law_dip fd
  m_law_dip : mg "_law_dip" = some (.ref ad.f_law_dip)
  k_law_dip : PySem.W.keepIn K (.ref ad.f_law_dip) = true
  F_law_pick : ∃ fd, Fun K "_law_pick" "_law_pick" s_law_pick ad.f_law_pick fd
  m_law_pick : mg "_law_pick" = some (.ref ad.f_law_pick)
  k_law_pick : PySem.W.keepIn K (.ref ad.f_law_pick) = true
  F_law_odd : ∃ fd, Fun K "_law_odd" "_law_odd" s_law_odd ad.f_law_odd fd
  m_law_odd : mg "_law_odd" = some (.ref ad.f_law_odd)
  k_law_odd : PySem.W.keepIn K (.ref ad.f_law_odd) = true
  F_law_slip : ∃ fd, Fun K "_law_slip" "_law_slip" s_law_slip ad.f_law_slip fd
  m_law_slip : mg "_law_slip" = some (.ref ad.f_law_slip)
  k_law_slip : PySem.W.keepIn K (.ref ad.f_law_slip) = true
  F_law_bases : ∃ fd, Fun K "_law_bases" "_law_bases" s_law_bases ad.f_law_bases fd
  m_law_bases : mg "_law_bases" = some (.ref ad.f_law_bases)
  k_law_bases : PySem.W.keepIn K (.ref ad.f_law_bases) = true
  F_law_shown : ∃ fd, Fun K "_law_shown" "_law_shown" s_law_shown ad.f_law_shown fd
  m_law_shown : mg "_law_shown" = some (.ref ad.f_law_shown)
  k_law_shown : PySem.W.keepIn K (.ref ad.f_law_shown) = true
  F_law_caught : ∃ fd, Fun K "_law_caught" "_law_caught" s_law_caught ad.f_law_caught fd
  m_law_caught : mg "_law_caught" = some (.ref ad.f_law_caught)
  k_law_caught : PySem.W.keepIn K (.ref ad.f_law_caught) = true
  F_is_within : ∃ fd, Fun K "is_within" "is_within" s_is_within ad.f_is_within fd
  m_is_within : mg "is_within" = some (.ref ad.f_is_within)
  k_is_within : PySem.W.keepIn K (.ref ad.f_is_within) = true
  F_check_sizes : ∃ fd, Fun K "check_sizes" "check_sizes" s_check_sizes ad.f_check_sizes fd
  m_check_sizes : mg "check_sizes" = some (.ref ad.f_check_sizes)
  k_check_sizes : PySem.W.keepIn K (.ref ad.f_check_sizes) = true
  F_settings_in : ∃ fd, Fun K "settings_in" "settings_in" s_settings_in ad.f_settings_in fd
  m_settings_in : mg "settings_in" = some (.ref ad.f_settings_in)
  k_settings_in : PySem.W.keepIn K (.ref ad.f_settings_in) = true
  F_Board_init : ∃ fd, Fun K "__init__" "Board.__init__" s_Board_init ad.f_Board_init fd
  mk_Board : Mk K ad.C_Board ad.f_Board_init
  g_Board : mg "Board" = some (.ref ad.C_Board)
  F_Board_sizes : ∃ fd, Fun K "sizes" "Board.sizes" s_Board_sizes ad.f_Board_sizes fd
  p_Board_sizes : PropOf K ad.C_Board "sizes" ad.P_Board_sizes ad.f_Board_sizes
  F_board_told : ∃ fd, Fun K "board_told" "board_told" s_board_told ad.f_board_told fd
  m_board_told : mg "board_told" = some (.ref ad.f_board_told)
  k_board_told : PySem.W.keepIn K (.ref ad.f_board_told) = true
  F_Board_read : ∃ fd, Fun K "read" "Board.read" s_Board_read ad.f_Board_read fd
  cm_Board_read : ClX.CMet K ad.C_Board (.type "type") "read" ad.P_Board_read ad.f_Board_read
  cr_Board : ClX.CRead K ad.C_Board (.type "type")
  F_Board_str : ∃ fd, Fun K "__str__" "Board.__str__" s_Board_str ad.f_Board_str fd
  h_Board_str : Meth K ad.C_Board "__str__" ad.f_Board_str
  F_law_right : ∃ fd, Fun K "_law_right" "_law_right" s_law_right ad.f_law_right fd
  m_law_right : mg "_law_right" = some (.ref ad.f_law_right)
  k_law_right : PySem.W.keepIn K (.ref ad.f_law_right) = true
  F_law_jar : ∃ fd, Fun K "_law_jar" "_law_jar" s_law_jar ad.f_law_jar fd
  m_law_jar : mg "_law_jar" = some (.ref ad.f_law_jar)
  k_law_jar : PySem.W.keepIn K (.ref ad.f_law_jar) = true
  F_law : ∃ fd, Fun K "law" "law" s_law ad.f_law fd
  m_law : mg "law" = some (.ref ad.f_law)
  k_law : PySem.W.keepIn K (.ref ad.f_law) = true
  c_Board : ClsG K ad.C_Board
  n_Board_both : NoAttr K ad.C_Board "both"
  g_DIGITS : ∃ u, mg "DIGITS" = some u ∧ RelV (V_DIGITS ad) u
  r_DIGITS : ∀ w', Rep (gm K w ad) w' D_DIGITS (V_DIGITS ad)
  g_MOST_SETTINGS : ∃ u, mg "MOST_SETTINGS" = some u ∧ RelV (.int 48) u
  g_MOST_SWITCHES : ∃ u, mg "MOST_SWITCHES" = some u ∧ RelV (.int 5) u
  g_STANDS : ∃ u, mg "STANDS" = some u ∧ RelV (V_STANDS ad) u
  r_STANDS : ∀ w', Rep (gm K w ad) w' D_STANDS (V_STANDS ad)
  x_InvalidSizes : ExL.ClI K mg "InvalidSizes" ad.C_InvalidSizes ad.i_InvalidSizes [.type "ValueError", .type "Exception", .type "BaseException", .type "object"] "ValueError.__new__"
  x_InvalidText : ExL.ClG K mg "InvalidText" ad.C_InvalidText ad.i_InvalidText [.type "ValueError", .type "Exception", .type "BaseException", .type "object"] "ValueError.__new__"
  xg_WrongValue : mg "WrongValue" = some (.ref ad.C_WrongValue)
  xg_WrongName : mg "WrongName" = some (.ref ad.C_WrongName)
  xg_NotPossible : mg "NotPossible" = some (.ref ad.C_NotPossible)
  xg_InvalidSizes : mg "InvalidSizes" = some (.ref ad.C_InvalidSizes)
  xg_InvalidText : mg "InvalidText" = some (.ref ad.C_InvalidText)
  xf_InvalidSizes : ExF K ad.C_InvalidSizes
  xf_InvalidText : ExF K ad.C_InvalidText
  xn_InvalidSizes : PySem.W.findIn K (.ref ad.C_InvalidSizes) "index" = some none
  xn_InvalidText : PySem.W.findIn K (.ref ad.C_InvalidText) "given" = some none
  kx_WrongValue_InvalidSizes : PySem.W.kitOne K (.ref ad.C_InvalidSizes) (.ref ad.C_WrongValue) = some true
  kx_WrongValue_InvalidText : PySem.W.kitOne K (.ref ad.C_InvalidText) (.ref ad.C_WrongValue) = some true
  kx_WrongName_InvalidSizes : PySem.W.kitOne K (.ref ad.C_InvalidSizes) (.ref ad.C_WrongName) = some false
  kx_WrongName_InvalidText : PySem.W.kitOne K (.ref ad.C_InvalidText) (.ref ad.C_WrongName) = some false
  kx_NotPossible_InvalidSizes : PySem.W.kitOne K (.ref ad.C_InvalidSizes) (.ref ad.C_NotPossible) = some false
  kx_NotPossible_InvalidText : PySem.W.kitOne K (.ref ad.C_InvalidText) (.ref ad.C_NotPossible) = some false
  kx_ValueError_InvalidSizes : PySem.W.kitOne K (.ref ad.C_InvalidSizes) (.type "ValueError") = some true
  kx_ValueError_InvalidText : PySem.W.kitOne K (.ref ad.C_InvalidText) (.type "ValueError") = some true
  kx_LookupError_InvalidSizes : PySem.W.kitOne K (.ref ad.C_InvalidSizes) (.type "LookupError") = some false
  kx_LookupError_InvalidText : PySem.W.kitOne K (.ref ad.C_InvalidText) (.type "LookupError") = some false
  kx_ArithmeticError_InvalidSizes : PySem.W.kitOne K (.ref ad.C_InvalidSizes) (.type "ArithmeticError") = some false
  kx_ArithmeticError_InvalidText : PySem.W.kitOne K (.ref ad.C_InvalidText) (.type "ArithmeticError") = some false
  kx_InvalidSizes_InvalidSizes : PySem.W.kitOne K (.ref ad.C_InvalidSizes) (.ref ad.C_InvalidSizes) = some true
  kx_InvalidSizes_InvalidText : PySem.W.kitOne K (.ref ad.C_InvalidText) (.ref ad.C_InvalidSizes) = some false
  kx_InvalidText_InvalidSizes : PySem.W.kitOne K (.ref ad.C_InvalidSizes) (.ref ad.C_InvalidText) = some false
  kx_InvalidText_InvalidText : PySem.W.kitOne K (.ref ad.C_InvalidText) (.ref ad.C_InvalidText) = some true
  cd_law_right : refB K ad.f_law_right ad.c_law_right = true
  ea_law_caught_InvalidSizes : PySem.W.exmAny K (.ref ad.C_InvalidSizes) [.ref ad.C_WrongValue, .ref ad.C_WrongName, .ref ad.C_NotPossible] = some true
  ea_law_caught_InvalidText : PySem.W.exmAny K (.ref ad.C_InvalidText) [.ref ad.C_WrongValue, .ref ad.C_WrongName, .ref ad.C_NotPossible] = some true
  em_InvalidSizes_InvalidSizes : PySem.W.exmOne K (.ref ad.C_InvalidSizes) (.ref ad.C_InvalidSizes) = some true
  em_InvalidText_InvalidSizes : PySem.W.exmOne K (.ref ad.C_InvalidText) (.ref ad.C_InvalidSizes) = some false
  z_ArithmeticError : mg "ArithmeticError" = none
  z_LookupError : mg "LookupError" = none
  z_ValueError : mg "ValueError" = none
  z_abs : mg "abs" = none
  z_all : mg "all" = none
  z_bool : mg "bool" = none
  z_int : mg "int" = none
  z_isinstance : mg "isinstance" = none
  z_len : mg "len" = none
  z_list : mg "list" = none
  z_max : mg "max" = none
  z_min : mg "min" = none
  z_range : mg "range" = none
  z_repr : mg "repr" = none
  z_str : mg "str" = none
  z_tuple : mg "tuple" = none
theorem exm_InvalidSizes_ok {K : PySem.W.Frag} {w : World} {mg : Str → Option Value} {ad : Ad} (T : Txt K w mg ad) : ∀ c b, exm_InvalidSizes c = some b → PySem.W.exmOne K (.ref ((gm K w ad).cls c)) (.ref ad.C_InvalidSizes) = some b := by
  intro c b h
  unfold exm_InvalidSizes at h
  split at h <;> cases h <;> first | exact T.em_InvalidSizes_InvalidSizes | exact T.em_InvalidText_InvalidSizes
theorem xt_index_is {c : Nat} (h : xt_index c = true) : c = 23 := by revert h; unfold xt_index; split <;> intro h <;> simp_all
theorem xt_index_ok {K : PySem.W.Frag} {w : World} {mg : Str → Option Value} {ad : Ad} (T : Txt K w mg ad) : ∀ c, xt_index c = true → (gm K w ad).fld c = [("index" : Str)] ∧ ExF K ((gm K w ad).cls c) ∧ PySem.W.findIn K (.ref ((gm K w ad).cls c)) "index" = some none := by
  intro c h
  rcases xt_index_is h with rfl <;> first | exact ⟨rfl, T.xf_InvalidSizes, T.xn_InvalidSizes⟩
theorem xt_given_is {c : Nat} (h : xt_given c = true) : c = 11 := by revert h; unfold xt_given; split <;> intro h <;> simp_all
theorem xt_given_ok {K : PySem.W.Frag} {w : World} {mg : Str → Option Value} {ad : Ad} (T : Txt K w mg ad) : ∀ c, xt_given c = true → (gm K w ad).fld c = [("given" : Str)] ∧ ExF K ((gm K w ad).cls c) ∧ PySem.W.findIn K (.ref ((gm K w ad).cls c)) "given" = some none := by
  intro c h
  rcases xt_given_is h with rfl <;> first | exact ⟨rfl, T.xf_InvalidText, T.xn_InvalidText⟩
theorem isx_WrongValue_t {K : PySem.W.Frag} {w : World} {mg : Str → Option Value} {ad : Ad} (T : Txt K w mg ad) : ∀ t b, isx_WrongValue t = some b → PySem.W.kitOne K (tagV (gm K w ad) t) (.ref ad.C_WrongValue) = some b := by
  intro t b h
  unfold isx_WrongValue at h
  split at h <;> cases h <;> first | exact T.kx_WrongValue_InvalidSizes | exact T.kx_WrongValue_InvalidText
theorem isx_WrongValue_is {c : Nat} {b : Bool} (h : isx_WrongValue (.exc c) = some b) : c = 23 ∨ c = 11 := by revert h; unfold isx_WrongValue; split <;> intro h <;> simp_all
theorem isx_WrongValue_x {K : PySem.W.Frag} {w : World} {mg : Str → Option Value} {ad : Ad} (T : Txt K w mg ad) : ∀ c b, isx_WrongValue (.exc c) = some b → ExF K ((gm K w ad).cls c) := by
  intro c b h
  rcases isx_WrongValue_is h with rfl | rfl <;> first | exact T.xf_InvalidSizes | exact T.xf_InvalidText
theorem isx_WrongValue_c {G : Gm} : ∀ c b, isx_WrongValue (.obj c) = some b → ClsG G.K (G.cls c) := fun _ _ h => by cases h
theorem isx_WrongName_t {K : PySem.W.Frag} {w : World} {mg : Str → Option Value} {ad : Ad} (T : Txt K w mg ad) : ∀ t b, isx_WrongName t = some b → PySem.W.kitOne K (tagV (gm K w ad) t) (.ref ad.C_WrongName) = some b := by
  intro t b h
  unfold isx_WrongName at h
  split at h <;> cases h <;> first | exact T.kx_WrongName_InvalidSizes | exact T.kx_WrongName_InvalidText
theorem isx_WrongName_is {c : Nat} {b : Bool} (h : isx_WrongName (.exc c) = some b) : c = 23 ∨ c = 11 := by revert h; unfold isx_WrongName; split <;> intro h <;> simp_all
theorem isx_WrongName_x {K : PySem.W.Frag} {w : World} {mg : Str → Option Value} {ad : Ad} (T : Txt K w mg ad) : ∀ c b, isx_WrongName (.exc c) = some b → ExF K ((gm K w ad).cls c) := by
  intro c b h
  rcases isx_WrongName_is h with rfl | rfl <;> first | exact T.xf_InvalidSizes | exact T.xf_InvalidText
theorem isx_WrongName_c {G : Gm} : ∀ c b, isx_WrongName (.obj c) = some b → ClsG G.K (G.cls c) := fun _ _ h => by cases h
theorem isx_NotPossible_t {K : PySem.W.Frag} {w : World} {mg : Str → Option Value} {ad : Ad} (T : Txt K w mg ad) : ∀ t b, isx_NotPossible t = some b → PySem.W.kitOne K (tagV (gm K w ad) t) (.ref ad.C_NotPossible) = some b := by
  intro t b h
  unfold isx_NotPossible at h
  split at h <;> cases h <;> first | exact T.kx_NotPossible_InvalidSizes | exact T.kx_NotPossible_InvalidText
theorem isx_NotPossible_is {c : Nat} {b : Bool} (h : isx_NotPossible (.exc c) = some b) : c = 23 ∨ c = 11 := by revert h; unfold isx_NotPossible; split <;> intro h <;> simp_all
theorem isx_NotPossible_x {K : PySem.W.Frag} {w : World} {mg : Str → Option Value} {ad : Ad} (T : Txt K w mg ad) : ∀ c b, isx_NotPossible (.exc c) = some b → ExF K ((gm K w ad).cls c) := by
  intro c b h
  rcases isx_NotPossible_is h with rfl | rfl <;> first | exact T.xf_InvalidSizes | exact T.xf_InvalidText
theorem isx_NotPossible_c {G : Gm} : ∀ c b, isx_NotPossible (.obj c) = some b → ClsG G.K (G.cls c) := fun _ _ h => by cases h
theorem isx_ValueError_t {K : PySem.W.Frag} {w : World} {mg : Str → Option Value} {ad : Ad} (T : Txt K w mg ad) : ∀ t b, isx_ValueError t = some b → PySem.W.kitOne K (tagV (gm K w ad) t) (.type "ValueError") = some b := by
  intro t b h
  unfold isx_ValueError at h
  split at h <;> cases h <;> first | exact T.kx_ValueError_InvalidSizes | exact T.kx_ValueError_InvalidText
theorem isx_ValueError_is {c : Nat} {b : Bool} (h : isx_ValueError (.exc c) = some b) : c = 23 ∨ c = 11 := by revert h; unfold isx_ValueError; split <;> intro h <;> simp_all
theorem isx_ValueError_x {K : PySem.W.Frag} {w : World} {mg : Str → Option Value} {ad : Ad} (T : Txt K w mg ad) : ∀ c b, isx_ValueError (.exc c) = some b → ExF K ((gm K w ad).cls c) := by
  intro c b h
  rcases isx_ValueError_is h with rfl | rfl <;> first | exact T.xf_InvalidSizes | exact T.xf_InvalidText
theorem isx_ValueError_c {G : Gm} : ∀ c b, isx_ValueError (.obj c) = some b → ClsG G.K (G.cls c) := fun _ _ h => by cases h
theorem isx_LookupError_t {K : PySem.W.Frag} {w : World} {mg : Str → Option Value} {ad : Ad} (T : Txt K w mg ad) : ∀ t b, isx_LookupError t = some b → PySem.W.kitOne K (tagV (gm K w ad) t) (.type "LookupError") = some b := by
  intro t b h
  unfold isx_LookupError at h
  split at h <;> cases h <;> first | exact T.kx_LookupError_InvalidSizes | exact T.kx_LookupError_InvalidText
theorem isx_LookupError_is {c : Nat} {b : Bool} (h : isx_LookupError (.exc c) = some b) : c = 23 ∨ c = 11 := by revert h; unfold isx_LookupError; split <;> intro h <;> simp_all
theorem isx_LookupError_x {K : PySem.W.Frag} {w : World} {mg : Str → Option Value} {ad : Ad} (T : Txt K w mg ad) : ∀ c b, isx_LookupError (.exc c) = some b → ExF K ((gm K w ad).cls c) := by
  intro c b h
  rcases isx_LookupError_is h with rfl | rfl <;> first | exact T.xf_InvalidSizes | exact T.xf_InvalidText
theorem isx_LookupError_c {G : Gm} : ∀ c b, isx_LookupError (.obj c) = some b → ClsG G.K (G.cls c) := fun _ _ h => by cases h
theorem isx_ArithmeticError_t {K : PySem.W.Frag} {w : World} {mg : Str → Option Value} {ad : Ad} (T : Txt K w mg ad) : ∀ t b, isx_ArithmeticError t = some b → PySem.W.kitOne K (tagV (gm K w ad) t) (.type "ArithmeticError") = some b := by
  intro t b h
  unfold isx_ArithmeticError at h
  split at h <;> cases h <;> first | exact T.kx_ArithmeticError_InvalidSizes | exact T.kx_ArithmeticError_InvalidText
theorem isx_ArithmeticError_is {c : Nat} {b : Bool} (h : isx_ArithmeticError (.exc c) = some b) : c = 23 ∨ c = 11 := by revert h; unfold isx_ArithmeticError; split <;> intro h <;> simp_all
theorem isx_ArithmeticError_x {K : PySem.W.Frag} {w : World} {mg : Str → Option Value} {ad : Ad} (T : Txt K w mg ad) : ∀ c b, isx_ArithmeticError (.exc c) = some b → ExF K ((gm K w ad).cls c) := by
  intro c b h
  rcases isx_ArithmeticError_is h with rfl | rfl <;> first | exact T.xf_InvalidSizes | exact T.xf_InvalidText
theorem isx_ArithmeticError_c {G : Gm} : ∀ c b, isx_ArithmeticError (.obj c) = some b → ClsG G.K (G.cls c) := fun _ _ h => by cases h
theorem isx_InvalidSizes_t {K : PySem.W.Frag} {w : World} {mg : Str → Option Value} {ad : Ad} (T : Txt K w mg ad) : ∀ t b, isx_InvalidSizes t = some b → PySem.W.kitOne K (tagV (gm K w ad) t) (.ref ad.C_InvalidSizes) = some b := by
  intro t b h
  unfold isx_InvalidSizes at h
  split at h <;> cases h <;> first | exact T.kx_InvalidSizes_InvalidSizes | exact T.kx_InvalidSizes_InvalidText
theorem isx_InvalidSizes_is {c : Nat} {b : Bool} (h : isx_InvalidSizes (.exc c) = some b) : c = 23 ∨ c = 11 := by revert h; unfold isx_InvalidSizes; split <;> intro h <;> simp_all
theorem isx_InvalidSizes_x {K : PySem.W.Frag} {w : World} {mg : Str → Option Value} {ad : Ad} (T : Txt K w mg ad) : ∀ c b, isx_InvalidSizes (.exc c) = some b → ExF K ((gm K w ad).cls c) := by
  intro c b h
  rcases isx_InvalidSizes_is h with rfl | rfl <;> first | exact T.xf_InvalidSizes | exact T.xf_InvalidText
theorem isx_InvalidSizes_c {G : Gm} : ∀ c b, isx_InvalidSizes (.obj c) = some b → ClsG G.K (G.cls c) := fun _ _ h => by cases h
theorem isx_InvalidText_t {K : PySem.W.Frag} {w : World} {mg : Str → Option Value} {ad : Ad} (T : Txt K w mg ad) : ∀ t b, isx_InvalidText t = some b → PySem.W.kitOne K (tagV (gm K w ad) t) (.ref ad.C_InvalidText) = some b := by
  intro t b h
  unfold isx_InvalidText at h
  split at h <;> cases h <;> first | exact T.kx_InvalidText_InvalidSizes | exact T.kx_InvalidText_InvalidText
theorem isx_InvalidText_is {c : Nat} {b : Bool} (h : isx_InvalidText (.exc c) = some b) : c = 23 ∨ c = 11 := by revert h; unfold isx_InvalidText; split <;> intro h <;> simp_all
theorem isx_InvalidText_x {K : PySem.W.Frag} {w : World} {mg : Str → Option Value} {ad : Ad} (T : Txt K w mg ad) : ∀ c b, isx_InvalidText (.exc c) = some b → ExF K ((gm K w ad).cls c) := by
  intro c b h
  rcases isx_InvalidText_is h with rfl | rfl <;> first | exact T.xf_InvalidSizes | exact T.xf_InvalidText
theorem isx_InvalidText_c {G : Gm} : ∀ c b, isx_InvalidText (.obj c) = some b → ClsG G.K (G.cls c) := fun _ _ h => by cases h
theorem isi_bool_t {K : PySem.W.Frag} {w : World} {ad : Ad} : ∀ t b, isi_bool t = some b → PySem.W.kitOne K (tagV (gm K w ad) t) (.type "bool") = some b := by
  intro t b h
  cases t <;> cases h <;> (first | kernel_rfl | rfl)
theorem isi_bool_c {G : Gm} : ∀ c b, isi_bool (.obj c) = some b → ClsG G.K (G.cls c) := fun _ _ h => by cases h
theorem isi_int_t {K : PySem.W.Frag} {w : World} {ad : Ad} : ∀ t b, isi_int t = some b → PySem.W.kitOne K (tagV (gm K w ad) t) (.type "int") = some b := by
  intro t b h
  cases t <;> cases h <;> (first | kernel_rfl | rfl)
theorem isi_int_c {G : Gm} : ∀ c b, isi_int (.obj c) = some b → ClsG G.K (G.cls c) := fun _ _ h => by cases h
theorem isi_str_t {K : PySem.W.Frag} {w : World} {ad : Ad} : ∀ t b, isi_str t = some b → PySem.W.kitOne K (tagV (gm K w ad) t) (.type "str") = some b := by
  intro t b h
  cases t <;> cases h <;> (first | kernel_rfl | rfl)
theorem isi_str_c {G : Gm} : ∀ c b, isi_str (.obj c) = some b → ClsG G.K (G.cls c) := fun _ _ h => by cases h
theorem isi_tuple_t {K : PySem.W.Frag} {w : World} {ad : Ad} : ∀ t b, isi_tuple t = some b → PySem.W.kitOne K (tagV (gm K w ad) t) (.type "tuple") = some b := by
  intro t b h
  cases t <;> cases h <;> (first | kernel_rfl | rfl)
theorem isi_tuple_c {G : Gm} : ∀ c b, isi_tuple (.obj c) = some b → ClsG G.K (G.cls c) := fun _ _ h => by cases h
theorem c3_law_caught_ok {K : PySem.W.Frag} {w : World} {mg : Str → Option Value} {ad : Ad} (T : Txt K w mg ad) : ∀ c b, c3_law_caught c = some b → PySem.W.exmAny K (.ref ((gm K w ad).cls c)) [.ref ad.C_WrongValue, .ref ad.C_WrongName, .ref ad.C_NotPossible] = some b := by
  intro c b h
  unfold c3_law_caught at h
  split at h <;> cases h <;> first | exact T.ea_law_caught_InvalidSizes | exact T.ea_law_caught_InvalidText
section
variable {P : Program} {w : World} {K : PySem.W.Frag} {mg : Str → Option Value} {base : Heap} {ad : Ad}
theorem sc_law_dip : FnScope N_law_dip ["jar", "most"] (defScope s_law_dip) := ⟨rfl, rfl, rfl, by decide +kernel, rfl, by decide +kernel, by decide +kernel⟩
theorem ok_law_dip (T : Txt K w mg ad) (hT : LamX.TabB base mg ad.c_law_right ad.t_law_right) : DefU P w (gm K w ad) mg base 1 ad.f_law_dip ["jar", "most"] (fun fd => Fun K "_law_dip" "_law_dip" s_law_dip ad.f_law_dip fd) (lift (gm K w ad) sp_law_dip) := by
  obtain ⟨fd, F⟩ := T.F_law_dip
  refine ⟨fd, okD (B := R_law_dip) F sc_law_dip len_law_dip (fun cdv A outer s H E hg hr => ?_) pure_law_dip, F⟩
  have hg0 : (A.deeper (envOfC "_law_dip" (defScope s_law_dip) s.heap.objs.size ad.f_law_dip cdv)).guards = some [] := hg
  have hx0 : PassX (cxOf (L2.CX P w) P w K mg base N_law_dip "_law_dip" (defScope s_law_dip) ad.f_law_dip cdv A outer s H E) E := L2.passes_call (L2.takes_of rfl rfl rfl rfl) fun _ _ _ _ h => h
  exact (css_cons (cs_jar (i := 0) (ce_bin opl_add (see (ce_jar (ce_var 0) (by decide))) (see ce_int)) (by decide))
    (css_cons (cs_if (ct_cmp opl_gt (see (ce_jar (ce_var 0) (by decide))) (see ce_int)) (css_cons (cs_set (i := 3) (ce_bin opl_mod (see (ce_callTy cal_int2 T.z_int (cab_cons (see (ce_jar (ce_var 0) (by decide))) cab_nil))) (see (ce_var 1))) sc_law_dip.nd)
    (css_cons (cs_jar (i := 0) (ce_bin opl_div (see (ce_callTy cal_int2 T.z_int (cab_cons (see (ce_jar (ce_var 0) (by decide))) cab_nil))) (see (ce_var 1))) (by decide))
    (css_one (cs_ret (see (ce_var 3)))))) css_nil)
    (css_cons (cs_set (i := 2) (ce_callTy cal_int2 T.z_int (cab_cons (see (ce_jar (ce_var 0) (by decide))) cab_nil)) sc_law_dip.nd)
    (css_cons (cs_jar (i := 0) (ce_bin opl_mod (see (ce_callTy cal_int2 T.z_int (cab_cons (see (ce_bin opl_add (see (ce_bin opl_add (see (ce_bin opl_mulA (see (ce_var 2)) (see ce_int))) (see (ce_bin opl_mulA (see (ce_jar (ce_var 0) (by decide))) (see ce_int))))) (see ce_int))) cab_nil))) (see ce_int)) (by decide))
    (css_one (cs_ret (see (ce_bin opl_mod (see (ce_callTy cal_int2 T.z_int (cab_cons (see (ce_bin opl_div (see (ce_jar (ce_var 0) (by decide))) (see ce_int))) cab_nil))) (see (ce_var 1))))))))))
theorem sc_law_pick : FnScope N_law_pick ["jar", "menu"] (defScope s_law_pick) := ⟨rfl, rfl, rfl, by decide +kernel, rfl, by decide +kernel, by decide +kernel⟩
theorem ok_law_pick (T : Txt K w mg ad) (hT : LamX.TabB base mg ad.c_law_right ad.t_law_right) : DefU P w (gm K w ad) mg base 2 ad.f_law_pick ["jar", "menu"] (fun fd => Fun K "_law_pick" "_law_pick" s_law_pick ad.f_law_pick fd) (lift (gm K w ad) sp_law_pick) := by
  obtain ⟨fd_law_dip, F_law_dip, U_law_dip⟩ := ok_law_dip (P := P) (base := base) T hT
  have b_law_dip : Binds K fd_law_dip ["jar", "most"] [] := U_law_dip.binds (ps := ["jar", "most"]) fun _ _ _ _ _ _ us hl => match us, hl with | [_, _], _ => rfl
  obtain ⟨fd, F⟩ := T.F_law_pick
  refine ⟨fd, okD (B := R_law_pick) F sc_law_pick len_law_pick (fun cdv A outer s H E hg hr => ?_) pure_law_pick, F⟩
  have hg0 : (A.deeper (envOfC "_law_pick" (defScope s_law_pick) s.heap.objs.size ad.f_law_pick cdv)).guards = some [] := hg
  have hx0 : PassX (cxOf (L2.CX P w) P w K mg base N_law_pick "_law_pick" (defScope s_law_pick) ad.f_law_pick cdv A outer s H E) E := L2.passes_call (L2.takes_of rfl rfl rfl rfl) fun _ _ _ _ h => h
  exact (css_cons (cs_set (i := 2) (ce_call F_law_dip T.m_law_dip T.k_law_dip b_law_dip hg0 (hr.mono (by decide)) hx0 (ca_cons (ce_var 0) (ca_cons (ce_callB cal_len T.z_len (cab_cons (see (ce_var 1)) cab_nil)) ca_nil))) sc_law_pick.nd)
    (css_one (cs_ret (see (ce_ix (hu1 hr) (see (ce_var 1)) (see (ce_var 2)))))))
theorem sc_law_odd : FnScope N_law_odd ["jar"] (defScope s_law_odd) := ⟨rfl, rfl, rfl, by decide +kernel, rfl, by decide +kernel, by decide +kernel⟩
theorem ok_law_odd (T : Txt K w mg ad) (hT : LamX.TabB base mg ad.c_law_right ad.t_law_right) : DefU P w (gm K w ad) mg base 3 ad.f_law_odd ["jar"] (fun fd => Fun K "_law_odd" "_law_odd" s_law_odd ad.f_law_odd fd) (lift (gm K w ad) sp_law_odd) := by
  obtain ⟨fd_law_pick, F_law_pick, U_law_pick⟩ := ok_law_pick (P := P) (base := base) T hT
  have b_law_pick : Binds K fd_law_pick ["jar", "menu"] [] := U_law_pick.binds (ps := ["jar", "menu"]) fun _ _ _ _ _ _ us hl => match us, hl with | [_, _], _ => rfl
  obtain ⟨fd, F⟩ := T.F_law_odd
  refine ⟨fd, okD (B := R_law_odd) F sc_law_odd len_law_odd (fun cdv A outer s H E hg hr => ?_) pure_law_odd, F⟩
  have hg0 : (A.deeper (envOfC "_law_odd" (defScope s_law_odd) s.heap.objs.size ad.f_law_odd cdv)).guards = some [] := hg
  have hx0 : PassX (cxOf (L2.CX P w) P w K mg base N_law_odd "_law_odd" (defScope s_law_odd) ad.f_law_odd cdv A outer s H E) E := L2.passes_call (L2.takes_of rfl rfl rfl rfl) fun _ _ _ _ h => h
  exact (css_cons (cs_set (i := 1) (val (cf_lst (ca_cons ce_non (ca_cons ce_bl (ca_cons ce_bl (ca_cons ce_int (ca_cons ce_int (ca_cons (ce_neg ce_int) (ca_cons ce_int (ca_cons (ce_bin opl_pow (see ce_int) (see ce_int)) (ca_cons ce_str (ca_cons ce_str ca_nil)))))))))))) sc_law_odd.nd)
    (css_cons (cs_set (i := 1) (val (cf_add (see (ce_var 1)) (see (val (cf_lst (ca_cons ce_str (ca_cons ce_str (ca_cons ce_str (ca_cons (ce_tup ca_nil) (ca_cons (ce_tup (ca_cons ce_int ca_nil)) (ca_cons (ce_tup (ca_cons ce_str ca_nil)) (ca_cons (ce_tup (ca_cons ce_str (ca_cons ce_str ca_nil))) (ca_cons (val (cf_lst (ca_cons ce_str ca_nil))) (ca_cons (val (cf_lst ca_nil)) ca_nil)))))))))))))) sc_law_odd.nd)
    (css_one (cs_ret (see (ce_call F_law_pick T.m_law_pick T.k_law_pick b_law_pick hg0 (hr.mono (by decide)) hx0 (ca_cons (ce_var 0) (ca_cons (val (cf_add (see (ce_var 1)) (see (val (cf_lst (ca_cons ce_emp (ca_cons (ce_dic [.inr "0"] (pps_cons ce_str ce_int pps_nil)) (ca_cons (ce_tup (ca_cons ce_non (ca_cons ce_int ca_nil))) (ca_cons ce_str (ca_cons (ce_tup (ca_cons (ce_tup (ca_cons ce_str (ca_cons ce_str ca_nil))) ca_nil)) (ca_cons (ce_tup (ca_cons ce_str (ca_cons ce_str ca_nil))) (ca_cons (val (cf_lst (ca_cons (val (cf_lst ca_nil)) ca_nil))) (ca_cons ce_str (ca_cons (ce_tup (ca_cons (ce_tup ca_nil) ca_nil)) (ca_cons (ce_tup (ca_cons ce_int (ca_cons ce_int ca_nil))) ca_nil))))))))))))))) ca_nil))))))))
theorem sc_law_slip : FnScope N_law_slip ["value"] (defScope s_law_slip) := ⟨rfl, rfl, rfl, by decide +kernel, rfl, by decide +kernel, by decide +kernel⟩
theorem ok_law_slip (T : Txt K w mg ad) (hT : LamX.TabB base mg ad.c_law_right ad.t_law_right) : DefU P w (gm K w ad) mg base 1 ad.f_law_slip ["value"] (fun fd => Fun K "_law_slip" "_law_slip" s_law_slip ad.f_law_slip fd) (lift (gm K w ad) sp_law_slip) := by
  obtain ⟨fd, F⟩ := T.F_law_slip
  refine ⟨fd, okD (B := R_law_slip) F sc_law_slip (fun ds Q EX h => spOf_len h) (fun cdv A outer s H E hg hr => ?_) (fun ds Q EX h => spOf_pure l_law_slip h), F⟩
  have hg0 : (A.deeper (envOfC "_law_slip" (defScope s_law_slip) s.heap.objs.size ad.f_law_slip cdv)).guards = some [] := hg
  have hx0 : PassX (cxOf (L2.CX P w) P w K mg base N_law_slip "_law_slip" (defScope s_law_slip) ad.f_law_slip cdv A outer s H E) E := L2.passes_call (L2.takes_of rfl rfl rfl rfl) fun _ _ _ _ h => h
  exact (css_cons (cs_if (PW.pt (cw_or (ct_not (ct_val (ce_isi (see (ce_var 0)) (by exact pe_bltn (v := .ty "tuple") (u := .type "tuple") (by rfl) T.z_tuple (by decide +kernel) (by rfl)) T.z_isinstance (.ty _) isi_tuple_c isi_tuple_t))) (cw_or1 (ct_cmp (opl_eqU (hu64 hr)) (see (ce_var 0)) (see (ce_tup ca_nil)))))) (css_one (cs_ret (see (val (cf_lst (ca_cons ce_str (ca_cons ce_str ca_nil))))))) css_nil)
    (css_cons (cs_set (i := 1) ce_int sc_law_slip.nd)
    (css_cons (cs_for (vs := [2]) (L2.passes_of rfl) (cis_rng1 T.z_range (ca_cons (ce_callB cal_len T.z_len (cab_cons (see (ce_var 0)) cab_nil)) ca_nil)) (pg_name (i := 2) sc_law_slip.nd rfl (by first | exact Or.inl rfl | exact Or.inr rfl)) (tg_var (i := 2))
      (css_cons (cs_if (PW.pt (cw_or (ct_cmp (opl_eq (hu64 hr)) (see (ce_var 2)) (see ce_int)) (cw_or (ct_val (ce_isi (see (ce_ix (hu1 hr) (see (ce_var 0)) (see (ce_var 2)))) (by exact pe_bltn (v := .ty "bool") (u := .type "bool") (by rfl) T.z_bool (by decide +kernel) (by rfl)) T.z_isinstance (.ty _) isi_bool_c isi_bool_t)) (cw_or (ct_cmp (opl_notin (hu65 hr)) (see (ce_ix (hu1 hr) (see (ce_var 0)) (see (ce_var 2)))) (see (val (cf_lst (ca_cons ce_int (ca_cons ce_int ca_nil)))))) (cw_or1 (ct_cmp opl_gt (see (ce_bin opl_mulA (see (ce_var 1)) (see (ce_ix (hu1 hr) (see (ce_var 0)) (see (ce_var 2)))))) (see ce_int))))))) (css_one (cs_ret (see (val (cf_lst (ca_cons ce_str (ca_cons (ce_callB (cal_repr2 hg0 (hu64 hr)) T.z_repr (cab_cons (see (ce_var 2)) cab_nil)) ca_nil))))))) css_nil)
    (css_one (cs_set (i := 1) (ce_bin opl_mulA (see (ce_var 1)) (see (ce_ix (hu1 hr) (see (ce_var 0)) (see (ce_var 2))))) sc_law_slip.nd))))
    (css_one (cs_ret (see (val (cf_lst ca_nil))))))))
theorem sc_law_bases : FnScope N_law_bases ["e"] (defScope s_law_bases) := ⟨rfl, rfl, rfl, by decide +kernel, rfl, by decide +kernel, by decide +kernel⟩
theorem ok_law_bases (T : Txt K w mg ad) (hT : LamX.TabB base mg ad.c_law_right ad.t_law_right) : DefW P w (gm K w ad) mg base 1 ad.f_law_bases ["e"] (fun fd => Fun K "_law_bases" "_law_bases" s_law_bases ad.f_law_bases fd) (lift (gm K w ad) sp_law_bases) := by
  obtain ⟨fd, F⟩ := T.F_law_bases
  refine ⟨fd, okW (B := R_law_bases) F sc_law_bases (fun ds Q EX h => spOf_len h) (fun cdv A outer s H E hg hr => ?_) (fun ds Q EX h => spOf_pure l_law_bases h), F⟩
  have hg0 : (A.deeper (envOfC "_law_bases" (defScope s_law_bases) s.heap.objs.size ad.f_law_bases cdv)).guards = some [] := hg
  have hx0 : PassX (cxW P w K mg base N_law_bases "_law_bases" (defScope s_law_bases) ad.f_law_bases cdv A outer s H E) E := L2.passes_call (L2.takes_of rfl rfl rfl rfl) fun _ _ _ _ h => h
  exact (css_cons (cs_setOwn (i := 1) (cf_lst (ca_cons (ce_and (ce_isi (see (ce_var 0)) (by exact pe_glob (v := .ref ad.C_WrongValue) (by rfl) T.xg_WrongValue (by rfl)) T.z_isinstance (.own _) isx_WrongValue_c (isx_WrongValue_t T) (hx := isx_WrongValue_x T)) (ce_one (ce_isi (see (ce_var 0)) (by exact pe_bltn (v := .ty "ValueError") (u := .type "ValueError") (by rfl) T.z_ValueError (by decide +kernel) (by rfl)) T.z_isinstance (.ty _) isx_ValueError_c (isx_ValueError_t T) (hx := isx_ValueError_x T)))) ca_nil)) sc_law_bases.nd)
    (css_cons (cs_app (i := 1) (ce_and (ce_isi (see (ce_var 0)) (by exact pe_glob (v := .ref ad.C_WrongName) (by rfl) T.xg_WrongName (by rfl)) T.z_isinstance (.own _) isx_WrongName_c (isx_WrongName_t T) (hx := isx_WrongName_x T)) (ce_one (ce_isi (see (ce_var 0)) (by exact pe_bltn (v := .ty "LookupError") (u := .type "LookupError") (by rfl) T.z_LookupError (by decide +kernel) (by rfl)) T.z_isinstance (.ty _) isx_LookupError_c (isx_LookupError_t T) (hx := isx_LookupError_x T)))))
    (css_one (cs_ret (see (val (cf_add (cb_var 1) (see (val (cf_lst (ca_cons (ce_and (ce_isi (see (ce_var 0)) (by exact pe_glob (v := .ref ad.C_NotPossible) (by rfl) T.xg_NotPossible (by rfl)) T.z_isinstance (.own _) isx_NotPossible_c (isx_NotPossible_t T) (hx := isx_NotPossible_x T)) (ce_one (ce_isi (see (ce_var 0)) (by exact pe_bltn (v := .ty "ArithmeticError") (u := .type "ArithmeticError") (by rfl) T.z_ArithmeticError (by decide +kernel) (by rfl)) T.z_isinstance (.ty _) isx_ArithmeticError_c (isx_ArithmeticError_t T) (hx := isx_ArithmeticError_x T)))) ca_nil)))))))))))
theorem sc_law_shown : FnScope N_law_shown ["e"] (defScope s_law_shown) := ⟨rfl, rfl, rfl, by decide +kernel, rfl, by decide +kernel, by decide +kernel⟩
theorem ok_law_shown (T : Txt K w mg ad) (hT : LamX.TabB base mg ad.c_law_right ad.t_law_right) : DefW P w (gm K w ad) mg base 2 ad.f_law_shown ["e"] (fun fd => Fun K "_law_shown" "_law_shown" s_law_shown ad.f_law_shown fd) (lift (gm K w ad) sp_law_shown) := by
  obtain ⟨fd_law_bases, F_law_bases, U_law_bases⟩ := ok_law_bases (P := P) (base := base) T hT
  have b_law_bases : Binds K fd_law_bases ["e"] [] := U_law_bases.binds (ps := ["e"]) fun _ _ _ _ _ _ us hl => match us, hl with | [_], _ => rfl
  obtain ⟨fd, F⟩ := T.F_law_shown
  refine ⟨fd, okW (B := R_law_shown) F sc_law_shown (fun ds Q EX h => spOf_len h) (fun cdv A outer s H E hg hr => ?_) (fun ds Q EX h => spOf_pure l_law_shown h), F⟩
  have hg0 : (A.deeper (envOfC "_law_shown" (defScope s_law_shown) s.heap.objs.size ad.f_law_shown cdv)).guards = some [] := hg
  have hx0 : PassX (cxW P w K mg base N_law_shown "_law_shown" (defScope s_law_shown) ad.f_law_shown cdv A outer s H E) E := L2.passes_call (L2.takes_of rfl rfl rfl rfl) fun _ _ _ _ h => h
  exact (css_cons (cs_if (PW.pt (cw_or (ct_cmp (opl_ne (hu64W hr)) (see (ce_callW F_law_bases T.m_law_bases T.k_law_bases b_law_bases hg0 (hr.mono (by decide)) hx0 (ca_cons (ce_var 0) ca_nil))) (see (val (cf_lst (ca_cons ce_bl (ca_cons ce_bl (ca_cons ce_bl ca_nil))))))) (cw_or1 (ct_cmp (opl_eq (hu64W hr)) (see (ce_isi (see (ce_var 0)) (by exact pe_glob (v := .ref ad.C_InvalidSizes) (by rfl) T.xg_InvalidSizes (by rfl)) T.z_isinstance (.own _) isx_InvalidSizes_c (isx_InvalidSizes_t T) (hx := isx_InvalidSizes_x T))) (see (ce_isi (see (ce_var 0)) (by exact pe_glob (v := .ref ad.C_InvalidText) (by rfl) T.xg_InvalidText (by rfl)) T.z_isinstance (.own _) isx_InvalidText_c (isx_InvalidText_t T) (hx := isx_InvalidText_x T))))))) (css_one (cs_ret (see (val (cf_lst (ca_cons ce_str (ca_cons ce_str ca_nil))))))) css_nil)
    (css_one (cs_ret (see (ce_if (ct_val (ce_isi (see (ce_var 0)) (by exact pe_glob (v := .ref ad.C_InvalidSizes) (by rfl) T.xg_InvalidSizes (by rfl)) T.z_isinstance (.own _) isx_InvalidSizes_c (isx_InvalidSizes_t T) (hx := isx_InvalidSizes_x T))) (val (cf_lst (ca_cons ce_str (ca_cons (ce_callB (cal_repr2 hg0 (hu64W hr)) T.z_repr (cab_cons (see (ce_xat (ce_var 0) (xt_index_ok T))) cab_nil)) ca_nil)))) (val (cf_lst (ca_cons ce_str (ca_cons (ce_callB (cal_repr2 hg0 (hu64W hr)) T.z_repr (cab_cons (see (ce_xat (ce_var 0) (xt_given_ok T))) cab_nil)) ca_nil)))))))))
theorem sc_law_caught : FnScope N_law_caught ["act"] (defScope s_law_caught) := ⟨rfl, rfl, rfl, by decide +kernel, rfl, by decide +kernel, by decide +kernel⟩
theorem sc_is_within : FnScope N_is_within ["value", "least", "most"] (defScope s_is_within) := ⟨rfl, rfl, rfl, by decide +kernel, rfl, by decide +kernel, by decide +kernel⟩
theorem ok_is_within (T : Txt K w mg ad) (hT : LamX.TabB base mg ad.c_law_right ad.t_law_right) : DefU P w (gm K w ad) mg base 1 ad.f_is_within ["value", "least", "most"] (fun fd => Fun K "is_within" "is_within" s_is_within ad.f_is_within fd) (lift (gm K w ad) sp_is_within) := by
  obtain ⟨fd, F⟩ := T.F_is_within
  refine ⟨fd, okD (B := R_is_within) F sc_is_within (fun ds Q EX h => spOf_len h) (fun cdv A outer s H E hg hr => ?_) (fun ds Q EX h => spOf_pure l_is_within h), F⟩
  have hg0 : (A.deeper (envOfC "is_within" (defScope s_is_within) s.heap.objs.size ad.f_is_within cdv)).guards = some [] := hg
  have hx0 : PassX (cxOf (L2.CX P w) P w K mg base N_is_within "is_within" (defScope s_is_within) ad.f_is_within cdv A outer s H E) E := L2.passes_call (L2.takes_of rfl rfl rfl rfl) fun _ _ _ _ h => h
  exact (css_one (cs_ret (see (ce_and (ce_isi (see (ce_var 0)) (by exact pe_bltn (v := .ty "int") (u := .type "int") (by rfl) T.z_int (by decide +kernel) (by rfl)) T.z_isinstance (.ty _) isi_int_c isi_int_t) (ce_and (ce_not (ce_isi (see (ce_var 0)) (by exact pe_bltn (v := .ty "bool") (u := .type "bool") (by rfl) T.z_bool (by decide +kernel) (by rfl)) T.z_isinstance (.ty _) isi_bool_c isi_bool_t)) (ce_one (ce_chain opl_le opl_le (see (ce_var 1)) (see (ce_var 0)) (see (ce_var 2)))))))))
theorem sc_check_sizes : FnScope N_check_sizes ["sizes"] (defScope s_check_sizes) := ⟨rfl, rfl, rfl, by decide +kernel, rfl, by decide +kernel, by decide +kernel⟩
theorem ok_check_sizes (T : Txt K w mg ad) (hT : LamX.TabB base mg ad.c_law_right ad.t_law_right) : DefU P w (gm K w ad) mg base 2 ad.f_check_sizes ["sizes"] (fun fd => Fun K "check_sizes" "check_sizes" s_check_sizes ad.f_check_sizes fd) (lift (gm K w ad) sp_check_sizes) := by
  obtain ⟨fd_is_within, F_is_within, U_is_within⟩ := ok_is_within (P := P) (base := base) T hT
  have b_is_within : Binds K fd_is_within ["value", "least", "most"] [] := U_is_within.binds (ps := ["value", "least", "most"]) fun _ _ _ _ _ _ us hl => match us, hl with | [_, _, _], _ => rfl
  obtain ⟨fd, F⟩ := T.F_check_sizes
  refine ⟨fd, okD (B := R_check_sizes) F sc_check_sizes (fun ds Q EX h => spOf_len h) (fun cdv A outer s H E hg hr => ?_) (fun ds Q EX h => spOf_pure l_check_sizes h), F⟩
  have hg0 : (A.deeper (envOfC "check_sizes" (defScope s_check_sizes) s.heap.objs.size ad.f_check_sizes cdv)).guards = some [] := hg
  have hx0 : PassX (cxOf (L2.CX P w) P w K mg base N_check_sizes "check_sizes" (defScope s_check_sizes) ad.f_check_sizes cdv A outer s H E) E := L2.passes_call (L2.takes_of rfl rfl rfl rfl) fun _ _ _ _ h => h
  exact (css_cons (cs_if (PW.pt (cw_or (ct_not (ct_val (ce_isi (see (ce_var 0)) (by exact pe_bltn (v := .ty "tuple") (u := .type "tuple") (by rfl) T.z_tuple (by decide +kernel) (by rfl)) T.z_isinstance (.ty _) isi_tuple_c isi_tuple_t))) (cw_or1 (ct_cmp (opl_eqU (hu64 hr)) (see (ce_var 0)) (see (ce_tup ca_nil)))))) (css_one (cs_raise (c := 23) (L2.takes_of rfl rfl rfl rfl) (ExL.pmkI PySem.F.store_ValueError PySem.F.excBase_ValueError T.x_InvalidSizes hr (ca_cons ce_non ca_nil)) (by rfl))) css_nil)
    (css_cons (cs_set (i := 1) ce_int sc_check_sizes.nd)
    (css_one (cs_for (vs := [2]) (L2.passes_of rfl) (cis_rng1 T.z_range (ca_cons (ce_callB cal_len T.z_len (cab_cons (see (ce_var 0)) cab_nil)) ca_nil)) (pg_name (i := 2) sc_check_sizes.nd rfl (by first | exact Or.inl rfl | exact Or.inr rfl)) (tg_var (i := 2))
      (css_cons (cs_if (PW.pt (cw_or (ct_cmp (opl_eq (hu64 hr)) (see (ce_var 2)) (see (ce_gint T.g_MOST_SWITCHES.choose_spec.1 T.g_MOST_SWITCHES.choose_spec.2))) (cw_or (ct_not (ct_val (ce_call F_is_within T.m_is_within T.k_is_within b_is_within hg0 (hr.mono (by decide)) hx0 (ca_cons (ce_ix (hu1 hr) (see (ce_var 0)) (see (ce_var 2))) (ca_cons ce_int (ca_cons ce_int ca_nil)))))) (cw_or1 (ct_cmp opl_gt (see (ce_bin opl_mulA (see (ce_var 1)) (see (ce_ix (hu1 hr) (see (ce_var 0)) (see (ce_var 2)))))) (see (ce_gint T.g_MOST_SETTINGS.choose_spec.1 T.g_MOST_SETTINGS.choose_spec.2))))))) (css_one (cs_raise (c := 23) (L2.takes_of rfl rfl rfl rfl) (ExL.pmkI PySem.F.store_ValueError PySem.F.excBase_ValueError T.x_InvalidSizes hr (ca_cons (ce_var 2) ca_nil)) (by rfl))) css_nil)
    (css_one (cs_set (i := 1) (ce_bin opl_mulA (see (ce_var 1)) (see (ce_ix (hu1 hr) (see (ce_var 0)) (see (ce_var 2))))) sc_check_sizes.nd)))))))
theorem sc_settings_in : FnScope N_settings_in ["part"] (defScope s_settings_in) := ⟨rfl, rfl, rfl, by decide +kernel, rfl, by decide +kernel, by decide +kernel⟩
theorem ok_settings_in (T : Txt K w mg ad) (hT : LamX.TabB base mg ad.c_law_right ad.t_law_right) : DefU P w (gm K w ad) mg base 1 ad.f_settings_in ["part"] (fun fd => Fun K "settings_in" "settings_in" s_settings_in ad.f_settings_in fd) (lift (gm K w ad) sp_settings_in) := by
  obtain ⟨fd, F⟩ := T.F_settings_in
  refine ⟨fd, okD (B := R_settings_in) F sc_settings_in (fun ds Q EX h => spOf_len h) (fun cdv A outer s H E hg hr => ?_) (fun ds Q EX h => spOf_pure l_settings_in h), F⟩
  have hg0 : (A.deeper (envOfC "settings_in" (defScope s_settings_in) s.heap.objs.size ad.f_settings_in cdv)).guards = some [] := hg
  have hx0 : PassX (cxOf (L2.CX P w) P w K mg base N_settings_in "settings_in" (defScope s_settings_in) ad.f_settings_in cdv A outer s H E) E := L2.passes_call (L2.takes_of rfl rfl rfl rfl) fun _ _ _ _ h => h
  exact (css_cons (cs_set (i := 1) (val (cf_lst (ca_cons ce_str ca_nil))) sc_settings_in.nd)
    (css_cons (cs_for (vs := [2]) (L2.passes_of rfl) (cis_any (ce_var 0)) (pg_name (i := 2) sc_settings_in.nd rfl (by first | exact Or.inl rfl | exact Or.inr rfl)) (tg_var (i := 2))
      (css_one (cs_setLc2 (i := 1) (own := [("begun", 3), ("stand", 4)]) (vs1 := [4]) sc_settings_in.nd (cie_any (see (ce_var 1))) (blk_mk (by rfl)) (fun _ _ _ _ _ => (pg_name (i := 3) sc_settings_in.nd rfl (by first | exact Or.inl rfl | exact Or.inr rfl))) (tg_var (i := 3)) (fun _ _ _ _ _ => cts_nil) (fun _ _ _ _ _ => (cis_any (ce_var 2))) (fun _ _ _ _ _ => (pg_name (i := 4) sc_settings_in.nd rfl (by first | exact Or.inl rfl | exact Or.inr rfl))) (tg_var (i := 4)) (fun _ _ _ _ _ => cts_nil) (fun _ _ _ _ _ => (ce_bin opl_add (see (ce_var 3)) (see (ce_var 4)))))))
    (css_one (cs_ret (see (ce_var 1))))))
theorem sc_Board_init : FnScope N_Board_init ["self", "sizes"] (defScope s_Board_init) := ⟨rfl, rfl, rfl, by decide +kernel, rfl, by decide +kernel, by decide +kernel⟩
theorem ok_Board_init (T : Txt K w mg ad) (hT : LamX.TabB base mg ad.c_law_right ad.t_law_right) : DefU P w (gm K w ad) mg base 3 ad.f_Board_init ["self", "sizes"] (fun fd => Fun K "__init__" "Board.__init__" s_Board_init ad.f_Board_init fd) (liftI (gm K w ad) 1 (spIn cf_Board_init)) := by
  obtain ⟨fd_check_sizes, F_check_sizes, U_check_sizes⟩ := ok_check_sizes (P := P) (base := base) T hT
  have b_check_sizes : Binds K fd_check_sizes ["sizes"] [] := U_check_sizes.binds (ps := ["sizes"]) fun _ _ _ _ _ _ us hl => match us, hl with | [_], _ => rfl
  obtain ⟨fd_settings_in, F_settings_in, U_settings_in⟩ := ok_settings_in (P := P) (base := base) T hT
  have b_settings_in : Binds K fd_settings_in ["part"] [] := U_settings_in.binds (ps := ["part"]) fun _ _ _ _ _ _ us hl => match us, hl with | [_], _ => rfl
  obtain ⟨fd, F⟩ := T.F_Board_init
  refine ⟨fd, okI (B := R_Board_init) (sp := spOf cf_Board_init) (c := 1) F sc_Board_init (fun ds Q EX h => by rw [spI_len h]; rfl) (fun cdv A outer s H E hg hr => ?_) (fun ds Q EX x h => spI_pure l_Board_init rfl h), F⟩
  have hg0 : (A.deeper (envOfC "Board.__init__" (defScope s_Board_init) s.heap.objs.size ad.f_Board_init cdv)).guards = some [] := hg
  have hx0 : PassX (cxOf (L2.CX P w) P w K mg base N_Board_init "Board.__init__" (defScope s_Board_init) ad.f_Board_init cdv A outer s H E) E := L2.passes_call (L2.takes_of rfl rfl rfl rfl) fun _ _ _ _ h => h
  exact (css_cons (cs_expr (ce_call F_check_sizes T.m_check_sizes T.k_check_sizes b_check_sizes hg0 (hr.mono (by decide)) hx0 (ca_cons (ce_var 1) ca_nil)))
    (css_one (cs_fldI (i := 0) (c := 1) (ce_tup (ca_cons (ce_var 1) (ca_cons (ce_callTy cal_tuple T.z_tuple (cab_cons (see (ce_call F_settings_in T.m_settings_in T.k_settings_in b_settings_in hg0 (hr.mono (by decide)) hx0 (ca_cons (val (cf_lc (own := [("size", 2)]) sc_Board_init.nd (cie_any (see (ce_var 1))) (blk_mk (by rfl)) (fun _ _ _ _ _ => (pg_name (i := 2) sc_Board_init.nd rfl (by first | exact Or.inl rfl | exact Or.inr rfl))) (tg_var (i := 2)) (fun _ _ _ _ _ => cts_nil) (fun _ _ _ _ _ => (ce_ix (hu1 hr) (see (ce_gval (v := V_STANDS ad) T.g_STANDS.choose_spec.1 T.g_STANDS.choose_spec.2 T.r_STANDS)) (see (ce_var 2)))))) ca_nil))) cab_nil)) ca_nil))) T.c_Board.cl T.n_Board_both rfl (by decide +kernel))))
theorem sc_Board_sizes : FnScope N_Board_sizes ["self"] (defScope s_Board_sizes) := ⟨rfl, rfl, rfl, by decide +kernel, rfl, by decide +kernel, by decide +kernel⟩
theorem ok_Board_sizes (T : Txt K w mg ad) (hT : LamX.TabB base mg ad.c_law_right ad.t_law_right) : DefU P w (gm K w ad) mg base 1 ad.f_Board_sizes ["self"] (fun fd => Fun K "sizes" "Board.sizes" s_Board_sizes ad.f_Board_sizes fd) (lift (gm K w ad) sp_Board_sizes) := by
  obtain ⟨fd, F⟩ := T.F_Board_sizes
  refine ⟨fd, okD (B := R_Board_sizes) F sc_Board_sizes (fun ds Q EX h => spOf_len h) (fun cdv A outer s H E hg hr => ?_) (fun ds Q EX h => spOf_pure l_Board_sizes h), F⟩
  have hg0 : (A.deeper (envOfC "Board.sizes" (defScope s_Board_sizes) s.heap.objs.size ad.f_Board_sizes cdv)).guards = some [] := hg
  have hx0 : PassX (cxOf (L2.CX P w) P w K mg base N_Board_sizes "Board.sizes" (defScope s_Board_sizes) ad.f_Board_sizes cdv A outer s H E) E := L2.passes_call (L2.takes_of rfl rfl rfl rfl) fun _ _ _ _ h => h
  exact (css_one (cs_ret (see (ce_ix (hu1 hr) (see (ce_fld (c := 1) (i := 0) (ce_var 0) T.c_Board.cl T.n_Board_both (by rfl))) (see ce_int)))))
theorem sc_board_told : FnScope N_board_told ["text"] (defScope s_board_told) := ⟨rfl, rfl, rfl, by decide +kernel, rfl, by decide +kernel, by decide +kernel⟩
theorem ok_board_told (T : Txt K w mg ad) (hT : LamX.TabB base mg ad.c_law_right ad.t_law_right) : DefU P w (gm K w ad) mg base 5 ad.f_board_told ["text"] (fun fd => Fun K "board_told" "board_told" s_board_told ad.f_board_told fd) (lift (gm K w ad) sp_board_told) := by
  obtain ⟨fd_Board_init, F_Board_init, U_Board_init⟩ := ok_Board_init (P := P) (base := base) T hT
  have b_Board_init : Binds K fd_Board_init ["self", "sizes"] [] := U_Board_init.binds (ps := ["self", "sizes"]) fun _ _ _ _ _ _ us hl => match us, hl with | [_, _], _ => rfl
  obtain ⟨fd, F⟩ := T.F_board_told
  refine ⟨fd, okD (B := R_board_told) F sc_board_told (fun ds Q EX h => spOf_len h) (fun cdv A outer s H E hg hr => ?_) (fun ds Q EX h => spOf_pure l_board_told h), F⟩
  have hg0 : (A.deeper (envOfC "board_told" (defScope s_board_told) s.heap.objs.size ad.f_board_told cdv)).guards = some [] := hg
  have hx0 : PassX (cxOf (L2.CX P w) P w K mg base N_board_told "board_told" (defScope s_board_told) ad.f_board_told cdv A outer s H E) E := L2.passes_call (L2.takes_of rfl rfl rfl rfl) fun _ _ _ _ h => h
  exact (css_cons (cs_if (PW.pt (cw_or (ct_not (ct_val (ce_isi (see (ce_var 0)) (by exact pe_bltn (v := .ty "str") (u := .type "str") (by rfl) T.z_str (by decide +kernel) (by rfl)) T.z_isinstance (.ty _) isi_str_c isi_str_t))) (cw_or1 (ct_not (ct_val (ce_callB cal_all T.z_all (cab_cons (see (val (cf_lc (own := [("sign", 1)]) sc_board_told.nd (cie_any (see (ce_var 0))) (blk_mk (by rfl)) (fun _ _ _ _ _ => (pg_name (i := 1) sc_board_told.nd rfl (by first | exact Or.inl rfl | exact Or.inr rfl))) (tg_var (i := 1)) (fun _ _ _ _ _ => cts_nil) (fun _ _ _ _ _ => (ce_cmp (opl_in (hu65 hr)) (see (ce_var 1)) (see (ce_gval (v := V_DIGITS ad) T.g_DIGITS.choose_spec.1 T.g_DIGITS.choose_spec.2 T.r_DIGITS))))))) cab_nil))))))) (css_one (cs_ret (see ce_non))) css_nil)
    (css_one (cs_try (n := 2) (by rfl) rfl rfl sc_board_told.nd rfl (fun E2 pn xe tk pa => have hx0 := L2.passes_call tk (fun _ _ _ _ h => h); (css_one (cs_ret (see (ce_make (c := 1) T.mk_Board F_Board_init  T.g_Board b_Board_init hg0 (hr.mono (by decide)) hx0 (ca_cons (ce_callTy cal_tuple T.z_tuple (cab_cons (see (val (cf_lc (own := [("sign", 1)]) sc_board_told.nd (cie_any (see (ce_var 0))) (blk_mk (by rfl)) (fun _ _ _ _ _ => (pg_name (i := 1) sc_board_told.nd rfl (by first | exact Or.inl rfl | exact Or.inr rfl))) (tg_var (i := 1)) (fun _ _ _ _ _ => cts_nil) (fun _ _ _ _ _ => (ce_ix (hu1 hr) (see (ce_gval (v := V_DIGITS ad) T.g_DIGITS.choose_spec.1 T.g_DIGITS.choose_spec.2 T.r_DIGITS)) (see (ce_var 1))))))) cab_nil)) ca_nil)))))) (.bare (ex := exm_InvalidSizes) (exm_InvalidSizes_ok T) (tst_name ⟨rfl, by decide, .inl T.x_InvalidSizes.gl⟩) (fun a pn => (css_one (cs_ret (see ce_non)))) .nil))))
theorem sc_Board_read : FnScope N_Board_read ["cls", "text"] (defScope s_Board_read) := ⟨rfl, rfl, rfl, by decide +kernel, rfl, by decide +kernel, by decide +kernel⟩
theorem ok_Board_read (T : Txt K w mg ad) (hT : LamX.TabB base mg ad.c_law_right ad.t_law_right) : DefU P w (gm K w ad) mg base 6 ad.f_Board_read ["cls", "text"] (fun fd => Fun K "read" "Board.read" s_Board_read ad.f_Board_read fd) (liftC (gm K w ad) ad.C_Board sp_Board_read) := by
  obtain ⟨fd_board_told, F_board_told, U_board_told⟩ := ok_board_told (P := P) (base := base) T hT
  have b_board_told : Binds K fd_board_told ["text"] [] := U_board_told.binds (ps := ["text"]) fun _ _ _ _ _ _ us hl => match us, hl with | [_], _ => rfl
  obtain ⟨fd, F⟩ := T.F_Board_read
  refine ⟨fd, okCm (B := R_Board_read) F sc_Board_read (fun ds Q EX h => spOf_len h) (fun cdv A outer s H E hg hr => ?_) (fun ds Q EX h => spOf_pureC l_Board_read h), F⟩
  have hg0 : (A.deeper (envOfC "Board.read" (defScope s_Board_read) s.heap.objs.size ad.f_Board_read cdv)).guards = some [] := hg
  have hx0 : PassX (cxOf (L2.CX P w) P w K mg base N_Board_read "Board.read" (defScope s_Board_read) ad.f_Board_read cdv A outer s H E) E := L2.passes_call (L2.takes_of rfl rfl rfl rfl) fun _ _ _ _ h => h
  exact (css_cons (cs_set (i := 2) (ce_call F_board_told T.m_board_told T.k_board_told b_board_told hg0 (hr.mono (by decide)) hx0 (ca_cons (ce_var 1) ca_nil)) sc_Board_read.nd)
    (css_cons (cs_if (ct_cmpV opv_is (ce_var 2) ce_non) (css_one (cs_raise (c := 11) (L2.takes_of rfl rfl rfl rfl) (ExL.pmkG PySem.F.store_ValueError PySem.F.excBase_ValueError T.x_InvalidText hr (ca_cons (ce_var 1) ca_nil)) (by rfl))) css_nil)
    (css_one (cs_ret (see (ce_var 2))))))
theorem sc_Board_str : FnScope N_Board_str ["self"] (defScope s_Board_str) := ⟨rfl, rfl, rfl, by decide +kernel, rfl, by decide +kernel, by decide +kernel⟩
theorem ok_Board_str (T : Txt K w mg ad) (hT : LamX.TabB base mg ad.c_law_right ad.t_law_right) : DefU P w (gm K w ad) mg base 1 ad.f_Board_str ["self"] (fun fd => Fun K "__str__" "Board.__str__" s_Board_str ad.f_Board_str fd) (lift (gm K w ad) sp_Board_str) := by
  obtain ⟨fd, F⟩ := T.F_Board_str
  refine ⟨fd, okD (B := R_Board_str) F sc_Board_str (fun ds Q EX h => spOf_len h) (fun cdv A outer s H E hg hr => ?_) (fun ds Q EX h => spOf_pure l_Board_str h), F⟩
  have hg0 : (A.deeper (envOfC "Board.__str__" (defScope s_Board_str) s.heap.objs.size ad.f_Board_str cdv)).guards = some [] := hg
  have hx0 : PassX (cxOf (L2.CX P w) P w K mg base N_Board_str "Board.__str__" (defScope s_Board_str) ad.f_Board_str cdv A outer s H E) E := L2.passes_call (L2.takes_of rfl rfl rfl rfl) fun _ _ _ _ h => h
  exact (css_one (cs_ret (see (ce_join (see ce_str) (see (val (cf_lc (own := [("size", 1)]) sc_Board_str.nd (cie_any (see (ce_ix (hu1 hr) (see (ce_fld (c := 1) (i := 0) (ce_var 0) T.c_Board.cl T.n_Board_both (by rfl))) (see ce_int)))) (blk_mk (by rfl)) (fun _ _ _ _ _ => (pg_name (i := 1) sc_Board_str.nd rfl (by first | exact Or.inl rfl | exact Or.inr rfl))) (tg_var (i := 1)) (fun _ _ _ _ _ => cts_nil) (fun _ _ _ _ _ => (ce_callTy (cal_str2 hg0 (hu64 hr)) T.z_str (cab_cons (see (ce_var 1)) cab_nil))))))))))
theorem sc_law_right : FnScope N_law_right ["jar"] (defScope s_law_right) := ⟨rfl, rfl, rfl, by decide +kernel, rfl, by decide +kernel, by decide +kernel⟩
theorem ok_law_right (T : Txt K w mg ad) (hT : LamX.TabB base mg ad.c_law_right ad.t_law_right) : DefU P w (gm K w ad) mg base 9 ad.f_law_right ["jar"] (fun fd => Fun K "_law_right" "_law_right" s_law_right ad.f_law_right fd) (lift (gm K w ad) sp_law_right) := by
  obtain ⟨fd_law_dip, F_law_dip, U_law_dip⟩ := ok_law_dip (P := P) (base := base) T hT
  have b_law_dip : Binds K fd_law_dip ["jar", "most"] [] := U_law_dip.binds (ps := ["jar", "most"]) fun _ _ _ _ _ _ us hl => match us, hl with | [_, _], _ => rfl
  obtain ⟨fd_law_pick, F_law_pick, U_law_pick⟩ := ok_law_pick (P := P) (base := base) T hT
  have b_law_pick : Binds K fd_law_pick ["jar", "menu"] [] := U_law_pick.binds (ps := ["jar", "menu"]) fun _ _ _ _ _ _ us hl => match us, hl with | [_, _], _ => rfl
  obtain ⟨fd_law_odd, F_law_odd, U_law_odd⟩ := ok_law_odd (P := P) (base := base) T hT
  have b_law_odd : Binds K fd_law_odd ["jar"] [] := U_law_odd.binds (ps := ["jar"]) fun _ _ _ _ _ _ us hl => match us, hl with | [_], _ => rfl
  obtain ⟨fd_law_slip, F_law_slip, U_law_slip⟩ := ok_law_slip (P := P) (base := base) T hT
  have b_law_slip : Binds K fd_law_slip ["value"] [] := U_law_slip.binds (ps := ["value"]) fun _ _ _ _ _ _ us hl => match us, hl with | [_], _ => rfl
  obtain ⟨fd_Board_init, F_Board_init, U_Board_init⟩ := ok_Board_init (P := P) (base := base) T hT
  have b_Board_init : Binds K fd_Board_init ["self", "sizes"] [] := U_Board_init.binds (ps := ["self", "sizes"]) fun _ _ _ _ _ _ us hl => match us, hl with | [_, _], _ => rfl
  obtain ⟨fd_Board_sizes, F_Board_sizes, U_Board_sizes⟩ := ok_Board_sizes (P := P) (base := base) T hT
  have b_Board_sizes : Binds K fd_Board_sizes ["self"] [] := U_Board_sizes.binds (ps := ["self"]) fun _ _ _ _ _ _ us hl => match us, hl with | [_], _ => rfl
  obtain ⟨fd_Board_read, F_Board_read, U_Board_read⟩ := ok_Board_read (P := P) (base := base) T hT
  have b_Board_read : Binds K fd_Board_read ["cls", "text"] [] := U_Board_read.binds (ps := ["cls", "text"]) fun _ _ _ _ _ _ us hl => match us, hl with | [_, _], _ => rfl
  obtain ⟨fd_Board_str, F_Board_str, U_Board_str⟩ := ok_Board_str (P := P) (base := base) T hT
  have b_Board_str : Binds K fd_Board_str ["self"] [] := U_Board_str.binds (ps := ["self"]) fun _ _ _ _ _ _ us hl => match us, hl with | [_], _ => rfl
  have bk_0 : BdK K fd_Board_init ["self", "sizes"] 1 ["sizes"] [.p 0, .k 0] [] := bdk_of U_Board_init 1 ["sizes"] [.p 0, .k 0] fun kV doc pm an cdv ct us ws h1 h2 => match us, ws, h1, h2 with | [_], [_], _, _ => rfl
  obtain ⟨fd_law_shown, F_law_shown, U_law_shown⟩ := ok_law_shown (P := P) (base := base) T hT
  have b_law_shown : Binds K fd_law_shown ["e"] [] := U_law_shown.binds (ps := ["e"]) fun _ _ _ _ _ _ us hl => match us, hl with | [_], _ => rfl
  obtain ⟨fd_law_caught, F_law_caught⟩ := T.F_law_caught
  have b_law_caught : Binds K fd_law_caught ["act"] [] := F_law_caught.binds (ps := ["act"]) fun _ _ _ _ _ _ us hl => match us, hl with | [_], _ => rfl
  obtain ⟨fd, F⟩ := T.F_law_right
  refine ⟨fd, okC (c := ad.c_law_right) T.cd_law_right (B := R_law_right) F sc_law_right len_law_right (fun A outer s H E hg hr => ?_) pure_law_right, F⟩
  have hg0 : (A.deeper (envOfC "_law_right" (defScope s_law_right) s.heap.objs.size ad.f_law_right (.ref ad.c_law_right))).guards = some [] := hg
  have hx0 : PassX (cxOf (L2.CX P w) P w K mg base N_law_right "_law_right" (defScope s_law_right) ad.f_law_right (.ref ad.c_law_right) A outer s H E) E := L2.passes_call (L2.takes_of rfl rfl rfl rfl) fun _ _ _ _ h => h
  exact (css_cons (cs_for (vs := [1]) (L2.passes_of rfl) (cis_rng1 T.z_range (ca_cons ce_int ca_nil)) (pg_name (i := 1) sc_law_right.nd rfl (by first | exact Or.inl rfl | exact Or.inr rfl)) (tg_var (i := 1))
      (css_cons (cs_set (i := 2) (ce_callTy cal_tuple T.z_tuple (cab_cons (see (val (cf_lc (own := [("k", 9)]) sc_law_right.nd (iE_of (cis_rng1 T.z_range (ca_cons (ce_call F_law_dip T.m_law_dip T.k_law_dip b_law_dip hg0 (hr.mono (by decide)) hx0 (ca_cons (ce_var 0) (ca_cons ce_int ca_nil))) ca_nil))) (blk_mk (by rfl)) (fun _ _ _ _ _ => (pg_name (i := 9) sc_law_right.nd rfl (by first | exact Or.inl rfl | exact Or.inr rfl))) (tg_var (i := 9)) (fun _ _ _ _ _ => cts_nil) (fun _ _ _ _ _ => (ce_call F_law_pick T.m_law_pick T.k_law_pick b_law_pick hg0 (hr.mono (by decide)) passL (ca_cons (ce_var 0) (ca_cons (val (cf_lst (ca_cons ce_int (ca_cons ce_int (ca_cons ce_int (ca_cons ce_int ca_nil)))))) ca_nil))))))) cab_nil)) sc_law_right.nd)
    (css_cons (cs_set (i := 3) (ce_call F_law_dip T.m_law_dip T.k_law_dip b_law_dip hg0 (hr.mono (by decide)) hx0 (ca_cons (ce_var 0) (ca_cons (ce_bin opl_add (see (ce_callB cal_len T.z_len (cab_cons (see (ce_var 2)) cab_nil))) (see ce_int)) ca_nil))) sc_law_right.nd)
    (css_cons (cs_set (i := 4) (ce_call F_law_pick T.m_law_pick T.k_law_pick b_law_pick hg0 (hr.mono (by decide)) hx0 (ca_cons (ce_var 0) (ca_cons (val (cf_lst (ca_cons ce_int (ca_cons ce_int (ca_cons ce_int (ca_cons (ce_neg ce_int) (ca_cons ce_bl (ca_cons ce_non (ca_cons ce_str (ca_cons (ce_tup (ca_cons ce_int ca_nil)) (ca_cons (ce_bin opl_pow (see ce_int) (see ce_int)) (ca_cons ce_int ca_nil)))))))))))) ca_nil))) sc_law_right.nd)
    (css_cons (cs_set (i := 2) (ce_call F_law_pick T.m_law_pick T.k_law_pick b_law_pick hg0 (hr.mono (by decide)) hx0 (ca_cons (ce_var 0) (ca_cons (val (cf_lst (ca_cons (ce_var 2) (ca_cons (ce_var 2) (ca_cons (ce_bin opl_add (see (ce_bin opl_add (see (ce_slice (see (ce_var 2)) co_none (co_some (ce_var 3)))) (see (ce_tup (ca_cons (ce_var 4) ca_nil))))) (see (ce_slice (see (ce_var 2)) (co_some (ce_var 3)) co_none))) (ca_cons (val (cf_callTy caf_list2 T.z_list (cab_cons (see (ce_var 2)) cab_nil))) (ca_cons (ce_call F_law_odd T.m_law_odd T.k_law_odd b_law_odd hg0 (hr.mono (by decide)) hx0 (ca_cons (ce_var 0) ca_nil)) ca_nil))))))) ca_nil))) sc_law_right.nd)
    (css_cons (cs_par (i := 5) (j := 6) (ca_cons (ce_call F_law_slip T.m_law_slip T.k_law_slip b_law_slip hg0 (hr.mono (by decide)) hx0 (ca_cons (ce_var 2) ca_nil)) (ca_cons (ce_caught (k := 4) (n := 3) (it := 1) (l := H_law_caught) (R := R_law_caught) F_law_caught sc_law_caught b_law_caught T.m_law_caught (hr.mono (by decide)) hx0 (by rfl) (by rfl) (by rfl) (by rfl) (by decide) (.inl rfl) (.inl rfl) (fun cdv s1 H1 hr1 => .named (ex := c3_law_caught) (by rfl) (by rfl) (c3_law_caught_ok T) (tst_tup3 (x1 := "WrongValue") (x2 := "WrongName") (x3 := "NotPossible") (by exact ⟨rfl, by decide, .inl T.xg_WrongValue⟩) (by exact ⟨rfl, by decide, .inl T.xg_WrongName⟩) (by exact ⟨rfl, by decide, .inl T.xg_NotPossible⟩)) (fun a pn => (css_one (cs_ret (see (ce_callW F_law_shown T.m_law_shown T.k_law_shown b_law_shown hg0 ((RmW.of hr1).mark.mono (by decide)) pass_suite (ca_cons (ce_var 2) ca_nil)))))) .nil) (fun cdv s1 H1 hr1 => (css_one (cs_ret (see (val (cf_lst (ca_cons ce_str (ca_cons (ce_var 1) ca_nil)))))))) hT rfl (LamX.lamS_by (by rfl)) (by rfl) (fun _ _ _ _ _ => by rfl) (fun A1 outer s2 H2 E1 f c1 hgl hrl => (ce_makeK (c := 1) (ks := ["sizes"]) (sel := [.k 0]) T.mk_Board F_Board_init T.g_Board bk_0 (guards_lam hgl hg0) (hrl.mono (by decide)) pass_lam (ck_kw0 (ck_cons (ce_var 2) ck_nil)))) (by exact List.mem_cons_self) (fun p hp _ => by cases hp with | head => rfl | tail _ h => cases h)) ca_nil)) sc_law_right.nd)
    (css_cons (cs_if (PW.pt (cw_or (PW.pt (cw_and (ct_cmp (opl_ne (hu64 hr)) (see (ce_var 5)) (see (val (cf_lst ca_nil)))) (cw_and1 (ct_cmp (opl_ne (hu64 hr)) (see (ce_var 6)) (see (ce_var 5)))))) (cw_or1 (PW.pt (cw_and (ct_cmp (opl_eq (hu64 hr)) (see (ce_var 5)) (see (val (cf_lst ca_nil)))) (cw_and1 (PW.pt (cw_or (ct_cmp (opl_ne (hu64 hr)) (see (ce_ix (hu1 hr) (see (ce_var 6)) (see ce_int))) (see ce_str)) (cw_or1 (ct_cmp (opl_ne (hu64 hr)) (see (ce_prop (c := 1) (ce_ix (hu1 hr) (see (ce_var 6)) (see ce_int)) T.c_Board.cl T.p_Board_sizes F_Board_sizes b_Board_sizes hg0 (hr.mono (by decide)))) (see (ce_var 2)))))))))))) (css_one (cs_ret (see ce_bl))) css_nil)
    (css_cons (cs_set (i := 7) (ce_join (see ce_str) (see (val (cf_lc (own := [("k", 9)]) sc_law_right.nd (iE_of (cis_rng1 T.z_range (ca_cons (ce_call F_law_dip T.m_law_dip T.k_law_dip b_law_dip hg0 (hr.mono (by decide)) hx0 (ca_cons (ce_var 0) (ca_cons ce_int ca_nil))) ca_nil))) (blk_mk (by rfl)) (fun _ _ _ _ _ => (pg_name (i := 9) sc_law_right.nd rfl (by first | exact Or.inl rfl | exact Or.inr rfl))) (tg_var (i := 9)) (fun _ _ _ _ _ => cts_nil) (fun _ _ _ _ _ => (ce_callTy (cal_str2 hg0 (hu64 hr)) T.z_str (cab_cons (see (ce_call F_law_pick T.m_law_pick T.k_law_pick b_law_pick hg0 (hr.mono (by decide)) passL (ca_cons (ce_var 0) (ca_cons (val (cf_lst (ca_cons ce_int (ca_cons ce_int (ca_cons ce_int (ca_cons ce_int ca_nil)))))) ca_nil)))) cab_nil))))))) sc_law_right.nd)
    (css_cons (cs_set (i := 7) (ce_call F_law_pick T.m_law_pick T.k_law_pick b_law_pick hg0 (hr.mono (by decide)) hx0 (ca_cons (ce_var 0) (ca_cons (val (cf_lst (ca_cons (ce_var 7) (ca_cons (ce_var 7) (ca_cons (ce_bin opl_add (see (ce_var 7)) (see (ce_call F_law_pick T.m_law_pick T.k_law_pick b_law_pick hg0 (hr.mono (by decide)) hx0 (ca_cons (ce_var 0) (ca_cons (val (cf_lst (ca_cons ce_str (ca_cons ce_str (ca_cons ce_str (ca_cons ce_str (ca_cons ce_str (ca_cons ce_str ca_nil)))))))) ca_nil))))) (ca_cons (ce_call F_law_odd T.m_law_odd T.k_law_odd b_law_odd hg0 (hr.mono (by decide)) hx0 (ca_cons (ce_var 0) ca_nil)) ca_nil)))))) ca_nil))) sc_law_right.nd)
    (css_cons (cs_set (i := 8) (ce_and (ce_isi (see (ce_var 7)) (by exact pe_bltn (v := .ty "str") (u := .type "str") (by rfl) T.z_str (by decide +kernel) (by rfl)) T.z_isinstance (.ty _) isi_str_c isi_str_t) (ce_one (ce_callB cal_all T.z_all (cab_cons (see (val (cf_lc (own := [("glyph", 10)]) sc_law_right.nd (cie_any (see (ce_var 7))) (blk_mk (by rfl)) (fun _ _ _ _ _ => (pg_name (i := 10) sc_law_right.nd rfl (by first | exact Or.inl rfl | exact Or.inr rfl))) (tg_var (i := 10)) (fun _ _ _ _ _ => cts_nil) (fun _ _ _ _ _ => (ce_cmp (opl_in (hu65 hr)) (see (ce_var 10)) (see ce_str)))))) cab_nil)))) sc_law_right.nd)
    (css_cons (cs_set (i := 8) (ce_and (ce_var 8) (ce_one (ce_cmp (opl_eq (hu64 hr)) (see (ce_call F_law_slip T.m_law_slip T.k_law_slip b_law_slip hg0 (hr.mono (by decide)) hx0 (ca_cons (ce_callTy cal_tuple T.z_tuple (cab_cons (see (val (cf_lc (own := [("glyph", 10)]) sc_law_right.nd (cie_any (see (ce_var 7))) (blk_mk (by rfl)) (fun _ _ _ _ _ => (pg_name (i := 10) sc_law_right.nd rfl (by first | exact Or.inl rfl | exact Or.inr rfl))) (tg_var (i := 10)) (fun _ _ _ _ _ => cts_nil) (fun _ _ _ _ _ => (ce_callTy cal_int2 T.z_int (cab_cons (see (ce_var 10)) cab_nil)))))) cab_nil)) ca_nil))) (see (val (cf_lst ca_nil)))))) sc_law_right.nd)
    (css_cons (cs_set (i := 6) (ce_caught (k := 6) (n := 3) (it := 1) (l := H_law_caught) (R := R_law_caught) F_law_caught sc_law_caught b_law_caught T.m_law_caught (hr.mono (by decide)) hx0 (by rfl) (by rfl) (by rfl) (by rfl) (by decide) (.inl rfl) (.inl rfl) (fun cdv s1 H1 hr1 => .named (ex := c3_law_caught) (by rfl) (by rfl) (c3_law_caught_ok T) (tst_tup3 (x1 := "WrongValue") (x2 := "WrongName") (x3 := "NotPossible") (by exact ⟨rfl, by decide, .inl T.xg_WrongValue⟩) (by exact ⟨rfl, by decide, .inl T.xg_WrongName⟩) (by exact ⟨rfl, by decide, .inl T.xg_NotPossible⟩)) (fun a pn => (css_one (cs_ret (see (ce_callW F_law_shown T.m_law_shown T.k_law_shown b_law_shown hg0 ((RmW.of hr1).mark.mono (by decide)) pass_suite (ca_cons (ce_var 2) ca_nil)))))) .nil) (fun cdv s1 H1 hr1 => (css_one (cs_ret (see (val (cf_lst (ca_cons ce_str (ca_cons (ce_var 1) ca_nil)))))))) hT rfl (LamX.lamS_by (by rfl)) (by rfl) (fun _ _ _ _ _ => by rfl) (fun A1 outer s2 H2 E1 f c1 hgl hrl => (ce_cmeth T.g_Board T.cr_Board T.cm_Board_read F_Board_read b_Board_read (guards_lam hgl hg0) (hrl.mono (by decide)) pass_lam (ca_cons (ce_var 7) ca_nil))) (by exact List.mem_cons_self) (fun p hp _ => by cases hp with | head => rfl | tail _ h => cases h)) sc_law_right.nd)
    (css_one (cs_if (PW.pt (cw_or (PW.pt (cw_and (ct_val (ce_var 8)) (cw_and1 (PW.pt (cw_or (ct_cmp (opl_ne (hu64 hr)) (see (ce_ix (hu1 hr) (see (ce_var 6)) (see ce_int))) (see ce_str)) (cw_or1 (ct_cmp (opl_ne (hu64 hr)) (see (ce_callTy (cal_strO (c := 1) F_Board_str b_Board_str hg0 (hr.mono (by decide)) T.h_Board_str.at_ T.h_Board_str.fn) T.z_str (cab_cons (see (ce_ix (hu1 hr) (see (ce_var 6)) (see ce_int))) cab_nil))) (see (ce_var 7))))))))) (cw_or1 (PW.pt (cw_and (ct_not (ct_val (ce_var 8))) (cw_and1 (ct_cmp (opl_ne (hu64 hr)) (see (ce_var 6)) (see (val (cf_lst (ca_cons ce_str (ca_cons (ce_callB (cal_repr2 hg0 (hu64 hr)) T.z_repr (cab_cons (see (ce_var 7)) cab_nil)) ca_nil)))))))))))) (css_one (cs_ret (see ce_bl))) css_nil))))))))))))))
    (css_one (cs_ret (see ce_bl))))
theorem sc_law_jar : FnScope N_law_jar ["script", "k"] (defScope s_law_jar) := ⟨rfl, rfl, rfl, by decide +kernel, rfl, by decide +kernel, by decide +kernel⟩
theorem ok_law_jar (T : Txt K w mg ad) (hT : LamX.TabB base mg ad.c_law_right ad.t_law_right) : DefU P w (gm K w ad) mg base 1 ad.f_law_jar ["script", "k"] (fun fd => Fun K "_law_jar" "_law_jar" s_law_jar ad.f_law_jar fd) (lift (gm K w ad) sp_law_jar) := by
  obtain ⟨fd, F⟩ := T.F_law_jar
  refine ⟨fd, okD (B := R_law_jar) F sc_law_jar len_law_jar (fun cdv A outer s H E hg hr => ?_) pure_law_jar, F⟩
  have hg0 : (A.deeper (envOfC "_law_jar" (defScope s_law_jar) s.heap.objs.size ad.f_law_jar cdv)).guards = some [] := hg
  have hx0 : PassX (cxOf (L2.CX P w) P w K mg base N_law_jar "_law_jar" (defScope s_law_jar) ad.f_law_jar cdv A outer s H E) E := L2.passes_call (L2.takes_of rfl rfl rfl rfl) fun _ _ _ _ h => h
  exact (css_cons (cs_set (i := 2) (ce_bin opl_add (see (ce_bin opl_mulA (see (ce_bin opl_mulA (see ce_int) (see (ce_bin opl_add (see (ce_var 1)) (see ce_int))))) (see (ce_bin opl_add (see (ce_var 1)) (see ce_int))))) (see (ce_bin opl_mulA (see ce_int) (see (ce_callB cal_len T.z_len (cab_cons (see (ce_var 0)) cab_nil)))))) sc_law_jar.nd)
    (css_cons (cs_for (vs := [3]) (L2.passes_of rfl) (cis_any (ce_slice (see (ce_var 0)) co_none (co_some ce_int))) (pg_name (i := 3) sc_law_jar.nd rfl (by first | exact Or.inl rfl | exact Or.inr rfl)) (tg_var (i := 3))
      (css_one (cs_set (i := 2) (ce_bin opl_mod (see (ce_callTy cal_int2 T.z_int (cab_cons (see (ce_bin opl_add (see (ce_bin opl_mulA (see (ce_var 2)) (see ce_int))) (see (ce_var 3)))) cab_nil))) (see ce_int)) sc_law_jar.nd)))
    (css_cons (cs_set (i := 4) (ce_if (ct_cmp opl_lt (see (ce_var 1)) (see (ce_callB cal_len T.z_len (cab_cons (see (ce_var 0)) cab_nil)))) (ce_ix (hu1 hr) (see (ce_var 0)) (see (ce_var 1))) ce_int) sc_law_jar.nd)
    (css_cons (cs_set (i := 5) (ce_if (PW.pt (cw_or (ct_cmp opl_lt (see (ce_var 4)) (see ce_int)) (cw_or1 (ct_cmp opl_ge (see (ce_var 4)) (see (ce_bin opl_pow (see ce_int) (see ce_int))))))) (ce_callB cal_abs T.z_abs (cab_cons (see (ce_var 4)) cab_nil)) ce_int) sc_law_jar.nd)
    (css_one (cs_retJar (cf_lst (ca_cons (ce_var 5) (ca_cons (ce_bin opl_mod (see (ce_callTy cal_int2 T.z_int (cab_cons (see (ce_bin opl_add (see (ce_bin opl_add (see (ce_bin opl_mulA (see (ce_var 2)) (see ce_int))) (see (ce_bin opl_mulA (see (ce_var 4)) (see ce_int))))) (see (ce_bin opl_mulA (see ce_int) (see (ce_bin opl_add (see (ce_var 1)) (see ce_int))))))) cab_nil))) (see ce_int)) (ca_cons ce_int ca_nil))))))))))
theorem sc_law : FnScope N_law ["script"] (defScope s_law) := ⟨rfl, rfl, rfl, by decide +kernel, rfl, by decide +kernel, by decide +kernel⟩
theorem ok_law (T : Txt K w mg ad) (hT : LamX.TabB base mg ad.c_law_right ad.t_law_right) {fd : FuncData} (F : Fun K "law" "law" s_law ad.f_law fd) : FnG P w (gm K w ad).K mg base 10 ad.f_law fd ["script"] (lift (gm K w ad) sp_law) := by
  obtain ⟨fd_law_right, F_law_right, U_law_right⟩ := ok_law_right (P := P) (base := base) T hT
  have b_law_right : Binds K fd_law_right ["jar"] [] := U_law_right.binds (ps := ["jar"]) fun _ _ _ _ _ _ us hl => match us, hl with | [_], _ => rfl
  obtain ⟨fd_law_jar, F_law_jar, U_law_jar⟩ := ok_law_jar (P := P) (base := base) T hT
  have b_law_jar : Binds K fd_law_jar ["script", "k"] [] := U_law_jar.binds (ps := ["script", "k"]) fun _ _ _ _ _ _ us hl => match us, hl with | [_, _], _ => rfl
  refine okD (B := R_law) F sc_law len_law (fun cdv A outer s H E hg hr => ?_) pure_law
  have hg0 : (A.deeper (envOfC "law" (defScope s_law) s.heap.objs.size ad.f_law cdv)).guards = some [] := hg
  have hx0 : PassX (cxOf (L2.CX P w) P w K mg base N_law "law" (defScope s_law) ad.f_law cdv A outer s H E) E := L2.passes_call (L2.takes_of rfl rfl rfl rfl) fun _ _ _ _ h => h
  exact (css_cons (cs_for (vs := [1]) (L2.passes_of rfl) (cis_rng1 T.z_range (ca_cons (ce_callB cal_max2 T.z_max (cab_cons (see ce_int) (cab_cons (see (ce_callB cal_min2 T.z_min (cab_cons (see (ce_callB cal_len T.z_len (cab_cons (see (ce_var 0)) cab_nil))) (cab_cons (see ce_int) cab_nil)))) cab_nil))) ca_nil)) (pg_name (i := 1) sc_law.nd rfl (by first | exact Or.inl rfl | exact Or.inr rfl)) (tg_var (i := 1))
      (css_one (cs_if (ct_not (ct_val (ce_call F_law_right T.m_law_right T.k_law_right b_law_right hg0 (hr.mono (by decide)) hx0 (ca_cons (ce_call F_law_jar T.m_law_jar T.k_law_jar b_law_jar hg0 (hr.mono (by decide)) hx0 (ca_cons (ce_var 0) (ca_cons (ce_var 1) ca_nil))) ca_nil)))) (css_one (cs_ret (see ce_bl))) css_nil)))
    (css_one (cs_ret (see ce_bl))))
end
end K03
namespace K03
open PySem L2 DL PyProof.Rows
def v_f_law_dip (K : PySem.W.Frag) : Addr := He.ga K "_law_dip"
def v_f_law_pick (K : PySem.W.Frag) : Addr := He.ga K "_law_pick"
def v_f_law_odd (K : PySem.W.Frag) : Addr := He.ga K "_law_odd"
def v_f_law_slip (K : PySem.W.Frag) : Addr := He.ga K "_law_slip"
def v_f_law_bases (K : PySem.W.Frag) : Addr := He.ga K "_law_bases"
def v_f_law_shown (K : PySem.W.Frag) : Addr := He.ga K "_law_shown"
def v_f_law_caught (K : PySem.W.Frag) : Addr := He.ga K "_law_caught"
def v_f_is_within (K : PySem.W.Frag) : Addr := He.ga K "is_within"
def v_f_check_sizes (K : PySem.W.Frag) : Addr := He.ga K "check_sizes"
def v_f_settings_in (K : PySem.W.Frag) : Addr := He.ga K "settings_in"
def v_f_Board_init (K : PySem.W.Frag) : Addr := He.ma K (He.ga K "Board") "__init__"
def v_P_Board_sizes (K : PySem.W.Frag) : Addr := He.ma K (He.ga K "Board") "sizes"
def v_f_Board_sizes (K : PySem.W.Frag) : Addr := HdM.getF K (He.ma K (He.ga K "Board") "sizes")
def v_f_board_told (K : PySem.W.Frag) : Addr := He.ga K "board_told"
def v_P_Board_read (K : PySem.W.Frag) : Addr := He.ma K (He.ga K "Board") "read"
def v_f_Board_read (K : PySem.W.Frag) : Addr := He5.wf K (He.ga K "Board") "classmethod" "read"
def v_f_Board_str (K : PySem.W.Frag) : Addr := He.ma K (He.ga K "Board") "__str__"
def v_f_law_right (K : PySem.W.Frag) : Addr := He.ga K "_law_right"
def v_f_law_jar (K : PySem.W.Frag) : Addr := He.ga K "_law_jar"
def v_f_law (K : PySem.W.Frag) : Addr := He.ga K "law"
def v_C_Board (K : PySem.W.Frag) : Addr := He.ga K "Board"
def v_A_STANDS (K : PySem.W.Frag) : Addr := He.ga K "STANDS"
def v_A_DIGITS (K : PySem.W.Frag) : Addr := He.ga K "DIGITS"
def v_C_InvalidSizes (K : PySem.W.Frag) : Addr := He.ga K "InvalidSizes"
def v_i_InvalidSizes (K : PySem.W.Frag) : Addr := He.ma K (He.ga K "InvalidSizes") "__init__"
def v_C_InvalidText (K : PySem.W.Frag) : Addr := He.ga K "InvalidText"
def v_i_InvalidText (K : PySem.W.Frag) : Addr := He.ma K (He.ga K "InvalidText") "__init__"
def v_c_law_right (K : PySem.W.Frag) : Addr := HdM.codeAt K (He.ga K "_law_right")
def v_t_law_right (K : PySem.W.Frag) : Addr := HdM.tabAt K (HdM.codeAt K (He.ga K "_law_right"))
def v_C_WrongValue (K : PySem.W.Frag) : Addr := He.ga K "WrongValue"
def v_C_WrongName (K : PySem.W.Frag) : Addr := He.ga K "WrongName"
def v_C_NotPossible (K : PySem.W.Frag) : Addr := He.ga K "NotPossible"
def m_law_dip : HdM.DfM := ⟨v_f_law_dip, "_law_dip", "_law_dip", defArgs s_law_dip, defBody s_law_dip, defScope s_law_dip, []⟩
def m_law_pick : HdM.DfM := ⟨v_f_law_pick, "_law_pick", "_law_pick", defArgs s_law_pick, defBody s_law_pick, defScope s_law_pick, []⟩
def m_law_odd : HdM.DfM := ⟨v_f_law_odd, "_law_odd", "_law_odd", defArgs s_law_odd, defBody s_law_odd, defScope s_law_odd, []⟩
def m_law_slip : HdM.DfM := ⟨v_f_law_slip, "_law_slip", "_law_slip", defArgs s_law_slip, defBody s_law_slip, defScope s_law_slip, []⟩
def m_law_bases : HdM.DfM := ⟨v_f_law_bases, "_law_bases", "_law_bases", defArgs s_law_bases, defBody s_law_bases, defScope s_law_bases, []⟩
def m_law_shown : HdM.DfM := ⟨v_f_law_shown, "_law_shown", "_law_shown", defArgs s_law_shown, defBody s_law_shown, defScope s_law_shown, []⟩
def m_law_caught : HdM.DfM := ⟨v_f_law_caught, "_law_caught", "_law_caught", defArgs s_law_caught, defBody s_law_caught, defScope s_law_caught, []⟩
def m_is_within : HdM.DfM := ⟨v_f_is_within, "is_within", "is_within", defArgs s_is_within, defBody s_is_within, defScope s_is_within, []⟩
def m_check_sizes : HdM.DfM := ⟨v_f_check_sizes, "check_sizes", "check_sizes", defArgs s_check_sizes, defBody s_check_sizes, defScope s_check_sizes, []⟩
def m_settings_in : HdM.DfM := ⟨v_f_settings_in, "settings_in", "settings_in", defArgs s_settings_in, defBody s_settings_in, defScope s_settings_in, []⟩
def m_Board_init : HdM.DfM := ⟨v_f_Board_init, "__init__", "Board.__init__", defArgs s_Board_init, defBody s_Board_init, defScope s_Board_init, []⟩
def m_Board_sizes : HdM.DfM := ⟨v_f_Board_sizes, "sizes", "Board.sizes", defArgs s_Board_sizes, defBody s_Board_sizes, defScope s_Board_sizes, []⟩
def m_board_told : HdM.DfM := ⟨v_f_board_told, "board_told", "board_told", defArgs s_board_told, defBody s_board_told, defScope s_board_told, []⟩
def m_Board_read : HdM.DfM := ⟨v_f_Board_read, "read", "Board.read", defArgs s_Board_read, defBody s_Board_read, defScope s_Board_read, []⟩
def m_Board_str : HdM.DfM := ⟨v_f_Board_str, "__str__", "Board.__str__", defArgs s_Board_str, defBody s_Board_str, defScope s_Board_str, []⟩
def m_law_right : HdM.DfM := ⟨v_f_law_right, "_law_right", "_law_right", defArgs s_law_right, defBody s_law_right, defScope s_law_right, []⟩
def m_law_jar : HdM.DfM := ⟨v_f_law_jar, "_law_jar", "_law_jar", defArgs s_law_jar, defBody s_law_jar, defScope s_law_jar, []⟩
def m_law : HdM.DfM := ⟨v_f_law, "law", "law", defArgs s_law, defBody s_law, defScope s_law, []⟩
def m_x_InvalidSizes : HdM.DfM := ⟨v_i_InvalidSizes, "__init__", "InvalidSizes.__init__", defArgs (inClass (top 4) 0), defBody (inClass (top 4) 0), defScope (inClass (top 4) 0), []⟩
def m_x_InvalidText : HdM.DfM := ⟨v_i_InvalidText, "__init__", "InvalidText.__init__", defArgs (inClass (top 3) 0), defBody (inClass (top 3) 0), defScope (inClass (top 3) 0), []⟩
def q_0 : PySem.W.Frag → Bool := fun K => decide (PySem.W.nsIn K mainGlobals "_law_dip" = some (some (.ref (v_f_law_dip K))))
def q_1 : PySem.W.Frag → Bool := fun K => decide (PySem.W.keepIn K (.ref (v_f_law_dip K)) = true)
def q_2 : PySem.W.Frag → Bool := fun K => decide (PySem.W.nsIn K mainGlobals "_law_pick" = some (some (.ref (v_f_law_pick K))))
def q_3 : PySem.W.Frag → Bool := fun K => decide (PySem.W.keepIn K (.ref (v_f_law_pick K)) = true)
def q_4 : PySem.W.Frag → Bool := fun K => decide (PySem.W.nsIn K mainGlobals "_law_odd" = some (some (.ref (v_f_law_odd K))))
def q_5 : PySem.W.Frag → Bool := fun K => decide (PySem.W.keepIn K (.ref (v_f_law_odd K)) = true)
def q_6 : PySem.W.Frag → Bool := fun K => decide (PySem.W.nsIn K mainGlobals "_law_slip" = some (some (.ref (v_f_law_slip K))))
def q_7 : PySem.W.Frag → Bool := fun K => decide (PySem.W.keepIn K (.ref (v_f_law_slip K)) = true)
def q_8 : PySem.W.Frag → Bool := fun K => decide (PySem.W.nsIn K mainGlobals "_law_bases" = some (some (.ref (v_f_law_bases K))))
def q_9 : PySem.W.Frag → Bool := fun K => decide (PySem.W.keepIn K (.ref (v_f_law_bases K)) = true)
def q_10 : PySem.W.Frag → Bool := fun K => decide (PySem.W.nsIn K mainGlobals "_law_shown" = some (some (.ref (v_f_law_shown K))))
def q_11 : PySem.W.Frag → Bool := fun K => decide (PySem.W.keepIn K (.ref (v_f_law_shown K)) = true)
def q_12 : PySem.W.Frag → Bool := fun K => decide (PySem.W.nsIn K mainGlobals "_law_caught" = some (some (.ref (v_f_law_caught K))))
def q_13 : PySem.W.Frag → Bool := fun K => decide (PySem.W.keepIn K (.ref (v_f_law_caught K)) = true)
def q_14 : PySem.W.Frag → Bool := fun K => decide (PySem.W.nsIn K mainGlobals "is_within" = some (some (.ref (v_f_is_within K))))
def q_15 : PySem.W.Frag → Bool := fun K => decide (PySem.W.keepIn K (.ref (v_f_is_within K)) = true)
def q_16 : PySem.W.Frag → Bool := fun K => decide (PySem.W.nsIn K mainGlobals "check_sizes" = some (some (.ref (v_f_check_sizes K))))
def q_17 : PySem.W.Frag → Bool := fun K => decide (PySem.W.keepIn K (.ref (v_f_check_sizes K)) = true)
def q_18 : PySem.W.Frag → Bool := fun K => decide (PySem.W.nsIn K mainGlobals "settings_in" = some (some (.ref (v_f_settings_in K))))
def q_19 : PySem.W.Frag → Bool := fun K => decide (PySem.W.keepIn K (.ref (v_f_settings_in K)) = true)
def q_20 : PySem.W.Frag → Bool := fun K => decide (PySem.W.findIn K (.ref (v_C_Board K)) "__init__" = some (some (.ref (v_f_Board_init K))))
def q_21 : PySem.W.Frag → Bool := fun K => decide (PySem.W.isFn K (.ref (v_f_Board_init K)) = true)
def q_22 : PySem.W.Frag → Bool := fun K => decide (PySem.W.keepIn K (.ref (v_f_Board_init K)) = true)
def q_23 : PySem.W.Frag → Bool := fun K => decide (PySem.W.findIn K (.ref (v_C_Board K)) "sizes" = some (some (.ref (v_P_Board_sizes K))))
def q_24 : PySem.W.Frag → Bool := fun K => HdM.getB K (v_P_Board_sizes K)
def q_25 : PySem.W.Frag → Bool := fun K => decide (PySem.W.specialIn K (.ref (v_P_Board_sizes K)) "__get__" = some (some (.builtin "property.__get__")))
def q_26 : PySem.W.Frag → Bool := fun K => decide (PySem.W.takesIn K (.ref (v_P_Board_sizes K)) = some true)
def q_27 : PySem.W.Frag → Bool := fun K => decide (PySem.W.keepIn K (.ref (v_f_Board_sizes K)) = true)
def q_28 : PySem.W.Frag → Bool := fun K => decide (PySem.W.nsIn K mainGlobals "board_told" = some (some (.ref (v_f_board_told K))))
def q_29 : PySem.W.Frag → Bool := fun K => decide (PySem.W.keepIn K (.ref (v_f_board_told K)) = true)
def q_30 : PySem.W.Frag → Bool := fun K => decide (He5.wrapB K (v_C_Board K) "classmethod" "classmethod.__get__" "read" = true)
def q_31 : PySem.W.Frag → Bool := fun K => decide (PySem.W.fnIn K (v_f_Board_read K) = true)
def q_32 : PySem.W.Frag → Bool := fun K => decide (PySem.W.keepIn K (.ref (v_f_Board_read K)) = true)
def q_33 : PySem.W.Frag → Bool := fun K => decide (PySem.W.findIn K (.ref (v_C_Board K)) "__str__" = some (some (.ref (v_f_Board_str K))))
def q_34 : PySem.W.Frag → Bool := fun K => decide (PySem.W.isFn K (.ref (v_f_Board_str K)) = true)
def q_35 : PySem.W.Frag → Bool := fun K => decide (PySem.W.keepIn K (.ref (v_f_Board_str K)) = true)
def q_36 : PySem.W.Frag → Bool := fun K => decide (PySem.W.nsIn K mainGlobals "_law_right" = some (some (.ref (v_f_law_right K))))
def q_37 : PySem.W.Frag → Bool := fun K => decide (PySem.W.keepIn K (.ref (v_f_law_right K)) = true)
def q_38 : PySem.W.Frag → Bool := fun K => decide (PySem.W.nsIn K mainGlobals "_law_jar" = some (some (.ref (v_f_law_jar K))))
def q_39 : PySem.W.Frag → Bool := fun K => decide (PySem.W.keepIn K (.ref (v_f_law_jar K)) = true)
def q_40 : PySem.W.Frag → Bool := fun K => decide (PySem.W.nsIn K mainGlobals "law" = some (some (.ref (v_f_law K))))
def q_41 : PySem.W.Frag → Bool := fun K => decide (PySem.W.keepIn K (.ref (v_f_law K)) = true)
def q_42 : PySem.W.Frag → Bool := fun K => decide (PySem.W.nsIn K mainGlobals "Board" = some (some (.ref (v_C_Board K))))
def q_43 : PySem.W.Frag → Bool := fun K => decide (PySem.W.readsIn K (v_C_Board K) (.type "type") = true)
def q_44 : PySem.W.Frag → Bool := fun K => decide (PySem.W.specialIn K (.ref (v_C_Board K)) "__getattribute__" = some (some (.builtin "type.__getattribute__")))
def q_45 : PySem.W.Frag → Bool := fun K => decide (PySem.W.plainGet K (v_C_Board K) Str.empty = true)
def q_46 : PySem.W.Frag → Bool := fun K => decide (PySem.W.hasDictIn K (v_C_Board K) = true)
def q_47 : PySem.W.Frag → Bool := fun K => decide (PySem.W.plainOver K (v_C_Board K) = true)
def q_48 : PySem.W.Frag → Bool := fun K => decide (PySem.W.findIn K (.ref (v_C_Board K)) "__setattr__" = some (some (.builtin "object.__setattr__")))
def q_49 : PySem.W.Frag → Bool := fun K => decide (PySem.W.findIn K (.ref (v_C_Board K)) "__class__" = some (some (.builtin "object.__class__")))
def q_50 : PySem.W.Frag → Bool := fun K => decide (PySem.W.mroIn K (v_C_Board K) (.type "object") = some true)
def q_51 : PySem.W.Frag → Bool := fun K => decide (PySem.W.makesIn K (v_C_Board K) = true)
def q_52 : PySem.W.Frag → Bool := fun K => decide (PySem.W.keepIn K (.ref (v_C_Board K)) = true)
def q_53 : PySem.W.Frag → Bool := fun K => decide (PySem.W.findIn K (.ref (v_C_Board K)) "both" = some none)
def q_54 : PySem.W.Frag → Bool := fun K => decide (PySem.W.specialIn K (.builtin "object.__class__") "__get__" = some (some (.builtin "getset_descriptor.__get__")))
def q_55 : PySem.W.Frag → Bool := fun K => decide (PySem.W.takesIn K (.builtin "object.__class__") = some true)
def q_56 : PySem.W.Frag → Bool := fun K => decide (PySem.W.nsIn K mainGlobals "DIGITS" = some (some (.ref (v_A_DIGITS K))))
def q_57 : PySem.W.Frag → Bool := fun K => HdM.dicB K (v_A_DIGITS K) (([.inr "2", .inr "3"] : List Key).zip ([.int 2, .int 3] : List V))
def q_58 : PySem.W.Frag → Bool := fun K => HdM.intB K "MOST_SETTINGS" 48
def q_59 : PySem.W.Frag → Bool := fun K => HdM.intB K "MOST_SWITCHES" 5
def q_60 : PySem.W.Frag → Bool := fun K => decide (PySem.W.nsIn K mainGlobals "STANDS" = some (some (.ref (v_A_STANDS K))))
def q_61 : PySem.W.Frag → Bool := fun K => HdM.dicB K (v_A_STANDS K) (([.inl 2, .inl 3] : List Key).zip ([.str "01", .str "012"] : List V))
def q_62 : PySem.W.Frag → Bool := fun K => decide (PySem.W.nsIn K mainGlobals "ArithmeticError" = some none)
def q_63 : PySem.W.Frag → Bool := fun K => decide (PySem.W.nsIn K mainGlobals "LookupError" = some none)
def q_64 : PySem.W.Frag → Bool := fun K => decide (PySem.W.nsIn K mainGlobals "ValueError" = some none)
def q_65 : PySem.W.Frag → Bool := fun K => decide (PySem.W.nsIn K mainGlobals "abs" = some none)
def q_66 : PySem.W.Frag → Bool := fun K => decide (PySem.W.nsIn K mainGlobals "all" = some none)
def q_67 : PySem.W.Frag → Bool := fun K => decide (PySem.W.nsIn K mainGlobals "bool" = some none)
def q_68 : PySem.W.Frag → Bool := fun K => decide (PySem.W.nsIn K mainGlobals "int" = some none)
def q_69 : PySem.W.Frag → Bool := fun K => decide (PySem.W.nsIn K mainGlobals "isinstance" = some none)
def q_70 : PySem.W.Frag → Bool := fun K => decide (PySem.W.nsIn K mainGlobals "len" = some none)
def q_71 : PySem.W.Frag → Bool := fun K => decide (PySem.W.nsIn K mainGlobals "list" = some none)
def q_72 : PySem.W.Frag → Bool := fun K => decide (PySem.W.nsIn K mainGlobals "max" = some none)
def q_73 : PySem.W.Frag → Bool := fun K => decide (PySem.W.nsIn K mainGlobals "min" = some none)
def q_74 : PySem.W.Frag → Bool := fun K => decide (PySem.W.nsIn K mainGlobals "range" = some none)
def q_75 : PySem.W.Frag → Bool := fun K => decide (PySem.W.nsIn K mainGlobals "repr" = some none)
def q_76 : PySem.W.Frag → Bool := fun K => decide (PySem.W.nsIn K mainGlobals "str" = some none)
def q_77 : PySem.W.Frag → Bool := fun K => decide (PySem.W.nsIn K mainGlobals "tuple" = some none)
def q_78 : PySem.W.Frag → Bool := fun K => decide (refB K (v_f_law_right K) (v_c_law_right K) = true)
def q_79 : PySem.W.Frag → Bool := fun K => decide (PySem.W.nsIn K mainGlobals "WrongValue" = some (some (.ref (v_C_WrongValue K))))
def q_80 : PySem.W.Frag → Bool := fun K => decide (PySem.W.nsIn K mainGlobals "WrongName" = some (some (.ref (v_C_WrongName K))))
def q_81 : PySem.W.Frag → Bool := fun K => decide (PySem.W.nsIn K mainGlobals "NotPossible" = some (some (.ref (v_C_NotPossible K))))
def q_82 : PySem.W.Frag → Bool := fun K => decide (PySem.W.nsIn K mainGlobals "InvalidSizes" = some (some (.ref (v_C_InvalidSizes K))))
def q_83 : PySem.W.Frag → Bool := fun K => decide (PySem.W.nsIn K mainGlobals "InvalidText" = some (some (.ref (v_C_InvalidText K))))
def q_84 : PySem.W.Frag → Bool := fun K => decide ((PySem.W.clsIn K (v_C_InvalidSizes K)).isSome = true)
def q_85 : PySem.W.Frag → Bool := fun K => decide (PySem.W.findIn K (.ref (v_C_InvalidSizes K)) "__getattribute__" = some (some (.builtin "BaseException.__getattribute__")))
def q_86 : PySem.W.Frag → Bool := fun K => decide (PySem.W.findIn K (.ref (v_C_InvalidSizes K)) "__getattr__" = some none)
def q_87 : PySem.W.Frag → Bool := fun K => decide (PySem.W.findIn K (.ref (v_C_InvalidSizes K)) "__class__" = some (some (.builtin "object.__class__")))
def q_88 : PySem.W.Frag → Bool := fun K => decide (PySem.W.mroIn K (v_C_InvalidSizes K) (.type "object") = some true)
def q_89 : PySem.W.Frag → Bool := fun K => decide ((PySem.W.clsIn K (v_C_InvalidText K)).isSome = true)
def q_90 : PySem.W.Frag → Bool := fun K => decide (PySem.W.findIn K (.ref (v_C_InvalidText K)) "__getattribute__" = some (some (.builtin "BaseException.__getattribute__")))
def q_91 : PySem.W.Frag → Bool := fun K => decide (PySem.W.findIn K (.ref (v_C_InvalidText K)) "__getattr__" = some none)
def q_92 : PySem.W.Frag → Bool := fun K => decide (PySem.W.findIn K (.ref (v_C_InvalidText K)) "__class__" = some (some (.builtin "object.__class__")))
def q_93 : PySem.W.Frag → Bool := fun K => decide (PySem.W.mroIn K (v_C_InvalidText K) (.type "object") = some true)
def q_94 : PySem.W.Frag → Bool := fun K => decide (PySem.W.findIn K (.ref (v_C_InvalidSizes K)) "index" = some none)
def q_95 : PySem.W.Frag → Bool := fun K => decide (PySem.W.findIn K (.ref (v_C_InvalidText K)) "given" = some none)
def q_96 : PySem.W.Frag → Bool := fun K => decide (PySem.W.kitOne K (.ref (v_C_InvalidSizes K)) (.ref (v_C_WrongValue K)) = some true)
def q_97 : PySem.W.Frag → Bool := fun K => decide (PySem.W.kitOne K (.ref (v_C_InvalidText K)) (.ref (v_C_WrongValue K)) = some true)
def q_98 : PySem.W.Frag → Bool := fun K => decide (PySem.W.kitOne K (.ref (v_C_InvalidSizes K)) (.ref (v_C_WrongName K)) = some false)
def q_99 : PySem.W.Frag → Bool := fun K => decide (PySem.W.kitOne K (.ref (v_C_InvalidText K)) (.ref (v_C_WrongName K)) = some false)
def q_100 : PySem.W.Frag → Bool := fun K => decide (PySem.W.kitOne K (.ref (v_C_InvalidSizes K)) (.ref (v_C_NotPossible K)) = some false)
def q_101 : PySem.W.Frag → Bool := fun K => decide (PySem.W.kitOne K (.ref (v_C_InvalidText K)) (.ref (v_C_NotPossible K)) = some false)
def q_102 : PySem.W.Frag → Bool := fun K => decide (PySem.W.kitOne K (.ref (v_C_InvalidSizes K)) (.type "ValueError") = some true)
def q_103 : PySem.W.Frag → Bool := fun K => decide (PySem.W.kitOne K (.ref (v_C_InvalidText K)) (.type "ValueError") = some true)
def q_104 : PySem.W.Frag → Bool := fun K => decide (PySem.W.kitOne K (.ref (v_C_InvalidSizes K)) (.type "LookupError") = some false)
def q_105 : PySem.W.Frag → Bool := fun K => decide (PySem.W.kitOne K (.ref (v_C_InvalidText K)) (.type "LookupError") = some false)
def q_106 : PySem.W.Frag → Bool := fun K => decide (PySem.W.kitOne K (.ref (v_C_InvalidSizes K)) (.type "ArithmeticError") = some false)
def q_107 : PySem.W.Frag → Bool := fun K => decide (PySem.W.kitOne K (.ref (v_C_InvalidText K)) (.type "ArithmeticError") = some false)
def q_108 : PySem.W.Frag → Bool := fun K => decide (PySem.W.kitOne K (.ref (v_C_InvalidSizes K)) (.ref (v_C_InvalidSizes K)) = some true)
def q_109 : PySem.W.Frag → Bool := fun K => decide (PySem.W.kitOne K (.ref (v_C_InvalidText K)) (.ref (v_C_InvalidSizes K)) = some false)
def q_110 : PySem.W.Frag → Bool := fun K => decide (PySem.W.kitOne K (.ref (v_C_InvalidSizes K)) (.ref (v_C_InvalidText K)) = some false)
def q_111 : PySem.W.Frag → Bool := fun K => decide (PySem.W.kitOne K (.ref (v_C_InvalidText K)) (.ref (v_C_InvalidText K)) = some true)
def q_112 : PySem.W.Frag → Bool := fun K => decide (PySem.W.nsIn K mainGlobals "InvalidSizes" = some (some (.ref (v_C_InvalidSizes K))))
def q_113 : PySem.W.Frag → Bool := fun K => decide (PySem.W.excInitIn K (v_C_InvalidSizes K) [.type "ValueError", .type "Exception", .type "BaseException", .type "object"] "ValueError.__new__" = true)
def q_114 : PySem.W.Frag → Bool := fun K => decide (PySem.W.hasDictIn K (v_C_InvalidSizes K) = true)
def q_115 : PySem.W.Frag → Bool := fun K => decide (PySem.W.findIn K (.ref (v_C_InvalidSizes K)) "__setattr__" = some (some (.builtin "object.__setattr__")))
def q_116 : PySem.W.Frag → Bool := fun K => decide (PySem.W.takerIn K (v_C_InvalidSizes K) "index" = some none)
def q_117 : PySem.W.Frag → Bool := fun K => decide (PySem.W.findIn K (.ref (v_C_InvalidSizes K)) "__init__" = some (some (.ref (v_i_InvalidSizes K))))
def q_118 : PySem.W.Frag → Bool := fun K => decide (PySem.W.typeIn K (.ref (v_i_InvalidSizes K)) = some (.type "function"))
def q_119 : PySem.W.Frag → Bool := fun K => decide (PySem.W.keepIn K (.ref (v_C_InvalidSizes K)) = true)
def q_120 : PySem.W.Frag → Bool := fun K => decide (PySem.W.subIn K (.ref (v_C_InvalidSizes K)) (.type "BaseException") = some true)
def q_121 : PySem.W.Frag → Bool := fun K => decide (PySem.W.typeIn K (.ref (v_C_InvalidSizes K)) = some (.type "type"))
def q_122 : PySem.W.Frag → Bool := fun K => decide (ExL.kwB K (v_i_InvalidSizes K) = true)
def q_123 : PySem.W.Frag → Bool := fun K => decide (PySem.W.nsIn K mainGlobals "InvalidText" = some (some (.ref (v_C_InvalidText K))))
def q_124 : PySem.W.Frag → Bool := fun K => decide (PySem.W.excInitIn K (v_C_InvalidText K) [.type "ValueError", .type "Exception", .type "BaseException", .type "object"] "ValueError.__new__" = true)
def q_125 : PySem.W.Frag → Bool := fun K => decide (PySem.W.hasDictIn K (v_C_InvalidText K) = true)
def q_126 : PySem.W.Frag → Bool := fun K => decide (PySem.W.findIn K (.ref (v_C_InvalidText K)) "__setattr__" = some (some (.builtin "object.__setattr__")))
def q_127 : PySem.W.Frag → Bool := fun K => decide (PySem.W.takerIn K (v_C_InvalidText K) "given" = some none)
def q_128 : PySem.W.Frag → Bool := fun K => decide (PySem.W.findIn K (.ref (v_C_InvalidText K)) "__init__" = some (some (.ref (v_i_InvalidText K))))
def q_129 : PySem.W.Frag → Bool := fun K => decide (PySem.W.typeIn K (.ref (v_i_InvalidText K)) = some (.type "function"))
def q_130 : PySem.W.Frag → Bool := fun K => decide (PySem.W.keepIn K (.ref (v_C_InvalidText K)) = true)
def q_131 : PySem.W.Frag → Bool := fun K => decide (PySem.W.subIn K (.ref (v_C_InvalidText K)) (.type "BaseException") = some true)
def q_132 : PySem.W.Frag → Bool := fun K => decide (PySem.W.typeIn K (.ref (v_C_InvalidText K)) = some (.type "type"))
def q_133 : PySem.W.Frag → Bool := fun K => decide (ExL.kwB K (v_i_InvalidText K) = true)
def q_134 : PySem.W.Frag → Bool := fun K => decide (PySem.W.exmAny K (.ref (v_C_InvalidSizes K)) [.ref (v_C_WrongValue K), .ref (v_C_WrongName K), .ref (v_C_NotPossible K)] = some true)
def q_135 : PySem.W.Frag → Bool := fun K => decide (PySem.W.exmAny K (.ref (v_C_InvalidText K)) [.ref (v_C_WrongValue K), .ref (v_C_WrongName K), .ref (v_C_NotPossible K)] = some true)
def q_136 : PySem.W.Frag → Bool := fun K => decide (PySem.W.exmOne K (.ref (v_C_InvalidSizes K)) (.ref (v_C_InvalidSizes K)) = some true)
def q_137 : PySem.W.Frag → Bool := fun K => decide (PySem.W.exmOne K (.ref (v_C_InvalidText K)) (.ref (v_C_InvalidSizes K)) = some false)
def fs_0 : List (PySem.W.Frag → Bool) := [q_0, q_1, q_2, q_3, q_4, q_5, q_6, q_7, q_8, q_9, q_10, q_11, q_12, q_13, q_14, q_15, q_16, q_17, q_18, q_19, q_20, q_21, q_22, q_23, q_24]
def fs_1 : List (PySem.W.Frag → Bool) := [q_25, q_26, q_27, q_28, q_29, q_30, q_31, q_32, q_33, q_34, q_35, q_36, q_37, q_38, q_39, q_40, q_41, q_42, q_43, q_44, q_45, q_46, q_47, q_48, q_49]
def fs_2 : List (PySem.W.Frag → Bool) := [q_50, q_51, q_52, q_53, q_54, q_55, q_56, q_57, q_58, q_59, q_60, q_61, q_62, q_63, q_64, q_65, q_66, q_67, q_68, q_69, q_70, q_71, q_72, q_73, q_74]
def fs_3 : List (PySem.W.Frag → Bool) := [q_75, q_76, q_77, q_78, q_79, q_80, q_81, q_82, q_83, q_84, q_85, q_86, q_87, q_88, q_89, q_90, q_91, q_92, q_93, q_94, q_95, q_96, q_97, q_98, q_99]
def fs_4 : List (PySem.W.Frag → Bool) := [q_100, q_101, q_102, q_103, q_104, q_105, q_106, q_107, q_108, q_109, q_110, q_111, q_112, q_113, q_114, q_115, q_116, q_117, q_118, q_119, q_120, q_121, q_122, q_123, q_124]
def fs_5 : List (PySem.W.Frag → Bool) := [q_125, q_126, q_127, q_128, q_129, q_130, q_131, q_132, q_133, q_134, q_135, q_136, q_137]
def fs : List (PySem.W.Frag → Bool) := fs_0 ++ (fs_1 ++ (fs_2 ++ (fs_3 ++ (fs_4 ++ (fs_5)))))
def fn_0 : List HdM.DfM := [m_law_dip, m_law_pick, m_law_odd, m_law_slip, m_law_bases, m_law_shown, m_law_caught, m_is_within, m_check_sizes, m_settings_in, m_Board_init, m_Board_sizes, m_board_told, m_Board_read, m_Board_str, m_law_right, m_law_jar, m_law, m_x_InvalidSizes, m_x_InvalidText]
def fn : List HdM.DfM := fn_0
def dc : List (PySem.W.Frag → Addr) := [v_A_DIGITS, v_A_STANDS]
def hs : List (List Key) := [[.inr "2", .inr "3"], [.inl 2, .inl 3]]
def mkr : List (PySem.W.Frag → Addr) := [v_f_law_right]
theorem all_mk {l : PySem.W.OpenLaw} {w : World} {K : PySem.W.Frag} {h : Heap} {mg : Str → Option Value} {fa : Addr} (X : K.In h) (c : HdM.SaysM fs fn dc hs w K) (G : h.Ns mainGlobals mg) (hfa : mg "law" = some (.ref fa))
    : ∃ (G : Gm) (fd : FuncData) (qs : Addr → Str), G.K = K ∧ (G.tb = (mkr.map fun f => (HdM.codeAt K (f K), HdM.tabAt K (HdM.codeAt K (f K)))).map fun p => (p.2, qs p.2)) ∧ (∀ (s : Shared) (v : Value), BindsTo s fd ⟨[v], []⟩ [("script", v)]) ∧ ∀ base : Heap, K.In base → base.Ns mainGlobals mg → (∀ f ∈ mkr, LamX.TabB base mg (HdM.codeAt K (f K)) (HdM.tabAt K (HdM.codeAt K (f K)))) → FnG l.prog w K mg base 10 fa fd ["script"] (lift G sp_law) := by
  have a_law_dip : PySem.W.nsIn K mainGlobals "_law_dip" = some (some (.ref (v_f_law_dip K))) := of_decide_eq_true (c.fact 0 (f := q_0))
  have k_law_dip : PySem.W.keepIn K (.ref (v_f_law_dip K)) = true := of_decide_eq_true (c.fact 1 (f := q_1))
  have a_law_pick : PySem.W.nsIn K mainGlobals "_law_pick" = some (some (.ref (v_f_law_pick K))) := of_decide_eq_true (c.fact 2 (f := q_2))
  have k_law_pick : PySem.W.keepIn K (.ref (v_f_law_pick K)) = true := of_decide_eq_true (c.fact 3 (f := q_3))
  have a_law_odd : PySem.W.nsIn K mainGlobals "_law_odd" = some (some (.ref (v_f_law_odd K))) := of_decide_eq_true (c.fact 4 (f := q_4))
  have k_law_odd : PySem.W.keepIn K (.ref (v_f_law_odd K)) = true := of_decide_eq_true (c.fact 5 (f := q_5))
  have a_law_slip : PySem.W.nsIn K mainGlobals "_law_slip" = some (some (.ref (v_f_law_slip K))) := of_decide_eq_true (c.fact 6 (f := q_6))
  have k_law_slip : PySem.W.keepIn K (.ref (v_f_law_slip K)) = true := of_decide_eq_true (c.fact 7 (f := q_7))
  have a_law_bases : PySem.W.nsIn K mainGlobals "_law_bases" = some (some (.ref (v_f_law_bases K))) := of_decide_eq_true (c.fact 8 (f := q_8))
  have k_law_bases : PySem.W.keepIn K (.ref (v_f_law_bases K)) = true := of_decide_eq_true (c.fact 9 (f := q_9))
  have a_law_shown : PySem.W.nsIn K mainGlobals "_law_shown" = some (some (.ref (v_f_law_shown K))) := of_decide_eq_true (c.fact 10 (f := q_10))
  have k_law_shown : PySem.W.keepIn K (.ref (v_f_law_shown K)) = true := of_decide_eq_true (c.fact 11 (f := q_11))
  have a_law_caught : PySem.W.nsIn K mainGlobals "_law_caught" = some (some (.ref (v_f_law_caught K))) := of_decide_eq_true (c.fact 12 (f := q_12))
  have k_law_caught : PySem.W.keepIn K (.ref (v_f_law_caught K)) = true := of_decide_eq_true (c.fact 13 (f := q_13))
  have a_is_within : PySem.W.nsIn K mainGlobals "is_within" = some (some (.ref (v_f_is_within K))) := of_decide_eq_true (c.fact 14 (f := q_14))
  have k_is_within : PySem.W.keepIn K (.ref (v_f_is_within K)) = true := of_decide_eq_true (c.fact 15 (f := q_15))
  have a_check_sizes : PySem.W.nsIn K mainGlobals "check_sizes" = some (some (.ref (v_f_check_sizes K))) := of_decide_eq_true (c.fact 16 (f := q_16))
  have k_check_sizes : PySem.W.keepIn K (.ref (v_f_check_sizes K)) = true := of_decide_eq_true (c.fact 17 (f := q_17))
  have a_settings_in : PySem.W.nsIn K mainGlobals "settings_in" = some (some (.ref (v_f_settings_in K))) := of_decide_eq_true (c.fact 18 (f := q_18))
  have k_settings_in : PySem.W.keepIn K (.ref (v_f_settings_in K)) = true := of_decide_eq_true (c.fact 19 (f := q_19))
  have a_Board_init : PySem.W.findIn K (.ref (v_C_Board K)) "__init__" = some (some (.ref (v_f_Board_init K))) := of_decide_eq_true (c.fact 20 (f := q_20))
  have i_Board_init : PySem.W.isFn K (.ref (v_f_Board_init K)) = true := of_decide_eq_true (c.fact 21 (f := q_21))
  have k_Board_init : PySem.W.keepIn K (.ref (v_f_Board_init K)) = true := of_decide_eq_true (c.fact 22 (f := q_22))
  have a_Board_sizes : PySem.W.findIn K (.ref (v_C_Board K)) "sizes" = some (some (.ref (v_P_Board_sizes K))) := of_decide_eq_true (c.fact 23 (f := q_23))
  obtain ⟨rp_11, pr_Board_sizes⟩ := HdM.get_ok (show HdM.getB K (v_P_Board_sizes K) = true from c.fact 24 (f := q_24))
  have pg_Board_sizes : PySem.W.specialIn K (.ref (v_P_Board_sizes K)) "__get__" = some (some (.builtin "property.__get__")) := of_decide_eq_true (c.fact 25 (f := q_25))
  have pt_Board_sizes : PySem.W.takesIn K (.ref (v_P_Board_sizes K)) = some true := of_decide_eq_true (c.fact 26 (f := q_26))
  have k_Board_sizes : PySem.W.keepIn K (.ref (v_f_Board_sizes K)) = true := of_decide_eq_true (c.fact 27 (f := q_27))
  have a_board_told : PySem.W.nsIn K mainGlobals "board_told" = some (some (.ref (v_f_board_told K))) := of_decide_eq_true (c.fact 28 (f := q_28))
  have k_board_told : PySem.W.keepIn K (.ref (v_f_board_told K)) = true := of_decide_eq_true (c.fact 29 (f := q_29))
  have wm_Board_read : He5.wrapB K (v_C_Board K) "classmethod" "classmethod.__get__" "read" = true := of_decide_eq_true (c.fact 30 (f := q_30))
  have wi_Board_read : PySem.W.fnIn K (v_f_Board_read K) = true := of_decide_eq_true (c.fact 31 (f := q_31))
  have k_Board_read : PySem.W.keepIn K (.ref (v_f_Board_read K)) = true := of_decide_eq_true (c.fact 32 (f := q_32))
  have a_Board_str : PySem.W.findIn K (.ref (v_C_Board K)) "__str__" = some (some (.ref (v_f_Board_str K))) := of_decide_eq_true (c.fact 33 (f := q_33))
  have i_Board_str : PySem.W.isFn K (.ref (v_f_Board_str K)) = true := of_decide_eq_true (c.fact 34 (f := q_34))
  have k_Board_str : PySem.W.keepIn K (.ref (v_f_Board_str K)) = true := of_decide_eq_true (c.fact 35 (f := q_35))
  have a_law_right : PySem.W.nsIn K mainGlobals "_law_right" = some (some (.ref (v_f_law_right K))) := of_decide_eq_true (c.fact 36 (f := q_36))
  have k_law_right : PySem.W.keepIn K (.ref (v_f_law_right K)) = true := of_decide_eq_true (c.fact 37 (f := q_37))
  have a_law_jar : PySem.W.nsIn K mainGlobals "_law_jar" = some (some (.ref (v_f_law_jar K))) := of_decide_eq_true (c.fact 38 (f := q_38))
  have k_law_jar : PySem.W.keepIn K (.ref (v_f_law_jar K)) = true := of_decide_eq_true (c.fact 39 (f := q_39))
  have a_law : PySem.W.nsIn K mainGlobals "law" = some (some (.ref (v_f_law K))) := of_decide_eq_true (c.fact 40 (f := q_40))
  have k_law : PySem.W.keepIn K (.ref (v_f_law K)) = true := of_decide_eq_true (c.fact 41 (f := q_41))
  have g_Board : PySem.W.nsIn K mainGlobals "Board" = some (some (.ref (v_C_Board K))) := of_decide_eq_true (c.fact 42 (f := q_42))
  have rd_Board : PySem.W.readsIn K (v_C_Board K) (.type "type") = true := of_decide_eq_true (c.fact 43 (f := q_43))
  have sg_Board : PySem.W.specialIn K (.ref (v_C_Board K)) "__getattribute__" = some (some (.builtin "type.__getattribute__")) := of_decide_eq_true (c.fact 44 (f := q_44))
  have pg_Board : PySem.W.plainGet K (v_C_Board K) Str.empty = true := of_decide_eq_true (c.fact 45 (f := q_45))
  have hd_Board : PySem.W.hasDictIn K (v_C_Board K) = true := of_decide_eq_true (c.fact 46 (f := q_46))
  have po_Board : PySem.W.plainOver K (v_C_Board K) = true := of_decide_eq_true (c.fact 47 (f := q_47))
  have sa_Board : PySem.W.findIn K (.ref (v_C_Board K)) "__setattr__" = some (some (.builtin "object.__setattr__")) := of_decide_eq_true (c.fact 48 (f := q_48))
  have ca_Board : PySem.W.findIn K (.ref (v_C_Board K)) "__class__" = some (some (.builtin "object.__class__")) := of_decide_eq_true (c.fact 49 (f := q_49))
  have cm_Board : PySem.W.mroIn K (v_C_Board K) (.type "object") = some true := of_decide_eq_true (c.fact 50 (f := q_50))
  have mk_Board : PySem.W.makesIn K (v_C_Board K) = true := of_decide_eq_true (c.fact 51 (f := q_51))
  have kc_Board : PySem.W.keepIn K (.ref (v_C_Board K)) = true := of_decide_eq_true (c.fact 52 (f := q_52))
  have n_Board_both : PySem.W.findIn K (.ref (v_C_Board K)) "both" = some none := of_decide_eq_true (c.fact 53 (f := q_53))
  have cg_ : PySem.W.specialIn K (.builtin "object.__class__") "__get__" = some (some (.builtin "getset_descriptor.__get__")) := of_decide_eq_true (c.fact 54 (f := q_54))
  have ct_ : PySem.W.takesIn K (.builtin "object.__class__") = some true := of_decide_eq_true (c.fact 55 (f := q_55))
  have g_DIGITS : PySem.W.nsIn K mainGlobals "DIGITS" = some (some (.ref (v_A_DIGITS K))) := of_decide_eq_true (c.fact 56 (f := q_56))
  have d_DIGITS : KDic K w (v_A_DIGITS K) (([.inr "2", .inr "3"] : List Key).zip ([.int 2, .int 3] : List V)) := HdM.dic_ok (show HdM.dicB K (v_A_DIGITS K) (([.inr "2", .inr "3"] : List Key).zip ([.int 2, .int 3] : List V)) = true from c.fact 57 (f := q_57)) ((c.hash 0 (a := v_A_DIGITS) (l := [.inr "2", .inr "3"])).trans rfl)
  obtain ⟨tk_MOST_SETTINGS, g_MOST_SETTINGS⟩ := HdM.int_ok (show HdM.intB K "MOST_SETTINGS" 48 = true from c.fact 58 (f := q_58))
  obtain ⟨tk_MOST_SWITCHES, g_MOST_SWITCHES⟩ := HdM.int_ok (show HdM.intB K "MOST_SWITCHES" 5 = true from c.fact 59 (f := q_59))
  have g_STANDS : PySem.W.nsIn K mainGlobals "STANDS" = some (some (.ref (v_A_STANDS K))) := of_decide_eq_true (c.fact 60 (f := q_60))
  have d_STANDS : KDic K w (v_A_STANDS K) (([.inl 2, .inl 3] : List Key).zip ([.str "01", .str "012"] : List V)) := HdM.dic_ok (show HdM.dicB K (v_A_STANDS K) (([.inl 2, .inl 3] : List Key).zip ([.str "01", .str "012"] : List V)) = true from c.fact 61 (f := q_61)) ((c.hash 1 (a := v_A_STANDS) (l := [.inl 2, .inl 3])).trans rfl)
  have z_ArithmeticError : PySem.W.nsIn K mainGlobals "ArithmeticError" = some none := of_decide_eq_true (c.fact 62 (f := q_62))
  have z_LookupError : PySem.W.nsIn K mainGlobals "LookupError" = some none := of_decide_eq_true (c.fact 63 (f := q_63))
  have z_ValueError : PySem.W.nsIn K mainGlobals "ValueError" = some none := of_decide_eq_true (c.fact 64 (f := q_64))
  have z_abs : PySem.W.nsIn K mainGlobals "abs" = some none := of_decide_eq_true (c.fact 65 (f := q_65))
  have z_all : PySem.W.nsIn K mainGlobals "all" = some none := of_decide_eq_true (c.fact 66 (f := q_66))
  have z_bool : PySem.W.nsIn K mainGlobals "bool" = some none := of_decide_eq_true (c.fact 67 (f := q_67))
  have z_int : PySem.W.nsIn K mainGlobals "int" = some none := of_decide_eq_true (c.fact 68 (f := q_68))
  have z_isinstance : PySem.W.nsIn K mainGlobals "isinstance" = some none := of_decide_eq_true (c.fact 69 (f := q_69))
  have z_len : PySem.W.nsIn K mainGlobals "len" = some none := of_decide_eq_true (c.fact 70 (f := q_70))
  have z_list : PySem.W.nsIn K mainGlobals "list" = some none := of_decide_eq_true (c.fact 71 (f := q_71))
  have z_max : PySem.W.nsIn K mainGlobals "max" = some none := of_decide_eq_true (c.fact 72 (f := q_72))
  have z_min : PySem.W.nsIn K mainGlobals "min" = some none := of_decide_eq_true (c.fact 73 (f := q_73))
  have z_range : PySem.W.nsIn K mainGlobals "range" = some none := of_decide_eq_true (c.fact 74 (f := q_74))
  have z_repr : PySem.W.nsIn K mainGlobals "repr" = some none := of_decide_eq_true (c.fact 75 (f := q_75))
  have z_str : PySem.W.nsIn K mainGlobals "str" = some none := of_decide_eq_true (c.fact 76 (f := q_76))
  have z_tuple : PySem.W.nsIn K mainGlobals "tuple" = some none := of_decide_eq_true (c.fact 77 (f := q_77))
  have cd_law_right : refB K (v_f_law_right K) (v_c_law_right K) = true := of_decide_eq_true (c.fact 78 (f := q_78))
  have xg_WrongValue : PySem.W.nsIn K mainGlobals "WrongValue" = some (some (.ref (v_C_WrongValue K))) := of_decide_eq_true (c.fact 79 (f := q_79))
  have xg_WrongName : PySem.W.nsIn K mainGlobals "WrongName" = some (some (.ref (v_C_WrongName K))) := of_decide_eq_true (c.fact 80 (f := q_80))
  have xg_NotPossible : PySem.W.nsIn K mainGlobals "NotPossible" = some (some (.ref (v_C_NotPossible K))) := of_decide_eq_true (c.fact 81 (f := q_81))
  have xg_InvalidSizes : PySem.W.nsIn K mainGlobals "InvalidSizes" = some (some (.ref (v_C_InvalidSizes K))) := of_decide_eq_true (c.fact 82 (f := q_82))
  have xg_InvalidText : PySem.W.nsIn K mainGlobals "InvalidText" = some (some (.ref (v_C_InvalidText K))) := of_decide_eq_true (c.fact 83 (f := q_83))
  have f1_InvalidSizes : (PySem.W.clsIn K (v_C_InvalidSizes K)).isSome = true := of_decide_eq_true (c.fact 84 (f := q_84))
  have f2_InvalidSizes : PySem.W.findIn K (.ref (v_C_InvalidSizes K)) "__getattribute__" = some (some (.builtin "BaseException.__getattribute__")) := of_decide_eq_true (c.fact 85 (f := q_85))
  have f3_InvalidSizes : PySem.W.findIn K (.ref (v_C_InvalidSizes K)) "__getattr__" = some none := of_decide_eq_true (c.fact 86 (f := q_86))
  have f4_InvalidSizes : PySem.W.findIn K (.ref (v_C_InvalidSizes K)) "__class__" = some (some (.builtin "object.__class__")) := of_decide_eq_true (c.fact 87 (f := q_87))
  have f5_InvalidSizes : PySem.W.mroIn K (v_C_InvalidSizes K) (.type "object") = some true := of_decide_eq_true (c.fact 88 (f := q_88))
  have f1_InvalidText : (PySem.W.clsIn K (v_C_InvalidText K)).isSome = true := of_decide_eq_true (c.fact 89 (f := q_89))
  have f2_InvalidText : PySem.W.findIn K (.ref (v_C_InvalidText K)) "__getattribute__" = some (some (.builtin "BaseException.__getattribute__")) := of_decide_eq_true (c.fact 90 (f := q_90))
  have f3_InvalidText : PySem.W.findIn K (.ref (v_C_InvalidText K)) "__getattr__" = some none := of_decide_eq_true (c.fact 91 (f := q_91))
  have f4_InvalidText : PySem.W.findIn K (.ref (v_C_InvalidText K)) "__class__" = some (some (.builtin "object.__class__")) := of_decide_eq_true (c.fact 92 (f := q_92))
  have f5_InvalidText : PySem.W.mroIn K (v_C_InvalidText K) (.type "object") = some true := of_decide_eq_true (c.fact 93 (f := q_93))
  have xn_InvalidSizes : PySem.W.findIn K (.ref (v_C_InvalidSizes K)) "index" = some none := of_decide_eq_true (c.fact 94 (f := q_94))
  have xn_InvalidText : PySem.W.findIn K (.ref (v_C_InvalidText K)) "given" = some none := of_decide_eq_true (c.fact 95 (f := q_95))
  have kx_WrongValue_InvalidSizes : PySem.W.kitOne K (.ref (v_C_InvalidSizes K)) (.ref (v_C_WrongValue K)) = some true := of_decide_eq_true (c.fact 96 (f := q_96))
  have kx_WrongValue_InvalidText : PySem.W.kitOne K (.ref (v_C_InvalidText K)) (.ref (v_C_WrongValue K)) = some true := of_decide_eq_true (c.fact 97 (f := q_97))
  have kx_WrongName_InvalidSizes : PySem.W.kitOne K (.ref (v_C_InvalidSizes K)) (.ref (v_C_WrongName K)) = some false := of_decide_eq_true (c.fact 98 (f := q_98))
  have kx_WrongName_InvalidText : PySem.W.kitOne K (.ref (v_C_InvalidText K)) (.ref (v_C_WrongName K)) = some false := of_decide_eq_true (c.fact 99 (f := q_99))
  have kx_NotPossible_InvalidSizes : PySem.W.kitOne K (.ref (v_C_InvalidSizes K)) (.ref (v_C_NotPossible K)) = some false := of_decide_eq_true (c.fact 100 (f := q_100))
  have kx_NotPossible_InvalidText : PySem.W.kitOne K (.ref (v_C_InvalidText K)) (.ref (v_C_NotPossible K)) = some false := of_decide_eq_true (c.fact 101 (f := q_101))
  have kx_ValueError_InvalidSizes : PySem.W.kitOne K (.ref (v_C_InvalidSizes K)) (.type "ValueError") = some true := of_decide_eq_true (c.fact 102 (f := q_102))
  have kx_ValueError_InvalidText : PySem.W.kitOne K (.ref (v_C_InvalidText K)) (.type "ValueError") = some true := of_decide_eq_true (c.fact 103 (f := q_103))
  have kx_LookupError_InvalidSizes : PySem.W.kitOne K (.ref (v_C_InvalidSizes K)) (.type "LookupError") = some false := of_decide_eq_true (c.fact 104 (f := q_104))
  have kx_LookupError_InvalidText : PySem.W.kitOne K (.ref (v_C_InvalidText K)) (.type "LookupError") = some false := of_decide_eq_true (c.fact 105 (f := q_105))
  have kx_ArithmeticError_InvalidSizes : PySem.W.kitOne K (.ref (v_C_InvalidSizes K)) (.type "ArithmeticError") = some false := of_decide_eq_true (c.fact 106 (f := q_106))
  have kx_ArithmeticError_InvalidText : PySem.W.kitOne K (.ref (v_C_InvalidText K)) (.type "ArithmeticError") = some false := of_decide_eq_true (c.fact 107 (f := q_107))
  have kx_InvalidSizes_InvalidSizes : PySem.W.kitOne K (.ref (v_C_InvalidSizes K)) (.ref (v_C_InvalidSizes K)) = some true := of_decide_eq_true (c.fact 108 (f := q_108))
  have kx_InvalidSizes_InvalidText : PySem.W.kitOne K (.ref (v_C_InvalidText K)) (.ref (v_C_InvalidSizes K)) = some false := of_decide_eq_true (c.fact 109 (f := q_109))
  have kx_InvalidText_InvalidSizes : PySem.W.kitOne K (.ref (v_C_InvalidSizes K)) (.ref (v_C_InvalidText K)) = some false := of_decide_eq_true (c.fact 110 (f := q_110))
  have kx_InvalidText_InvalidText : PySem.W.kitOne K (.ref (v_C_InvalidText K)) (.ref (v_C_InvalidText K)) = some true := of_decide_eq_true (c.fact 111 (f := q_111))
  have xg_InvalidSizes : PySem.W.nsIn K mainGlobals "InvalidSizes" = some (some (.ref (v_C_InvalidSizes K))) := of_decide_eq_true (c.fact 112 (f := q_112))
  have x1_InvalidSizes : PySem.W.excInitIn K (v_C_InvalidSizes K) [.type "ValueError", .type "Exception", .type "BaseException", .type "object"] "ValueError.__new__" = true := of_decide_eq_true (c.fact 113 (f := q_113))
  have x2_InvalidSizes : PySem.W.hasDictIn K (v_C_InvalidSizes K) = true := of_decide_eq_true (c.fact 114 (f := q_114))
  have x3_InvalidSizes : PySem.W.findIn K (.ref (v_C_InvalidSizes K)) "__setattr__" = some (some (.builtin "object.__setattr__")) := of_decide_eq_true (c.fact 115 (f := q_115))
  have x4_InvalidSizes : PySem.W.takerIn K (v_C_InvalidSizes K) "index" = some none := of_decide_eq_true (c.fact 116 (f := q_116))
  have x5_InvalidSizes : PySem.W.findIn K (.ref (v_C_InvalidSizes K)) "__init__" = some (some (.ref (v_i_InvalidSizes K))) := of_decide_eq_true (c.fact 117 (f := q_117))
  have x6_InvalidSizes : PySem.W.typeIn K (.ref (v_i_InvalidSizes K)) = some (.type "function") := of_decide_eq_true (c.fact 118 (f := q_118))
  have x7_InvalidSizes : PySem.W.keepIn K (.ref (v_C_InvalidSizes K)) = true := of_decide_eq_true (c.fact 119 (f := q_119))
  have x8_InvalidSizes : PySem.W.subIn K (.ref (v_C_InvalidSizes K)) (.type "BaseException") = some true := of_decide_eq_true (c.fact 120 (f := q_120))
  have x9_InvalidSizes : PySem.W.typeIn K (.ref (v_C_InvalidSizes K)) = some (.type "type") := of_decide_eq_true (c.fact 121 (f := q_121))
  have x0_InvalidSizes : ExL.kwB K (v_i_InvalidSizes K) = true := of_decide_eq_true (c.fact 122 (f := q_122))
  have xg_InvalidText : PySem.W.nsIn K mainGlobals "InvalidText" = some (some (.ref (v_C_InvalidText K))) := of_decide_eq_true (c.fact 123 (f := q_123))
  have x1_InvalidText : PySem.W.excInitIn K (v_C_InvalidText K) [.type "ValueError", .type "Exception", .type "BaseException", .type "object"] "ValueError.__new__" = true := of_decide_eq_true (c.fact 124 (f := q_124))
  have x2_InvalidText : PySem.W.hasDictIn K (v_C_InvalidText K) = true := of_decide_eq_true (c.fact 125 (f := q_125))
  have x3_InvalidText : PySem.W.findIn K (.ref (v_C_InvalidText K)) "__setattr__" = some (some (.builtin "object.__setattr__")) := of_decide_eq_true (c.fact 126 (f := q_126))
  have x4_InvalidText : PySem.W.takerIn K (v_C_InvalidText K) "given" = some none := of_decide_eq_true (c.fact 127 (f := q_127))
  have x5_InvalidText : PySem.W.findIn K (.ref (v_C_InvalidText K)) "__init__" = some (some (.ref (v_i_InvalidText K))) := of_decide_eq_true (c.fact 128 (f := q_128))
  have x6_InvalidText : PySem.W.typeIn K (.ref (v_i_InvalidText K)) = some (.type "function") := of_decide_eq_true (c.fact 129 (f := q_129))
  have x7_InvalidText : PySem.W.keepIn K (.ref (v_C_InvalidText K)) = true := of_decide_eq_true (c.fact 130 (f := q_130))
  have x8_InvalidText : PySem.W.subIn K (.ref (v_C_InvalidText K)) (.type "BaseException") = some true := of_decide_eq_true (c.fact 131 (f := q_131))
  have x9_InvalidText : PySem.W.typeIn K (.ref (v_C_InvalidText K)) = some (.type "type") := of_decide_eq_true (c.fact 132 (f := q_132))
  have x0_InvalidText : ExL.kwB K (v_i_InvalidText K) = true := of_decide_eq_true (c.fact 133 (f := q_133))
  have ea_law_caught_InvalidSizes : PySem.W.exmAny K (.ref (v_C_InvalidSizes K)) [.ref (v_C_WrongValue K), .ref (v_C_WrongName K), .ref (v_C_NotPossible K)] = some true := of_decide_eq_true (c.fact 134 (f := q_134))
  have ea_law_caught_InvalidText : PySem.W.exmAny K (.ref (v_C_InvalidText K)) [.ref (v_C_WrongValue K), .ref (v_C_WrongName K), .ref (v_C_NotPossible K)] = some true := of_decide_eq_true (c.fact 135 (f := q_135))
  have em_InvalidSizes_InvalidSizes : PySem.W.exmOne K (.ref (v_C_InvalidSizes K)) (.ref (v_C_InvalidSizes K)) = some true := of_decide_eq_true (c.fact 136 (f := q_136))
  have em_InvalidText_InvalidSizes : PySem.W.exmOne K (.ref (v_C_InvalidText K)) (.ref (v_C_InvalidSizes K)) = some false := of_decide_eq_true (c.fact 137 (f := q_137))
  have e := hfa.symm.trans (PySem.W.mg_of X G a_law)
  have e2 : fa = v_f_law K := by injection e with e; injection e with e
  have T : Txt K w mg ⟨(v_f_law_dip K), (v_f_law_pick K), (v_f_law_odd K), (v_f_law_slip K), (v_f_law_bases K), (v_f_law_shown K), (v_f_law_caught K), (v_f_is_within K), (v_f_check_sizes K), (v_f_settings_in K), (v_f_Board_init K), (v_f_Board_sizes K), (v_f_board_told K), (v_f_Board_read K), (v_f_Board_str K), (v_f_law_right K), (v_f_law_jar K), fa, (v_C_Board K), (v_P_Board_sizes K), (v_P_Board_read K), (v_A_DIGITS K), (v_A_STANDS K), (v_C_InvalidSizes K), (v_i_InvalidSizes K), (v_C_InvalidText K), (v_i_InvalidText K), (v_c_law_right K), (v_t_law_right K), (v_C_WrongValue K), (v_C_WrongName K), (v_C_NotPossible K)⟩ := {
    F_law_dip := HdM.fun_of (c.def_ 0 (d := m_law_dip))
    m_law_dip := PySem.W.mg_of X G a_law_dip
    k_law_dip := k_law_dip
    F_law_pick := HdM.fun_of (c.def_ 1 (d := m_law_pick))
    m_law_pick := PySem.W.mg_of X G a_law_pick
    k_law_pick := k_law_pick
    F_law_odd := HdM.fun_of (c.def_ 2 (d := m_law_odd))
    m_law_odd := PySem.W.mg_of X G a_law_odd
    k_law_odd := k_law_odd
    F_law_slip := HdM.fun_of (c.def_ 3 (d := m_law_slip))
    m_law_slip := PySem.W.mg_of X G a_law_slip
    k_law_slip := k_law_slip
    F_law_bases := HdM.fun_of (c.def_ 4 (d := m_law_bases))
    m_law_bases := PySem.W.mg_of X G a_law_bases
    k_law_bases := k_law_bases
    F_law_shown := HdM.fun_of (c.def_ 5 (d := m_law_shown))
    m_law_shown := PySem.W.mg_of X G a_law_shown
    k_law_shown := k_law_shown
    F_law_caught := HdM.fun_of (c.def_ 6 (d := m_law_caught))
    m_law_caught := PySem.W.mg_of X G a_law_caught
    k_law_caught := k_law_caught
    F_is_within := HdM.fun_of (c.def_ 7 (d := m_is_within))
    m_is_within := PySem.W.mg_of X G a_is_within
    k_is_within := k_is_within
    F_check_sizes := HdM.fun_of (c.def_ 8 (d := m_check_sizes))
    m_check_sizes := PySem.W.mg_of X G a_check_sizes
    k_check_sizes := k_check_sizes
    F_settings_in := HdM.fun_of (c.def_ 9 (d := m_settings_in))
    m_settings_in := PySem.W.mg_of X G a_settings_in
    k_settings_in := k_settings_in
    F_Board_init := HdM.fun_of (c.def_ 10 (d := m_Board_init))
    mk_Board := ⟨mk_Board, a_Board_init, i_Board_init, kc_Board⟩
    g_Board := PySem.W.mg_of X G g_Board
    F_Board_sizes := HdM.fun_of (c.def_ 11 (d := m_Board_sizes))
    p_Board_sizes := ⟨a_Board_sizes, pg_Board_sizes, pt_Board_sizes, ⟨_, pr_Board_sizes⟩⟩
    F_board_told := HdM.fun_of (c.def_ 12 (d := m_board_told))
    m_board_told := PySem.W.mg_of X G a_board_told
    k_board_told := k_board_told
    F_Board_read := HdM.fun_of (c.def_ 13 (d := m_Board_read))
    cm_Board_read := He5.cmet_of wm_Board_read wi_Board_read
    F_Board_str := HdM.fun_of (c.def_ 14 (d := m_Board_str))
    h_Board_str := ⟨a_Board_str, i_Board_str, k_Board_str⟩
    F_law_right := HdM.fun_of (c.def_ 15 (d := m_law_right))
    m_law_right := PySem.W.mg_of X G a_law_right
    k_law_right := k_law_right
    F_law_jar := HdM.fun_of (c.def_ 16 (d := m_law_jar))
    m_law_jar := PySem.W.mg_of X G a_law_jar
    k_law_jar := k_law_jar
    F_law := by rw [e2]; exact HdM.fun_of (c.def_ 17 (d := m_law))
    m_law := by rw [e2]; exact PySem.W.mg_of X G a_law
    k_law := by rw [e2]; exact k_law
    cr_Board := ⟨rd_Board, sg_Board⟩
    c_Board := ⟨⟨pg_Board, hd_Board, po_Board, sa_Board⟩, ca_Board, cg_, ct_, cm_Board⟩
    n_Board_both := n_Board_both
    g_DIGITS := ⟨_, PySem.W.mg_of X G g_DIGITS, rfl⟩
    g_MOST_SETTINGS := ⟨_, PySem.W.mg_of X G g_MOST_SETTINGS, ⟨_, rfl⟩⟩
    g_MOST_SWITCHES := ⟨_, PySem.W.mg_of X G g_MOST_SWITCHES, ⟨_, rfl⟩⟩
    g_STANDS := ⟨_, PySem.W.mg_of X G g_STANDS, rfl⟩
    r_DIGITS := fun w' => rep_dic (G := gm K w ⟨(v_f_law_dip K), (v_f_law_pick K), (v_f_law_odd K), (v_f_law_slip K), (v_f_law_bases K), (v_f_law_shown K), (v_f_law_caught K), (v_f_is_within K), (v_f_check_sizes K), (v_f_settings_in K), (v_f_Board_init K), (v_f_Board_sizes K), (v_f_board_told K), (v_f_Board_read K), (v_f_Board_str K), (v_f_law_right K), (v_f_law_jar K), fa, (v_C_Board K), (v_P_Board_sizes K), (v_P_Board_read K), (v_A_DIGITS K), (v_A_STANDS K), (v_C_InvalidSizes K), (v_i_InvalidSizes K), (v_C_InvalidText K), (v_i_InvalidText K), (v_c_law_right K), (v_t_law_right K), (v_C_WrongValue K), (v_C_WrongName K), (v_C_NotPossible K)⟩) (vs := [.int 2, .int 3]) d_DIGITS rfl (Reps.cons Rep.int (Reps.cons Rep.int Reps.nil))
    r_STANDS := fun w' => rep_dic (G := gm K w ⟨(v_f_law_dip K), (v_f_law_pick K), (v_f_law_odd K), (v_f_law_slip K), (v_f_law_bases K), (v_f_law_shown K), (v_f_law_caught K), (v_f_is_within K), (v_f_check_sizes K), (v_f_settings_in K), (v_f_Board_init K), (v_f_Board_sizes K), (v_f_board_told K), (v_f_Board_read K), (v_f_Board_str K), (v_f_law_right K), (v_f_law_jar K), fa, (v_C_Board K), (v_P_Board_sizes K), (v_P_Board_read K), (v_A_DIGITS K), (v_A_STANDS K), (v_C_InvalidSizes K), (v_i_InvalidSizes K), (v_C_InvalidText K), (v_i_InvalidText K), (v_c_law_right K), (v_t_law_right K), (v_C_WrongValue K), (v_C_WrongName K), (v_C_NotPossible K)⟩) (vs := [.str "01", .str "012"]) d_STANDS rfl (Reps.cons Rep.str (Reps.cons Rep.str Reps.nil))
    x_InvalidSizes := ExL.clI_of (PySem.W.mg_of X G xg_InvalidSizes) x1_InvalidSizes x2_InvalidSizes x3_InvalidSizes x4_InvalidSizes x5_InvalidSizes x6_InvalidSizes x7_InvalidSizes x8_InvalidSizes x9_InvalidSizes (c.def_ 18 (d := m_x_InvalidSizes)) x0_InvalidSizes
    x_InvalidText := ExL.clG_of (PySem.W.mg_of X G xg_InvalidText) x1_InvalidText x2_InvalidText x3_InvalidText x4_InvalidText x5_InvalidText x6_InvalidText x7_InvalidText x8_InvalidText x9_InvalidText (c.def_ 19 (d := m_x_InvalidText)) x0_InvalidText
    cd_law_right := cd_law_right
    ea_law_caught_InvalidSizes := ea_law_caught_InvalidSizes
    ea_law_caught_InvalidText := ea_law_caught_InvalidText
    xg_WrongValue := PySem.W.mg_of X G xg_WrongValue
    xg_WrongName := PySem.W.mg_of X G xg_WrongName
    xg_NotPossible := PySem.W.mg_of X G xg_NotPossible
    xg_InvalidSizes := PySem.W.mg_of X G xg_InvalidSizes
    xg_InvalidText := PySem.W.mg_of X G xg_InvalidText
    xf_InvalidSizes := ⟨f1_InvalidSizes, f2_InvalidSizes, f3_InvalidSizes, x8_InvalidSizes, x2_InvalidSizes, f4_InvalidSizes, cg_, ct_, f5_InvalidSizes⟩
    xf_InvalidText := ⟨f1_InvalidText, f2_InvalidText, f3_InvalidText, x8_InvalidText, x2_InvalidText, f4_InvalidText, cg_, ct_, f5_InvalidText⟩
    xn_InvalidSizes := xn_InvalidSizes
    xn_InvalidText := xn_InvalidText
    kx_WrongValue_InvalidSizes := kx_WrongValue_InvalidSizes
    kx_WrongValue_InvalidText := kx_WrongValue_InvalidText
    kx_WrongName_InvalidSizes := kx_WrongName_InvalidSizes
    kx_WrongName_InvalidText := kx_WrongName_InvalidText
    kx_NotPossible_InvalidSizes := kx_NotPossible_InvalidSizes
    kx_NotPossible_InvalidText := kx_NotPossible_InvalidText
    kx_ValueError_InvalidSizes := kx_ValueError_InvalidSizes
    kx_ValueError_InvalidText := kx_ValueError_InvalidText
    kx_LookupError_InvalidSizes := kx_LookupError_InvalidSizes
    kx_LookupError_InvalidText := kx_LookupError_InvalidText
    kx_ArithmeticError_InvalidSizes := kx_ArithmeticError_InvalidSizes
    kx_ArithmeticError_InvalidText := kx_ArithmeticError_InvalidText
    kx_InvalidSizes_InvalidSizes := kx_InvalidSizes_InvalidSizes
    kx_InvalidSizes_InvalidText := kx_InvalidSizes_InvalidText
    kx_InvalidText_InvalidSizes := kx_InvalidText_InvalidSizes
    kx_InvalidText_InvalidText := kx_InvalidText_InvalidText
    em_InvalidSizes_InvalidSizes := em_InvalidSizes_InvalidSizes
    em_InvalidText_InvalidSizes := em_InvalidText_InvalidSizes
    z_ArithmeticError := PySem.W.mg_none_of X G z_ArithmeticError
    z_LookupError := PySem.W.mg_none_of X G z_LookupError
    z_ValueError := PySem.W.mg_none_of X G z_ValueError
    z_abs := PySem.W.mg_none_of X G z_abs
    z_all := PySem.W.mg_none_of X G z_all
    z_bool := PySem.W.mg_none_of X G z_bool
    z_int := PySem.W.mg_none_of X G z_int
    z_isinstance := PySem.W.mg_none_of X G z_isinstance
    z_len := PySem.W.mg_none_of X G z_len
    z_list := PySem.W.mg_none_of X G z_list
    z_max := PySem.W.mg_none_of X G z_max
    z_min := PySem.W.mg_none_of X G z_min
    z_range := PySem.W.mg_none_of X G z_range
    z_repr := PySem.W.mg_none_of X G z_repr
    z_str := PySem.W.mg_none_of X G z_str
    z_tuple := PySem.W.mg_none_of X G z_tuple }
  obtain ⟨fdl, Fl⟩ := T.F_law
  refine ⟨gm K w ⟨(v_f_law_dip K), (v_f_law_pick K), (v_f_law_odd K), (v_f_law_slip K), (v_f_law_bases K), (v_f_law_shown K), (v_f_law_caught K), (v_f_is_within K), (v_f_check_sizes K), (v_f_settings_in K), (v_f_Board_init K), (v_f_Board_sizes K), (v_f_board_told K), (v_f_Board_read K), (v_f_Board_str K), (v_f_law_right K), (v_f_law_jar K), fa, (v_C_Board K), (v_P_Board_sizes K), (v_P_Board_read K), (v_A_DIGITS K), (v_A_STANDS K), (v_C_InvalidSizes K), (v_i_InvalidSizes K), (v_C_InvalidText K), (v_i_InvalidText K), (v_c_law_right K), (v_t_law_right K), (v_C_WrongValue K), (v_C_WrongName K), (v_C_NotPossible K)⟩, fdl, fun _ => "_law_right.<locals>.<lambda>", rfl, rfl, ?_, fun base _ _ hT => ok_law T (hT _ List.mem_cons_self) Fl⟩
  obtain ⟨⟨oc, od, kV, doc, pm, an, cdv, ct, osl, rfl, lk, cd⟩, kp⟩ := Fl
  exact fun s v => .of_eq rfl
abbrev R : PySem.W.OpenRow := PySem.W.OpenLaw.row PySem.Challenge.rw_switchhills_k03_whole_sizes_and_texts_re
def nq : Nat := 27
abbrev qv : Program := PySem.W.view R.prog [nq]
def names_0 : List Str := ["_wall", "__name__", "WrongValue", "InvalidText", "InvalidSizes", "WrongName", "NotPossible", "MOST_SWITCHES", "MOST_SETTINGS", "STANDS", "DIGITS", "is_within", "check_sizes", "settings_in", "board_told", "Board", "_law_jar", "_law_dip", "_law_pick", "_law_bases", "_law_odd", "_law_shown", "_law_caught", "_law_slip", "_law_right"]
def names : List Str := names_0
def xs_0 : List Str := ["_law_dip", "_law_pick", "_law_odd", "_law_slip", "_law_bases", "_law_shown", "_law_caught", "is_within", "check_sizes", "settings_in", "board_told", "_law_right", "_law_jar", "law", "Board", "InvalidSizes", "InvalidText", "WrongValue", "WrongName", "NotPossible", "DIGITS", "STANDS"]
def xs : List Str := xs_0
set_option maxHeartbeats 0 in
theorem run_f (w : World) : HandSHeadRun.RunEq R qv (HdM.hookT xs mkr fs fn dc hs) (HdM.obT xs mkr fs fn dc) 40000 names (w.withFollow "special-get-raises" false) := by
  intro os
  kernel_rfl
set_option maxHeartbeats 0 in
theorem run_t (w : World) : HandSHeadRun.RunEq R qv (HdM.hookT xs mkr fs fn dc hs) (HdM.obT xs mkr fs fn dc) 40000 names (w.withFollow "special-get-raises" true) := by
  intro os
  kernel_rfl
theorem run (w : World) : HandSHeadRun.RunEq R qv (HdM.hookT xs mkr fs fn dc hs) (HdM.obT xs mkr fs fn dc) 40000 names w := PySem.W.byRow2 "special-get-raises" (P := fun w => HandSHeadRun.RunEq R qv (HdM.hookT xs mkr fs fn dc hs) (HdM.obT xs mkr fs fn dc) 40000 names w) run_f run_t w
end K03
open PySem PySem.W PySem.Calls PyProof.Rows in
set_option maxRecDepth 100000 in
set_option maxHeartbeats 0 in
theorem PySem.Challenge.cw_switchhills_k03_whole_sizes_and_texts_re_holds : PySem.Challenge.rw_switchhills_k03_whole_sizes_and_texts_re.Holds := by
  w_on; o_law
  refine HandSHeadRun.head_any (r := OpenLaw.row PySem.Challenge.rw_switchhills_k03_whole_sizes_and_texts_re) (q := K03.qv) (H := HdM.hookT K03.xs K03.mkr K03.fs K03.fn K03.dc K03.hs) (ob := HdM.obT K03.xs K03.mkr K03.fs K03.fn K03.dc) (M := 40000) (loose := K03.names) (d := HandSHeadRun.topDef (OpenLaw.row PySem.Challenge.rw_switchhills_k03_whole_sizes_and_texts_re).prog K03.nq) (kwd := []) HdM.obT_eq (by kernel_rfl) (fun s => by kernel_rfl) K03.run (by kernel_rfl) (by kernel_rfl) (by kernel_rfl) (by rfl) (by first | assumption | decide +kernel) (by decide +kernel) ⟨rfl, rfl, rfl, rfl, rfl, by decide +kernel⟩ ?hw ?hc
  case hw => w_witness2
  case hc =>
    refine HdM.walk_ofT (l := PySem.Challenge.rw_switchhills_k03_whole_sizes_and_texts_re) (n := 63) (k := 10) (x := "script") (sp := K03.sp_law) rfl (by decide) (by kernel_rfl) ⟨rfl, by decide, by decide⟩ ?F K03.law_asks
    intro w K mg fa h KX c G hmg0
    have hmg : mg ("law" : PySem.Str) = some (.ref fa) := by
      have e : (HandSHeadRun.topDef (OpenLaw.row PySem.Challenge.rw_switchhills_k03_whole_sizes_and_texts_re).prog K03.nq).name = ("law" : PySem.Str) := by kernel_rfl
      rw [← e]
      exact hmg0
    exact K03.all_mk KX c G hmg
